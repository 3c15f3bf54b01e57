import PyProof.Rows.All
import Wide.All
import OpenK.AllK
import Wide.FinOn
import HandS.ForMost
import HandS.Style
import HandS.More
import HandS.Wide
import KE.DatumOrd
import KE.DatumIndex
import KE.SortData
import HandS.Conv
import HandS.SortInts
import HandS.IsInst
import HandS.Deep
import PyProof.ReprRoads
import HandS.TupSets
import HandS.SetFor
import KE.KRevSl
import HandS.Head0
import HandS.Head1
import HandS.Head2
import HandS.Head3
import HandS.HeadEnd
import HandS.HeadHook1
import HandS.HeadHook2
import HandS.Defaults
import HandS.Codes
import HandS.Ends
import PyProof.FitsInt
import PySem.Challenge.RW_switchways_k64_free_middles
section
set_option Elab.async false
set_option linter.all false
set_option maxRecDepth 100000
/-! A small value language: slots that hold data, an interpreter. -/
namespace Sw
open PySem PySem.W

/-- whose the list nodes of a slot's data are: frozen; the root alone ours; all ours; the last two while a loop walks them -/
inductive Own | fz | sh | dp | lsh | ldp
  deriving DecidableEq

mutual
/-- no list and no dict within -/
def plain : PyData → Bool
  | .list _ => false
  | .dict _ => false
  | .tuple xs => plains xs
  | .none => true
  | .bool _ => true
  | .int _ => true
  | .str _ => true
termination_by structural x => x
def plains : List PyData → Bool
  | [] => true
  | x :: xs => plain x && plains xs
termination_by structural x => x
end

/-- what an expression gives: its data, whose its nodes are, slots that it shares nodes with -/
structure R where
  d : PyData
  o : Own
  al : List Nat

abbrev Slot := Option (Own × PyData)
abbrev S := List Slot
abbrev Cal := Nat → List PyData → Option (Own × PyData)

def maxLen : Nat := 16777216

inductive Bin | add | sub | mul | div | mod | pow | shl | shr | band | bor | bxor
  deriving DecidableEq
inductive Cm | eq | ne | lt | le | gt | ge | isin | notin
  deriving DecidableEq
inductive Blt | len | abs | minL | maxL | sum | sorted | list | tuple | repr | int | lenset | sortedset
  deriving DecidableEq
inductive Ty | int | bool | str | list | tuple
  deriving DecidableEq
/-- the names that a for or a comprehension stores -/
inductive Tg | nm (i : Nat) | tp (is : List Nat)
  deriving DecidableEq

mutual
inductive Ex
  | var (i : Nat) | mv (i : Nat)
  | int (i : Int) | bl (b : Bool) | non | str (s : Str)
  | bin (o : Bin) (a b : Ex)
  | neg (a : Ex)
  | cmp (o : Cm) (a b : Ex)
  | chain (o p : Cm) (a b c : Ex)
  | isN (a : Ex) | notN (a : Ex) | isB (a : Ex) (b : Bool) | notB (a : Ex) (b : Bool)
  | not (a : Ex) | and (a b : Ex) | or (a b : Ex) | tru (a : Ex)
  | ite (c a b : Ex)
  | lst (es : Exs) | tup (es : Exs)
  | idx (a b : Ex)
  | slc (a : Ex) (lo hi : Ex)
  | rev (a : Ex)
  | stp (a lo st : Ex)
  | call (f : Nat) (es : Exs)
  | blt (f : Blt) (a : Ex)
  | min2 (a b : Ex) | max2 (a b : Ex)
  | isi (a : Ex) (t : Ty)
  | rng (lo hi st : Ex)
  | index (a b : Ex) | count (a b : Ex)
  | comp (tg : Tg) (it c e : Ex)
  | srt (a : Ex)
inductive Exs
  | nil
  | cons (e : Ex) (es : Exs)
end

/-! ### data -/
def Rp (d : PyData) : R := ⟨d, .fz, []⟩
def mk (d : PyData) (o : Own) (al : List Nat) : R := if plain d then Rp d else ⟨d, o, al⟩
def R.ok (r : R) : Bool := plain r.d || decide (r.o = .dp)
/-- a new list of what was evaluated -/
def listOf (rs : List R) (al : List Nat) : R :=
  if rs.all R.ok then ⟨.list (rs.map R.d), .dp, []⟩ else ⟨.list (rs.map R.d), .sh, al ++ rs.flatMap R.al⟩
def tupOf (rs : List R) : R :=
  mk (.tuple (rs.map R.d)) (if rs.all R.ok then .dp else .fz) (if rs.all R.ok then [] else rs.flatMap R.al)
/-- a new list of items that stand elsewhere too -/
def newL (xs : List PyData) (al : List Nat) : R := if plains xs then ⟨.list xs, .dp, []⟩ else ⟨.list xs, .sh, al⟩

def mulOk (i j : Int) : Bool := decide (i.natAbs.log2 + j.natAbs.log2 < 1000000)
def divOk (j : Int) : Bool := decide (0 < j ∧ j.natAbs.log2 < 9000)
def powOk (i j : Int) : Bool := decide (0 ≤ j ∧ j ≤ 1000000 ∧ i.natAbs < 2 ^ 64)

def binD (o : Bin) (x y : R) : Option R :=
  match o, x.d, y.d with
  | .add, .int i, .int j => some (Rp (.int (i + j)))
  | .sub, .int i, .int j => some (Rp (.int (i - j)))
  | .mul, .int i, .int j => if mulOk i j then some (Rp (.int (i * j))) else none
  | .div, .int i, .int j => if divOk j then some (Rp (.int (i / j))) else none
  | .mod, .int i, .int j => if 0 < j then some (Rp (.int (i % j))) else none
  | .pow, .int i, .int j => if powOk i j then some (Rp (.int (i ^ j.toNat))) else none
  | .shl, .int i, .int j => if powOk i j then some (Rp (.int (i * 2 ^ j.toNat))) else none
  | .shr, .int i, .int j => if 0 ≤ j then some (Rp (.int (i / 2 ^ j.toNat))) else none
  | .band, .int i, .int j => some (Rp (.int (Builtin.bitAnd i j)))
  | .bor, .int i, .int j => some (Rp (.int (Builtin.bitOr i j)))
  | .bxor, .int i, .int j => some (Rp (.int (Builtin.bitXor i j)))
  | .add, .list xs, .list ys => if xs.length + ys.length ≤ maxLen then some (newL (xs ++ ys) (x.al ++ y.al)) else none
  | .mul, .list xs, .int k => if 0 ≤ k ∧ k < 2 ^ 62 ∧ xs.length * k.toNat ≤ maxLen then some (newL (List.replicate k.toNat xs).flatten x.al) else none
  | .add, .tuple xs, .tuple ys => if xs.length + ys.length ≤ maxLen ∧ xs.isEmpty = false then some (mk (.tuple (xs ++ ys)) .fz (x.al ++ y.al)) else none
  | .add, .str s, .str t => if s.length + t.length ≤ maxLen then some (Rp (.str (s ++ t))) else none
  | _, _, _ => none

def isNone : PyData → Bool
  | .none => true
  | _ => false
def ltOk (x y : PyData) : Bool := alike x y && !isNone x && decide (x.depth ≤ 60)
def shp (x : PyData) : Bool := SeqAt.shaped x
/-- in a list: all items and the thing of plain shape -/
def inOk (x : PyData) (ys : List PyData) : Bool := shp x && shp (.list ys)
def inD (x : PyData) (ys : List PyData) : Bool := ys.any fun y => PyData.eqv y x

def cmpD (o : Cm) (x y : PyData) : Option Bool :=
  match o with
  | .eq => if shp x && shp y then some (PyData.eqv x y) else none
  | .ne => if shp x && shp y then some (!PyData.eqv x y) else none
  | .lt => if ltOk x y then some (dataLt x y) else none
  | .gt => if ltOk x y then some (dataLt y x) else none
  | .le => if ltOk x y then some (!dataLt y x) else none
  | .ge => if ltOk x y then some (!dataLt x y) else none
  | .isin => match y with
    | .list ys => if inOk x ys then some (inD x ys) else none
    | _ => none
  | .notin => match y with
    | .list ys => if inOk x ys then some (!inD x ys) else none
    | _ => none

/-- the place that an index means -/
def ix (n : Nat) (i : Int) : Option Nat := if 0 ≤ i then (if i < n then some i.toNat else none) else if -(n : Int) ≤ i then some (i + n).toNat else none
def idxD (x y : PyData) : Option PyData :=
  match x, y with
  | .list xs, .int i => (ix xs.length i).bind fun j => xs[j]?
  | .tuple xs, .int i => (ix xs.length i).bind fun j => xs[j]?
  | _, _ => none
def clip (n d : Nat) : Option Int → Nat
  | none => d
  | some i => if i < 0 then (i + n).toNat else min i.toNat n
def cut (xs : List PyData) (lo hi : Option Int) : List PyData := (xs.drop (clip xs.length 0 lo)).take (clip xs.length xs.length hi - clip xs.length 0 lo)
/-- every st-th item -/
def everyA {α : Type} (st : Nat) : Nat → List α → List α
  | _, [] => []
  | 0, x :: xs => x :: everyA st (st - 1) xs
  | k + 1, _ :: xs => everyA st k xs
def slcR (x : R) (l h : Option Int) : Option R :=
  match x.d with
  | .list xs => some (newL (cut xs l h) x.al)
  | .tuple xs => if clip xs.length 0 l = 0 ∧ clip xs.length xs.length h = xs.length then none else some (mk (.tuple (cut xs l h)) .fz x.al)
  | _ => none
def intD : PyData → Option Int
  | .int i => some i
  | _ => none
def stpR (x : R) (lo st : PyData) : Option R :=
  match lo, st, x.d with
  | .int l, .int k, .list xs => if 0 ≤ l ∧ l < 2 ^ 62 ∧ 0 < k ∧ k < 2 ^ 62 then some (newL (everyA k.toNat 0 (xs.drop l.toNat)) x.al) else none
  | _, _, _ => none
def ints? : List PyData → Option (List Int)
  | [] => some []
  | .int i :: xs => (ints? xs).map (i :: ·)
  | _ :: _ => none
def intsOf : PyData → Option (List Int)
  | .list xs => ints? xs
  | .tuple xs => ints? xs
  | _ => none
def allAlike (xs : List PyData) : Bool := xs.all fun x => xs.all (alike x)
def isTupC : PyData → Bool
  | .tuple (_ :: _) => true
  | _ => false
def isTup : PyData → Bool
  | .tuple _ => true
  | _ => false
def sortable (xs : List PyData) : Bool := allAlike xs && (xs.all isTupC || xs.all fun x => !isNone x && !isTup x) && xs.all fun x => decide (x.depth ≤ 50)
def sortD (xs : List PyData) : List PyData := xs.mergeSort (dataLe false id)
/-- each once -/
def dd {α : Type} [DecidableEq α] : List α → List α
  | [] => []
  | x :: xs => if x ∈ xs then dd xs else x :: dd xs
/-- a rising list, each once -/
def insS (x : Int) : List Int → List Int
  | [] => [x]
  | y :: r => if x < y then x :: y :: r else if x = y then y :: r else y :: insS x r
def srtS : List Int → List Int
  | [] => []
  | x :: r => insS x (srtS r)
def intss? : List PyData → Option (List (List Int))
  | [] => some []
  | .tuple t :: xs => (ints? t).bind fun a => (intss? xs).map (a :: ·)
  | _ :: _ => none
/-- how many different ones: ints, or tuples of ints -/
def setSize (xs : List PyData) : Option Nat :=
  match ints? xs with
  | some ns => if ns.length ≤ 4000 then some (dd ns).length else none
  | none => (intss? xs).bind fun ts => if ts.length < 64 then some (dd ts).length else none
def sortSet (xs : List PyData) : Option (List Int) := (ints? xs).bind fun ns => if ns.length ≤ 4000 ∧ (srtS ns).length < 64 then some (srtS ns) else none
def isRef : PyData → Bool
  | .list _ => true
  | .tuple _ => true
  | _ => false
def reprOk (d : PyData) : Bool := d.showable && !d.hasDict && decide (d.depth ≤ 40) && decide (d.shown.length ≤ maxLen)

def bltR (f : Blt) (x : R) : Option R :=
  match f, x.d with
  | .len, .list xs => some (Rp (.int xs.length))
  | .len, .tuple xs => some (Rp (.int xs.length))
  | .len, .str s => if s.length ≤ maxLen then some (Rp (.int s.length)) else none
  | .abs, .int i => some (Rp (.int i.natAbs))
  | .minL, d => (intsOf d).bind fun ns => match ns with | [] => none | n :: r => some (Rp (.int (r.foldl min n)))
  | .maxL, d => (intsOf d).bind fun ns => match ns with | [] => none | n :: r => some (Rp (.int (r.foldl max n)))
  | .sum, .list xs => (ints? xs).map fun ns => Rp (.int ns.sum)
  | .sorted, .list xs => if sortable xs then some (newL (sortD xs) x.al) else none
  | .list, .list xs => some (newL xs x.al)
  | .list, .tuple xs => some (newL xs x.al)
  | .tuple, .list xs => some (mk (.tuple xs) .fz x.al)
  | .tuple, .tuple xs => some (mk (.tuple xs) .fz x.al)
  | .repr, d => if reprOk d then some (Rp (.str d.shown)) else none
  | .int, .int i => some (Rp (.int i))
  | .int, .bool b => some (Rp (.int (if b then 1 else 0)))
  | .sortedset, .list xs => (sortSet xs).map fun ns => ⟨.list (ns.map .int), .dp, []⟩
  | .lenset, .list xs => (setSize xs).map fun (n : Nat) => Rp (.int (n : Int))
  | _, _ => none

def isiD (d : PyData) : Ty → Bool
  | .int => match d with | .int _ => true | .bool _ => true | _ => false
  | .bool => match d with | .bool _ => true | _ => false
  | .str => match d with | .str _ => true | _ => false
  | .list => match d with | .list _ => true | _ => false
  | .tuple => match d with | .tuple _ => true | _ => false
def truD : PyData → Option Bool
  | .none => some false
  | .bool b => some b
  | .int i => some (i != 0)
  | .str s => if s.length ≤ maxLen then some (s.length != 0) else none
  | .list xs => some !xs.isEmpty
  | .tuple xs => some !xs.isEmpty
  | .dict _ => none
def range3 (lo : Int) (st : Int) : Nat → List PyData
  | 0 => []
  | n + 1 => .int lo :: range3 (lo + st) st n
/-- how many a range has -/
def rangeN (l h k : Int) : Nat := if k = 1 then (h - l).toNat else if k = -1 then (l - h).toNat else (Builtin.Range.rangeSize l h k).toNat
def big : Int := 4611686018427387904
def rngOk (l h k : Int) : Bool := decide ((-big ≤ l ∧ l < big) ∧ (-big ≤ h ∧ h < big)) && (decide (k = 1) || decide (k = -1) || (decide (k ≠ 0) && decide (k.natAbs < 1073741824) && Builtin.Range.small l h k && decide (Builtin.Range.rangeSize l h k = (rangeN l h k : Int)))) && decide (rangeN l h k ≤ maxLen)
def rngD (lo hi st : PyData) : Option (List PyData) :=
  match lo, hi, st with
  | .int l, .int h, .int k => if rngOk l h k then some (range3 l k (rangeN l h k)) else none
  | _, _, _ => none
/-- what a loop walks -/
def items : PyData → Option (List PyData)
  | .list xs => some xs
  | .tuple xs => some xs
  | _ => none
def countD (xs : List PyData) (x : PyData) : Nat := xs.countP fun y => PyData.eqv y x
def placeD (xs : List PyData) (x : PyData) : Option Nat := xs.findIdx? fun y => PyData.eqv y x

/-! ### slots -/
def fzSlot : Slot → Slot
  | some (_, d) => some (.fz, d)
  | none => none
def freezeL (σ : S) : List Nat → S
  | [] => σ
  | i :: is => freezeL (match σ[i]? with | some s => σ.set i (fzSlot s) | none => σ) is
def setTg : Tg → PyData → S → Option S
  | .nm i, x, σ => some (σ.set i (some (.fz, x)))
  | .tp is, .tuple ds, σ => if is.length = ds.length then some (go is ds σ) else none
  | .tp _, _, _ => none
where go : List Nat → List PyData → S → S
  | i :: is, d :: ds, σ => go is ds (σ.set i (some (.fz, d)))
  | _, _, σ => σ
def compL (st : PyData → Option S) (c : S → Option R) (e : S → Option R) : List PyData → Option (List R)
  | [] => some []
  | x :: xs => (st x).bind fun s => (c s).bind fun rc => match rc.d with
    | .bool true => (e s).bind fun r => (compL st c e xs).map (r :: ·)
    | .bool false => compL st c e xs
    | _ => none

/-- a new sorted list; all its nodes are ours if all of the list's were, and nothing else keeps it -/
def srtD (x : R) : Option R :=
  match x.d with
  | .list xs => if sortable xs then some (if x.o = .dp then ⟨.list (sortD xs), .dp, []⟩ else newL (sortD xs) x.al) else none
  | _ => none
/-- a slice's bound -/
def bndO : Ex → Option R → Option (Option Int)
  | .non, _ => some none
  | _, r => r.bind fun y => (intD y.d).map some
mutual
def ev (Γ : Cal) : Ex → S → Option R
  | .var i, σ => match σ[i]? with
    | some (some (o, d)) => some (mk d .fz (if o = .fz then [] else [i]))
    | _ => none
  | .mv _, _ => none
  | .srt _, _ => none
  | .int i, _ => some (Rp (.int i))
  | .bl b, _ => some (Rp (.bool b))
  | .non, _ => some (Rp .none)
  | .str s, _ => some (Rp (.str s))
  | .bin o a b, σ => (ev Γ a σ).bind fun x => (ev Γ b σ).bind fun y => binD o x y
  | .neg a, σ => (ev Γ a σ).bind fun x => match x.d with | .int i => some (Rp (.int (-i))) | _ => none
  | .cmp o a b, σ => (ev Γ a σ).bind fun x => (ev Γ b σ).bind fun y => (cmpD o x.d y.d).map fun k => Rp (.bool k)
  | .chain o p a b c, σ => (ev Γ a σ).bind fun x => (ev Γ b σ).bind fun y => (cmpD o x.d y.d).bind fun k =>
    if k then (ev Γ c σ).bind fun z => (cmpD p y.d z.d).map fun k => Rp (.bool k) else some (Rp (.bool false))
  | .isN a, σ => (ev Γ a σ).map fun x => Rp (.bool (isNone x.d))
  | .notN a, σ => (ev Γ a σ).map fun x => Rp (.bool (!isNone x.d))
  | .isB a b, σ => (ev Γ a σ).bind fun x => match x.d with | .bool k => some (Rp (.bool (decide (k = b)))) | _ => none
  | .notB a b, σ => (ev Γ a σ).bind fun x => match x.d with | .bool k => some (Rp (.bool (!decide (k = b)))) | _ => none
  | .not a, σ => (ev Γ a σ).bind fun x => match x.d with | .bool k => some (Rp (.bool (!k))) | _ => none
  | .and a b, σ => (ev Γ a σ).bind fun x => match x.d with | .bool true => ev Γ b σ | .bool false => some (Rp (.bool false)) | _ => none
  | .or a b, σ => (ev Γ a σ).bind fun x => match x.d with | .bool true => some (Rp (.bool true)) | .bool false => ev Γ b σ | _ => none
  | .tru a, σ => (ev Γ a σ).bind fun x => (truD x.d).map fun k => Rp (.bool k)
  | .ite c a b, σ => (ev Γ c σ).bind fun x => match x.d with | .bool true => ev Γ a σ | .bool false => ev Γ b σ | _ => none
  | .lst es, σ => (evs Γ es σ).bind fun rs => if rs.length ≤ maxLen then some (listOf rs []) else none
  | .tup es, σ => (evs Γ es σ).bind fun rs => if rs.length ≤ maxLen then some (tupOf rs) else none
  | .idx a b, σ => (ev Γ a σ).bind fun x => (ev Γ b σ).bind fun y => (idxD x.d y.d).map fun d => mk d .fz x.al
  | .slc a l h, σ => (ev Γ a σ).bind fun x => (bndO l (ev Γ l σ)).bind fun lo => (bndO h (ev Γ h σ)).bind fun hi => slcR x lo hi
  | .rev a, σ => (ev Γ a σ).bind fun x => match x.d with | .list xs => some (newL xs.reverse x.al) | _ => none
  | .stp a l k, σ => (ev Γ a σ).bind fun x => (ev Γ l σ).bind fun y => (ev Γ k σ).bind fun z => stpR x y.d z.d
  | .call f es, σ => (evs Γ es σ).bind fun rs => (Γ f (rs.map R.d)).map fun p => mk p.2 p.1 (if p.1 = .dp then [] else rs.flatMap R.al)
  | .blt f a, σ => (ev Γ a σ).bind fun x => bltR f x
  | .min2 a b, σ => (ev Γ a σ).bind fun x => (ev Γ b σ).bind fun y => match x.d, y.d with | .int i, .int j => some (Rp (.int (min i j))) | _, _ => none
  | .max2 a b, σ => (ev Γ a σ).bind fun x => (ev Γ b σ).bind fun y => match x.d, y.d with | .int i, .int j => some (Rp (.int (max i j))) | _, _ => none
  | .isi a t, σ => (ev Γ a σ).map fun x => Rp (.bool (isiD x.d t))
  | .rng a b c, σ => (ev Γ a σ).bind fun x => (ev Γ b σ).bind fun y => (ev Γ c σ).bind fun z => (rngD x.d y.d z.d).map fun xs => ⟨.list xs, .dp, []⟩
  | .index a b, σ => (ev Γ a σ).bind fun x => (ev Γ b σ).bind fun y => match x.d with
    | .list xs => if inOk y.d xs then (placeD xs y.d).map fun (k : Nat) => Rp (.int (k : Int)) else none
    | _ => none
  | .count a b, σ => (ev Γ a σ).bind fun x => (ev Γ b σ).bind fun y => match x.d with
    | .list xs => if y.d.plain && PyData.plainAll xs && decide (y.d.depth ≤ 50) then some (Rp (.int (countD xs y.d))) else none
    | _ => none
  | .comp tg it c e, σ => (ev Γ it σ).bind fun r => (items r.d).bind fun xs =>
    if xs.length ≤ maxLen then
      (compL (fun x => setTg tg x (freezeL σ r.al)) (fun s => ev Γ c s) (fun s => ev Γ e s) xs).map fun rs => listOf rs r.al
    else none
termination_by structural x => x
def evs (Γ : Cal) : Exs → S → Option (List R)
  | .nil, _ => some []
  | .cons e es, σ => (ev Γ e σ).bind fun r => (evs Γ es σ).map (r :: ·)
termination_by structural x => x
end
mutual
/-- where the value is kept: names may be moved into it -/
def evM (Γ : Cal) : Ex → S → Option (R × S)
  | .mv i, σ => match σ[i]? with
    | some (some (.fz, d)) => some (mk d .fz [], σ)
    | some (some (.sh, d)) => some (mk d .sh [], σ.set i none)
    | some (some (.dp, d)) => some (mk d .dp [], σ.set i none)
    | some (some (.lsh, d)) => some (mk d .fz [i], σ)
    | some (some (.ldp, d)) => some (mk d .fz [i], σ)
    | none => none
    | some none => none
  | .lst es, σ => (evMs Γ es σ).bind fun p => if p.1.length ≤ maxLen then some (listOf p.1 [], p.2) else none
  | .tup es, σ => (evMs Γ es σ).bind fun p => if p.1.length ≤ maxLen then some (tupOf p.1, p.2) else none
  | .srt a, σ => (evM Γ a σ).bind fun p => (srtD p.1).map fun r => (r, p.2)
  | e, σ => (ev Γ e σ).map fun r => (r, σ)
termination_by structural x => x
def evMs (Γ : Cal) : Exs → S → Option (List R × S)
  | .nil, σ => some ([], σ)
  | .cons e es, σ => (evM Γ e σ).bind fun p => (evMs Γ es p.2).map fun q => (p.1 :: q.1, q.2)
termination_by structural x => x
end

/-! ### statements -/
/-- a target: a slot, or an item of what stands in a slot -/
inductive Tgt | nm (i : Nat) | sub (i : Nat) (path : Exs) (k : Ex)
mutual
inductive Stm
  | asg (t : Tgt) (e : Ex)
  | unp (ts : List Tgt) (e : Ex)
  | app (i : Nat) (path : Exs) (e : Ex)
  | ins (i : Nat) (k e : Ex)
  | ext (i : Nat) (path : Exs) (e : Ex)
  | pop (t : Option Nat) (i : Nat) (path : Exs) (k : Ex)
  | appPop (j : Nat) (i : Nat) (k : Ex)
  | drop (e : Ex)
  | ret (e : Ex) | retN
  | ite (c : Ex) (a b : Stms)
  | for_ (tg : Tg) (it : Ex) (body : Stms)
  | while_ (c : Ex) (body : Stms)
  | pass | brk | cont
inductive Stms
  | nil
  | cons (s : Stm) (r : Stms)
end

inductive Out
  | nx (σ : S) | bk (σ : S) | ct (σ : S) | rt (o : Own) (d : PyData)

def nOwn : Own → Own
  | .dp => .dp
  | .sh => .sh
  | _ => .fz
def slotOf (r : R) : Slot := some (if plain r.d then .fz else nOwn r.o, r.d)

/-- change the item at a path -/
def modAt : List PyData → (PyData → Option PyData) → PyData → Option PyData
  | [], f, d => f d
  | .int k :: ks, f, .list xs => (ix xs.length k).bind fun j => (xs[j]?).bind fun x => (modAt ks f x).map fun y => .list (xs.set j y)
  | .int k :: ks, f, .tuple xs => (ix xs.length k).bind fun j => (xs[j]?).bind fun x => (modAt ks f x).map fun y => .tuple (xs.set j y)
  | _, _, _ => none
def getAt : List PyData → PyData → Option PyData
  | [], d => some d
  | k :: ks, d => (idxD d k).bind (getAt ks)
/-- the slot's ownership behind a change by a thing of which all is ours (k) or not -/
def ownAfter (o : Own) (deep k : Bool) : Option Own :=
  match o with
  | .dp => if k then some .dp else if deep then none else some .sh
  | .sh => if deep then none else some .sh
  | _ => none
def appD (y : PyData) : PyData → Option PyData
  | .list xs => if xs.length < maxLen then some (.list (xs ++ [y])) else none
  | _ => none
def insD (k : Int) (y : PyData) : PyData → Option PyData
  | .list xs => if xs.length < maxLen ∧ 0 ≤ k ∧ k < big then some (.list (xs.take k.toNat ++ y :: xs.drop k.toNat)) else none
  | _ => none
def setD (k : PyData) (y : PyData) : PyData → Option PyData
  | .list xs => match k with
    | .int i => (ix xs.length i).map fun j => .list (xs.set j y)
    | _ => none
  | _ => none
def extD (ys : List PyData) : PyData → Option PyData
  | .list xs => if xs.length + ys.length ≤ maxLen then some (.list (xs ++ ys)) else none
  | _ => none
/-- change slot i at a path -/
def change (σ : S) (i : Nat) (path : List PyData) (k : Bool) (f : PyData → Option PyData) : Option S :=
  match σ[i]? with
  | some (some (o, d)) => (ownAfter o (!path.isEmpty) k).bind fun o' => (modAt path f d).map fun d' => σ.set i (some (o', d'))
  | _ => none
def popD (k : PyData) : PyData → Option (PyData × PyData)
  | .list xs => match k with
    | .none => match xs.getLast? with
      | some x => some (x, .list xs.dropLast)
      | none => none
    | .int i => if -big ≤ i ∧ i < big then (ix xs.length i).bind fun j => (xs[j]?).map fun x => (x, .list (xs.eraseIdx j)) else none
    | _ => none
  | _ => none
/-- where to pop: the end, or at an int -/
def popK : Ex → PyData → Option PyData
  | .non, _ => some .none
  | _, .int i => some (.int i)
  | _, _ => none
/-- take an item out of the list at a path of slot i; all of it is ours if the slot's is -/
def takeOut (σ : S) (i : Nat) (path : List PyData) (k : PyData) : Option (Own × PyData × S) :=
  match σ[i]? with
  | some (some (o, d)) => (ownAfter o (!path.isEmpty) true).bind fun o' => (getAt path d).bind fun l => (popD k l).bind fun p =>
    (modAt path (fun _ => some p.2) d).map fun d' => (if plain p.1 then .fz else if o = .dp then .dp else .fz, p.1, σ.set i (some (o', d')))
  | _ => none

/-- the items of a tuple that was made here -/
def partsOf (r : R) (ds : List PyData) : List R := ds.map fun d => mk d (if r.o = .dp then .dp else .fz) []
def store (Γ : Cal) (σ : S) : Tgt → R → Option S
  | .nm i, r => some (σ.set i (slotOf r))
  | .sub i path k, r => (evs Γ path σ).bind fun ps => (ev Γ k σ).bind fun q => change σ i (ps.map R.d).reverse r.ok (setD q.d r.d)
def stores (Γ : Cal) : List Tgt → List R → S → Option S
  | [], [], σ => some σ
  | t :: ts, r :: rs, σ => (store Γ σ t r).bind (stores Γ ts rs)
  | _, _, _ => none
def lockS : Slot → Slot
  | some (.sh, d) => some (.lsh, d)
  | some (.dp, d) => some (.ldp, d)
  | s => s
def unlockS : Slot → Slot
  | some (.lsh, d) => some (.sh, d)
  | some (.ldp, d) => some (.dp, d)
  | s => s
def isOpen : Option Slot → Bool
  | some (some (.sh, _)) => true
  | some (some (.dp, _)) => true
  | _ => false
def lockAt (σ : S) (i : Nat) : S := match σ[i]? with | some s => σ.set i (lockS s) | none => σ
def unlockAt (σ : S) (i : Nat) : S := match σ[i]? with | some s => σ.set i (unlockS s) | none => σ
def Out.map (f : S → S) : Out → Out
  | .nx σ => .nx (f σ)
  | .bk σ => .bk (f σ)
  | .ct σ => .ct (f σ)
  | .rt o d => .rt o d
def forL (step : PyData → S → Option Out) : List PyData → S → Option Out
  | [], σ => some (.nx σ)
  | x :: xs, σ => (step x σ).bind fun o => match o with
    | .nx σ' => forL step xs σ'
    | .ct σ' => forL step xs σ'
    | .bk σ' => some (.nx σ')
    | .rt o d => some (.rt o d)
def whileL (c : S → Option R) (body : S → Option Out) : Nat → S → Option Out
  | 0, _ => none
  | n + 1, σ => (c σ).bind fun r => match r.d with
    | .bool false => some (.nx σ)
    | .bool true => (body σ).bind fun o => match o with
      | .nx σ' => whileL c body n σ'
      | .ct σ' => whileL c body n σ'
      | .bk σ' => some (.nx σ')
      | .rt o d => some (.rt o d)
    | _ => none
def WF : Nat := 1073741824

mutual
def exec (Γ : Cal) : Stm → S → Option Out
  | .asg t e, σ => (evM Γ e σ).bind fun p => (store Γ (freezeL p.2 p.1.al) t p.1).map .nx
  | .unp ts e, σ => (evM Γ e σ).bind fun p => match p.1.d with
    | .tuple ds => (stores Γ ts (partsOf p.1 ds) (freezeL p.2 p.1.al)).map .nx
    | _ => none
  | .app i path e, σ => (evs Γ path σ).bind fun ps => (evM Γ e σ).bind fun p => (change (freezeL p.2 p.1.al) i (ps.map R.d).reverse p.1.ok (appD p.1.d)).map .nx
  | .ins i k e, σ => (ev Γ k σ).bind fun q => (evM Γ e σ).bind fun p => match q.d with
    | .int n => (change (freezeL p.2 p.1.al) i [] p.1.ok (insD n p.1.d)).map .nx
    | _ => none
  | .ext i path e, σ => (evs Γ path σ).bind fun ps => (evM Γ e σ).bind fun p => match p.1.d with
    | .list ys => (change (freezeL p.2 p.1.al) i (ps.map R.d).reverse (plains ys || decide (p.1.o = .dp)) (extD ys)).map .nx
    | _ => none
  | .pop t i path k, σ => (evs Γ path σ).bind fun ps => (ev Γ k σ).bind fun q => (popK k q.d).bind fun kd => (takeOut σ i (ps.map R.d).reverse kd).map fun p => match t with
    | some j => .nx (p.2.2.set j (some (p.1, p.2.1)))
    | none => .nx p.2.2
  | .appPop j i k, σ => (ev Γ k σ).bind fun q => (popK k q.d).bind fun kd => (takeOut σ i [] kd).bind fun p => (change p.2.2 j [] (plain p.2.1 || decide (p.1 = .dp)) (appD p.2.1)).map .nx
  | .drop e, σ => (ev Γ e σ).map fun _ => .nx σ
  | .ret e, σ => (evM Γ e σ).map fun p => .rt (if plain p.1.d then .fz else nOwn p.1.o) p.1.d
  | .retN, _ => some (.rt .fz .none)
  | .ite c a b, σ => (ev Γ c σ).bind fun r => match r.d with | .bool true => execs Γ a σ | .bool false => execs Γ b σ | _ => none
  | .for_ tg it body, σ => (ev Γ it σ).bind fun r => (items r.d).bind fun xs =>
    if plains xs then
      (forL (fun x s => (setTg tg x s).bind (execs Γ body)) xs ((r.al.filter fun i => isOpen σ[i]?).foldl lockAt σ)).map fun o => o.map ((r.al.filter fun i => isOpen σ[i]?).foldl unlockAt)
    else forL (fun x s => (setTg tg x s).bind (execs Γ body)) xs (freezeL σ r.al)
  | .while_ c body, σ => whileL (ev Γ c) (execs Γ body) WF σ
  | .pass, σ => some (.nx σ)
  | .brk, σ => some (.bk σ)
  | .cont, σ => some (.ct σ)
termination_by structural x => x
def execs (Γ : Cal) : Stms → S → Option Out
  | .nil, σ => some (.nx σ)
  | .cons s r, σ => (exec Γ s σ).bind fun o => match o with
    | .nx σ' => execs Γ r σ'
    | o => some o
termination_by structural x => x
end

/-! ### functions -/
structure Fn where
  name : Str
  np : Nat
  names : List Str
  body : Stms
def runF (Γ : Cal) (F : Fn) (ds : List PyData) : Option (Own × PyData) :=
  if ds.length = F.np then
    match execs Γ F.body (ds.map (fun d => some (.fz, d)) ++ List.replicate (F.names.length - ds.length) none) with
    | some (.rt o d) => some (o, d)
    | some (.nx _) => some (.fz, .none)
    | _ => none
  else none
def Gam (P : List Fn) : Nat → Cal
  | 0 => fun _ _ => none
  | n + 1 => fun f ds => (P[f]?).bind fun F => runF (Gam P n) F ds
end Sw
end

section
set_option Elab.async false
set_option linter.all false
set_option maxRecDepth 100000
set_option maxHeartbeats 4000000
/-! What stands for data in a heap: frozen, ours. -/
namespace Sw
open PySem PySem.Spec PyProof.Rows L2

/-- a list that is read: tracked or known, or of the written part -/
def Lk (K : PySem.W.Frag) (a : Addr) (xs : List V) : Prop :=
  ∃ (its : List Value) (m : Nat), K.lookup a = some { cls := .type "list", data := .seq its.toArray m } ∧ its.length ≤ sizeLine ∧ Vals xs its
def Lx (K : PySem.W.Frag) (H : Hp) (a : Addr) (xs : List V) : Prop := Rd H a (.lst xs) ∨ Lk K a xs
/-- .. at a place of P -/
def LsP (K : PySem.W.Frag) (H : Hp) (P : Addr → Prop) (a : Addr) (xs : List V) : Prop := (Rd H a (.lst xs) ∧ P a) ∨ Lk K a xs
mutual
inductive RepF (K : PySem.W.Frag) (H : Hp) (P : Addr → Prop) : V → PyData → Prop
  | non : RepF K H P .non .none
  | bl (b : Bool) : RepF K H P (.bl b) (.bool b)
  | int (i : Int) : RepF K H P (.int i) (.int i)
  | str (x : Str) : RepF K H P (.str x) (.str x)
  | lst {a : Addr} {xs : List V} {ds : List PyData} (h : LsP K H P a xs) (hs : RepFs K H P xs ds) : RepF K H P (.ref a) (.list ds)
  | tup {a : Addr} {xs : List V} {ds : List PyData} (h : SqT K H a xs) (hs : RepFs K H P xs ds) : RepF K H P (.ref a) (.tuple ds)
inductive RepFs (K : PySem.W.Frag) (H : Hp) (P : Addr → Prop) : List V → List PyData → Prop
  | nil : RepFs K H P [] []
  | cons {v : V} {vs : List V} {d : PyData} {ds : List PyData} (h : RepF K H P v d) (hs : RepFs K H P vs ds) : RepFs K H P (v :: vs) (d :: ds)
end
mutual
inductive RepO (K : PySem.W.Frag) (H : Hp) : V → PyData → List Addr → Prop
  | non : RepO K H .non .none []
  | bl (b : Bool) : RepO K H (.bl b) (.bool b) []
  | int (i : Int) : RepO K H (.int i) (.int i) []
  | str (x : Str) : RepO K H (.str x) (.str x) []
  | lst {a : Addr} {xs : List V} {ds : List PyData} {f : List Addr} (h : H a = some (.lst xs)) (hs : RepOs K H xs ds f) : RepO K H (.ref a) (.list ds) (a :: f)
  | tup {a : Addr} {xs : List V} {ds : List PyData} {f : List Addr} (h : SqT K H a xs) (hs : RepOs K H xs ds f) : RepO K H (.ref a) (.tuple ds) f
inductive RepOs (K : PySem.W.Frag) (H : Hp) : List V → List PyData → List Addr → Prop
  | nil : RepOs K H [] [] []
  | cons {v : V} {vs : List V} {d : PyData} {ds : List PyData} {f g : List Addr} (h : RepO K H v d f) (hs : RepOs K H vs ds g) : RepOs K H (v :: vs) (d :: ds) (f ++ g)
end

section
variable {K : PySem.W.Frag} {H H' : Hp} {P P' : Addr → Prop}
theorem LsP.lx {a : Addr} {xs : List V} (h : LsP K H P a xs) : Lx K H a xs := h.elim (fun z => .inl z.1) .inr
theorem Lx.seq {a : Addr} {xs : List V} (h : Lx K H a xs) : SqL K H a xs := by
  rcases h with h | ⟨its, m, e, hz, r⟩
  · exact .inl h
  · exact .inr ⟨_, its.toArray, m, e, rfl, rfl, rfl, by simpa using hz, by simpa using r⟩
theorem LsP.seq {a : Addr} {xs : List V} (h : LsP K H P a xs) : SqL K H a xs := h.lx.seq
/-- how a heap may go on: lists at places of P, and all tuples, stay -/
structure Go (P P' : Addr → Prop) (H H' : Hp) : Prop where
  lst : ∀ a xs, P a → Rd H a (.lst xs) → Rd H' a (.lst xs) ∧ P' a
  tup : ∀ a xs, Rd H a (.tup xs) → Rd H' a (.tup xs)
theorem Go.ls (g : Go P P' H H') {a : Addr} {xs : List V} (h : LsP K H P a xs) : LsP K H' P' a xs := by
  rcases h with ⟨h, p⟩ | h
  · exact .inl (g.lst a xs p h)
  · exact .inr h
theorem Go.tp (g : Go P P' H H') {a : Addr} {xs : List V} (h : SqT K H a xs) : SqT K H' a xs := by
  rcases h with h | h
  · exact .inl (g.tup a xs h)
  · exact .inr h
theorem tp_of (ht : ∀ a xs, Rd H a (.tup xs) → Rd H' a (.tup xs)) {a : Addr} {xs : List V} (h : SqT K H a xs) : SqT K H' a xs := by
  rcases h with h | h
  · exact .inl (ht a xs h)
  · exact .inr h
mutual
theorem RepF.go (g : Go P P' H H') : ∀ (d : PyData) (v : V), RepF K H P v d → RepF K H' P' v d
  | .none, _, h => by cases h; exact .non
  | .bool b, _, h => by cases h; exact .bl b
  | .int i, _, h => by cases h; exact .int i
  | .str x, _, h => by cases h; exact .str x
  | .list ds, _, h => by
    cases h with
    | lst h hs => exact .lst (g.ls h) (RepFs.go g ds _ hs)
  | .tuple ds, _, h => by
    cases h with
    | tup h hs => exact .tup (g.tp h) (RepFs.go g ds _ hs)
  | .dict _, _, h => by cases h
theorem RepFs.go (g : Go P P' H H') : ∀ (ds : List PyData) (vs : List V), RepFs K H P vs ds → RepFs K H' P' vs ds
  | [], _, h => by cases h; exact .nil
  | d :: ds, _, h => by
    cases h with
    | cons h hs => exact .cons (RepF.go g d _ h) (RepFs.go g ds _ hs)
end
theorem Go.wider (h : ∀ a, P a → P' a) : Go P P' H H := ⟨fun a _ p r => ⟨r, h a p⟩, fun _ _ r => r⟩
theorem Go.same (s : Same H H') (h : ∀ a, P a → P' a) : Go P P' H H' :=
  ⟨fun a xs p r => ⟨r.elim (fun z => .inl (s _ _ z)) fun ⟨o, z⟩ => .inr ⟨o, s _ _ z⟩, h a p⟩, fun a xs r => r.elim (fun z => .inl (s _ _ z)) fun ⟨o, z⟩ => .inr ⟨o, s _ _ z⟩⟩
theorem tup_same (s : Same H H') (a : Addr) (xs : List V) (r : Rd H a (.tup xs)) : Rd H' a (.tup xs) :=
  r.elim (fun z => .inl (s _ _ z)) fun ⟨o, z⟩ => .inr ⟨o, s _ _ z⟩
mutual
theorem RepO.go (ht : ∀ a xs, Rd H a (.tup xs) → Rd H' a (.tup xs)) : ∀ (d : PyData) (v : V) (f : List Addr), (∀ a ∈ f, ∀ xs, H a = some (.lst xs) → H' a = some (.lst xs)) → RepO K H v d f → RepO K H' v d f
  | .none, _, _, _, h => by cases h; exact .non
  | .bool b, _, _, _, h => by cases h; exact .bl b
  | .int i, _, _, _, h => by cases h; exact .int i
  | .str x, _, _, _, h => by cases h; exact .str x
  | .list ds, _, _, k, h => by
    cases h with
    | lst h hs => exact .lst (k _ (by simp) _ h) (RepOs.go ht ds _ _ (fun a ha => k a (by simp [ha])) hs)
  | .tuple ds, _, _, k, h => by
    cases h with
    | tup h hs => exact .tup (tp_of ht h) (RepOs.go ht ds _ _ k hs)
  | .dict _, _, _, _, h => by cases h
theorem RepOs.go (ht : ∀ a xs, Rd H a (.tup xs) → Rd H' a (.tup xs)) : ∀ (ds : List PyData) (vs : List V) (f : List Addr), (∀ a ∈ f, ∀ xs, H a = some (.lst xs) → H' a = some (.lst xs)) → RepOs K H vs ds f → RepOs K H' vs ds f
  | [], _, _, _, h => by cases h; exact .nil
  | d :: ds, _, _, k, h => by
    cases h with
    | cons h hs => exact .cons (RepO.go ht d _ _ (fun a ha => k a (by simp [ha])) h) (RepOs.go ht ds _ _ (fun a ha => k a (by simp [ha])) hs)
end
mutual
/-- what is ours may be frozen -/
theorem RepO.fz : ∀ (d : PyData) (v : V) (f : List Addr), (∀ a ∈ f, P a) → RepO K H v d f → RepF K H P v d
  | .none, _, _, _, h => by cases h; exact .non
  | .bool b, _, _, _, h => by cases h; exact .bl b
  | .int i, _, _, _, h => by cases h; exact .int i
  | .str x, _, _, _, h => by cases h; exact .str x
  | .list ds, _, _, k, h => by
    cases h with
    | lst h hs => exact .lst (.inl ⟨.inl h, k _ (by simp)⟩) (RepOs.fz ds _ _ (fun a ha => k a (by simp [ha])) hs)
  | .tuple ds, _, _, k, h => by
    cases h with
    | tup h hs => exact .tup h (RepOs.fz ds _ _ k hs)
  | .dict _, _, _, _, h => by cases h
theorem RepOs.fz : ∀ (ds : List PyData) (vs : List V) (f : List Addr), (∀ a ∈ f, P a) → RepOs K H vs ds f → RepFs K H P vs ds
  | [], _, _, _, h => by cases h; exact .nil
  | d :: ds, _, _, k, h => by
    cases h with
    | cons h hs => exact .cons (RepO.fz d _ _ (fun a ha => k a (by simp [ha])) h) (RepOs.fz ds _ _ (fun a ha => k a (by simp [ha])) hs)
end
mutual
theorem RepF.plain_any : ∀ (d : PyData) (v : V), plain d = true → RepF K H P v d → RepF K H P' v d
  | .none, _, _, h => by cases h; exact .non
  | .bool b, _, _, h => by cases h; exact .bl b
  | .int i, _, _, h => by cases h; exact .int i
  | .str x, _, _, h => by cases h; exact .str x
  | .list ds, _, p, h => by simp [plain] at p
  | .tuple ds, _, p, h => by
    cases h with
    | tup h hs => exact .tup h (RepFs.plain_any ds _ (by simpa [plain] using p) hs)
  | .dict _, _, _, h => by cases h
theorem RepFs.plain_any : ∀ (ds : List PyData) (vs : List V), plains ds = true → RepFs K H P vs ds → RepFs K H P' vs ds
  | [], _, _, h => by cases h; exact .nil
  | d :: ds, _, p, h => by
    have p' : plain d = true ∧ plains ds = true := by simpa [plains] using p
    cases h with
    | cons h hs => exact .cons (RepF.plain_any d _ p'.1 h) (RepFs.plain_any ds _ p'.2 hs)
end
mutual
theorem RepF.plain_o : ∀ (d : PyData) (v : V), plain d = true → RepF K H P v d → RepO K H v d []
  | .none, _, _, h => by cases h; exact .non
  | .bool b, _, _, h => by cases h; exact .bl b
  | .int i, _, _, h => by cases h; exact .int i
  | .str x, _, _, h => by cases h; exact .str x
  | .list ds, _, p, h => by simp [plain] at p
  | .tuple ds, _, p, h => by
    cases h with
    | tup h hs => exact .tup h (RepFs.plain_o ds _ (by simpa [plain] using p) hs)
  | .dict _, _, _, h => by cases h
theorem RepFs.plain_o : ∀ (ds : List PyData) (vs : List V), plains ds = true → RepFs K H P vs ds → RepOs K H vs ds []
  | [], _, _, h => by cases h; exact .nil
  | d :: ds, _, p, h => by
    have p' : plain d = true ∧ plains ds = true := by simpa [plains] using p
    cases h with
    | cons h hs => exact RepOs.cons (f := []) (g := []) (RepF.plain_o d _ p'.1 h) (RepFs.plain_o ds _ p'.2 hs)
end
mutual
theorem RepO.plain_nil : ∀ (d : PyData) (v : V) (f : List Addr), plain d = true → RepO K H v d f → f = []
  | .none, _, _, _, h => by cases h; rfl
  | .bool b, _, _, _, h => by cases h; rfl
  | .int i, _, _, _, h => by cases h; rfl
  | .str x, _, _, _, h => by cases h; rfl
  | .list ds, _, _, p, h => by simp [plain] at p
  | .tuple ds, _, _, p, h => by
    cases h with
    | tup h hs => exact RepOs.plain_nil ds _ _ (by simpa [plain] using p) hs
  | .dict _, _, _, _, h => by cases h
theorem RepOs.plain_nil : ∀ (ds : List PyData) (vs : List V) (f : List Addr), plains ds = true → RepOs K H vs ds f → f = []
  | [], _, _, _, h => by cases h; rfl
  | d :: ds, _, _, p, h => by
    have p' : plain d = true ∧ plains ds = true := by simpa [plains] using p
    cases h with
    | cons h hs => rw [RepO.plain_nil d _ _ p'.1 h, RepOs.plain_nil ds _ _ p'.2 hs]; rfl
end
mutual
/-- what the library's words of data read -/
theorem RepF.dp : ∀ (d : PyData) (v : V), RepF K H P v d → Dp K H v d
  | .none, _, h => by cases h; exact .non
  | .bool b, _, h => by cases h; exact .bl b
  | .int i, _, h => by cases h; exact .int i
  | .str x, _, h => by cases h; exact .str x
  | .list ds, _, h => by
    cases h with
    | lst h hs => exact .lst h.seq (RepFs.dp ds _ hs)
  | .tuple ds, _, h => by
    cases h with
    | tup h hs => exact .tup h (RepFs.dp ds _ hs)
  | .dict _, _, h => by cases h
theorem RepFs.dp : ∀ (ds : List PyData) (vs : List V), RepFs K H P vs ds → DpAll K H vs ds
  | [], _, h => by cases h; exact .nil
  | d :: ds, _, h => by
    cases h with
    | cons h hs => exact .cons (RepF.dp d _ h) (RepFs.dp ds _ hs)
end
theorem RepFs.length : ∀ {vs : List V} {ds : List PyData}, RepFs K H P vs ds → vs.length = ds.length
  | _, [], h => by cases h; rfl
  | _, d :: ds, h => by
    cases h with
    | cons h hs => simp [RepFs.length hs]
theorem RepFs.get : ∀ {vs : List V} {ds : List PyData} {j : Nat} {d : PyData}, RepFs K H P vs ds → ds[j]? = some d → ∃ v, vs[j]? = some v ∧ RepF K H P v d
  | _, [], _, _, h, e => by simp at e
  | _, d :: ds, 0, _, h, e => by
    cases h with
    | cons h hs => simp at e; subst e; exact ⟨_, rfl, h⟩
  | _, d :: ds, j + 1, _, h, e => by
    cases h with
    | cons h hs => obtain ⟨v, h1, h2⟩ := RepFs.get (j := j) hs (by simpa using e); exact ⟨v, by simpa using h1, h2⟩
theorem RepFs.append : ∀ {vs ws : List V} {ds es : List PyData}, RepFs K H P vs ds → RepFs K H P ws es → RepFs K H P (vs ++ ws) (ds ++ es)
  | _, _, [], _, h, k => by cases h; exact k
  | _, _, d :: ds, _, h, k => by
    cases h with
    | cons h hs => exact .cons h (RepFs.append hs k)
theorem RepFs.take : ∀ {vs : List V} {ds : List PyData} (n : Nat), RepFs K H P vs ds → RepFs K H P (vs.take n) (ds.take n)
  | _, [], n, h => by cases h; simp; exact .nil
  | _, d :: ds, 0, h => by simp; exact .nil
  | _, d :: ds, n + 1, h => by
    cases h with
    | cons h hs => exact .cons h (RepFs.take n hs)
theorem RepFs.drop : ∀ {vs : List V} {ds : List PyData} (n : Nat), RepFs K H P vs ds → RepFs K H P (vs.drop n) (ds.drop n)
  | _, [], n, h => by cases h; simp; exact .nil
  | _, d :: ds, 0, h => by simpa using h
  | _, d :: ds, n + 1, h => by
    cases h with
    | cons h hs => simpa using RepFs.drop n hs
theorem RepFs.reverse : ∀ {vs : List V} {ds : List PyData}, RepFs K H P vs ds → RepFs K H P vs.reverse ds.reverse
  | _, [], h => by cases h; exact .nil
  | _, d :: ds, h => by
    cases h with
    | cons h hs => rw [List.reverse_cons, List.reverse_cons]; exact RepFs.append (RepFs.reverse hs) (.cons h .nil)
theorem RepFs.rep {vs : List V} {ds : List PyData} (h : RepFs K H P vs ds) : ∀ k : Nat, RepFs K H P (List.replicate k vs).flatten (List.replicate k ds).flatten
  | 0 => .nil
  | k + 1 => by rw [List.replicate_succ, List.replicate_succ, List.flatten_cons, List.flatten_cons]; exact RepFs.append h (RepFs.rep h k)
theorem RepFs.ints : ∀ {vs : List V} {ds : List PyData} {ns : List Int}, RepFs K H P vs ds → ints? ds = some ns → vs = ns.map V.int ∧ ds = ns.map PyData.int
  | _, [], ns, h, e => by cases h; simp [ints?] at e; subst e; exact ⟨rfl, rfl⟩
  | _, d :: ds, ns, h, e => by
    cases h with
    | cons h hs =>
      cases h <;> simp [ints?] at e
      obtain ⟨ms, e1, rfl⟩ := e
      obtain ⟨h1, h2⟩ := RepFs.ints hs e1
      rw [h1, h2]
      exact ⟨rfl, rfl⟩
theorem repF_ints (ns : List Int) : RepFs K H P (ns.map V.int) (ns.map PyData.int) := by
  induction ns with
  | nil => exact .nil
  | cons n r ih => exact .cons (.int n) ih
theorem RepOs.length : ∀ {vs : List V} {ds : List PyData} {f : List Addr}, RepOs K H vs ds f → vs.length = ds.length
  | _, [], _, h => by cases h; rfl
  | _, d :: ds, _, h => by
    cases h with
    | cons h hs => simp [RepOs.length hs]
theorem RepOs.append : ∀ {vs ws : List V} {ds es : List PyData} {f g : List Addr}, RepOs K H vs ds f → RepOs K H ws es g → RepOs K H (vs ++ ws) (ds ++ es) (f ++ g)
  | _, _, [], _, _, _, h, k => by cases h; exact k
  | _, _, d :: ds, _, _, _, h, k => by
    cases h with
    | cons h hs => rw [List.append_assoc]; exact .cons h (RepOs.append hs k)
end
end Sw
end

section
set_option Elab.async false
set_option linter.all false
set_option maxRecDepth 100000
set_option maxHeartbeats 4000000
/-! Rules for what the layer does not carry: lists that are known alone, data sorted, shown, sought. -/
namespace Sw
open PySem PySem.Spec PyProof.Rows L2
theorem ltOk_of {x y : PyData} (h : ltOk x y = true) : PySem.W.alike x y = true ∧ x ≠ .none ∧ min x.depth y.depth ≤ 60 := by
  unfold ltOk at h
  simp only [Bool.and_eq_true, Bool.not_eq_true', decide_eq_true_eq] at h
  refine ⟨h.1.1, fun e => ?_, by omega⟩
  subst e
  simp [isNone] at h
section
variable {X : Cx} {pins : List (Addr × Obj)} {σ : L2.St} {H : Hp} {s : Shared}
theorem lx_at (I : Inv X pins σ H s) {a : Addr} {xs : List V} (h : Lx X.K H a xs) :
    ∃ (its : List Value) (m : Nat), Vals xs its ∧ xs.length = its.length ∧ xs.length ≤ sizeLine ∧ s.heap.get? a = some { cls := .type "list", data := .seq its.toArray m } := by
  rcases h with h | ⟨its, m, e, hz, r⟩
  · obtain ⟨z, its, n, r, e⟩ := h.ok I.hok
    exact ⟨its, n, r, r.length, z, e⟩
  · exact ⟨its, m, r, r.length, by rw [r.length]; exact hz, I.kIn a _ e⟩
theorem op_catX : OpR X (binaryOp .Add) (fun x y H Q => ∃ l b xs zs, x = .ref l ∧ y = .ref b ∧ Lx X.K H l xs ∧ Lx X.K H b zs ∧ xs.length + zs.length ≤ sizeLine ∧ ∀ p, H p = none → Q (.ref p) (upd H p (.lst (xs ++ zs)))) := by
  intro pins s σ H x y v u Q I rx ry h
  obtain ⟨l, b, xs, zs, rfl, rfl, hl, hb, hz, q⟩ := h
  cases rx; cases ry
  obtain ⟨i1, m1, r1, k1, z1, e1⟩ := lx_at I hl
  obtain ⟨i2, m2, r2, k2, z2, e2⟩ := lx_at I hb
  refine PySem.P.add_list e1 e2 ?_ (by simp only [List.size_toArray]; omega)
  rw [show i1.toArray ++ i2.toArray = (i1 ++ i2).toArray by simp]
  exact ⟨.ref _, _, I.lnew (t' := s.toks) (r1.append r2) (by rw [List.length_append]; omega), rfl, q _ I.fresh⟩
theorem op_repX : OpR X (binaryOp .Mult) (fun x y H Q => ∃ l k xs, x = .ref l ∧ y = .int k ∧ Lx X.K H l xs ∧ -(2 ^ 63) ≤ k ∧ k < 2 ^ 63 ∧ xs.length * k.toNat ≤ sizeLine ∧
    ∀ p, H p = none → Q (.ref p) (upd H p (.lst (List.replicate k.toNat xs).flatten))) := by
  intro pins s σ H x y v u Q I rx ry h
  obtain ⟨l, k, xs, rfl, rfl, hH, h1, h2, hz, q⟩ := h
  cases rx
  obtain ⟨t, rfl⟩ := ry
  obtain ⟨its, n, r, hl, z, e⟩ := lx_at I hH
  have a1 : its.toArray.size * k.toNat ≤ sizeLine := by rw [List.size_toArray, ← hl]; exact hz
  have a2 : ¬ its.toArray.size * k.toNat > (2 ^ 63 - 1) / 8 := by
    have := (by decide : (sizeLine : Nat) ≤ (2 ^ 63 - 1) / 8)
    omega
  have a3 : ¬ (!Builtin.List.listFitsIndex k) = true := by simp [fitsIndex_both h1 h2]
  have a4 : ¬ Builtin.List.listTooLong (its.toArray.size * k.toNat) = true := fun z => by rw [notLongL a1] at z; cases z
  have a5 : List.foldl (fun x1 x2 => x1 ++ x2) #[] (List.replicate (if its.toArray.isEmpty = true then 0 else k.toNat) its.toArray) = (List.replicate k.toNat its).flatten.toArray := by
    have f0 : ∀ m : Nat, List.foldl (fun x1 x2 => x1 ++ x2) #[] (List.replicate m its.toArray) = (List.replicate m its).flatten.toArray := fun m => by
      simpa using foldl_rep its m []
    rw [f0]
    cases its with
    | nil => simp
    | cons a r' => rw [if_neg (by simp)]
  have fin : EP X pins σ Q (.ref s.heap.objs.size) { s with heap := s.heap.push { cls := .type "list", data := .seq (List.replicate k.toNat its).flatten.toArray } } :=
    ⟨.ref _, _, I.lnew (t' := s.toks) (r.rep k.toNat) (by rw [PyProof.Rows.lm_len_rep_flat, Nat.mul_comm]; exact hz), rfl, q _ I.fresh⟩
  refine wpAny_binaryOp_repeat_ref (T := "list") (U := "int") (by decide) ⟨_, e, rfl⟩ (fun s' => typeIs_int s' k t) noFill_list_mul F.fills_int_mul F.slot_int_rmul repeat_list F.slot_int_index.lookup
    (call_meets F.slot_int_rmul (typeIs_int s k t) F.entry_int_rmul (F.args_int_rmul_2 _ _) (int___rmul___int_list k t l its.toArray n) ⟨e, rfl, ⟨_, e, rfl⟩, ?_⟩)
  refine call_meets F.slot_list_mul ⟨_, e, rfl⟩ F.entry_list_mul (F.args_list_mul_2 _ _) (AutoListH.list___mul___list_int_3 l its.toArray n k t a3 a2 a4) ⟨e, ?_⟩
  rw [a5]
  exact fin
theorem mt_extendX : MtM X "list.extend" (fun x vs H Q => ∃ l b xs zs, x = .ref l ∧ vs = [.ref b] ∧ H l = some (.lst xs) ∧ Lx X.K H b zs ∧ xs.length + zs.length ≤ sizeLine ∧ Q .non (upd H l (.lst (xs ++ zs)))) := by
  intro pins s σ H x vs v us Q I rx rv h
  obtain ⟨l, b, xs, zs, rfl, rfl, hH, hB, hz, q⟩ := h
  cases rx
  obtain ⟨u, rfl, ru⟩ := rv.one
  cases ru
  obtain ⟨z, i1, n1, r1, k1, e1⟩ := I.lstM hH
  obtain ⟨i2, n2, r2, k2, z2, e2⟩ := lx_at I hB
  have h1 : i1.toArray.size + i2.toArray.size ≤ sizeLine := by simp only [List.size_toArray]; omega
  have h2 : ¬ (!i1.toArray.isEmpty && Builtin.List.listTooLong (i1.toArray.size + i2.toArray.size)) = true := fun z => by rw [notLongL h1, Bool.and_false] at z; cases z
  refine call_meets F.slot_list_extend ⟨_, e1, rfl⟩ F.entry_list_extend (F.args_list_extend_2 _ _)
    (AutoSeq1.list_extend_list_list_0 l i1.toArray n1 b i2.toArray n2 h2 (by simp only [List.size_toArray]; omega) (by omega)) ⟨e1, e2, ?_⟩
  refine ⟨.non, _, I.lset (its' := i1 ++ i2) hH e1 (by simp) (r1.append r2) ?_, rfl, q⟩
  simp only [List.length_append]; omega

/-! ### order -/
theorem op_ltX (hu : X.A.units + 64 < cLine) : OpR X (compareOp .Lt) (fun x y H Q => ∃ d e, Dp X.K H x d ∧ Dp X.K H y e ∧ ltOk d e = true ∧ Q (.bl (PySem.W.dataLt d e)) H) := by
  intro pins s σ H x y v u Q I rx ry h
  obtain ⟨d, e, hd, he, ok, q⟩ := h
  obtain ⟨as, r1⟩ := Dp.reads I d x v hd rx
  obtain ⟨bs, r2⟩ := Dp.reads I e y u he ry
  obtain ⟨k1, k2, k3⟩ := ltOk_of ok
  exact PySem.W.lt_data r1 r2 k1 k2 (by omega) ⟨.bl _, H, I, rfl, q⟩
theorem op_gtX (hu : X.A.units + 64 < cLine) : OpR X (compareOp .Gt) (fun x y H Q => ∃ d e, Dp X.K H x d ∧ Dp X.K H y e ∧ ltOk d e = true ∧ Q (.bl (PySem.W.dataLt e d)) H) := by
  intro pins s σ H x y v u Q I rx ry h
  obtain ⟨d, e, hd, he, ok, q⟩ := h
  obtain ⟨as, r1⟩ := Dp.reads I d x v hd rx
  obtain ⟨bs, r2⟩ := Dp.reads I e y u he ry
  obtain ⟨k1, k2, k3⟩ := ltOk_of ok
  exact PySem.W.gt_data r1 r2 k1 k2 (by omega) ⟨.bl _, H, I, rfl, q⟩
theorem op_leX (hu : X.A.units + 64 < cLine) : OpR X (compareOp .LtE) (fun x y H Q => ∃ d e, Dp X.K H x d ∧ Dp X.K H y e ∧ ltOk d e = true ∧ Q (.bl (!PySem.W.dataLt e d)) H) := by
  intro pins s σ H x y v u Q I rx ry h
  obtain ⟨d, e, hd, he, ok, q⟩ := h
  obtain ⟨as, r1⟩ := Dp.reads I d x v hd rx
  obtain ⟨bs, r2⟩ := Dp.reads I e y u he ry
  obtain ⟨k1, k2, k3⟩ := ltOk_of ok
  exact PySem.W.le_data r1 r2 k1 k2 (by omega) ⟨.bl _, H, I, rfl, q⟩
theorem op_geX (hu : X.A.units + 64 < cLine) : OpR X (compareOp .GtE) (fun x y H Q => ∃ d e, Dp X.K H x d ∧ Dp X.K H y e ∧ ltOk d e = true ∧ Q (.bl (!PySem.W.dataLt d e)) H) := by
  intro pins s σ H x y v u Q I rx ry h
  obtain ⟨d, e, hd, he, ok, q⟩ := h
  obtain ⟨as, r1⟩ := Dp.reads I d x v hd rx
  obtain ⟨bs, r2⟩ := Dp.reads I e y u he ry
  obtain ⟨k1, k2, k3⟩ := ltOk_of ok
  exact PySem.W.ge_data r1 r2 k1 k2 (by omega) ⟨.bl _, H, I, rfl, q⟩

/-! ### sorted -/
theorem sortable_of {ds : List PyData} (h : sortable ds = true) : PySem.W.AllAlike ds ∧ PySem.W.Sortable ds ∧ ∀ d ∈ ds, d.depth ≤ 50 := by
  unfold sortable at h
  simp only [Bool.and_eq_true, Bool.or_eq_true] at h
  obtain ⟨⟨h1, h2⟩, h3⟩ := h
  refine ⟨fun d hd d' hd' => ?_, ?_, fun d hd => of_decide_eq_true (List.all_eq_true.mp h3 d hd)⟩
  · exact List.all_eq_true.mp (List.all_eq_true.mp h1 d hd) d' hd'
  · rcases h2 with h2 | h2
    · refine .inl fun d hd => ?_
      have z := List.all_eq_true.mp h2 d hd
      cases d <;> simp [isTupC] at z
      rename_i xs
      cases xs <;> simp at z
      exact ⟨_, _, rfl⟩
    · refine .inr fun d hd => ?_
      have z := List.all_eq_true.mp h2 d hd
      cases d <;> simp [isNone, isTup] at z ⊢
theorem dps_at {K : PySem.W.Frag} {H : Hp} : ∀ {vs : List V} {ds : List PyData}, DpAll K H vs ds → vs.length = ds.length ∧ ∀ p ∈ vs.zip ds, Dp K H p.1 p.2
  | _, _, .nil => ⟨rfl, fun _ z => by simp at z⟩
  | _, _, .cons h hs => by
    obtain ⟨a, b⟩ := dps_at hs
    refine ⟨by simp [a], fun p hp => ?_⟩
    rw [List.zip_cons_cons, List.mem_cons] at hp
    rcases hp with rfl | hp
    · exact h
    · exact b p hp
theorem vals_zip : ∀ {vs : List V} {us : List Value} {ds : List PyData}, Vals vs us → vs.length = ds.length → PySem.W.EachIs (fun (u : Value) (b : V × PyData) => RelV b.1 u) us (vs.zip ds)
  | _, _, [], .nil, _ => .nil
  | _, _, d :: ds, .cons r rs, h => .cons r (vals_zip rs (by simpa using h))
theorem each_vals : ∀ {us : List Value} {bs : List (V × PyData)}, PySem.W.EachIs (fun (u : Value) (b : V × PyData) => RelV b.1 u) us bs → Vals (bs.map Prod.fst) us
  | _, _, .nil => .nil
  | _, _, .cons r rs => .cons r (each_vals rs)
theorem each_mem {R : Value → V × PyData → Prop} {R' : Value → V × PyData → Prop} : ∀ {us : List Value} {bs : List (V × PyData)}, PySem.W.EachIs R us bs → (∀ u b, b ∈ bs → R u b → R' u b) → PySem.W.EachIs R' us bs
  | _, _, .nil, _ => .nil
  | _, _, .cons r rs, h => .cons (h _ _ (by simp) r) (each_mem rs fun u b hb => h u b (by simp [hb]))
theorem cr_sortX (hu : X.A.units + 64 < cLine) : CallR X (.builtin "sorted") (fun xs H Q => ∃ a vs ds, xs = [.ref a] ∧ SqL X.K H a vs ∧ DpAll X.K H vs ds ∧ sortable ds = true ∧
    ∀ p, H p = none → Q (.ref p) (upd H p (.lst (((vs.zip ds).mergeSort (PySem.W.dataLe false Prod.snd)).map Prod.fst)))) := by
  intro pins s σ H xs us Q I r h
  obtain ⟨a, vs, ds, rfl, hl, hd, ok, q⟩ := h
  obtain ⟨its, rv, pl, hz⟩ := I.list hl
  obtain ⟨k1, k2, k3⟩ := sortable_of ok
  obtain ⟨l1, l2⟩ := dps_at hd
  have em : (vs.zip ds).map Prod.snd = ds := by rw [List.map_snd_zip]; omega
  have lz : (vs.zip ds).length = vs.length := by rw [List.length_zip]; omega
  rw [Vals.ref1 r]
  refine PySem.W.sorted_data (R := fun (u : Value) (b : V × PyData) => RelV b.1 u) (enc := Prod.snd) (bs := vs.zip ds) (vs := its) pl.isList (vals_zip rv l1)
    (each_mem (vals_zip rv l1) fun u b hb hr => Dp.reads I b.2 b.1 u (l2 b hb) hr) (by rw [em]; exact k1) (by rw [em]; exact k2) (by rw [lz]; exact hz)
    (fun b hb => by have := k3 b.2 (by rw [← em]; exact List.mem_map_of_mem hb); omega) fun out ho hr => ?_
  have ro := each_vals hr
  obtain ⟨ep, he⟩ := PyProof.Rows.sortedAll_at s.heap its out.toArray
  have hlen : (((vs.zip ds).mergeSort (PySem.W.dataLe false Prod.snd)).map Prod.fst).length ≤ sizeLine := by rw [List.length_map, List.length_mergeSort, lz]; exact hz
  exact ⟨.ref _, upd H (s.heap.objs.size + 1) _, I.laid (t' := s.toks) (fun _ _ => PyProof.Rows.sortedAll_old) (Nat.le_succ _) (show ObjOk X.prog X.w _ _ _ (.lst _) from ⟨hlen, out, ep, ro, he⟩), rfl, q _ (I.hok.fresh (Nat.le_succ _))⟩

/-! ### repr -/
theorem cr_repr (hu : X.A.units + 64 < cLine) (hg : X.A.guards = some []) : CallR X (.builtin "repr") (fun xs H Q => ∃ v d, xs = [v] ∧ Dp X.K H v d ∧ reprOk d = true ∧ Q (.str d.shown) H) := by
  intro pins s σ H xs us Q I r h
  obtain ⟨v, d, rfl, hd, ok, q⟩ := h
  cases r with
  | cons r1 r2 =>
  cases r2
  obtain ⟨as, rd⟩ := Dp.reads I d v _ hd r1
  unfold reprOk at ok
  simp only [Bool.and_eq_true, Bool.not_eq_true', decide_eq_true_eq] at ok
  obtain ⟨⟨⟨h1, h2⟩, h3⟩, h4⟩ := ok
  cases rd with
  | none => exact P.repr_of_none ⟨.str (PyData.shown .none), H, I.tok _, ⟨_, rfl⟩, q⟩
  | bool b => exact P.repr_of_bool ⟨.str (PyData.shown (.bool b)), H, I.tok _, ⟨_, rfl⟩, q⟩
  | int i t => exact P.repr_of_int (of_decide_eq_true h1) ⟨.str (PyData.shown (.int i)), H, I.tok _, ⟨_, rfl⟩, q⟩
  | str x t => exact P.repr_of_str ⟨.str (PyData.shown (.str x)), H, I.tok _, ⟨_, rfl⟩, q⟩ (by rw [sizeLine_eq]; exact h4)
  | list e1 e2 e3 e4 => exact repr_of_reads' (.list e1 e2 e3 e4) h1 (fun z => by rw [h2] at z; cases z) hg (by omega) (fun _ _ e => e) (fun h' u tk k => ⟨.str (PyData.shown _), H, I.kept k, ⟨_, rfl⟩, q⟩) (by rw [sizeLine_eq]; exact h4)
  | tuple e1 e2 e3 e4 => exact repr_of_reads' (.tuple e1 e2 e3 e4) h1 (fun z => by rw [h2] at z; cases z) hg (by omega) (fun _ _ e => e) (fun h' u tk k => ⟨.str (PyData.shown _), H, I.kept k, ⟨_, rfl⟩, q⟩) (by rw [sizeLine_eq]; exact h4)
  | dict e1 e2 e3 e4 e5 => exact repr_of_reads' (.dict e1 e2 e3 e4 e5) h1 (fun z => by rw [h2] at z; cases z) hg (by omega) (fun _ _ e => e) (fun h' u tk k => ⟨.str (PyData.shown _), H, I.kept k, ⟨_, rfl⟩, q⟩) (by rw [sizeLine_eq]; exact h4)

/-! ### count -/
theorem mt_countX (hu : X.A.units + 64 < cLine) : MtR X "list.count" (fun x xs H Q => ∃ a vs ds y d, x = .ref a ∧ xs = [y] ∧ SqL X.K H a vs ∧ DpAll X.K H vs ds ∧ Dp X.K H y d ∧ d.plain = true ∧ PyData.plainAll ds = true ∧ d.depth ≤ 50 ∧ Q (.int (countD ds d : Nat)) H) := by
  intro pins s σ H x xs v us Q I rx rxs h
  obtain ⟨a, vs, ds, y, d, rfl, rfl, hl, hd, hy, p1, p2, p3, q⟩ := h
  cases rx
  obtain ⟨u, rfl, ru⟩ := Vals.one rxs
  obtain ⟨its, rv, pl, hz⟩ := I.list hl
  obtain ⟨as, r1⟩ := Dp.readsAll I ds vs its hd rv
  obtain ⟨bs, r2⟩ := Dp.reads I d y u hy ru
  exact SeqAt.count_list_data pl.isList (by simpa using r1) r2 p2 p1 (by omega) ⟨.int _, H, I.tok _, ⟨_, rfl⟩, q⟩

/-! ### kinds -/
def tyName : PyData → String
  | .none => "NoneType"
  | .bool _ => "bool"
  | .int _ => "int"
  | .str _ => "str"
  | .list _ => "list"
  | .tuple _ => "tuple"
  | .dict _ => "dict"
def Ty.name : Ty → String
  | .int => "int"
  | .bool => "bool"
  | .str => "str"
  | .list => "list"
  | .tuple => "tuple"
theorem tyX_of {K : PySem.W.Frag} {H : Hp} {v : V} {d : PyData} (h : Dp K H v d) : TyX K H v (.type (tyName d)) := by
  cases h with
  | non => exact .base .non
  | bl b => exact .base (.bl b)
  | int i => exact .base (.int i)
  | str x => exact .base (.str x)
  | lst h _ =>
    rcases h with (h | ⟨o, h⟩) | ⟨o, its, n, e, c, _⟩
    · exact .base (.lst h)
    · exact .base (.frz h)
    · exact .kList e c
  | tup h _ =>
    rcases h with (h | ⟨o, h⟩) | ⟨o, its, n, e, c, _⟩
    · exact .base (.tup h)
    · exact .fTuple h
    · exact .kTuple e c
theorem kit_is (K : PySem.W.Frag) (d : PyData) (t : Ty) : PySem.W.kitOne K (.type (tyName d)) (.type t.name) = some (isiD d t) := by
  cases d <;> cases t <;> exact kit_ty (by kernel_rfl)
end
/-! ### slices with a step; sets -/
theorem everyA_drop {α : Type} (st : Nat) : ∀ (k : Nat) (xs : List α), everyA st k xs = everyA st 0 (xs.drop k)
  | 0, _ => by rw [List.drop_zero]
  | k + 1, [] => by simp [everyA]
  | k + 1, x :: xs => by rw [everyA, List.drop_succ_cons]; exact everyA_drop st k xs
def cntS (s n c : Nat) : Nat := (n - s + c - 1) / c
theorem cntS_step {s n c : Nat} (hc : 0 < c) (h : s < n) : cntS s n c = cntS (s + c) n c + 1 := by
  unfold cntS
  have e : n - s + c - 1 = (n - s - 1) + c := by omega
  rw [e, Nat.add_div_right _ hc]
  congr 1
  by_cases z : s + c ≤ n
  · congr 1; omega
  · rw [Nat.div_eq_of_lt (by omega), Nat.div_eq_of_lt (by omega)]
theorem cntS_zero {s n c : Nat} (hc : 0 < c) (h : n ≤ s) : cntS s n c = 0 := by
  unfold cntS
  exact Nat.div_eq_of_lt (by omega)
theorem pick_every {α : Type} (xs : List α) {c : Nat} (hc : 0 < c) : ∀ (k s : Nat), cntS s xs.length c = k → ((List.range k).map (fun j => s + c * j)).filterMap (fun i => xs[i]?) = everyA c 0 (xs.drop s)
  | 0, s, h => by
    have : xs.length ≤ s := by
      apply Decidable.byContradiction
      intro z
      rw [cntS_step hc (by omega)] at h
      omega
    rw [List.drop_eq_nil_of_le this]; rfl
  | k + 1, s, h => by
    have hs : s < xs.length := by
      apply Decidable.byContradiction
      intro z
      rw [cntS_zero hc (by omega)] at h
      omega
    rw [cntS_step hc hs] at h
    have ih := pick_every xs hc k (s + c) (by omega)
    have e2 : (List.map (fun j => s + c * j) (List.map Nat.succ (List.range k))) = (List.range k).map (fun j => s + c + c * j) := by
      rw [List.map_map]
      apply List.map_congr_left
      intro j _
      simp only [Function.comp, Nat.succ_eq_add_one, Nat.mul_add]
      omega
    have e4 : everyA c 0 (xs.drop s) = xs[s] :: everyA c 0 (xs.drop (s + c)) := by
      rw [List.drop_eq_getElem_cons hs]
      show xs[s] :: everyA c (c - 1) _ = _
      rw [everyA_drop c (c - 1), List.drop_drop, show s + 1 + (c - 1) = s + c by omega]
    rw [List.range_succ_eq_map, List.map_cons, Nat.mul_zero, Nat.add_zero, List.filterMap_cons, List.getElem?_eq_getElem hs, e2, ih, e4]
theorem pick_step (items : Array Value) {lo : Option Int} {l c : Nat} (hl : lo = some (l : Int) ∨ (lo = none ∧ l = 0)) (hc : 0 < c) : slicePick items lo none (some (c : Int)) = (everyA c 0 (items.toList.drop l)).toArray := by
  have hb : sliceBounds lo none (some (c : Int)) items.size = (((min l items.size : Nat) : Int), (items.size : Int), (c : Int)) := by
    have p : (c : Int) > 0 := by omega
    rcases hl with rfl | ⟨rfl, rfl⟩
    · unfold sliceBounds
      simp only [Option.getD_some, p, if_true]
      rw [if_neg (by omega)]
      congr 1
      omega
    · unfold sliceBounds
      simp only [Option.getD_some, p, if_true]
      simp
  unfold slicePick
  rw [hb]
  show ((sliceRange ((min l items.size : Nat) : Int) (items.size : Int) (c : Int)).filterMap (items[·]?)).toArray = _
  have hr : sliceRange ((min l items.size : Nat) : Int) (items.size : Int) (c : Int) = (List.range (cntS (min l items.size) items.size c)).map (fun j => min l items.size + c * j) := by
    unfold sliceRange
    have p : (c : Int) > 0 := by omega
    simp only [p, if_true]
    have ec : (if ((min l items.size : Nat) : Int) < (items.size : Int) then ((items.size : Int) - ((min l items.size : Nat) : Int) + c - 1) / c else 0).toNat = cntS (min l items.size) items.size c := by
      split
      · rename_i z
        unfold cntS
        have e : (items.size : Int) - ((min l items.size : Nat) : Int) + c - 1 = ((items.size - min l items.size + c - 1 : Nat) : Int) := by omega
        rw [e, ← Int.natCast_ediv, Int.toNat_natCast]
      · rename_i z
        rw [cntS_zero hc (by omega)]; rfl
    rw [ec]
    apply List.map_congr_left
    intro j _
    have : ((min l items.size : Nat) : Int) + (c : Int) * (j : Int) = ((min l items.size + c * j : Nat) : Int) := by push_cast; rfl
    rw [this, Int.toNat_natCast]
  rw [hr]
  have e := pick_every items.toList hc (cntS (min l items.size) items.size c) (min l items.size) (by rw [Array.length_toList])
  have e3 : (fun i : Nat => items[i]?) = (fun i : Nat => items.toList[i]?) := by funext i; rw [Array.getElem?_toList]
  rw [e3, e]
  congr 2
  by_cases z : l ≤ items.size
  · rw [Nat.min_eq_left z]
  · rw [Nat.min_eq_right (by omega), List.drop_eq_nil_of_le (by rw [Array.length_toList]; exact Nat.le_refl _), List.drop_eq_nil_of_le (by rw [Array.length_toList]; omega)]
theorem vals_every : ∀ (st k : Nat) {vs : List V} {us : List Value}, Vals vs us → Vals (everyA st k vs) (everyA st k us)
  | _, _, _, _, .nil => by simp only [everyA]; exact .nil
  | st, 0, _, _, .cons r t => by simp only [everyA]; exact .cons r (vals_every st _ t)
  | st, k + 1, _, _, .cons r t => by simp only [everyA]; exact vals_every st k t
theorem vals_drop : ∀ (k : Nat) {vs : List V} {us : List Value}, Vals vs us → Vals (vs.drop k) (us.drop k)
  | 0, _, _, r => r
  | k + 1, _, _, .nil => .nil
  | k + 1, _, _, .cons _ t => vals_drop k t
theorem every_len {α : Type} (st : Nat) : ∀ (k : Nat) (xs : List α), (everyA st k xs).length ≤ xs.length
  | _, [] => by simp [everyA]
  | 0, x :: xs => by rw [everyA, List.length_cons, List.length_cons]; have := every_len st (st - 1) xs; omega
  | k + 1, x :: xs => by rw [everyA, List.length_cons]; have := every_len st k xs; omega
section
variable {X : Cx}
def tStpL (K : PySem.W.Frag) (te : TE) (tl tk : TO) : TE := fun σ H Q => te σ H fun x H1 => tl σ H1 fun lo H2 => tk σ H2 fun st H3 => ∃ a xs l c, x = .ref a ∧ SqL K H3 a xs ∧ (lo = some ((l : Nat) : Int) ∨ (lo = none ∧ l = 0)) ∧ st = some ((c : Nat) : Int) ∧ 0 < c ∧
  ∀ p, H3 p = none → Q (.ref p) (upd H3 p (.lst (everyA c 0 (xs.drop l))))
theorem pe_stpL {e : Expr} {te : TE} {lo : Option Expr} {k : Expr} {tl tk : TO} {p3 pos : Pos} (he : PE X e te) (hl : PO X lo tl) (hk : PO X (some k) tk) : PE X (.Subscript e (.Slice lo none (some k) p3) pos) (tStpL X.K te tl tk) := by
  refine ⟨fun pins s σ H Q I h => ?_⟩
  refine Subscript_ (thn (he.run pins s σ H _ I h) fun v s1 ⟨x, H1, I1, r1, q1⟩ => ?_)
  refine wpAny_Slice (thn (hl.run pins s1 σ H1 _ I1 q1) fun vl s2 ⟨l, H2, I2, pl, q2⟩ => ?_)
  refine thn (po_none.run pins s2 σ H2 (fun o H3 => o = none ∧ H3 = H2) I2 ⟨rfl, rfl⟩) fun vu s3 ⟨u, H3, I3, pu, eu, e3⟩ => ?_
  subst eu e3
  refine thn (hk.run pins s3 σ H3 _ I3 q2) fun vs s4 ⟨o, H4, I4, ps, q4⟩ => ?_
  obtain ⟨a, xs, ln, c, rfl, hx, hlo, rfl, hc, q⟩ := q4
  cases r1
  have I5 : Inv X pins σ H4 { s4 with heap := s4.heap.push { cls := .type "slice", data := .fields #[vl, vu, vs] } } := I4.kept (t' := s4.toks) fun b ob q => Heap.get?_push_of_some _ q
  obtain ⟨its, r, ht, hz⟩ := I5.list hx
  have hlen := r.length
  show wpAny (model X.prog X.w) X.A (subscriptTail e (.Slice lo none (some k) p3) (.ref a) (.ref s4.heap.objs.size)) (EP X pins σ Q) X.xe { s4 with heap := s4.heap.push { cls := .type "slice", data := .fields #[vl, vu, vs] } }
  refine tail_any (ops := [.ref a, .ref s4.heap.objs.size]) ht.isList.typeIs (PySem.slot_list_getitem.lookup) ?_ (by with_unfolding_all rfl)
  refine wpAny_getItem_list_slice ht.isList (Heap.IsSliceOf.new _ vl vu vs) pl pu ps (by intro z; have := Option.some.inj z; omega) ?_ (by rw [List.size_toArray]; omega)
  rw [pick_step its.toArray hlo hc]
  refine ⟨.ref _, _, I5.laid (t' := s4.toks) (o := .lst (everyA c 0 (xs.drop ln))) (fun b ob q => Heap.get?_push_of_some _ q) (Nat.le_refl _) ?_, rfl, q _ (I5.hok.fresh (Nat.le_refl _))⟩
  refine ⟨?_, _, 0, vals_every c 0 (vals_drop ln r), Heap.get?_push_size _ rfl⟩
  have := every_len c 0 (xs.drop ln)
  rw [List.length_drop] at this
  omega
end
/-! ### sets -/
theorem dd_mem {α : Type} [DecidableEq α] : ∀ {xs : List α} {x : α}, x ∈ dd xs ↔ x ∈ xs
  | [], _ => Iff.rfl
  | y :: xs, x => by
    rw [dd]
    split
    · rename_i h
      rw [dd_mem, List.mem_cons]
      exact ⟨.inr, fun z => z.elim (fun e => e ▸ h) id⟩
    · rw [List.mem_cons, List.mem_cons, dd_mem]
theorem dd_nd {α : Type} [DecidableEq α] : ∀ (xs : List α), (dd xs).Nodup
  | [] => List.nodup_nil
  | y :: xs => by
    rw [dd]
    split
    · exact dd_nd xs
    · rename_i h
      exact List.nodup_cons.mpr ⟨fun z => h (dd_mem.mp z), dd_nd xs⟩
theorem len_same {α : Type} [DecidableEq α] {xs ys : List α} (hx : xs.Nodup) (hy : ys.Nodup) (h : ∀ x, x ∈ xs ↔ x ∈ ys) : xs.length = ys.length :=
  ((List.perm_ext_iff_of_nodup hx hy).mpr h).length_eq
theorem insS_mem {x z : Int} : ∀ {r : List Int}, z ∈ insS x r ↔ z = x ∨ z ∈ r
  | [] => by simp [insS]
  | y :: r => by
    rw [insS]
    split
    · simp
    · split
      · rename_i e; subst e; simp
      · rw [List.mem_cons, insS_mem, List.mem_cons]
        constructor
        · rintro (h | h | h)
          · exact .inr (.inl h)
          · exact .inl h
          · exact .inr (.inr h)
        · rintro (h | h | h)
          · exact .inr (.inl h)
          · exact .inl h
          · exact .inr (.inr h)
theorem insS_up {x : Int} : ∀ {r : List Int}, r.Pairwise (· < ·) → (insS x r).Pairwise (· < ·)
  | [], _ => List.pairwise_singleton _ _
  | y :: r, h => by
    obtain ⟨h1, h2⟩ := List.pairwise_cons.mp h
    rw [insS]
    split
    · rename_i k
      refine List.pairwise_cons.mpr ⟨fun z hz => ?_, h⟩
      rcases List.mem_cons.mp hz with rfl | hz
      · exact k
      · exact Int.lt_trans k (h1 z hz)
    · split
      · exact h
      · rename_i k1 k2
        refine List.pairwise_cons.mpr ⟨fun z hz => ?_, insS_up h2⟩
        rcases insS_mem.mp hz with rfl | hz
        · omega
        · exact h1 z hz
theorem srtS_mem {z : Int} : ∀ {r : List Int}, z ∈ srtS r ↔ z ∈ r
  | [] => Iff.rfl
  | y :: r => by rw [srtS, insS_mem, srtS_mem, List.mem_cons]
theorem srtS_up : ∀ (r : List Int), (srtS r).Pairwise (· < ·)
  | [] => List.Pairwise.nil
  | y :: r => insS_up (srtS_up r)
theorem up_eq : ∀ {xs ys : List Int}, xs.Pairwise (· < ·) → ys.Pairwise (· < ·) → (∀ z, z ∈ xs ↔ z ∈ ys) → xs = ys
  | [], [], _, _, _ => rfl
  | [], y :: ys, _, _, h => absurd ((h y).mpr (by simp)) (by simp)
  | x :: xs, [], _, _, h => absurd ((h x).mp (by simp)) (by simp)
  | x :: xs, y :: ys, hx, hy, h => by
    obtain ⟨x1, x2⟩ := List.pairwise_cons.mp hx
    obtain ⟨y1, y2⟩ := List.pairwise_cons.mp hy
    have e : x = y := by
      have a := List.mem_cons.mp ((h x).mp (by simp))
      have b := List.mem_cons.mp ((h y).mpr (by simp))
      rcases a with a | a
      · exact a
      · rcases b with b | b
        · exact b.symm
        · have := x1 y b
          have := y1 x a
          omega
    subst e
    congr 1
    refine up_eq x2 y2 fun z => ⟨fun hz => ?_, fun hz => ?_⟩
    · rcases List.mem_cons.mp ((h z).mp (by simp [hz])) with e | e
      · subst e; exact absurd (x1 z hz) (by omega)
      · exact e
    · rcases List.mem_cons.mp ((h z).mpr (by simp [hz])) with e | e
      · subst e; exact absurd (y1 z hz) (by omega)
      · exact e
theorem firstMet_all (ns : List Int) : ∀ i, i ≤ ns.length → (firstMet (fun i => ns.getD i 0) i).Nodup ∧ ∀ z, z ∈ firstMet (fun i => ns.getD i 0) i ↔ z ∈ ns.take i
  | 0, _ => ⟨List.nodup_nil, fun z => by simp [firstMet]⟩
  | i + 1, hi => by
    obtain ⟨a, b⟩ := firstMet_all ns i (by omega)
    have hlt : i < ns.length := hi
    have e : ns.getD i 0 = ns[i] := by rw [List.getD_eq_getElem?_getD, List.getElem?_eq_getElem hlt] <;> rfl
    rw [firstMet_succ]
    unfold step_dedup
    have et : ns.take (i + 1) = ns.take i ++ [ns[i]] := by rw [List.take_succ, List.getElem?_eq_getElem hlt]; rfl
    rw [et, e]
    by_cases h : (firstMet (fun i => ns.getD i 0) i).any (· == ns[i]) = true
    · rw [if_pos h]
      refine ⟨a, fun z => ?_⟩
      rw [b z, List.mem_append, List.mem_singleton]
      refine ⟨.inl, fun q => q.elim id fun q => ?_⟩
      obtain ⟨y, hy, ey⟩ := List.any_eq_true.mp h
      rw [q, ← eq_of_beq ey]
      exact (b y).mp hy
    · rw [if_neg h]
      refine ⟨?_, fun z => ?_⟩
      · refine List.nodup_append.mpr ⟨a, by simp, fun x hx y hy q => ?_⟩
        rw [List.mem_singleton] at hy
        subst hy
        exact h (List.any_eq_true.mpr ⟨x, hx, by rw [q]; exact beq_self_eq_true _⟩)
      · rw [List.mem_append, List.mem_append, b z]
theorem firstMet_len (ns : List Int) : (firstMet (fun i => ns.getD i 0) ns.length).length = (dd ns).length := by
  obtain ⟨a, b⟩ := firstMet_all ns ns.length (Nat.le_refl _)
  rw [List.take_length] at b
  exact len_same a (dd_nd ns) fun z => (b z).trans dd_mem.symm
section
variable {X : Cx}
def tLenSetX (K : PySem.W.Frag) (ta : TE) : TE := fun σ H Q => ta σ H fun x H1 =>
  (∃ (l : Addr) (ns : List Int), x = V.ref l ∧ SqL K H1 l (ns.map V.int) ∧ ns.length ≤ 4000 ∧ Q (.int (dd ns).length) H1) ∨
  (∃ (l : Addr) (ks : List (Addr × List Int)), x = V.ref l ∧ SqL K H1 l (ks.map fun p => V.ref p.1) ∧ (∀ p ∈ ks, SqT K H1 p.1 (p.2.map V.int)) ∧ ks.length < 64 ∧ Q (.int (dd (ks.map (·.2))).length) H1)
theorem pe_lenSetX {a : Expr} {ta : TE} {p p2 q pos : Pos} (hc : X.calm = true) (hu : X.A.units + 64 < cLine) (hg : Gl X "len") (hm : X.mg "len" = none) (hg2 : Gl X "set") (hm2 : X.mg "set" = none) (ha : PE X a ta)
    (na : starEach [a] X.env = (false, eval a X.env) :: starEach [] X.env := by rfl) : PE X (.Call (.Name "len" p) [.Call (.Name "set" p2) [a] [] q] [] pos) (tLenSetX X.K ta) := by
  refine ⟨fun pins s σ H Q I h => ?_⟩
  refine Call_ (ld_blt I hg hm PySem.boot_len ?_)
  refine PyProof.Rows.callWith_builtin1 (PyProof.Rows.args_cons ?_ rfl) rfl rfl
  refine Call_ (ld_blt I hg2 hm2 PyProof.Rows.boot_set ?_)
  refine PyProof.Rows.callWith_type1 (PyProof.Rows.args_cons (thn (ha.run pins s σ H _ I h) fun v s1 ⟨x, H1, I1, r1, q1⟩ => PyProof.Rows.args_nil ?_) na) na rfl
  rcases q1 with ⟨l, ns, rfl, hq, h1, q1⟩ | ⟨l, ks, rfl, hq, hk, h1, q1⟩
  · cases r1
    obtain ⟨its, r, pl, hz⟩ := I1.list hq
    have hl : its.toArray.size = ns.length := by rw [List.size_toArray, ← r.length, List.length_map]
    refine call_set_list (I1.ok.hd hc) pl.isList (ns := ns) (by simpa using r.ints) (by unfold scanBound; omega) fun h' tk hS hk => ?_
    rw [hl] at hS
    refine PyProof.Rows.args_nil ?_
    obtain ⟨o, es, ep, t, ho, hex, hd, _, _, _, hf, hn⟩ := hS
    rw [firstMet_len] at hn
    have I2 : Inv X pins σ H1 { s1 with heap := h', toks := tk } := I1.kept fun b o e => hk b o (Heap.lt_size e) e
    have hle : (dd ns).length ≤ ns.length := by
      rw [← firstMet_len]
      exact firstMet_length_le _ _
    refine call_len_set ho hex hd hf (by rw [hn]; omega) ⟨.int (dd ns).length, H1, I2.tok _, ⟨_, by rw [hn]⟩, q1⟩
  · cases r1
    obtain ⟨its, rv, pl, hz⟩ := I1.list hq
    refine call_set_tups (P := X.prog) (w := X.w) ks (I1.ok.hd hc) pl.isList (by simpa using refs_of_vals rv) (fun p hp => I1.isT (hk p hp)) h1 (by omega) fun h' tk L es ep t R g k => ?_
    refine PyProof.Rows.args_nil ?_
    obtain ⟨o, ho, hex, hd⟩ := R.ob
    have I2 : Inv X pins σ H1 { s1 with heap := h', toks := tk } := I1.kept fun b o e => k b o e
    have hsz : es.size = (dd (ks.map (·.2))).length := by
      have := R.size (s := { s1 with heap := h', toks := tk })
      rw [this, ← List.length_map (f := (·.2))]
      refine len_same R.nd (dd_nd _) fun z => ?_
      rw [dd_mem]
      constructor
      · intro hz
        obtain ⟨p, hp, rfl⟩ := List.mem_map.mp hz
        exact List.mem_map.mpr ⟨p, List.mem_of_mem_take (g.sub p hp), rfl⟩
      · intro hz
        obtain ⟨p, hp, rfl⟩ := List.mem_map.mp hz
        exact g.all p (by rw [List.take_length]; exact hp)
    have hle : (dd (ks.map (·.2))).length < 64 := by
      rw [← hsz, R.size (s := { s1 with heap := h', toks := tk })]
      exact R.few
    refine call_len_set ho hex hd (R.fits (s := { s1 with heap := h', toks := tk })) (by rw [hsz]; omega) ⟨.int (dd (ks.map (·.2))).length, H1, I2.tok _, ⟨_, by rw [hsz]⟩, q1⟩
end
/-! ### sorted(set(xs)), xs a list of ints -/
section
variable {P : Program} {w : World} {A : Around} {E : Value → Shared → Prop} {s : Shared}
set_option maxHeartbeats 8000000 in
theorem call_set_lstI {l : Addr} {items : Array Value} (ns : List Int) {Q : Value → Shared → Prop} (hh : A.handled = none) (hl : s.heap.IsList l items) (hit : IntsAre items.toList ns) (hb : ns.length + 1 < scanBound)
    (h : ∀ (h' : Heap) (tk c : Nat), SetR w h' s.heap.objs.size (fun j => decide (j ∈ ns)) c → c ≤ ns.length → (∀ b o, s.heap.get? b = some o → h'.get? b = some o) → Q (.ref s.heap.objs.size) { s with heap := h', toks := tk }) :
    wpAny (model P w) A (call (.type "set") [.ref l]) Q E s := by
  have hisz : items.size = ns.length := by
    have q := IntsAre.length hit
    rw [Array.length_toList] at q
    exact q
  obtain ⟨c, tl, hmro⟩ := F.called_set.mro
  have hmade := F.called_set.made
  have hsub := F.called_set.sub
  refine wpAny_call (codeAny_of_tree ?_)
  show wpAny _ _ (callAny (.type "set") _) _ _ _
  refine wpAny_pure ⟨Code.quiet_builtin _ (by decide +kernel), codeAny_builtin F.entry_type_call ?_⟩
  rw [Around.under_plain (weight_type_call_type "set" [.ref l] []) rfl]
  have h1 := F.called_set.notType
  have h2 := F.called_set.canCreate
  have hct := F.typeCall_set_1 (.ref l)
  repeat (any_goals (first | assumption | wp_step))
  refine codeAny_mono (code_set_led1 (.ref l) (E := E) (Q₁ := fun obj s₁ => obj = .ref s.heap.objs.size ∧ s₁ = { s with heap := s.heap.push { cls := .type "set", dict := none, data := .set #[] 0 (.fresh 0 0 (!w.params.followText "set-order")) } }) ⟨rfl, rfl⟩) fun r s₁ hr => ?_
  cases r with
  | error e => exact hr
  | ok fl =>
    cases fl with
    | ret obj =>
      obtain ⟨rfl, rfl⟩ := hr
      have hS : (s.heap.push { cls := .type "set", dict := none, data := .set #[] 0 (.fresh 0 0 (!w.params.followText "set-order")) }).get? s.heap.objs.size = some { cls := .type "set", dict := none, data := .set #[] 0 (.fresh 0 0 (!w.params.followText "set-order")) } := Heap.get?_push_size _ rfl
      have hT : Shared.TypeIs { s with heap := s.heap.push { cls := .type "set", dict := none, data := .set #[] 0 (.fresh 0 0 (!w.params.followText "set-order")) } } (.ref s.heap.objs.size) "set" := ⟨_, hS, rfl⟩
      have hli := F.called_set.init.lookup
      have hbi := F.called_set.init.bind (.ref s.heap.objs.size)
      repeat (any_goals (first | assumption | wp_step))
      refine codeAny_mono (codeAny_call_builtin (R := wants (fun r s₂ => r = .none ∧ ∃ h' tk c, s₂ = { s with heap := h', toks := tk } ∧ SetR w h' s.heap.objs.size (fun j => decide (j ∈ ns)) c ∧ c ≤ ns.length ∧
          (∀ b o, s.heap.get? b = some o → h'.get? b = some o)) E) F.called_set.init.plain F.entry_set_init (check_set_init_1 hT ?_)) fun r₂ s₂ hr₂ => ?_
      · obtain ⟨ol, hol, hcl, nl, hdl⟩ := hl
        obtain ⟨ocls, odict, odata, oslots⟩ := ol
        simp only at hcl hdl
        subst hcl; subst hdl
        have hol' : (s.heap.push { cls := .type "set", dict := none, data := .set #[] 0 (.fresh 0 0 (!w.params.followText "set-order")) }).get? l = some { cls := .type "list", dict := odict, data := .seq items nl, slots := oslots } := Heap.get?_push_of_some _ hol
        have hsls := F.sub_list_set
        have hslf := F.sub_list_frozenset
        have hne : (Value.type "list" == Value.type "dict") = false := by decide
        have hl1 : (s.heap.push { cls := .type "set", dict := none, data := .set #[] 0 (.fresh 0 0 (!w.params.followText "set-order")) }).IsList l items := ⟨_, hol', rfl, nl, rfl⟩
        unfold Builtin.«set.__init__» noKeywords Builtin.Frozenset.updateFrom
        generalize hPI : pyIter = PI
        wp_walk
        subst hPI
        refine wpAny_pyIter_list hl1 ?_
        refine wpAny_bind (wpAny_runValue ?_)
        have hlS : l < s.heap.objs.size := Heap.lt_size hol
        have hh3 : A.in1.in1.in1.handled = none := by simp [hh]
        have hz1 : (s.heap.push { cls := .type "set", dict := none, data := .set #[] 0 (.fresh 0 0 (!w.params.followText "set-order")) }).objs.size = s.heap.objs.size + 1 := Heap.size_push ..
        have hneI : l ≠ (s.heap.push { cls := .type "set", dict := none, data := .set #[] 0 (.fresh 0 0 (!w.params.followText "set-order")) }).objs.size := by
          rw [Heap.size_push]; exact Nat.ne_of_lt (Nat.lt_succ_of_lt hlS)
        have hSf : s.heap.objs.size ∉ [(s.heap.push { cls := .type "set", dict := none, data := .set #[] 0 (.fresh 0 0 (!w.params.followText "set-order")) }).objs.size, l] := by
          rw [Heap.size_push]; simp only [List.mem_cons, List.mem_singleton, List.not_mem_nil, or_false, not_or]
          exact ⟨Nat.ne_of_lt (Nat.lt_succ_self _), Nat.ne_of_gt hlS⟩
        have hval : ∀ (i : Nat) (v : Value), items[i]? = some v → ∃ k t, ns[i]? = some k ∧ v = .int k t := fun i v hv => by
          have hi : i < ns.length := by rw [← hisz]; exact (Array.getElem?_eq_some_iff.mp hv).1
          obtain ⟨t, e⟩ := PyProof.Rows.IntsAre.int_at hit i v (by rw [Array.getElem?_toList]; exact hv)
          refine ⟨ns[i], t, List.getElem?_eq_getElem hi, ?_⟩
          rw [e, List.getD_eq_getElem?_getD, List.getElem?_eq_getElem hi] <;> rfl
        refine set_update_ints ((Walks.list hh3 _ l hneI items).toS) s.heap.objs.size
          hSf ns hisz hb hval (items.size - 0) 0 _ (by omega) (Nat.zero_le _)
          ⟨⟨_, Heap.get?_push_size _ rfl, rfl, rfl⟩, (hl1.push _)⟩ ?hS0 ?hR
        case hS0 =>
          exact ⟨0, Nat.le_refl _, setR_new_at (Heap.get?_push_of_some _ hS)⟩
        case hR =>
          intro s' c hm hc hS'
          obtain ⟨h', g', d', tk', os'⟩ := s'
          have eg : g' = s.gens := hm.gens
          have ed : d' = s.drawn := hm.drawn
          have eo : os' = s.os := hm.os
          subst eg; subst ed; subst eo
          show wpAny _ _ _ _ _ _
          refine wpAny_pure ?_
          show wpAny _ _ (ret Value.none) _ _ _
          refine wpAny_pure ⟨rfl, h', tk', c, rfl, hS', by omega, fun b o e => ?_⟩
          have hb0 : b < s.heap.objs.size := Heap.lt_size e
          have hb1 : b ≠ s.heap.objs.size := Nat.ne_of_lt hb0
          have hb2 : b ≠ (s.heap.push { cls := .type "set", dict := none, data := .set #[] 0 (.fresh 0 0 (!w.params.followText "set-order")) }).objs.size := by
            rw [Heap.size_push]; exact Nat.ne_of_lt (Nat.lt_succ_of_lt hb0)
          exact hm.heap b o (by simp only [List.mem_cons, List.mem_singleton, List.not_mem_nil, or_false, not_or]; exact ⟨hb1, hb2⟩) (Heap.get?_push_of_some _ (Heap.get?_push_of_some _ e))
      · cases r₂ with
        | error e => exact hr₂
        | ok fl₂ =>
          cases fl₂ with
          | ret r =>
            obtain ⟨rfl, h', tk, c, rfl, hS', hc', hk'⟩ := hr₂
            repeat (any_goals (first | assumption | wp_step))
            exact h _ _ _ hS' hc' hk'
          | _ => exact hr₂.elim
    | _ => exact hr.elim
end
section
variable {X : Cx}
def tSrtSet (K : PySem.W.Frag) (ta : TE) : TE := fun σ H Q => ta σ H fun x H1 => ∃ (l : Addr) (ns : List Int), x = V.ref l ∧ SqL K H1 l (ns.map V.int) ∧ ns.length ≤ 4000 ∧ (srtS ns).length < 64 ∧ ∀ p, H1 p = none → Q (.ref p) (upd H1 p (.lst ((srtS ns).map V.int)))
theorem vals_ints2 : ∀ {us : List Value} {ns : List Int}, IntsAre us ns → Vals (ns.map V.int) us
  | _, _, .nil => .nil
  | _, _, .cons i t r => .cons ⟨t, rfl⟩ (vals_ints2 r)
theorem pe_srtSet {a : Expr} {ta : TE} {p p2 q pos : Pos} (hc : X.calm = true) (hg : Gl X "sorted") (hm : X.mg "sorted" = none) (hg2 : Gl X "set") (hm2 : X.mg "set" = none) (ha : PE X a ta)
    (na : starEach [a] X.env = (false, eval a X.env) :: starEach [] X.env := by rfl) : PE X (.Call (.Name "sorted" p) [.Call (.Name "set" p2) [a] [] q] [] pos) (tSrtSet X.K ta) := by
  refine ⟨fun pins s σ H Q I h => ?_⟩
  have bs : bootBuiltins "sorted" = some (.builtin "sorted") := by decide +kernel
  refine Call_ (ld_blt I hg hm bs ?_)
  refine PyProof.Rows.callWith_builtin1 (PyProof.Rows.args_cons ?_ rfl) rfl rfl
  refine Call_ (ld_blt I hg2 hm2 PyProof.Rows.boot_set ?_)
  refine PyProof.Rows.callWith_type1 (PyProof.Rows.args_cons (thn (ha.run pins s σ H _ I h) fun v s1 ⟨x, H1, I1, r1, q1⟩ => PyProof.Rows.args_nil ?_) na) na rfl
  obtain ⟨l, ns, rfl, hq, h1, h1', q1⟩ := q1
  cases r1
  obtain ⟨its, r, pl, hz⟩ := I1.list hq
  refine call_set_lstI (P := X.prog) (w := X.w) ns (I1.ok.hd hc) pl.isList (by simpa using r.ints) (by unfold scanBound; omega) fun h' tk c R hcl k => ?_
  refine PyProof.Rows.args_nil ?_
  have hc0 : c = (srtS ns).length := by
    obtain ⟨o, es, ep, t, ho, _, _, _, nd, hm, _, _, hn, _⟩ := R
    have e1 := len_same nd ((srtS_up ns).imp fun h => by omega) fun z => by rw [← hm z, decide_eq_true_eq, srtS_mem]
    rw [List.length_map, Array.length_toList, hn] at e1
    exact e1
  refine sorted_set (s := { s1 with heap := h', toks := tk }) R (I1.ok.hd hc) (by omega) fun s' p0 out c2 ns2 k2 g2 o2 hp hget hI hup hmem hlen => ?_
  have e : ns2 = srtS ns := up_eq hup (srtS_up ns) fun z => by rw [hmem z, decide_eq_true_eq, srtS_mem]
  subst e
  have kk : ∀ b o, s1.heap.get? b = some o → s'.heap.get? b = some o := fun b o e => k2 b o (k b o e)
  have hle : s1.heap.objs.size ≤ p0 := by
    refine Nat.le_trans ?_ hp
    obtain ⟨o, es, ep, t, ho, _⟩ := R
    exact Nat.le_of_lt (Heap.lt_size ho)
  have hn : H1 p0 = none := I1.hok.fresh hle
  have hv : Vals ((srtS ns).map V.int) out.toList := vals_ints2 hI
  have hll : ((srtS ns).map V.int).length ≤ sizeLine := by
    rw [List.length_map, hlen, sizeLine_eq]; omega
  have J : Inv X pins σ (upd H1 p0 (.lst ((srtS ns).map V.int))) { s1 with heap := s'.heap, gens := s'.gens, drawn := s'.drawn, toks := s'.toks } :=
    I1.call (ch := []) (Un.laid kk hle hn) (I1.hok.laid kk hle ⟨hll, out.toList, c2, hv, hget⟩) (by rw [g2]; exact I1.bare) (fun _ z => nomatch z)
  have e : s' = { s1 with heap := s'.heap, gens := s'.gens, drawn := s'.drawn, toks := s'.toks } := by
    cases s'
    cases s1
    cases o2
    rfl
  rw [e]
  exact ⟨.ref p0, _, J, rfl, q1 p0 hn⟩
end
/-! ### min, max of a tuple of ints -/
section
variable {X : Cx}
theorem hold_ints {h : Heap} : ∀ {us : List Value} {ns : List Int}, IntsAre us ns → PySem.W.HoldAll h us ns
  | _, _, .nil => PySem.W.HoldAll.nil
  | _, _, .cons i t r => PySem.W.HoldAll.cons ⟨_, Reads.int i t⟩ (hold_ints r)
theorem minOf_int : ∀ (r : List Int) (n : Int), PySem.W.minOf n r = r.foldl min n
  | [], _ => rfl
  | y :: r, n => by
    have ih := minOf_int r
    unfold PySem.W.minOf at ih ⊢
    rw [List.foldl_cons, List.foldl_cons]
    have e : (if PySem.W.DatumOrd.lt y n = true then y else n) = min n y := by
      show (if decide (y < n) = true then y else n) = _
      by_cases h : y < n
      · simp [h]; omega
      · simp [h]; omega
    rw [e]
    exact ih _
theorem maxOf_int : ∀ (r : List Int) (n : Int), PySem.W.maxOf n r = r.foldl max n
  | [], _ => rfl
  | y :: r, n => by
    have ih := maxOf_int r
    unfold PySem.W.maxOf at ih ⊢
    rw [List.foldl_cons, List.foldl_cons]
    have e : (if PySem.W.DatumOrd.lt n y = true then y else n) = max n y := by
      show (if decide (n < y) = true then y else n) = _
      by_cases h : n < y
      · simp [h]; omega
      · simp [h]; omega
    rw [e]
    exact ih _
def rMinT (K : PySem.W.Frag) : List V → Hp → VK → Prop := fun vs H Q => ∃ (a : Addr) (n : Int) (r : List Int), vs = [V.ref a] ∧ SqT K H a ((n :: r).map V.int) ∧ Q (.int (r.foldl min n)) H
def rMaxT (K : PySem.W.Frag) : List V → Hp → VK → Prop := fun vs H Q => ∃ (a : Addr) (n : Int) (r : List Int), vs = [V.ref a] ∧ SqT K H a ((n :: r).map V.int) ∧ Q (.int (r.foldl max n)) H
def rMinX (K : PySem.W.Frag) : List V → Hp → VK → Prop := fun vs H Q => rMin K vs H Q ∨ rMinT K vs H Q
def rMaxX (K : PySem.W.Frag) : List V → Hp → VK → Prop := fun vs H Q => rMax K vs H Q ∨ rMaxT K vs H Q
theorem cr_minX (hc : X.calm = true) (hu : X.A.units + 64 < cLine) : CallR X (.builtin "min") (rMinX X.K) := by
  intro pins s σ H vs us Q I r h
  rcases h with h | ⟨a, n, r', rfl, hs, q⟩
  · exact cr_min hc pins s σ H vs us Q I r h
  · obtain ⟨its, rv, ht, _⟩ := I.tuple hs
    rw [Vals.ref1 r]
    refine PySem.W.min_tuple_datum (α := Int) (x := n) (xs := r') (I.ok.hd hc) (by obtain ⟨o, k1, k2, n, k3⟩ := ht; exact ⟨o, k1, k2, n, k3⟩) (by simpa using hold_ints rv.ints) (by have : PySem.W.Datum.depth Int ≤ 10 := (by decide); omega) fun i v h' tk hi hv hk => ?_
    obtain ⟨as, hv⟩ := hv
    rw [minOf_int] at hv
    cases hv
    exact ⟨.int _, H, I.kept hk, ⟨_, rfl⟩, q⟩
theorem cr_maxX (hc : X.calm = true) (hu : X.A.units + 64 < cLine) : CallR X (.builtin "max") (rMaxX X.K) := by
  intro pins s σ H vs us Q I r h
  rcases h with h | ⟨a, n, r', rfl, hs, q⟩
  · exact cr_max hc pins s σ H vs us Q I r h
  · obtain ⟨its, rv, ht, _⟩ := I.tuple hs
    rw [Vals.ref1 r]
    refine PySem.W.max_tuple_datum (α := Int) (x := n) (xs := r') (I.ok.hd hc) (by obtain ⟨o, k1, k2, n, k3⟩ := ht; exact ⟨o, k1, k2, n, k3⟩) (by simpa using hold_ints rv.ints) (by have : PySem.W.Datum.depth Int ≤ 10 := (by decide); omega) fun i v h' tk hi hv hk => ?_
    obtain ⟨as, hv⟩ := hv
    rw [maxOf_int] at hv
    cases hv
    exact ⟨.int _, H, I.kept hk, ⟨_, rfl⟩, q⟩
end
end Sw
end

section
set_option Elab.async false
set_option linter.all false
set_option maxRecDepth 100000
set_option maxHeartbeats 4000000
/-! Slots that stand for data; what an expression's value stands for. -/
namespace Sw
open PySem PySem.Spec PyProof.Rows L2

abbrev OM := Nat → List Addr
def ShOk (K : PySem.W.Frag) (H : Hp) (G : Addr → Prop) (f : List Addr) (d : PyData) (v : V) : Prop :=
  ∃ a xs ds, v = .ref a ∧ d = .list ds ∧ f = [a] ∧ H a = some (.lst xs) ∧ RepFs K H G xs ds
def SlotOk (K : PySem.W.Frag) (H : Hp) (G : Addr → Prop) (f : List Addr) (o : Own) (d : PyData) (v : V) : Prop :=
  match o with
  | .fz => f = [] ∧ RepF K H G v d
  | .dp => RepO K H v d f
  | .ldp => RepO K H v d f
  | .sh => ShOk K H G f d v
  | .lsh => ShOk K H G f d v
structure Rel (K : PySem.W.Frag) (G : Addr → Prop) (own : OM) (S : Sw.S) (σ : L2.St) (H : Hp) : Prop where
  len : S.length = σ.length
  slot : ∀ i o d, S[i]? = some (some (o, d)) → ∃ v, σ[i]? = some (some v) ∧ SlotOk K H G (own i) o d v
  emp : ∀ i, (∀ o d, S[i]? ≠ some (some (o, d))) → own i = []
  nd : ∀ i, (own i).Nodup
  dj : ∀ i j a, a ∈ own i → a ∈ own j → i = j
  dis : ∀ i a, a ∈ own i → ¬ G a
  gin : ∀ a, G a → H a ≠ none
/-- the places of which a value's frozen nodes may be -/
def Pal (G : Addr → Prop) (own : OM) (Fr : Addr → Prop) (al : List Nat) : Addr → Prop := fun a => G a ∨ (∃ i, i ∈ al ∧ a ∈ own i) ∨ Fr a
def RepR (K : PySem.W.Frag) (G : Addr → Prop) (own : OM) (Fr : Addr → Prop) (H : Hp) (r : R) (v : V) (f : List Addr) : Prop :=
  match r.o with
  | .dp => RepO K H v r.d f ∧ f.Nodup ∧ ∀ a, a ∈ f → Fr a
  | .sh => ∃ a xs ds, v = .ref a ∧ r.d = .list ds ∧ f = [a] ∧ Fr a ∧ H a = some (.lst xs) ∧ RepFs K H (fun b => Pal G own Fr r.al b ∧ b ≠ a) xs ds
  | _ => f = [] ∧ RepF K H (Pal G own Fr r.al) v r.d
def Fresh (H : Hp) : Addr → Prop := fun a => H a = none

section
variable {K : PySem.W.Frag} {G G' : Addr → Prop} {own own' : OM} {S S' : Sw.S} {σ : L2.St} {H H' : Hp} {Fr Fr' : Addr → Prop} {r : R} {v : V} {f : List Addr} {al al' : List Nat}
mutual
theorem RepO.nodes : ∀ (d : PyData) (v : V) (f : List Addr), RepO K H v d f → ∀ a ∈ f, ∃ xs, H a = some (.lst xs)
  | .none, _, _, h => by cases h; simp
  | .bool b, _, _, h => by cases h; simp
  | .int i, _, _, h => by cases h; simp
  | .str x, _, _, h => by cases h; simp
  | .list ds, _, _, h => by
    cases h with
    | lst h hs =>
      intro a ha
      rcases List.mem_cons.mp ha with rfl | ha
      · exact ⟨_, h⟩
      · exact RepOs.nodes ds _ _ hs a ha
  | .tuple ds, _, _, h => by
    cases h with
    | tup h hs => exact RepOs.nodes ds _ _ hs
  | .dict _, _, _, h => by cases h
theorem RepOs.nodes : ∀ (ds : List PyData) (vs : List V) (f : List Addr), RepOs K H vs ds f → ∀ a ∈ f, ∃ xs, H a = some (.lst xs)
  | [], _, _, h => by cases h; simp
  | d :: ds, _, _, h => by
    cases h with
    | cons h hs =>
      intro a ha
      rcases List.mem_append.mp ha with ha | ha
      · exact RepO.nodes d _ _ h a ha
      · exact RepOs.nodes ds _ _ hs a ha
end
theorem RepO.same (s : Same H H') {d : PyData} (h : RepO K H v d f) : RepO K H' v d f := RepO.go (tup_same s) d v f (fun a _ xs e => s a _ e) h
theorem RepF.same {P : Addr → Prop} (s : Same H H') {d : PyData} (h : RepF K H P v d) : RepF K H' P v d := RepF.go (Go.same s fun _ p => p) d v h
theorem RepF.sames {P P' : Addr → Prop} (s : Same H H') (p : ∀ a, P a → P' a) {d : PyData} (h : RepF K H P v d) : RepF K H' P' v d := RepF.go (Go.same s p) d v h
theorem RepFs.sames {P P' : Addr → Prop} (s : Same H H') (p : ∀ a, P a → P' a) {ds : List PyData} {vs : List V} (h : RepFs K H P vs ds) : RepFs K H' P' vs ds := RepFs.go (Go.same s p) ds vs h
theorem ShOk.same (s : Same H H') {d : PyData} (h : ShOk K H G f d v) : ShOk K H' G f d v := by
  obtain ⟨a, xs, ds, e1, e2, e3, e4, e5⟩ := h
  exact ⟨a, xs, ds, e1, e2, e3, s _ _ e4, e5.sames s fun _ p => p⟩
theorem SlotOk.same (s : Same H H') {o : Own} {d : PyData} (h : SlotOk K H G f o d v) : SlotOk K H' G f o d v := by
  cases o with
  | fz => exact ⟨h.1, h.2.same s⟩
  | dp => exact RepO.same s h
  | ldp => exact RepO.same s h
  | sh => exact ShOk.same s h
  | lsh => exact ShOk.same s h
theorem Rel.same (s : Same H H') (h : Rel K G own S σ H) : Rel K G own S σ H' :=
  ⟨h.len, fun i o d e => let ⟨v, e1, e2⟩ := h.slot i o d e; ⟨v, e1, e2.same s⟩, h.emp, h.nd, h.dj, h.dis, fun a g z => by
    cases q : H a with
    | none => exact h.gin a g q
    | some o => rw [s a o q] at z; cases z⟩
theorem SlotOk.nodes {o : Own} {d : PyData} (h : SlotOk K H G f o d v) : ∀ a ∈ f, ∃ xs, H a = some (.lst xs) := by
  cases o with
  | fz => rw [h.1]; simp
  | dp => exact RepO.nodes _ _ _ h
  | ldp => exact RepO.nodes _ _ _ h
  | sh => obtain ⟨a, xs, ds, e1, e2, e3, e4, e5⟩ := h; rw [e3]; simp; exact ⟨_, e4⟩
  | lsh => obtain ⟨a, xs, ds, e1, e2, e3, e4, e5⟩ := h; rw [e3]; simp; exact ⟨_, e4⟩
theorem Rel.nodes (h : Rel K G own S σ H) {i : Nat} {a : Addr} (ha : a ∈ own i) : ∃ xs, H a = some (.lst xs) := by
  by_cases z : ∃ o d, S[i]? = some (some (o, d))
  · obtain ⟨o, d, e⟩ := z
    obtain ⟨v, _, k⟩ := h.slot i o d e
    exact k.nodes a ha
  · rw [h.emp i fun o d e => z ⟨o, d, e⟩] at ha
    cases ha
theorem Pal.imp (h : ∀ a, Fr a → Fr' a) (k : ∀ i ∈ al, i ∈ al') : ∀ a, Pal G own Fr al a → Pal G own Fr' al' a := fun a p =>
  p.elim .inl fun p => .inr (p.elim (fun ⟨i, h1, h2⟩ => .inl ⟨i, k i h1, h2⟩) fun p => .inr (h a p))
theorem RepR.same (s : Same H H') (h : RepR K G own Fr H r v f) : RepR K G own Fr H' r v f := by
  unfold RepR at h ⊢
  split at h
  · exact ⟨h.1.same s, h.2⟩
  · obtain ⟨a, xs, ds, e1, e2, e3, e4, e5, e6⟩ := h
    exact ⟨a, xs, ds, e1, e2, e3, e4, s _ _ e5, e6.sames s fun _ p => p⟩
  · exact ⟨h.1, h.2.same s⟩
theorem RepR.fr (k : ∀ a, Fr a → Fr' a) (h : RepR K G own Fr H r v f) : RepR K G own Fr' H r v f := by
  unfold RepR at h ⊢
  split at h
  · exact ⟨h.1, h.2.1, fun a ha => k a (h.2.2 a ha)⟩
  · obtain ⟨a, xs, ds, e1, e2, e3, e4, e5, e6⟩ := h
    exact ⟨a, xs, ds, e1, e2, e3, k a e4, e5, e6.sames (Same.refl H) fun b p => ⟨Pal.imp k (fun _ q => q) b p.1, p.2⟩⟩
  · exact ⟨h.1, h.2.sames (Same.refl H) (Pal.imp k fun _ q => q)⟩
theorem RepR.rep (h : RepR K G own Fr H r v f) : RepF K H (Pal G own Fr r.al) v r.d := by
  unfold RepR at h
  split at h
  · exact RepO.fz _ _ f (fun a ha => .inr (.inr (h.2.2 a ha))) h.1
  · obtain ⟨a, xs, ds, e1, e2, e3, e4, e5, e6⟩ := h
    rw [e1, e2]
    exact .lst (.inl ⟨.inl e5, .inr (.inr e4)⟩) (e6.sames (Same.refl H) fun b p => p.1)
  · exact h.2
theorem RepR.nodes (h : RepR K G own Fr H r v f) : ∀ a ∈ f, (∃ xs, H a = some (.lst xs)) ∧ Fr a := by
  unfold RepR at h
  split at h
  · exact fun a ha => ⟨RepO.nodes _ _ _ h.1 a ha, h.2.2 a ha⟩
  · obtain ⟨a, xs, ds, e1, e2, e3, e4, e5, e6⟩ := h
    rw [e3]; intro b hb
    obtain rfl : b = a := by simpa using hb
    exact ⟨⟨_, e5⟩, e4⟩
  · rw [h.1]; simp
theorem RepR.nodup (h : RepR K G own Fr H r v f) : f.Nodup := by
  unfold RepR at h
  split at h
  · exact h.2.1
  · obtain ⟨a, xs, ds, e1, e2, e3, e4, e5, e6⟩ := h
    rw [e3]; simp
  · rw [h.1]; simp
theorem repR_mk {d : PyData} (h : RepF K H (Pal G own Fr al) v d) : RepR K G own Fr H (mk d .fz al) v [] := by
  unfold mk
  split
  · exact ⟨rfl, RepF.plain_any _ _ (by assumption) h⟩
  · exact ⟨rfl, h⟩
theorem repR_p {P : Addr → Prop} {d : PyData} (p : plain d = true) (h : RepF K H P v d) : RepR K G own Fr H (Rp d) v [] := ⟨rfl, RepF.plain_any _ _ p h⟩
theorem repR_int (i : Int) : RepR K G own Fr H (Rp (.int i)) (.int i) [] := ⟨rfl, .int i⟩
theorem repR_bl (b : Bool) : RepR K G own Fr H (Rp (.bool b)) (.bl b) [] := ⟨rfl, .bl b⟩
theorem repR_str (x : Str) : RepR K G own Fr H (Rp (.str x)) (.str x) [] := ⟨rfl, .str x⟩
theorem repR_non : RepR K G own Fr H (Rp .none) .non [] := ⟨rfl, .non⟩
/-- what stood is not at a new place -/
theorem go_new {p : Addr} {o : HO} {P P' : Addr → Prop} (hp : H p = none) (h : ∀ a, P a → a ≠ p → P' a) : Go P P' H (upd H p o) :=
  ⟨fun a xs q r => by
    have ne : a ≠ p := fun e => by subst e; rcases r with r | ⟨_, r⟩ <;> rw [hp] at r <;> cases r
    refine ⟨?_, h a q ne⟩
    rcases r with r | ⟨z, r⟩
    · exact .inl (by rw [upd_ne ne]; exact r)
    · exact .inr ⟨z, by rw [upd_ne ne]; exact r⟩,
   fun a xs r => by
    have ne : a ≠ p := fun e => by subst e; rcases r with r | ⟨_, r⟩ <;> rw [hp] at r <;> cases r
    rcases r with r | ⟨z, r⟩
    · exact .inl (by rw [upd_ne ne]; exact r)
    · exact .inr ⟨z, by rw [upd_ne ne]; exact r⟩⟩
theorem same_new {p : Addr} {o : HO} (hp : H p = none) : Same H (upd H p o) := fun b u e => by rw [upd_ne (ne_of_none e hp)]; exact e
theorem Go.tups {P P' : Addr → Prop} (g : Go P P' H H') {ds : List PyData} {vs : List V} (h : RepFs K H P vs ds) : RepFs K H' P' vs ds := RepFs.go g ds vs h
theorem newL_rep {p : Addr} {vs : List V} {xs : List PyData} (hp : H p = none) (hF : Fr p) (h : RepFs K H (Pal G own Fr al) vs xs) :
    RepR K G own Fr (upd H p (.lst vs)) (newL xs al) (.ref p) [p] := by
  unfold newL
  split
  · rename_i pl
    refine ⟨.lst upd_same (RepFs.plain_o _ _ pl ((go_new (P' := Pal G own Fr al) hp fun _ q _ => q).tups h)), by simp, by simpa using hF⟩
  · exact ⟨p, vs, xs, rfl, rfl, rfl, hF, upd_same, (go_new hp fun _ q ne => ⟨q, ne⟩).tups h⟩
end
end Sw
end

section
set_option Elab.async false
set_option linter.all false
set_option maxRecDepth 100000
set_option maxHeartbeats 4000000
/-! Where a written expression is one of the small language's. -/
namespace Sw
open PySem PySem.Spec PyProof.Rows L2

structure Ctx where
  N : List Str
  sc : Scope
  fn : Str → Bool
  fns : List Str

def vis (sc : Scope) (x : Str) : Bool := match sc.names.lookup x with | some .local => true | some .cell => true | some .free => true | _ => false
def isGl (sc : Scope) (x : Str) : Bool := match sc.names.lookup x with | some .globalImplicit => true | _ => false
def isLoc (sc : Scope) (x : Str) : Bool := match sc.names.lookup x with | some .local => true | _ => false
def isCell (sc : Scope) (x : Str) : Bool := match sc.names.lookup x with | some .cell => true | _ => false
def notDbg (x : Str) : Bool := !(x == "__debug__") && !(x == "__classdict__")
def notSet : Expr → Bool
  | .Set .. => false
  | _ => true
def notStar : Expr → Bool
  | .Starred .. => false
  | _ => true
def isComp : Expr → Bool
  | .ListComp .. => true
  | .SetComp .. => true
  | .DictComp .. => true
  | _ => false
def plainTest : Expr → Bool
  | .UnaryOp .. => false
  | .BoolOp .. => false
  | .IfExp .. => false
  | .Compare .. => false
  | _ => true
def notNon : Ex → Bool
  | .non => false
  | _ => true
def notCall0 : Expr → Bool
  | .Call _ [] [] _ => false
  | _ => true
def Bin.op : Bin → Operator
  | .add => .Add | .sub => .Sub | .mul => .Mult | .div => .FloorDiv | .mod => .Mod | .pow => .Pow
  | .shl => .LShift | .shr => .RShift | .band => .BitAnd | .bor => .BitOr | .bxor => .BitXor
def Cm.op : Cm → CmpOp
  | .eq => .Eq | .ne => .NotEq | .lt => .Lt | .le => .LtE | .gt => .Gt | .ge => .GtE | .isin => .In | .notin => .NotIn
def binEq : Bin → Operator → Bool
  | .add, .Add => true | .sub, .Sub => true | .mul, .Mult => true | .div, .FloorDiv => true | .mod, .Mod => true | .pow, .Pow => true
  | .shl, .LShift => true | .shr, .RShift => true | .band, .BitAnd => true | .bor, .BitOr => true | .bxor, .BitXor => true
  | _, _ => false
def cmEq : Cm → CmpOp → Bool
  | .eq, .Eq => true | .ne, .NotEq => true | .lt, .Lt => true | .le, .LtE => true | .gt, .Gt => true | .ge, .GtE => true | .isin, .In => true | .notin, .NotIn => true
  | _, _ => false
theorem binEq_op {o : Bin} {p : Operator} (h : binEq o p = true) : p = o.op := by cases o <;> cases p <;> first | rfl | cases h
theorem cmEq_op {o : Cm} {p : CmpOp} (h : cmEq o p = true) : p = o.op := by cases o <;> cases p <;> first | rfl | cases h
def Blt.nm : Blt → Str
  | .len => "len" | .abs => "abs" | .minL => "min" | .maxL => "max" | .sum => "sum" | .sorted => "sorted" | .list => "list" | .tuple => "tuple" | .repr => "repr" | .int => "int"
  | .lenset => "len" | .sortedset => "sorted"
def Ty.nm : Ty → Str
  | .int => "int" | .bool => "bool" | .str => "str" | .list => "list" | .tuple => "tuple"
/-- a target's names at their places, and that they may be stored -/
def isTrueE : Ex → Bool
  | .bl true => true
  | _ => false
theorem isTrueE_eq {c : Ex} (h : isTrueE c = true) : c = .bl true := by
  unfold isTrueE at h
  split at h
  · rfl
  · cases h
def tgName (C : Ctx) (i : Nat) (x : Str) : Bool := decide (C.N[i]? = some x) && (isLoc C.sc x || (isCell C.sc x && C.fn x))
def tgNames (C : Ctx) : List Nat → List Expr → Bool
  | [], [] => true
  | i :: is, .Name x _ :: es => tgName C i x && tgNames C is es
  | _, _ => false
def chkTg (C : Ctx) : Tg → Expr → Bool
  | .nm i, .Name x _ => tgName C i x
  | .tp is, .Tuple es _ _ => tgNames C is es
  | _, _ => false
def ownOf : Tg → Expr → List (Str × Nat)
  | .nm i, .Name x _ => [(x, i)]
  | .tp is, .Tuple es _ _ => (es.map fun e => match e with | .Name x _ => x | _ => "").zip is
  | _, _ => []
def Ctx.blk (C : Ctx) (scope : Scope) : Ctx := { C with sc := relS scope C.sc, fn := fun x => scope.names.lookup x == some .cell }

mutual
def chkE (C : Ctx) : Ex → Expr → Bool
  | .var i, e => match e with
    | .Name x _ => decide (C.N[i]? = some x) && vis C.sc x && notDbg x
    | _ => false
  | .mv _, _ => false
  | .srt _, _ => false
  | .int i, e => match e with | .Constant (.int j) _ _ => decide (i = j) | _ => false
  | .bl b, e => match e with | .Constant (.bool c) _ _ => decide (b = c) | _ => false
  | .non, e => match e with | .Constant .none _ _ => true | _ => false
  | .str s, e => match e with | .Constant (.str t) _ _ => decide (s = t) | _ => false
  | .bin o a b, e => match e with | .BinOp x p y _ => binEq o p && chkE C a x && chkE C b y | _ => false
  | .neg a, e => match e with | .UnaryOp .USub x _ => chkE C a x | _ => false
  | .cmp o a b, e => match e with | .Compare x [p] [y] _ => cmEq o p && notSet y && chkE C a x && chkE C b y | _ => false
  | .chain o p a b c, e => match e with | .Compare x [o', p'] [y, z] _ => cmEq o o' && cmEq p p' && notSet z && chkE C a x && chkE C b y && chkE C c z | _ => false
  | .isN a, e => match e with | .Compare x [.Is] [.Constant .none _ _] _ => chkE C a x | _ => false
  | .notN a, e => match e with | .Compare x [.IsNot] [.Constant .none _ _] _ => chkE C a x | _ => false
  | .isB a b, e => match e with | .Compare x [.Is] [.Constant (.bool c) _ _] _ => decide (b = c) && chkE C a x | _ => false
  | .notB a b, e => match e with | .Compare x [.IsNot] [.Constant (.bool c) _ _] _ => decide (b = c) && chkE C a x | _ => false
  | .not a, e => match e with | .UnaryOp .Not x _ => chkE C a x | _ => false
  | .and a b, e => match e with
    | .BoolOp .And [x, y] _ => chkE C a x && chkE C b y
    | .BoolOp .And (x :: y :: z :: r) p => chkE C a x && chkE C b (.BoolOp .And (y :: z :: r) p)
    | _ => false
  | .or a b, e => match e with
    | .BoolOp .Or [x, y] _ => chkE C a x && chkE C b y
    | .BoolOp .Or (x :: y :: z :: r) p => chkE C a x && chkE C b (.BoolOp .Or (y :: z :: r) p)
    | _ => false
  | .tru _, _ => false
  | .ite c a b, e => match e with | .IfExp x y z _ => chkT C c x && chkE C a y && chkE C b z | _ => false
  | .lst es, e => match e with | .List xs _ => chkEs C es xs | _ => false
  | .tup es, e => match e with | .Tuple xs _ _ => chkEs C es xs | _ => false
  | .idx a b, e => match e with | .Subscript x y _ => chkE C a x && chkE C b y | _ => false
  | .slc a l h, e => match e with
    | .Subscript x (.Slice none none none _) _ => chkE C a x && (match l, h with | .non, .non => true | _, _ => false)
    | .Subscript x (.Slice (some y) none none _) _ => chkE C a x && notNon l && chkE C l y && (match h with | .non => true | _ => false)
    | .Subscript x (.Slice none (some z) none _) _ => chkE C a x && notNon h && chkE C h z && (match l with | .non => true | _ => false)
    | .Subscript x (.Slice (some y) (some z) none _) _ => chkE C a x && notNon l && notNon h && chkE C l y && chkE C h z
    | _ => false
  | .rev a, e => match e with | .Subscript x (.Slice none none (some (.UnaryOp .USub (.Constant (.int 1) _ _) _)) _) _ => chkE C a x | _ => false
  | .stp a l k, e => match e with
    | .Subscript x (.Slice none none (some z) _) _ => chkE C a x && notNon k && chkE C k z && (match l with | .int 0 => true | _ => false)
    | .Subscript x (.Slice (some y) none (some z) _) _ => chkE C a x && notNon l && notNon k && chkE C l y && chkE C k z
    | _ => false
  | .call f es, e => match e with
    | .Call (.Name x _) (y :: ys) [] _ => decide (C.fns[f]? = some x) && isGl C.sc x && notDbg x && chkEs C es (y :: ys)
    | _ => false
  | .blt f (.rng a b c), e => match e with
    | .Call (.Name x _) [.Call (.Name y _) [z] [] _] [] _ => (decide (f = .list) || decide (f = .tuple)) && decide (x = f.nm) && decide (y = "range") && isGl C.sc x && isGl C.sc y && notStar z && chkE C b z && (match a, c with | .int 0, .int 1 => true | _, _ => false)
    | .Call (.Name x _) [.Call (.Name y _) [z, w] [] _] [] _ => (decide (f = .list) || decide (f = .tuple)) && decide (x = f.nm) && decide (y = "range") && isGl C.sc x && isGl C.sc y && notStar z && notStar w && chkE C a z && chkE C b w && (match c with | .int 1 => true | _ => false)
    | _ => false
  | .blt f a, e => match e with
    | .Call (.Name x _) [y] [] _ => decide (x = f.nm) && isGl C.sc x &&
      ((!(decide (f = .lenset) || decide (f = .sortedset)) && notStar y && chkE C a y) ||
       ((decide (f = .lenset) || decide (f = .sortedset)) && (match y with
        | .Call (.Name s _) [w] [] _ => decide (s = "set") && isGl C.sc s && notStar w && chkE C a w
        | _ => false)))
    | _ => false
  | .min2 a b, e => match e with | .Call (.Name x _) [y, z] [] _ => decide (x = "min") && isGl C.sc x && notStar y && notStar z && chkE C a y && chkE C b z | _ => false
  | .max2 a b, e => match e with | .Call (.Name x _) [y, z] [] _ => decide (x = "max") && isGl C.sc x && notStar y && notStar z && chkE C a y && chkE C b z | _ => false
  | .isi a t, e => match e with | .Call (.Name x _) [y, .Name z _] [] _ => decide (x = "isinstance") && decide (z = t.nm) && isGl C.sc x && isGl C.sc z && notStar y && chkE C a y | _ => false
  | .rng _ _ _, _ => false
  | .index a b, e => match e with | .Call (.Attribute x m p) [y] [] q => decide (m = "index") && (p.endLine == q.line) && notCall0 x && notStar y && chkE C a x && chkE C b y | _ => false
  | .count a b, e => match e with | .Call (.Attribute x m p) [y] [] q => decide (m = "count") && (p.endLine == q.line) && notCall0 x && notStar y && chkE C a x && chkE C b y | _ => false
  | .comp tg (.rng a b k) c e, x => match x with
    | .ListComp y [⟨t, i, ifs, 0⟩] scope _ => blkC C.N C.sc scope (ownOf tg t) && notSet i &&
      (match i with
        | .Call (.Name f _) [z] [] _ => decide (f = "range") && isGl C.sc f && notStar z && chkE C b z && (match a, k with | .int 0, .int 1 => true | _, _ => false)
        | .Call (.Name f _) [z, w] [] _ => decide (f = "range") && isGl C.sc f && notStar z && notStar w && chkE C a z && chkE C b w && (match k with | .int 1 => true | _ => false)
        | .Call (.Name f _) [z, w, u] [] _ => decide (f = "range") && isGl C.sc f && notStar z && notStar w && notStar u && chkE C a z && chkE C b w && chkE C k u
        | _ => false) &&
      chkTg (C.blk scope) tg t &&
      (match ifs with
        | [] => isTrueE c
        | [z] => chkT (C.blk scope) c z
        | _ => false) &&
      chkE (C.blk scope) e y
    | _ => false
  | .comp tg it c e, x => match x with
    | .ListComp y [⟨t, i, ifs, 0⟩] scope _ => blkC C.N C.sc scope (ownOf tg t) && notSet i && chkE C it i && chkTg (C.blk scope) tg t &&
      (match ifs with
        | [] => isTrueE c
        | [z] => chkT (C.blk scope) c z
        | _ => false) &&
      chkE (C.blk scope) e y
    | _ => false
termination_by structural x => x
/-- a test -/
def chkT (C : Ctx) : Ex → Expr → Bool
  | .not a, e => match e with | .UnaryOp .Not x _ => chkT C a x | _ => false
  | .and a b, e => match e with
    | .BoolOp .And [x, y] _ => chkT C a x && chkT C b y
    | .BoolOp .And (x :: y :: z :: r) p => chkT C a x && chkT C b (.BoolOp .And (y :: z :: r) p)
    | _ => false
  | .or a b, e => match e with
    | .BoolOp .Or [x, y] _ => chkT C a x && chkT C b y
    | .BoolOp .Or (x :: y :: z :: r) p => chkT C a x && chkT C b (.BoolOp .Or (y :: z :: r) p)
    | _ => false
  | .tru a, e => plainTest e && chkE C a e
  | .cmp o a b, e => match e with | .Compare x [p] [y] _ => cmEq o p && notSet y && chkE C a x && chkE C b y | _ => false
  | .chain o p a b c, e => match e with | .Compare x [o', p'] [y, z] _ => cmEq o o' && cmEq p p' && notSet z && chkE C a x && chkE C b y && chkE C c z | _ => false
  | .isN a, e => match e with | .Compare x [.Is] [.Constant .none _ _] _ => chkE C a x | _ => false
  | .notN a, e => match e with | .Compare x [.IsNot] [.Constant .none _ _] _ => chkE C a x | _ => false
  | .isB a b, e => match e with | .Compare x [.Is] [.Constant (.bool c) _ _] _ => decide (b = c) && chkE C a x | _ => false
  | .notB a b, e => match e with | .Compare x [.IsNot] [.Constant (.bool c) _ _] _ => decide (b = c) && chkE C a x | _ => false
  | _, _ => false
termination_by structural x => x
def chkEs (C : Ctx) : Exs → List Expr → Bool
  | .nil, [] => true
  | .cons e es, x :: xs => notStar x && chkE C e x && chkEs C es xs
  | _, _ => false
termination_by structural x => x
end
/-- what is walked -/
def chkI (C : Ctx) (it : Ex) (i : Expr) : Bool :=
  match it with
  | .rng a b k => (match i with
    | .Call (.Name f _) [z] [] _ => decide (f = "range") && isGl C.sc f && notStar z && chkE C b z && (match a, k with | .int 0, .int 1 => true | _, _ => false)
    | .Call (.Name f _) [z, w] [] _ => decide (f = "range") && isGl C.sc f && notStar z && notStar w && chkE C a z && chkE C b w && (match k with | .int 1 => true | _ => false)
    | .Call (.Name f _) [z, w, u] [] _ => decide (f = "range") && isGl C.sc f && notStar z && notStar w && notStar u && chkE C a z && chkE C b w && chkE C k u
    | _ => false)
  | _ => chkE C it i
theorem chk_comp {C : Ctx} {tg : Tg} {it c e : Ex} {x : Expr} (h : chkE C (.comp tg it c e) x = true) : ∃ y t i ifs scope p, x = .ListComp y [⟨t, i, ifs, 0⟩] scope p ∧ blkC C.N C.sc scope (ownOf tg t) = true ∧ notSet i = true ∧ chkI C it i = true ∧ chkTg (C.blk scope) tg t = true ∧
    (match ifs with
        | [] => isTrueE c
        | [z] => chkT (C.blk scope) c z
        | _ => false) = true ∧ chkE (C.blk scope) e y = true := by
  by_cases q : ∃ a b k, it = .rng a b k
  · obtain ⟨a, b, k, rfl⟩ := q
    unfold chkE at h
    split at h
    · rw [Bool.and_eq_true, Bool.and_eq_true, Bool.and_eq_true, Bool.and_eq_true, Bool.and_eq_true] at h
      obtain ⟨⟨⟨⟨⟨h1, h2⟩, h3⟩, h4⟩, h5⟩, h6⟩ := h
      exact ⟨_, _, _, _, _, _, rfl, h1, h2, h3, h4, h5, h6⟩
    · cases h
  · have nr : ∀ a b k, it ≠ .rng a b k := fun a b k e => q ⟨a, b, k, e⟩
    cases it <;> first | exact absurd rfl (nr _ _ _) | skip
    all_goals
      unfold chkE at h
      split at h
      · rw [Bool.and_eq_true, Bool.and_eq_true, Bool.and_eq_true, Bool.and_eq_true, Bool.and_eq_true] at h
        obtain ⟨⟨⟨⟨⟨h1, h2⟩, h3⟩, h4⟩, h5⟩, h6⟩ := h
        exact ⟨_, _, _, _, _, _, rfl, h1, h2, h3, h4, h5, h6⟩
      · cases h
end Sw
end

section
set_option Elab.async false
set_option linter.all false
set_option maxRecDepth 100000
set_option maxHeartbeats 4000000
/-! Operators, comparisons, built-ins: the rules meet the interpreter. -/
namespace Sw
open PySem PySem.Spec PyProof.Rows L2

theorem sizeLine_max : sizeLine = maxLen := by rw [sizeLine_eq]; rfl
def Post (K : PySem.W.Frag) (G : Addr → Prop) (own : OM) (H : Hp) (r : R) (Q : VK) : Prop := ∀ v H' f, Same H H' → RepR K G own (Fresh H) H' r v f → Q v H'
/-- the value goes on from H -/
def On (K : PySem.W.Frag) (G : Addr → Prop) (own : OM) (Fr : Addr → Prop) (H : Hp) (r : R) (Q : VK) : Prop := ∀ v H' f, Same H H' → RepR K G own Fr H' r v f → Q v H'
def tE (K : PySem.W.Frag) (Γ : Cal) (e : Ex) : TE := fun σ H Q => ∃ G own S r, Rel K G own S σ H ∧ ev Γ e S = some r ∧ Post K G own H r Q
def tT (K : PySem.W.Frag) (Γ : Cal) (e : Ex) : TT := fun σ H Q => ∃ G own S r b, Rel K G own S σ H ∧ ev Γ e S = some r ∧ r.d = .bool b ∧ ∀ H', Same H H' → Q b H'
inductive RepRs (K : PySem.W.Frag) (G : Addr → Prop) (own : OM) (Fr : Addr → Prop) (H : Hp) : List R → List V → List Addr → Prop
  | nil : RepRs K G own Fr H [] [] []
  | cons {r : R} {rs : List R} {v : V} {vs : List V} {f g : List Addr} (h : RepR K G own Fr H r v f) (hs : RepRs K G own Fr H rs vs g) (d : ∀ a, a ∈ f → a ∉ g) : RepRs K G own Fr H (r :: rs) (v :: vs) (f ++ g)
def tEs (K : PySem.W.Frag) (Γ : Cal) (es : Exs) : TA := fun σ H Q => ∃ G own S rs, Rel K G own S σ H ∧ evs Γ es S = some rs ∧ ∀ vs H' f, Same H H' → RepRs K G own (Fresh H) H' rs vs f → Q vs H'

section
variable {X : Cx} {Γ : Cal} {K : PySem.W.Frag} {G : Addr → Prop} {own : OM} {S : Sw.S} {σ : L2.St} {H H' : Hp} {Fr Fr' : Addr → Prop}
theorem pe_imp {e : Expr} {t t' : TE} (h : PE X e t) (k : ∀ σ H Q, t' σ H Q → t σ H Q) : PE X e t' := ⟨fun pins s σ H Q I hw => h.run pins s σ H Q I (k σ H Q hw)⟩
theorem pt_imp {e : Expr} {t t' : TT} (h : PT X e t) (k : ∀ σ H Q, t' σ H Q → t σ H Q) : PT X e t' := ⟨fun pins s σ H Q I hw => h.run pins s σ H Q I (k σ H Q hw)⟩
theorem pa_imp {e : List Expr} {t t' : TA} (h : PA X e t) (k : ∀ σ H Q, t' σ H Q → t σ H Q) : PA X e t' := ⟨fun pos pins s σ H Q I hw => h.run pos pins s σ H Q I (k σ H Q hw)⟩
theorem fresh_mono (s : Same H H') : ∀ a, Fresh H' a → Fresh H a := fun a h => s.free h
theorem RepRs.same (s : Same H H') : ∀ {rs : List R} {vs : List V} {f : List Addr}, RepRs K G own Fr H rs vs f → RepRs K G own Fr H' rs vs f
  | _, _, _, .nil => .nil
  | _, _, _, .cons h hs d => .cons (h.same s) (RepRs.same s hs) d
theorem RepRs.fr (k : ∀ a, Fr a → Fr' a) : ∀ {rs : List R} {vs : List V} {f : List Addr}, RepRs K G own Fr H rs vs f → RepRs K G own Fr' H rs vs f
  | _, _, _, .nil => .nil
  | _, _, _, .cons h hs d => .cons (h.fr k) (RepRs.fr k hs) d
theorem RepRs.nodes : ∀ {rs : List R} {vs : List V} {f : List Addr}, RepRs K G own Fr H rs vs f → ∀ a ∈ f, (∃ xs, H a = some (.lst xs)) ∧ Fr a
  | _, _, _, .nil => by simp
  | _, _, _, .cons h hs d => fun a ha => (List.mem_append.mp ha).elim (h.nodes a) (RepRs.nodes hs a)
theorem RepRs.nodup : ∀ {rs : List R} {vs : List V} {f : List Addr}, RepRs K G own Fr H rs vs f → f.Nodup
  | _, _, _, .nil => by simp
  | _, _, _, .cons h hs d => by
    rw [List.nodup_append]
    exact ⟨h.nodup, RepRs.nodup hs, fun a ha b hb e => d a ha (e ▸ hb)⟩
theorem RepRs.rep : ∀ {rs : List R} {vs : List V} {f : List Addr}, RepRs K G own Fr H rs vs f → RepFs K H (Pal G own Fr (rs.flatMap R.al)) vs (rs.map R.d)
  | _, _, _, .nil => .nil
  | _, _, _, .cons h hs d => .cons (h.rep.sames (Same.refl H) (Pal.imp (fun _ q => q) fun i hi => by simp [hi])) ((RepRs.rep hs).sames (Same.refl H) (Pal.imp (fun _ q => q) fun i hi => by rw [List.flatMap_cons]; exact List.mem_append_right _ hi))
theorem RepRs.length : ∀ {rs : List R} {vs : List V} {f : List Addr}, RepRs K G own Fr H rs vs f → vs.length = rs.length
  | _, _, _, .nil => rfl
  | _, _, _, .cons h hs d => by simp [RepRs.length hs]
theorem RepR.deep {r : R} {v : V} {f : List Addr} (h : RepR K G own Fr H r v f) (k : r.ok = true) : ∃ g, RepO K H v r.d g ∧ g.Nodup ∧ (∀ a ∈ g, a ∈ f) := by
  by_cases p : plain r.d = true
  · exact ⟨[], RepF.plain_o _ _ p h.rep, by simp, by simp⟩
  · have e : r.o = .dp := by
      unfold R.ok at k
      rw [Bool.eq_false_iff.mpr p] at k
      simpa using k
    unfold RepR at h
    rw [e] at h
    exact ⟨f, h.1, h.2.1, fun _ q => q⟩
theorem RepRs.deep : ∀ {rs : List R} {vs : List V} {f : List Addr}, RepRs K G own Fr H rs vs f → rs.all R.ok = true → ∃ g, RepOs K H vs (rs.map R.d) g ∧ g.Nodup ∧ (∀ a ∈ g, a ∈ f)
  | _, _, _, .nil, _ => ⟨[], .nil, by simp, by simp⟩
  | _, _, _, .cons h hs d, k => by
    rw [List.all_cons, Bool.and_eq_true] at k
    have k' := k
    obtain ⟨g1, a1, a2, a3⟩ := h.deep k'.1
    obtain ⟨g2, b1, b2, b3⟩ := RepRs.deep hs k'.2
    refine ⟨g1 ++ g2, .cons a1 b1, ?_, fun a ha => ?_⟩
    · rw [List.nodup_append]
      exact ⟨a2, b2, fun a ha b hb e => d a (a3 a ha) (e ▸ b3 b hb)⟩
    · rcases List.mem_append.mp ha with ha | ha
      · exact List.mem_append_left _ (a3 a ha)
      · exact List.mem_append_right _ (b3 a ha)

/-! ### a new list, a new tuple -/
theorem listOf_rep {rs : List R} {vs : List V} {f : List Addr} {p : Addr} {al : List Nat} (hp : H p = none) (hF : Fr p) (h : RepRs K G own Fr H rs vs f) :
    RepR K G own Fr (upd H p (.lst vs)) (listOf rs al) (.ref p) (p :: (if rs.all R.ok then f else [])) ∨ ∃ g, RepR K G own Fr (upd H p (.lst vs)) (listOf rs al) (.ref p) g := by
  right
  by_cases k : rs.all R.ok = true
  · obtain ⟨g, h1, h2, h3⟩ := h.deep k
    refine ⟨p :: g, ?_⟩
    unfold listOf
    rw [if_pos k]
    have ng : p ∉ g := fun z => by obtain ⟨⟨xs, e⟩, _⟩ := h.nodes p (h3 p z); rw [hp] at e; cases e
    refine ⟨.lst upd_same (RepOs.go (tup_same (same_new hp)) _ _ _ (fun a ha xs e => same_new hp a _ e) h1), List.nodup_cons.mpr ⟨ng, h2⟩, fun a ha => ?_⟩
    rcases List.mem_cons.mp ha with rfl | ha
    · exact hF
    · exact (h.nodes a (h3 a ha)).2
  · refine ⟨[p], ?_⟩
    unfold listOf
    rw [if_neg k]
    exact ⟨p, vs, rs.map R.d, rfl, rfl, rfl, hF, upd_same, (go_new hp fun a q ne => ⟨Pal.imp (fun _ q => q) (fun i hi => List.mem_append_right _ hi) a q, ne⟩).tups h.rep⟩
theorem tupOf_rep {rs : List R} {vs : List V} {f : List Addr} {p : Addr} (hp : H p = none) (h : RepRs K G own Fr H rs vs f) :
    ∃ g, RepR K G own Fr (upd H p (.tup vs)) (tupOf rs) (.ref p) g := by
  have sm : Same H (upd H p (.tup vs)) := same_new hp
  have tp : SqT K (upd H p (.tup vs)) p vs := .inl (.inl upd_same)
  unfold tupOf mk
  by_cases pl : plain (.tuple (rs.map R.d)) = true
  · rw [if_pos pl]
    exact ⟨[], repR_p pl (P := Pal G own Fr (rs.flatMap R.al)) (.tup tp ((h.rep).sames sm fun _ q => q))⟩
  · rw [if_neg pl]
    by_cases k : rs.all R.ok = true
    · obtain ⟨g, h1, h2, h3⟩ := h.deep k
      refine ⟨g, ?_⟩
      simp only [k, if_true]
      exact ⟨.tup tp (RepOs.go (tup_same sm) _ _ _ (fun a ha xs e => sm a _ e) h1), h2, fun a ha => (h.nodes a (h3 a ha)).2⟩
    · refine ⟨[], ?_⟩
      simp only [k]
      exact ⟨rfl, .tup tp ((h.rep).sames sm fun _ q => q)⟩

/-! ### operators -/
def rAddS : R2 := fun x y H Q => ∃ i j, x = .str i ∧ y = .str j ∧ i.length + j.length ≤ sizeLine ∧ Q (.str (i ++ j)) H
def rCatX (K : PySem.W.Frag) : R2 := fun x y H Q => ∃ l b xs zs, x = .ref l ∧ y = .ref b ∧ Lx K H l xs ∧ Lx K H b zs ∧ xs.length + zs.length ≤ sizeLine ∧ ∀ p, H p = none → Q (.ref p) (upd H p (.lst (xs ++ zs)))
def rRepX (K : PySem.W.Frag) : R2 := fun x y H Q => ∃ l k xs, x = .ref l ∧ y = .int k ∧ Lx K H l xs ∧ -(2 ^ 63) ≤ k ∧ k < 2 ^ 63 ∧ xs.length * k.toNat ≤ sizeLine ∧
    ∀ p, H p = none → Q (.ref p) (upd H p (.lst (List.replicate k.toNat xs).flatten))
def opR (K : PySem.W.Frag) : Bin → R2
  | .add => fun x y H Q => rI0 (fun i j => .int (i + j)) x y H Q ∨ (rCatX K x y H Q ∨ (rCatT K x y H Q ∨ rAddS x y H Q))
  | .sub => rI0 fun i j => .int (i - j)
  | .mul => fun x y H Q => rI CMulW (fun i j => .int (i * j)) x y H Q ∨ rRepX K x y H Q
  | .div => rI CDivW fun i j => .int (i / j)
  | .mod => rI (fun _ j => 0 < j) fun i j => .int (i % j)
  | .pow => rI CPow fun i j => .int (i ^ j.toNat)
  | .shl => rI CPow fun i j => .int (i * 2 ^ j.toNat)
  | .shr => rI (fun _ j => 0 ≤ j) fun i j => .int (i / 2 ^ j.toNat)
  | .band => rI0 fun i j => .int (Builtin.bitAnd i j)
  | .bor => rI0 fun i j => .int (Builtin.bitOr i j)
  | .bxor => rI0 fun i j => .int (Builtin.bitXor i j)
theorem op_ok (o : Bin) : OpR X (binaryOp o.op) (opR X.K o) := by
  cases o with
  | add => exact op_add.or (op_catX.or (op_catT.or op_add_str))
  | sub => exact op_sub
  | mul => exact op_mulW.or op_repX
  | div => exact op_fdivW
  | mod => exact op_mod
  | pow => exact op_pow
  | shl => exact op_shl
  | shr => exact op_shr
  | band => exact op_and
  | bor => exact op_or
  | bxor => exact op_xor
theorem bin_sem {o : Bin} {x y r : R} {v w : V} {Q : VK} (hF : ∀ a, H a = none → Fr a) (h1 : RepF K H (Pal G own Fr x.al) v x.d) (h2 : RepF K H (Pal G own Fr y.al) w y.d) (e : binD o x y = some r)
    (q : On K G own Fr H r Q) : opR K o v w H Q := by
  obtain ⟨dx, ox, ax⟩ := x
  obtain ⟨dy, oy, ay⟩ := y
  dsimp only at h1 h2
  unfold binD at e
  dsimp only at e
  have fin : ∀ (i : Int), some (Rp (.int i)) = some r → Q (.int i) H := fun i e => by cases e; exact q _ _ [] (Same.refl H) (repR_int i)
  split at e
  · cases h1; cases h2; exact .inl ⟨_, _, rfl, rfl, fin _ e⟩
  · cases h1; cases h2; exact ⟨_, _, rfl, rfl, fin _ e⟩
  · cases h1; cases h2
    split at e
    · rename_i k; unfold mulOk at k; have k := of_decide_eq_true k; exact .inl ⟨_, _, rfl, rfl, k, fin _ e⟩
    · cases e
  · cases h1; cases h2
    split at e
    · rename_i k; (first | unfold divOk at k | unfold powOk at k); have k := of_decide_eq_true k; exact ⟨_, _, rfl, rfl, k, fin _ e⟩
    · cases e
  · cases h1; cases h2
    split at e
    · rename_i k; exact ⟨_, _, rfl, rfl, k, fin _ e⟩
    · cases e
  · cases h1; cases h2
    split at e
    · rename_i k; (first | unfold divOk at k | unfold powOk at k); have k := of_decide_eq_true k; exact ⟨_, _, rfl, rfl, k, fin _ e⟩
    · cases e
  · cases h1; cases h2
    split at e
    · rename_i k; (first | unfold divOk at k | unfold powOk at k); have k := of_decide_eq_true k; exact ⟨_, _, rfl, rfl, k, fin _ e⟩
    · cases e
  · cases h1; cases h2
    split at e
    · rename_i k; exact ⟨_, _, rfl, rfl, k, fin _ e⟩
    · cases e
  · cases h1; cases h2; exact ⟨_, _, rfl, rfl, fin _ e⟩
  · cases h1; cases h2; exact ⟨_, _, rfl, rfl, fin _ e⟩
  · cases h1; cases h2; exact ⟨_, _, rfl, rfl, fin _ e⟩
  · rename_i xs ys
    split at e
    · rename_i k
      cases e
      cases h1 with
      | lst l1 s1 =>
        cases h2 with
        | lst l2 s2 =>
          have k1 := s1.length; have k2 := s2.length
          refine .inr (.inl ⟨_, _, _, _, rfl, rfl, l1.lx, l2.lx, by rw [sizeLine_max, k1, k2]; exact k, fun p hp => q _ _ [p] (same_new hp) (newL_rep hp (hF p hp) ?_)⟩)
          exact RepFs.append (s1.sames (Same.refl H) (Pal.imp (fun _ q => q) fun i hi => by simp [hi])) (s2.sames (Same.refl H) (Pal.imp (fun _ q => q) fun i hi => by simp [hi]))
    · cases e
  · rename_i xs k
    split at e
    · rename_i kk
      cases e
      cases h1 with
      | lst l1 s1 =>
        cases h2
        have k1 := s1.length
        have kb : (big : Int) = 4611686018427387904 := rfl
        refine .inr ⟨_, _, _, rfl, rfl, l1.lx, by omega, by omega, by rw [sizeLine_max, k1]; exact kk.2.2, fun p hp => q _ _ [p] (same_new hp) (newL_rep hp (hF p hp) (RepFs.rep s1 _))⟩
    · cases e
  · rename_i xs ys
    split at e
    · rename_i k
      cases e
      cases h1 with
      | tup l1 s1 =>
        cases h2 with
        | tup l2 s2 =>
          have k1 := s1.length; have k2 := s2.length
          have ap := RepFs.append (s1.sames (P' := Pal G own Fr (ax ++ ay)) (Same.refl H) (Pal.imp (fun _ q => q) fun i hi => by simp [hi])) (s2.sames (P' := Pal G own Fr (ax ++ ay)) (Same.refl H) (Pal.imp (fun _ q => q) fun i hi => by simp [hi]))
          refine .inr (.inr (.inl ⟨_, _, _, _, rfl, rfl, l1, l2, fun z => ?_, by rw [sizeLine_max, k1, k2]; exact k.1, fun z => ?_, fun z p hp => ?_⟩))
          · subst z
            cases xs with
            | nil => simp at k
            | cons a b => simp at k1
          · subst z
            have : ys = [] := by cases ys with | nil => rfl | cons a b => simp at k2
            subst this
            rw [List.append_nil, List.append_nil] at ap
            rw [List.append_nil] at q
            exact q _ _ [] (Same.refl H) (repR_mk (.tup l1 ap))
          · exact q _ _ [] (same_new hp) (repR_mk (.tup (.inl (.inl upd_same)) (ap.sames (same_new hp) fun _ q => q)))
    · cases e
  · split at e
    · rename_i k
      cases e
      cases h1; cases h2
      exact .inr (.inr (.inr ⟨_, _, rfl, rfl, by rw [sizeLine_max]; exact k, q _ _ [] (Same.refl H) (repR_str _)⟩))
    · cases e
  · cases e

/-! ### comparisons -/
def rLtX (K : PySem.W.Frag) : R2 := fun x y H Q => ∃ d e, Dp K H x d ∧ Dp K H y e ∧ ltOk d e = true ∧ Q (.bl (PySem.W.dataLt d e)) H
def rGtX (K : PySem.W.Frag) : R2 := fun x y H Q => ∃ d e, Dp K H x d ∧ Dp K H y e ∧ ltOk d e = true ∧ Q (.bl (PySem.W.dataLt e d)) H
def rLeX (K : PySem.W.Frag) : R2 := fun x y H Q => ∃ d e, Dp K H x d ∧ Dp K H y e ∧ ltOk d e = true ∧ Q (.bl (!PySem.W.dataLt e d)) H
def rGeX (K : PySem.W.Frag) : R2 := fun x y H Q => ∃ d e, Dp K H x d ∧ Dp K H y e ∧ ltOk d e = true ∧ Q (.bl (!PySem.W.dataLt d e)) H
def cmpR (K : PySem.W.Frag) : Cm → R2
  | .eq => rEqD K | .ne => rNeD K | .lt => rLtX K | .gt => rGtX K | .le => rLeX K | .ge => rGeX K | .isin => rInD K | .notin => rNotInD K
theorem cmp_ok (hu : X.A.units + 66 < cLine) (o : Cm) : OpR X (compareOp o.op) (cmpR X.K o) := by
  cases o with
  | eq => exact op_eqD (by omega)
  | ne => exact op_neD (by omega)
  | lt => exact op_ltX (by omega)
  | gt => exact op_gtX (by omega)
  | le => exact op_leX (by omega)
  | ge => exact op_geX (by omega)
  | isin => exact op_inD (by omega)
  | notin => exact op_notInD (by omega)
theorem cmp_sem {o : Cm} {x y : PyData} {v w : V} {Q : VK} {k : Bool} {P P' : Addr → Prop} (h1 : RepF K H P v x) (h2 : RepF K H P' w y) (e : cmpD o x y = some k) (q : Q (.bl k) H) : cmpR K o v w H Q := by
  have d1 := RepF.dp _ _ h1
  have d2 := RepF.dp _ _ h2
  unfold cmpD at e
  cases o with
  | eq =>
    dsimp only at e
    split at e
    · rename_i z; simp only [Bool.and_eq_true] at z; cases e; exact ⟨x, y, d1, d2, z.1, z.2, q⟩
    · cases e
  | ne =>
    dsimp only at e
    split at e
    · rename_i z; simp only [Bool.and_eq_true] at z; cases e; exact ⟨x, y, d1, d2, z.1, z.2, q⟩
    · cases e
  | lt =>
    dsimp only at e
    split at e
    · rename_i z; cases e; exact ⟨x, y, d1, d2, z, q⟩
    · cases e
  | gt =>
    dsimp only at e
    split at e
    · rename_i z; cases e; exact ⟨x, y, d1, d2, z, q⟩
    · cases e
  | le =>
    dsimp only at e
    split at e
    · rename_i z; cases e; exact ⟨x, y, d1, d2, z, q⟩
    · cases e
  | ge =>
    dsimp only at e
    split at e
    · rename_i z; cases e; exact ⟨x, y, d1, d2, z, q⟩
    · cases e
  | isin =>
    dsimp only at e
    split at e
    · split at e
      · rename_i z; unfold inOk at z; simp only [Bool.and_eq_true] at z; cases e; exact ⟨x, _, d1, d2, z.1, z.2, q⟩
      · cases e
    · cases e
  | notin =>
    dsimp only at e
    split at e
    · split at e
      · rename_i z; unfold inOk at z; simp only [Bool.and_eq_true] at z; cases e; exact ⟨x, _, d1, d2, z.1, z.2, q⟩
      · cases e
    · cases e

/-! ### items, slices -/
theorem ix_eq (n : Nat) (i : Int) : ix n i = ixN n i := rfl
theorem idx_sem {x y d : PyData} {v w : V} {Q : VK} {al : List Nat} {P : Addr → Prop} (h1 : RepF K H (Pal G own Fr al) v x) (h2 : RepF K H P w y) (e : idxD x y = some d) (q : On K G own Fr H (mk d .fz al) Q) : rIx K v w H Q := by
  unfold idxD at e
  split at e
  · obtain ⟨j, e1, e2⟩ := Option.bind_eq_some_iff.mp e
    cases h1 with
    | lst l1 s1 =>
      cases h2
      obtain ⟨u, e3, r⟩ := s1.get e2
      refine .inl ⟨_, _, _, u, rfl, rfl, l1.seq, ?_, q _ _ [] (Same.refl H) (repR_mk r)⟩
      unfold atI
      rw [s1.length, ← ix_eq, e1]
      exact e3
  · obtain ⟨j, e1, e2⟩ := Option.bind_eq_some_iff.mp e
    cases h1 with
    | tup l1 s1 =>
      cases h2
      obtain ⟨u, e3, r⟩ := s1.get e2
      refine .inr (.inl ⟨_, _, _, u, rfl, rfl, l1, ?_, q _ _ [] (Same.refl H) (repR_mk r)⟩)
      unfold atI
      rw [s1.length, ← ix_eq, e1]
      exact e3
  · cases e
theorem clip_eq (n d : Nat) (o : Option Int) : clip n d o = HT.sIx n d o := by
  cases o with
  | none => rfl
  | some i =>
    unfold clip HT.sIx
    rfl
theorem cut_eq (xs : List V) (lo hi : Option Int) : cutV xs lo hi = (xs.drop (clip xs.length 0 lo)).take (clip xs.length xs.length hi - clip xs.length 0 lo) := by
  unfold cutV
  rw [clip_eq, clip_eq]
theorem cut_rep {P : Addr → Prop} {vs : List V} {ds : List PyData} (h : RepFs K H P vs ds) (lo hi : Option Int) : RepFs K H P (cutV vs lo hi) (cut ds lo hi) := by
  rw [cut_eq, h.length]
  exact (h.drop _).take _
def rSl (K : PySem.W.Frag) : V → Option Int → Option Int → Hp → VK → Prop := fun x lo hi H Q => rSlL K x lo hi H Q ∨ rSlT K x lo hi H Q
theorem sl_ok : SlR X (rSl X.K) := sl_list.or sl_tup
theorem slc_sem {x r : R} {l h : Option Int} {v : V} {Q : VK} (hF : ∀ a, H a = none → Fr a) (h1 : RepF K H (Pal G own Fr x.al) v x.d) (e : slcR x l h = some r)
    (q : On K G own Fr H r Q) : rSl K v l h H Q := by
  obtain ⟨dx, ox, ax⟩ := x
  dsimp only at h1
  unfold slcR at e
  dsimp only at e
  split at e
  · cases e
    cases h1 with
    | lst l1 s1 => exact .inl ⟨_, _, rfl, l1.seq, fun p hp => q _ _ [p] (same_new hp) (newL_rep hp (hF p hp) (cut_rep s1 _ _))⟩
  · cases h1 with
    | tup l1 s1 =>
      split at e
      · cases e
      · rename_i nz
        cases e
        refine .inr ⟨_, _, rfl, l1, ?_, fun p hp => q _ _ [] (same_new hp) (repR_mk (.tup (.inl (.inl upd_same)) ((cut_rep s1 _ _).sames (same_new hp) fun _ q => q)))⟩
        rw [s1.length, ← clip_eq, ← clip_eq]
        exact nz
  · cases e
end
end Sw
end

section
set_option Elab.async false
set_option linter.all false
set_option maxRecDepth 100000
set_option maxHeartbeats 4000000
/-! Built-ins. -/
namespace Sw
open PySem PySem.Spec PyProof.Rows L2
section
variable {X : Cx} {Γ : Cal} {K : PySem.W.Frag} {G : Addr → Prop} {own : OM} {S : Sw.S} {σ : L2.St} {H H' : Hp} {Fr Fr' : Addr → Prop}

theorem foldl_min_mem : ∀ (r : List Int) (n : Int), r.foldl min n = n ∨ r.foldl min n ∈ r
  | [], n => .inl rfl
  | x :: r, n => by
    rw [List.foldl_cons]
    rcases foldl_min_mem r (min n x) with e | e
    · rw [e]
      by_cases h : n ≤ x
      · rw [Int.min_eq_left h]; exact .inl rfl
      · rw [Int.min_eq_right (by omega)]; exact .inr (by simp)
    · exact .inr (by simp [e])
theorem foldl_min_le : ∀ (r : List Int) (n : Int), r.foldl min n ≤ n ∧ ∀ y ∈ r, r.foldl min n ≤ y
  | [], n => ⟨Int.le_refl _, by simp⟩
  | x :: r, n => by
    rw [List.foldl_cons]
    obtain ⟨a, b⟩ := foldl_min_le r (min n x)
    have h1 : min n x ≤ n := Int.min_le_left ..
    have h2 : min n x ≤ x := Int.min_le_right ..
    refine ⟨by omega, fun y hy => ?_⟩
    rcases List.mem_cons.mp hy with rfl | hy
    · omega
    · exact b y hy
theorem foldl_max_mem : ∀ (r : List Int) (n : Int), r.foldl max n = n ∨ r.foldl max n ∈ r
  | [], n => .inl rfl
  | x :: r, n => by
    rw [List.foldl_cons]
    rcases foldl_max_mem r (max n x) with e | e
    · rw [e]
      by_cases h : n ≤ x
      · rw [Int.max_eq_right h]; exact .inr (by simp)
      · rw [Int.max_eq_left (by omega)]; exact .inl rfl
    · exact .inr (by simp [e])
theorem foldl_max_le : ∀ (r : List Int) (n : Int), n ≤ r.foldl max n ∧ ∀ y ∈ r, y ≤ r.foldl max n
  | [], n => ⟨Int.le_refl _, by simp⟩
  | x :: r, n => by
    rw [List.foldl_cons]
    obtain ⟨a, b⟩ := foldl_max_le r (max n x)
    have h1 : n ≤ max n x := Int.le_max_left ..
    have h2 : x ≤ max n x := Int.le_max_right ..
    refine ⟨by omega, fun y hy => ?_⟩
    rcases List.mem_cons.mp hy with rfl | hy
    · omega
    · exact b y hy
def rAbs : List V → Hp → VK → Prop := fun xs H Q => ∃ i, xs = [.int i] ∧ Q (.int (if i < 0 then -i else i)) H
def rSortX (K : PySem.W.Frag) : List V → Hp → VK → Prop := fun xs H Q => ∃ a vs ds, xs = [.ref a] ∧ SqL K H a vs ∧ DpAll K H vs ds ∧ sortable ds = true ∧
    ∀ p, H p = none → Q (.ref p) (upd H p (.lst (((vs.zip ds).mergeSort (PySem.W.dataLe false Prod.snd)).map Prod.fst)))
def rReprX (K : PySem.W.Frag) : List V → Hp → VK → Prop := fun xs H Q => ∃ v d, xs = [v] ∧ Dp K H v d ∧ reprOk d = true ∧ Q (.str d.shown) H
def rListOf (K : PySem.W.Frag) : List V → Hp → VK → Prop := fun xs H Q => ∃ p ys, xs = [.ref p] ∧ (SqL K H p ys ∨ SqT K H p ys) ∧ ∀ l, H l = none → Q (.ref l) (upd H l (.lst ys))
def rTupOf (K : PySem.W.Frag) : List V → Hp → VK → Prop := fun xs H Q => ∃ p ys, xs = [.ref p] ∧ ((SqL K H p ys ∧ ∀ l, H l = none → Q (.ref l) (upd H l (.tup ys))) ∨ (SqT K H p ys ∧ Q (.ref p) H))
def rIntOf : List V → Hp → VK → Prop := fun xs H Q => (∃ i, xs = [.int i] ∧ Q (.int i) H) ∨ ∃ k, xs = [.bl k] ∧ Q (.int (if k then 1 else 0)) H
def bltRule (K : PySem.W.Frag) : Blt → List V → Hp → VK → Prop
  | .len => rLen K | .abs => rAbs | .minL => rMinX K | .maxL => rMaxX K | .sum => rSum K | .sorted => rSortX K | .list => rListOf K | .tuple => rTupOf K | .repr => rReprX K | .int => rIntOf
  | .lenset => fun _ _ _ => False | .sortedset => fun _ _ _ => False
theorem newL_list (xs : List PyData) (al : List Nat) : (newL xs al).d = .list xs := by unfold newL; split <;> rfl
theorem sort_rep {P : Addr → Prop} {vs : List V} {ds : List PyData} (h : RepFs K H P vs ds) :
    RepFs K H P (((vs.zip ds).mergeSort (PySem.W.dataLe false Prod.snd)).map Prod.fst) (sortD ds) := by
  have all : ∀ {vs : List V} {ds : List PyData}, RepFs K H P vs ds → ∀ p ∈ vs.zip ds, RepF K H P p.1 p.2 := by
    intro vs ds h
    induction ds generalizing vs with
    | nil => cases h; simp
    | cons d ds ih =>
      cases h with
      | cons h hs =>
        intro p hp
        rw [List.zip_cons_cons, List.mem_cons] at hp
        rcases hp with rfl | hp
        · exact h
        · exact ih hs p hp
  have mk : ∀ (L : List (V × PyData)), (∀ p ∈ L, RepF K H P p.1 p.2) → RepFs K H P (L.map Prod.fst) (L.map Prod.snd) := by
    intro L
    induction L with
    | nil => intro _; exact .nil
    | cons p L ih => intro k; exact .cons (k p (by simp)) (ih fun q hq => k q (by simp [hq]))
  have e : ((vs.zip ds).mergeSort (PySem.W.dataLe false Prod.snd)).map Prod.snd = sortD ds := by
    have z := PySem.W.sort_maps (r := PySem.W.dataLe false Prod.snd) (s := PySem.W.dataLe false id) (l := vs.zip ds) Prod.snd (fun a _ b _ => rfl)
    rw [z, List.map_snd_zip (by rw [h.length]; omega)]
    rfl
  rw [← e]
  exact mk _ fun p hp => all h p ((List.mergeSort_perm _ _).mem_iff.mp hp)
theorem intsOf_list {d : PyData} {ns : List Int} (e : intsOf d = some ns) : ∃ xs, (d = .list xs ∨ d = .tuple xs) ∧ ints? xs = some ns := by
  unfold intsOf at e
  split at e
  · exact ⟨_, .inl rfl, e⟩
  · exact ⟨_, .inr rfl, e⟩
  · cases e
theorem blt_sem {f : Blt} {x r : R} {v : V} {Q : VK} (hF : ∀ a, H a = none → Fr a) (h1 : RepF K H (Pal G own Fr x.al) v x.d) (hf : f ≠ .lenset ∧ f ≠ .sortedset) (e : bltR f x = some r) (q : On K G own Fr H r Q) : bltRule K f [v] H Q := by
  obtain ⟨dx, ox, ax⟩ := x
  dsimp only at h1
  unfold bltR at e
  dsimp only at e
  split at e
  · cases e
    cases h1 with
    | lst l1 s1 => exact ⟨_, _, rfl, .inl ⟨_, l1.seq, rfl⟩, by rw [s1.length]; exact q _ _ [] (Same.refl H) (repR_int _)⟩
  · cases e
    cases h1 with
    | tup l1 s1 => exact ⟨_, _, rfl, .inr ⟨_, l1, rfl⟩, by rw [s1.length]; exact q _ _ [] (Same.refl H) (repR_int _)⟩
  · split at e
    · rename_i k
      cases e
      cases h1
      exact ⟨_, _, rfl, ⟨by rw [sizeLine_max]; exact k, rfl⟩, q _ _ [] (Same.refl H) (repR_int _)⟩
    · cases e
  · cases e
    cases h1
    rename_i i
    refine ⟨_, rfl, ?_⟩
    have : (if i < 0 then -i else i) = (i.natAbs : Int) := by split <;> omega
    rw [this]
    exact q _ _ [] (Same.refl H) (repR_int _)
  · obtain ⟨ns, e1, e2⟩ := Option.bind_eq_some_iff.mp e
    obtain ⟨xs, ed, e3⟩ := intsOf_list e1
    rcases ed with rfl | rfl
    · cases ns with
      | nil => cases e2
      | cons n r' =>
        cases e2
        cases h1 with
        | lst l1 s1 =>
          left
          obtain ⟨z1, z2⟩ := s1.ints e3
          refine ⟨_, n :: r', rfl, by rw [← z1]; exact l1.seq, by simp, fun m hm hle => ?_⟩
          have : m = r'.foldl min n := by
            have a1 := foldl_min_mem r' n
            have a2 := foldl_min_le r' n
            have a3 : m ≤ r'.foldl min n := by
              rcases a1 with a1 | a1
              · rw [a1]; exact hle n (by simp)
              · exact hle _ (by simp [a1])
            have a4 : r'.foldl min n ≤ m := by
              rcases List.mem_cons.mp hm with rfl | hm
              · exact a2.1
              · exact a2.2 m hm
            omega
          rw [this]
          exact q _ _ [] (Same.refl H) (repR_int _)
    · cases ns with
      | nil => cases e2
      | cons n r' =>
        cases e2
        cases h1 with
        | tup l1 s1 =>
          obtain ⟨z1, z2⟩ := s1.ints e3
          exact .inr ⟨_, n, r', rfl, by rw [← z1]; exact l1, q _ _ [] (Same.refl H) (repR_int _)⟩
  · obtain ⟨ns, e1, e2⟩ := Option.bind_eq_some_iff.mp e
    obtain ⟨xs, ed, e3⟩ := intsOf_list e1
    rcases ed with rfl | rfl
    · cases ns with
      | nil => cases e2
      | cons n r' =>
        cases e2
        cases h1 with
        | lst l1 s1 =>
          left
          obtain ⟨z1, z2⟩ := s1.ints e3
          refine ⟨_, n :: r', rfl, by rw [← z1]; exact l1.seq, by simp, fun m hm hle => ?_⟩
          have : m = r'.foldl max n := by
            have a1 := foldl_max_mem r' n
            have a2 := foldl_max_le r' n
            have a3 : r'.foldl max n ≤ m := by
              rcases a1 with a1 | a1
              · rw [a1]; exact hle n (by simp)
              · exact hle _ (by simp [a1])
            have a4 : m ≤ r'.foldl max n := by
              rcases List.mem_cons.mp hm with rfl | hm
              · exact a2.1
              · exact a2.2 m hm
            omega
          rw [this]
          exact q _ _ [] (Same.refl H) (repR_int _)
    · cases ns with
      | nil => cases e2
      | cons n r' =>
        cases e2
        cases h1 with
        | tup l1 s1 =>
          obtain ⟨z1, z2⟩ := s1.ints e3
          exact .inr ⟨_, n, r', rfl, by rw [← z1]; exact l1, q _ _ [] (Same.refl H) (repR_int _)⟩
  · obtain ⟨ns, e1, e2⟩ := Option.map_eq_some_iff.mp e
    cases e2
    cases h1 with
    | lst l1 s1 =>
      obtain ⟨z1, z2⟩ := s1.ints e1
      exact ⟨_, ns, rfl, by rw [← z1]; exact l1.seq, q _ _ [] (Same.refl H) (repR_int _)⟩
  · split at e
    · rename_i k
      cases e
      cases h1 with
      | lst l1 s1 => exact ⟨_, _, _, rfl, l1.seq, RepFs.dp _ _ s1, k, fun p hp => q _ _ [p] (same_new hp) (newL_rep hp (hF p hp) (sort_rep s1))⟩
    · cases e
  · cases e
    cases h1 with
    | lst l1 s1 => exact ⟨_, _, rfl, .inl l1.seq, fun p hp => q _ _ [p] (same_new hp) (newL_rep hp (hF p hp) s1)⟩
  · cases e
    cases h1 with
    | tup l1 s1 => exact ⟨_, _, rfl, .inr l1, fun p hp => q _ _ [p] (same_new hp) (newL_rep hp (hF p hp) s1)⟩
  · cases e
    cases h1 with
    | lst l1 s1 => exact ⟨_, _, rfl, .inl ⟨l1.seq, fun p hp => q _ _ [] (same_new hp) (repR_mk (.tup (.inl (.inl upd_same)) (s1.sames (same_new hp) fun _ q => q)))⟩⟩
  · cases e
    cases h1 with
    | tup l1 s1 => exact ⟨_, _, rfl, .inr ⟨l1, q _ _ [] (Same.refl H) (repR_mk (.tup l1 s1))⟩⟩
  · split at e
    · rename_i k
      cases e
      exact ⟨_, _, rfl, RepF.dp _ _ h1, k, q _ _ [] (Same.refl H) (repR_str _)⟩
    · cases e
  · cases e
    cases h1
    exact .inl ⟨_, rfl, q _ _ [] (Same.refl H) (repR_int _)⟩
  · cases e
    cases h1
    exact .inr ⟨_, rfl, q _ _ [] (Same.refl H) (repR_int _)⟩
  · exact absurd rfl hf.2
  · exact absurd rfl hf.1
  · cases e
end
end Sw
end

section
set_option Elab.async false
set_option linter.all false
set_option maxRecDepth 100000
set_option maxHeartbeats 4000000
/-! Each written expression, by the interpreter: the single constructs. -/
namespace Sw
open PySem PySem.Spec PyProof.Rows L2

/-- a def's promise, the interpreter's answer -/
def spOf (K : PySem.W.Frag) (Γ : Cal) (f : Nat) : Sp := fun vs H Q _ => ∃ (G : Addr → Prop) (ds : List PyData) (o : Own) (d : PyData), (∀ a, G a → H a ≠ none) ∧ RepFs K H G vs ds ∧ Γ f ds = some (o, d) ∧
  ∀ v H' g, Same H H' → RepR K G (fun _ => []) (Fresh H) H' (mk d o []) v g → Q v H'
/-- a def keeps its promise wherever no guard stands on the stack -/
structure FnG (P : Program) (w : World) (K : PySem.W.Frag) (mg : Str → Option Value) (base : Heap) (k : Nat) (f : Addr) (fd : FuncData) (ps : List Str) (sp : Sp) : Prop where
  len : ∀ vs H Q E, sp vs H Q E → vs.length = ps.length
  run : ∀ (A : Around) (outer : List Env) (s : Shared) (H : Hp) (args : Args) (us : List Value) (vs : List V) (Q : VK), Room k A → A.guards = some [] → Env0 P w K mg base A outer s H → BindsTo s fd args (ps.zip us) → Vals vs us → sp vs H Q E0 →
    codeAny (model P w) A (.call (.ref f) args) (CR CX0 outer P w H s Q E0) s
def bltNames : List Str := ["len", "abs", "min", "max", "sum", "sorted", "list", "tuple", "repr", "int", "isinstance", "bool", "str", "range", "set", "dict"]
structure XOk (Γ : Cal) (n : Nat) (C : Ctx) (X : Cx) : Prop where
  hN : X.N = C.N
  nd : C.N.Nodup
  sc : X.env.scope = C.sc
  fn : ∀ x, X.fn x = C.fn x
  calm : X.calm = true
  xe : X.xe = fun _ _ => False
  room : Room n X.A
  gd : X.A.guards = some []
  blt : ∀ x ∈ bltNames, X.mg x = none
  fns : ∀ (f : Nat) (x : Str), C.fns[f]? = some x → ∃ (a : Addr) (fd : FuncData) (ps : List Str), X.mg x = some (.ref a) ∧ PySem.W.keepIn X.K (.ref a) = true ∧ Binds X.K fd ps [] ∧ FnG X.prog X.w X.K X.mg X.base n a fd ps (spOf X.K Γ f)

section
variable {X : Cx} {Γ : Cal} {n : Nat} {C : Ctx} {K : PySem.W.Frag} {G : Addr → Prop} {own : OM} {S : Sw.S} {σ : L2.St} {H H' : Hp} {Fr Fr' : Addr → Prop} {pos : Pos}
theorem XOk.hu (h : XOk Γ n C X) : X.A.units + 66 < cLine := by have := h.room.un; omega
theorem star_ok {e : Expr} (h : notStar e = true) (es : List Expr) (env : Env) : starEach (e :: es) env = (false, eval e env) :: starEach es env := by
  cases e <;> first | rfl | cases h
theorem test_ok {e : Expr} (h : plainTest e = true) (env : Env) : ∀ whole, isTrue e env whole = (do let v ← whole; standAt e.pos; holding [v] (truthy v)) := by
  intro whole
  cases e <;> first | rfl | cases h
theorem set_ok {e : Expr} (h : notSet e = true) (op : CmpOp) : behindInMarks op e = false := by cases e <;> first | rfl | cases h
theorem fold_ok {e : Expr} (h : notSet e = true) (env : Env) : ∀ x, foldedSetIterable e env x = pure x := by intro x; cases e <;> first | rfl | cases h
theorem base_ok {e : Expr} (h : notCall0 e = true) (m : Str) (env : Env) : attributeBase e m env (eval e env) = eval e env := by
  cases e <;> first | rfl | skip
  rename_i f as kws p
  cases f <;> first | rfl | skip
  cases as <;> first | rfl | skip
  cases kws <;> first | rfl | cases h
theorem vis_ok {sc : Scope} {x : Str} (h : vis sc x = true) : Vis sc x := by
  unfold vis at h
  split at h
  · exact .inl (by assumption)
  · exact .inr (.inl (by assumption))
  · exact .inr (.inr (by assumption))
  · cases h
theorem gl_ok (hx : XOk Γ n C X) {x : Str} (h : isGl C.sc x = true) : Gl X x := by
  unfold isGl at h
  split at h
  · show X.env.scope.names.lookup x = _; rw [hx.sc]; assumption
  · cases h

/-- an expression's value goes on to what is asked -/
theorem tE_then {e : Ex} {r : R} {Q : VK} (hR : Rel K G own S σ H) (he : ev Γ e S = some r) (k : ∀ v H' f, Same H H' → Rel K G own S σ H' → RepR K G own (Fresh H) H' r v f → Q v H') : tE K Γ e σ H Q :=
  ⟨G, own, S, r, hR, he, fun v H' f s h => k v H' f s (hR.same s) h⟩
theorem tE_two {a b : Ex} {x y : R} {Q : V → V → Hp → Prop} (hR : Rel K G own S σ H) (ha : ev Γ a S = some x) (hb : ev Γ b S = some y)
    (k : ∀ v w H' f g, Same H H' → Rel K G own S σ H' → RepR K G own (Fresh H) H' x v f → RepR K G own (Fresh H) H' y w g → Q v w H') : tE K Γ a σ H fun v H1 => tE K Γ b σ H1 fun w H2 => Q v w H2 :=
  tE_then hR ha fun v H1 f s1 R1 h1 => tE_then R1 hb fun w H2 g s2 R2 h2 => k v w H2 f g (s1.trans s2) R2 (h1.same s2) (h2.fr (fresh_mono s1))
theorem on_of {r : R} {Q : VK} (p : Post K G own H r Q) (s : Same H H') : On K G own (Fresh H) H' r Q := fun v H2 f s2 h => p v H2 f (s.trans s2) h
theorem tT_e {e : Ex} {Q : Bool → Hp → Prop} (h : tT K Γ e σ H Q) : tE K Γ e σ H fun v H' => ∃ k, v = .bl k ∧ Q k H' := by
  obtain ⟨G, own, S, r, b, hR, he, hb, q⟩ := h
  refine ⟨G, own, S, r, hR, he, fun v H' f s rr => ?_⟩
  have z := rr.rep
  rw [hb] at z
  cases z
  exact ⟨b, rfl, q H' s⟩
theorem e_var {i : Nat} {x : Str} (hN : X.N[i]? = some x) (hv : Vis X.env.scope x) (hd : notDbg x = true) : PE X (.Name x pos) (tE X.K Γ (.var i)) := by
  unfold notDbg at hd
  simp only [Bool.and_eq_true, Bool.not_eq_true'] at hd
  refine pe_imp (pe_var hN hv hd.1 hd.2) fun σ H Q h => ?_
  obtain ⟨G, own, S, r, hR, he, hp⟩ := h
  simp only [ev] at he
  split at he
  · rename_i o d e
    cases he
    obtain ⟨v, e1, k⟩ := hR.slot i o d e
    refine ⟨v, e1, hp v H [] (Same.refl H) (repR_mk ?_)⟩
    have own_pal : ∀ a, a ∈ own i → o ≠ .fz → Pal G own (Fresh H) (if o = .fz then [] else [i]) a := fun a ha ne => .inr (.inl ⟨i, by simp [ne], ha⟩)
    cases o with
    | fz => exact k.2.sames (Same.refl H) fun a z => .inl z
    | dp => exact RepO.fz _ _ _ (fun a ha => own_pal a ha (by simp)) k
    | ldp => exact RepO.fz _ _ _ (fun a ha => own_pal a ha (by simp)) k
    | sh =>
      obtain ⟨a, xs, ds, rfl, rfl, e3, e4, e5⟩ := k
      exact .lst (.inl ⟨.inl e4, own_pal a (by rw [e3]; simp) (by simp)⟩) (e5.sames (Same.refl H) fun a z => .inl z)
    | lsh =>
      obtain ⟨a, xs, ds, rfl, rfl, e3, e4, e5⟩ := k
      exact .lst (.inl ⟨.inl e4, own_pal a (by rw [e3]; simp) (by simp)⟩) (e5.sames (Same.refl H) fun a z => .inl z)
  · cases he
theorem e_int {i : Int} {k : Nat} : PE X (.Constant (.int i) k pos) (tE X.K Γ (.int i)) := pe_imp pe_int fun σ H Q ⟨G, own, S, r, hR, he, hp⟩ => by
  simp only [ev] at he; cases he; exact hp _ H [] (Same.refl H) (repR_int i)
theorem e_bl {i : Bool} {k : Nat} : PE X (.Constant (.bool i) k pos) (tE X.K Γ (.bl i)) := pe_imp pe_bl fun σ H Q ⟨G, own, S, r, hR, he, hp⟩ => by
  simp only [ev] at he; cases he; exact hp _ H [] (Same.refl H) (repR_bl i)
theorem e_str {i : Str} {k : Nat} : PE X (.Constant (.str i) k pos) (tE X.K Γ (.str i)) := pe_imp pe_str fun σ H Q ⟨G, own, S, r, hR, he, hp⟩ => by
  simp only [ev] at he; cases he; exact hp _ H [] (Same.refl H) (repR_str i)
theorem e_non {k : Nat} : PE X (.Constant .none k pos) (tE X.K Γ .non) := pe_imp pe_non fun σ H Q ⟨G, own, S, r, hR, he, hp⟩ => by
  simp only [ev] at he; cases he; exact hp _ H [] (Same.refl H) repR_non
variable {a b c : Ex} {x y z : Expr}
theorem e_bin {o : Bin} (ha : PE X x (tE X.K Γ a)) (hb : PE X y (tE X.K Γ b)) : PE X (.BinOp x o.op y pos) (tE X.K Γ (.bin o a b)) := by
  refine pe_imp (pe_op (op_ok o) ha hb) fun σ H Q ⟨G, own, S, r, hR, he, hp⟩ => ?_
  simp only [ev] at he
  obtain ⟨p, e1, he⟩ := Option.bind_eq_some_iff.mp he
  obtain ⟨q, e2, he⟩ := Option.bind_eq_some_iff.mp he
  exact tE_two hR e1 e2 fun v w H' f g s R1 h1 h2 => bin_sem (fun a h => fresh_mono s a h) h1.rep h2.rep he (on_of hp s)
theorem e_neg (ha : PE X x (tE X.K Γ a)) : PE X (.UnaryOp .USub x pos) (tE X.K Γ (.neg a)) := by
  refine pe_imp (pe_un un_neg ha) fun σ H Q ⟨G, own, S, r, hR, he, hp⟩ => ?_
  simp only [ev] at he
  obtain ⟨p, e1, he⟩ := Option.bind_eq_some_iff.mp he
  refine tE_then hR e1 fun v H' f s R1 h1 => ?_
  have z := h1.rep
  split at he
  · rename_i i e; rw [e] at z; cases z; cases he; exact ⟨i, rfl, hp _ H' [] s (repR_int _)⟩
  · cases he
theorem cmp_two {o : Cm} {σ : L2.St} {H : Hp} {Q : VK} (h : tE X.K Γ (.cmp o a b) σ H Q) : tOp (cmpR X.K o) (tE X.K Γ a) (tE X.K Γ b) σ H Q := by
  obtain ⟨G, own, S, r, hR, he, hp⟩ := h
  simp only [ev] at he
  obtain ⟨p, e1, he⟩ := Option.bind_eq_some_iff.mp he
  obtain ⟨q, e2, he⟩ := Option.bind_eq_some_iff.mp he
  obtain ⟨k, e3, he⟩ := Option.map_eq_some_iff.mp he
  subst he
  exact tE_two hR e1 e2 fun v w H' f g s R1 h1 h2 => cmp_sem h1.rep h2.rep e3 (hp _ H' [] s (repR_bl k))
theorem e_cmp (hu : X.A.units + 66 < cLine) {o : Cm} (ha : PE X x (tE X.K Γ a)) (hb : PE X y (tE X.K Γ b)) (hs : notSet y = true) : PE X (.Compare x [o.op] [y] pos) (tE X.K Γ (.cmp o a b)) :=
  pe_imp (pe_cmpR (cmp_ok hu o) ha hb (set_ok hs _)) fun σ H Q h => cmp_two h
theorem t_cmp (hu : X.A.units + 66 < cLine) {o : Cm} (ha : PE X x (tE X.K Γ a)) (hb : PE X y (tE X.K Γ b)) (hs : notSet y = true) : PT X (.Compare x [o.op] [y] pos) (tT X.K Γ (.cmp o a b)) :=
  pt_imp (pt_cmpR (cmp_ok hu o) ha hb (set_ok hs _)) fun σ H Q h => cmp_two (tT_e h)
theorem chain_two {o p : Cm} {σ : L2.St} {H : Hp} {Q : VK} (h : tE X.K Γ (.chain o p a b c) σ H Q) : tChain (cmpR X.K o) (cmpR X.K p) (tE X.K Γ a) (tE X.K Γ b) (tE X.K Γ c) σ H Q := by
  obtain ⟨G, own, S, r, hR, he, hp⟩ := h
  simp only [ev] at he
  obtain ⟨u1, e1, he⟩ := Option.bind_eq_some_iff.mp he
  obtain ⟨u2, e2, he⟩ := Option.bind_eq_some_iff.mp he
  obtain ⟨k, e3, he⟩ := Option.bind_eq_some_iff.mp he
  refine tE_two hR e1 e2 fun v w H' f g s R1 h1 h2 => cmp_sem h1.rep h2.rep e3 ⟨k, rfl, ?_⟩
  cases k with
  | false => simp at he; subst he; simp; exact hp _ H' [] s (repR_bl false)
  | true =>
    simp only [if_true] at he ⊢
    obtain ⟨u3, e4, he⟩ := Option.bind_eq_some_iff.mp he
    obtain ⟨k2, e5, he⟩ := Option.map_eq_some_iff.mp he
    subst he
    exact tE_then R1 e4 fun w' H3 f3 s3 R3 h3 => cmp_sem ((h2.same s3).rep) h3.rep e5 (hp _ H3 [] (s.trans s3) (repR_bl k2))
theorem marks_ok {o p : CmpOp} (hs : notSet z = true) : lastMarks [o, p] [y, z] = false := set_ok hs p
theorem e_chain (hu : X.A.units + 66 < cLine) {o p : Cm} (ha : PE X x (tE X.K Γ a)) (hb : PE X y (tE X.K Γ b)) (hc : PE X z (tE X.K Γ c)) (hs : notSet z = true) : PE X (.Compare x [o.op, p.op] [y, z] pos) (tE X.K Γ (.chain o p a b c)) :=
  pe_imp (pe_chain (cmp_ok hu o) (cmp_ok hu p) ha hb hc (marks_ok hs)) fun σ H Q h => chain_two h
theorem t_chain (hu : X.A.units + 66 < cLine) {o p : Cm} (ha : PE X x (tE X.K Γ a)) (hb : PE X y (tE X.K Γ b)) (hc : PE X z (tE X.K Γ c)) (hs : notSet z = true) : PT X (.Compare x [o.op, p.op] [y, z] pos) (tT X.K Γ (.chain o p a b c)) :=
  pt_imp (pt_chain (cmp_ok hu o) (cmp_ok hu p) ha hb hc (marks_ok hs)) fun σ H Q h => chain_two (tT_e h)
theorem rep_none {P : Addr → Prop} {v : V} {d : PyData} (h : RepF K H P v d) : decide (v = .non) = isNone d := by cases h <;> rfl
theorem isN_one {σ : L2.St} {H : Hp} {Q : VK} (h : tE X.K Γ (.isN a) σ H Q) : tIsN (tE X.K Γ a) σ H Q := by
  obtain ⟨G, own, S, r, hR, he, hp⟩ := h
  simp only [ev] at he
  obtain ⟨u, e1, he⟩ := Option.map_eq_some_iff.mp he
  subst he
  exact tE_then hR e1 fun v H' f s R1 h1 => by rw [rep_none h1.rep]; exact hp _ H' [] s (repR_bl _)
theorem notN_one {σ : L2.St} {H : Hp} {Q : VK} (h : tE X.K Γ (.notN a) σ H Q) : tNotN (tE X.K Γ a) σ H Q := by
  obtain ⟨G, own, S, r, hR, he, hp⟩ := h
  simp only [ev] at he
  obtain ⟨u, e1, he⟩ := Option.map_eq_some_iff.mp he
  subst he
  exact tE_then hR e1 fun v H' f s R1 h1 => by rw [rep_none h1.rep]; exact hp _ H' [] s (repR_bl _)
theorem e_isN {k : Nat} {p : Pos} (ha : PE X x (tE X.K Γ a)) : PE X (.Compare x [.Is] [.Constant .none k p] pos) (tE X.K Γ (.isN a)) := pe_imp (pe_cmp (pc_isN ha) rfl) fun σ H Q h => isN_one h
theorem t_isN {k : Nat} {p : Pos} (ha : PE X x (tE X.K Γ a)) : PT X (.Compare x [.Is] [.Constant .none k p] pos) (tT X.K Γ (.isN a)) := pt_imp (pt_cmp (pc_isN ha) rfl) fun σ H Q h => isN_one (tT_e h)
theorem e_notN {k : Nat} {p : Pos} (ha : PE X x (tE X.K Γ a)) : PE X (.Compare x [.IsNot] [.Constant .none k p] pos) (tE X.K Γ (.notN a)) := pe_imp (pe_cmp (pc_notN ha) rfl) fun σ H Q h => notN_one h
theorem t_notN {k : Nat} {p : Pos} (ha : PE X x (tE X.K Γ a)) : PT X (.Compare x [.IsNot] [.Constant .none k p] pos) (tT X.K Γ (.notN a)) := pt_imp (pt_cmp (pc_notN ha) rfl) fun σ H Q h => notN_one (tT_e h)
theorem isB_one {q : Bool} {σ : L2.St} {H : Hp} {Q : VK} (h : tE X.K Γ (.isB a q) σ H Q) : tOp rIsB (tE X.K Γ a) (tC (.bl q)) σ H Q := by
  obtain ⟨G, own, S, r, hR, he, hp⟩ := h
  simp only [ev] at he
  obtain ⟨u, e1, he⟩ := Option.bind_eq_some_iff.mp he
  refine tE_then hR e1 fun v H' f s R1 h1 => ?_
  have z := h1.rep
  split at he
  · rename_i i e; rw [e] at z; cases z; cases he; exact ⟨i, q, rfl, rfl, hp _ H' [] s (repR_bl _)⟩
  · cases he
theorem e_isB {q : Bool} {k : Nat} {p : Pos} (ha : PE X x (tE X.K Γ a)) : PE X (.Compare x [.Is] [.Constant (.bool q) k p] pos) (tE X.K Γ (.isB a q)) := pe_imp (pe_cmpR op_isBl ha pe_bl (nomark _)) fun σ H Q h => isB_one h
theorem t_isB {q : Bool} {k : Nat} {p : Pos} (ha : PE X x (tE X.K Γ a)) : PT X (.Compare x [.Is] [.Constant (.bool q) k p] pos) (tT X.K Γ (.isB a q)) := pt_imp (pt_cmpR op_isBl ha pe_bl (nomark _)) fun σ H Q h => isB_one (tT_e h)
theorem notB_one {q : Bool} {σ : L2.St} {H : Hp} {Q : VK} (h : tE X.K Γ (.notB a q) σ H Q) : tOp rNotB (tE X.K Γ a) (tC (.bl q)) σ H Q := by
  obtain ⟨G, own, S, r, hR, he, hp⟩ := h
  simp only [ev] at he
  obtain ⟨u, e1, he⟩ := Option.bind_eq_some_iff.mp he
  refine tE_then hR e1 fun v H' f s R1 h1 => ?_
  have z := h1.rep
  split at he
  · rename_i i e; rw [e] at z; cases z; cases he; exact ⟨i, q, rfl, rfl, hp _ H' [] s (repR_bl _)⟩
  · cases he
theorem e_notB {q : Bool} {k : Nat} {p : Pos} (ha : PE X x (tE X.K Γ a)) : PE X (.Compare x [.IsNot] [.Constant (.bool q) k p] pos) (tE X.K Γ (.notB a q)) := pe_imp (pe_cmpR op_notBl ha pe_bl (nomark _)) fun σ H Q h => notB_one h
theorem t_notB {q : Bool} {k : Nat} {p : Pos} (ha : PE X x (tE X.K Γ a)) : PT X (.Compare x [.IsNot] [.Constant (.bool q) k p] pos) (tT X.K Γ (.notB a q)) := pt_imp (pt_cmpR op_notBl ha pe_bl (nomark _)) fun σ H Q h => notB_one (tT_e h)
theorem bool_of {P : Addr → Prop} {v : V} {d : PyData} {k : Bool} (h : RepF K H P v d) (e : d = .bool k) : v = .bl k := by subst e; cases h; rfl
theorem e_not (ha : PE X x (tE X.K Γ a)) : PE X (.UnaryOp .Not x pos) (tE X.K Γ (.not a)) := by
  refine pe_imp (pe_not ha) fun σ H Q ⟨G, own, S, r, hR, he, hp⟩ => ?_
  simp only [ev] at he
  obtain ⟨u, e1, he⟩ := Option.bind_eq_some_iff.mp he
  refine tE_then hR e1 fun v H' f s R1 h1 => ?_
  split at he
  · rename_i i e; cases he; exact ⟨i, bool_of h1.rep e, hp _ H' [] s (repR_bl _)⟩
  · cases he
theorem t_not (ha : PT X x (tT X.K Γ a)) : PT X (.UnaryOp .Not x pos) (tT X.K Γ (.not a)) := by
  refine pt_imp (pt_not ha) fun σ H Q ⟨G, own, S, r, b, hR, he, hb, q⟩ => ?_
  simp only [ev] at he
  obtain ⟨u, e1, he⟩ := Option.bind_eq_some_iff.mp he
  split at he
  · rename_i i e
    cases he
    cases hb
    exact ⟨G, own, S, u, i, hR, e1, e, q⟩
  · cases he
theorem and_two {σ : L2.St} {H : Hp} {Q : VK} (h : tE X.K Γ (.and a b) σ H Q) : tAndV (tE X.K Γ a) (tE X.K Γ b) σ H Q := by
  obtain ⟨G, own, S, r, hR, he, hp⟩ := h
  simp only [ev] at he
  obtain ⟨u, e1, he⟩ := Option.bind_eq_some_iff.mp he
  refine tE_then hR e1 fun v H' f s R1 h1 => ?_
  split at he
  · rename_i e
    refine ⟨true, bool_of h1.rep e, ?_⟩
    simp only [if_true]
    exact ⟨G, own, S, r, R1, he, fun w H2 g s2 h2 => hp w H2 g (s.trans s2) (h2.fr (fresh_mono s))⟩
  · rename_i e
    cases he
    refine ⟨false, bool_of h1.rep e, ?_⟩
    simp
    exact hp _ H' [] s (repR_bl false)
  · cases he
theorem or_two {σ : L2.St} {H : Hp} {Q : VK} (h : tE X.K Γ (.or a b) σ H Q) : tOrV (tE X.K Γ a) (tE X.K Γ b) σ H Q := by
  obtain ⟨G, own, S, r, hR, he, hp⟩ := h
  simp only [ev] at he
  obtain ⟨u, e1, he⟩ := Option.bind_eq_some_iff.mp he
  refine tE_then hR e1 fun v H' f s R1 h1 => ?_
  split at he
  · rename_i e
    cases he
    refine ⟨true, bool_of h1.rep e, ?_⟩
    simp
    exact hp _ H' [] s (repR_bl true)
  · rename_i e
    refine ⟨false, bool_of h1.rep e, ?_⟩
    simp
    exact ⟨G, own, S, r, R1, he, fun w H2 g s2 h2 => hp w H2 g (s.trans s2) (h2.fr (fresh_mono s))⟩
  · cases he
theorem tand_two {σ : L2.St} {H : Hp} {Q : Bool → Hp → Prop} (h : tT X.K Γ (.and a b) σ H Q) : tAnd (tT X.K Γ a) (tT X.K Γ b) σ H Q := by
  obtain ⟨G, own, S, r, k, hR, he, hk, q⟩ := h
  simp only [ev] at he
  obtain ⟨u, e1, he⟩ := Option.bind_eq_some_iff.mp he
  split at he
  · rename_i e
    refine ⟨G, own, S, u, true, hR, e1, e, fun H' s => ?_⟩
    simp only [if_true]
    exact ⟨G, own, S, r, k, hR.same s, he, hk, fun H2 s2 => q H2 (s.trans s2)⟩
  · rename_i e
    cases he
    cases hk
    refine ⟨G, own, S, u, false, hR, e1, e, fun H' s => ?_⟩
    simp
    exact q H' s
  · cases he
theorem tor_two {σ : L2.St} {H : Hp} {Q : Bool → Hp → Prop} (h : tT X.K Γ (.or a b) σ H Q) : tOr (tT X.K Γ a) (tT X.K Γ b) σ H Q := by
  obtain ⟨G, own, S, r, k, hR, he, hk, q⟩ := h
  simp only [ev] at he
  obtain ⟨u, e1, he⟩ := Option.bind_eq_some_iff.mp he
  split at he
  · rename_i e
    cases he
    cases hk
    refine ⟨G, own, S, u, true, hR, e1, e, fun H' s => ?_⟩
    simp
    exact q H' s
  · rename_i e
    refine ⟨G, own, S, u, false, hR, e1, e, fun H' s => ?_⟩
    simp
    exact ⟨G, own, S, r, k, hR.same s, he, hk, fun H2 s2 => q H2 (s.trans s2)⟩
  · cases he
theorem e_ite (hc : PT X z (tT X.K Γ c)) (ha : PE X x (tE X.K Γ a)) (hb : PE X y (tE X.K Γ b)) : PE X (.IfExp z x y pos) (tE X.K Γ (.ite c a b)) := by
  refine pe_imp (pe_ifExp hc ha hb) fun σ H Q ⟨G, own, S, r, hR, he, hp⟩ => ?_
  simp only [ev] at he
  obtain ⟨u, e1, he⟩ := Option.bind_eq_some_iff.mp he
  split at he
  · rename_i e
    refine ⟨G, own, S, u, true, hR, e1, e, fun H' s => ?_⟩
    simp only [if_true]
    exact ⟨G, own, S, r, hR.same s, he, fun w H2 g s2 h2 => hp w H2 g (s.trans s2) (h2.fr (fresh_mono s))⟩
  · rename_i e
    refine ⟨G, own, S, u, false, hR, e1, e, fun H' s => ?_⟩
    simp
    exact ⟨G, own, S, r, hR.same s, he, fun w H2 g s2 h2 => hp w H2 g (s.trans s2) (h2.fr (fresh_mono s))⟩
  · cases he
theorem tru_sem {P : Addr → Prop} {v : V} {d : PyData} {k : Bool} (h : RepF K H P v d) (e : truD d = some k) : TruV K v H k := by
  cases h with
  | non => cases e; rfl
  | bl b => cases e; rfl
  | int i => cases e; rfl
  | str x =>
    simp only [truD] at e
    split at e
    · rename_i z
      cases e
      refine ⟨by rw [sizeLine_max]; exact z, ?_⟩
      cases x.length with
      | zero => rfl
      | succ m => simp; omega
    · cases e
  | lst h hs =>
    cases e
    refine .inl ⟨_, h.seq, ?_⟩
    have := hs.length
    rename_i xs ds
    cases xs <;> cases ds <;> simp_all
  | tup h hs =>
    cases e
    refine .inr (.inl ⟨_, h, ?_⟩)
    have := hs.length
    rename_i xs ds
    cases xs <;> cases ds <;> simp_all
theorem t_tru (ha : PE X x (tE X.K Γ a)) (hp : plainTest x = true) : PT X x (tT X.K Γ (.tru a)) := by
  refine pt_imp (pt_truth ha (test_ok hp _)) fun σ H Q ⟨G, own, S, r, k, hR, he, hk, q⟩ => ?_
  simp only [ev] at he
  obtain ⟨u, e1, he⟩ := Option.bind_eq_some_iff.mp he
  obtain ⟨k', e2, he⟩ := Option.map_eq_some_iff.mp he
  subst he
  cases hk
  exact tE_then hR e1 fun v H' f s R1 h1 => ⟨_, tru_sem h1.rep e2, q H' s⟩
theorem es_nil : PA X [] (tEs X.K Γ .nil) := pa_imp pa_nil fun σ H Q ⟨G, own, S, rs, hR, he, hp⟩ => by
  simp only [evs] at he; cases he; exact hp [] H [] (Same.refl H) .nil
theorem es_cons {es : Exs} {ys : List Expr} (ha : PE X x (tE X.K Γ a)) (hs : PA X ys (tEs X.K Γ es)) (st : notStar x = true) : PA X (x :: ys) (tEs X.K Γ (.cons a es)) := by
  refine pa_imp (pa_cons ha hs (star_ok st _ _)) fun σ H Q ⟨G, own, S, rs, hR, he, hp⟩ => ?_
  simp only [evs] at he
  obtain ⟨u, e1, he⟩ := Option.bind_eq_some_iff.mp he
  obtain ⟨us, e2, he⟩ := Option.map_eq_some_iff.mp he
  subst he
  refine tE_then hR e1 fun v H1 f s1 R1 h1 => ⟨G, own, S, us, R1, e2, fun vs H2 g s2 h2 => hp _ H2 (f ++ g) (s1.trans s2) (.cons (h1.same s2) (h2.fr (fresh_mono s1)) fun b hb hg => ?_)⟩
  obtain ⟨⟨xs, e⟩, _⟩ := h1.nodes b hb
  have z : H1 b = none := (h2.nodes b hg).2
  rw [z] at e; cases e
theorem e_lst {es : Exs} {ys : List Expr} (hs : PA X ys (tEs X.K Γ es)) : PE X (.List ys pos) (tE X.K Γ (.lst es)) := by
  refine pe_imp (pe_lst hs) fun σ H Q ⟨G, own, S, r, hR, he, hp⟩ => ?_
  simp only [ev] at he
  obtain ⟨us, e1, he⟩ := Option.bind_eq_some_iff.mp he
  split at he
  · rename_i z
    cases he
    refine ⟨G, own, S, us, hR, e1, fun vs H1 f s h => ⟨by rw [h.length, sizeLine_max]; exact z, fun p np => ?_⟩⟩
    rcases listOf_rep (al := []) np (fresh_mono s p np) h with k | ⟨g, k⟩
    · exact hp _ _ _ (s.trans (same_new np)) k
    · exact hp _ _ _ (s.trans (same_new np)) k
  · cases he
theorem e_tup {es : Exs} {ys : List Expr} {k : Nat} (hs : PA X ys (tEs X.K Γ es)) : PE X (.Tuple ys k pos) (tE X.K Γ (.tup es)) := by
  refine pe_imp (pe_tup hs) fun σ H Q ⟨G, own, S, r, hR, he, hp⟩ => ?_
  simp only [ev] at he
  obtain ⟨us, e1, he⟩ := Option.bind_eq_some_iff.mp he
  split at he
  · rename_i z
    cases he
    refine ⟨G, own, S, us, hR, e1, fun vs H1 f s h => ⟨by rw [h.length, sizeLine_max]; exact z, fun p np => ?_⟩⟩
    obtain ⟨g, k⟩ := tupOf_rep np h
    exact hp _ _ _ (s.trans (same_new np)) k
  · cases he
theorem e_idx (ha : PE X x (tE X.K Γ a)) (hb : PE X y (tE X.K Γ b)) (hs : PlainIx y) : PE X (.Subscript x y pos) (tE X.K Γ (.idx a b)) := by
  refine pe_imp (pe_ix ix_seq ha hb hs) fun σ H Q ⟨G, own, S, r, hR, he, hp⟩ => ?_
  simp only [ev] at he
  obtain ⟨u, e1, he⟩ := Option.bind_eq_some_iff.mp he
  obtain ⟨w, e2, he⟩ := Option.bind_eq_some_iff.mp he
  obtain ⟨d, e3, he⟩ := Option.map_eq_some_iff.mp he
  subst he
  exact tE_two hR e1 e2 fun v w H' f g s R1 h1 h2 => idx_sem h1.rep h2.rep e3 (on_of hp s)
end
end Sw
end

section
set_option Elab.async false
set_option linter.all false
set_option maxRecDepth 100000
set_option maxHeartbeats 4000000
/-! Slices, calls, built-ins by name, ranges as lists. -/
namespace Sw
open PySem PySem.Spec PyProof.Rows L2
section
variable {X : Cx} {Γ : Cal} {n : Nat} {C : Ctx} {K : PySem.W.Frag} {G : Addr → Prop} {own : OM} {S : Sw.S} {σ : L2.St} {H H' : Hp} {Fr Fr' : Addr → Prop} {pos : Pos}
variable {a b c : Ex} {x y z : Expr}
/-- a bound of a slice -/
def evB (Γ : Cal) (l : Ex) (σ : Sw.S) : Option (Option Int) := bndO l (ev Γ l σ)
def tBd (K : PySem.W.Frag) (Γ : Cal) (e : Ex) : TO := fun σ H Q => ∃ G own S o, Rel K G own S σ H ∧ evB Γ e S = some o ∧ ∀ H', Same H H' → Q o H'
theorem po_imp {e : Option Expr} {t t' : TO} (h : PO X e t) (k : ∀ σ H Q, t' σ H Q → t σ H Q) : PO X e t' := ⟨fun pins s σ H Q I hw => h.run pins s σ H Q I (k σ H Q hw)⟩
theorem po_no : PO X none (tBd X.K Γ .non) := po_imp po_none fun σ H Q ⟨G, own, S, o, hR, he, q⟩ => by
  cases he; exact q H (Same.refl H)
theorem po_yes (ha : PE X x (tE X.K Γ a)) (hn : notNon a = true) : PO X (some x) (tBd X.K Γ a) := po_imp (po_some ha) fun σ H Q ⟨G, own, S, o, hR, he, q⟩ => by
  have he' : ((ev Γ a S).bind fun y => (intD y.d).map some) = some o := by
    unfold evB at he
    cases a <;> first | exact he | cases hn
  obtain ⟨r, e1, he⟩ := Option.bind_eq_some_iff.mp he'
  obtain ⟨i, e2, rfl⟩ := Option.map_eq_some_iff.mp he
  refine tE_then hR e1 fun v H' f s R1 h1 => ?_
  have z := h1.rep
  cases hd : r.d <;> rw [hd] at e2 z <;> simp [intD] at e2
  subst e2
  cases z
  exact ⟨_, rfl, q H' s⟩
theorem e_slc {lo hi : Ex} {l h : Option Expr} {p2 : Pos} (ha : PE X x (tE X.K Γ a)) (hl : PO X l (tBd X.K Γ lo)) (hh : PO X h (tBd X.K Γ hi)) :
    PE X (.Subscript x (.Slice l h none p2) pos) (tE X.K Γ (.slc a lo hi)) := by
  refine pe_imp (pe_slice sl_ok ha hl hh) fun σ H Q ⟨G, own, S, r, hR, he, hp⟩ => ?_
  simp only [ev] at he
  obtain ⟨u, e1, he⟩ := Option.bind_eq_some_iff.mp he
  obtain ⟨o1, e2, he⟩ := Option.bind_eq_some_iff.mp he
  obtain ⟨o2, e3, he⟩ := Option.bind_eq_some_iff.mp he
  refine tE_then hR e1 fun v H1 f s1 R1 h1 => ⟨G, own, S, o1, R1, e2, fun H2 s2 => ⟨G, own, S, o2, R1.same s2, e3, fun H3 s3 => ?_⟩⟩
  have s13 := s2.trans s3
  exact slc_sem (fun a h => fresh_mono (s1.trans s13) a h) ((h1.same s13).rep) he (on_of hp (s1.trans s13))
theorem e_rev {k : Nat} {p1 p2 p3 : Pos} (ha : PE X x (tE X.K Γ a)) : PE X (.Subscript x (.Slice none none (some (.UnaryOp .USub (.Constant (.int 1) k p1) p2)) p3) pos) (tE X.K Γ (.rev a)) := by
  refine pe_imp (pe_revL ha) fun σ H Q ⟨G, own, S, r, hR, he, hp⟩ => ?_
  simp only [ev] at he
  obtain ⟨u, e1, he⟩ := Option.bind_eq_some_iff.mp he
  refine tE_then hR e1 fun v H' f s R1 h1 => ?_
  have z := h1.rep
  split at he
  · rename_i xs e
    rw [e] at z
    cases he
    cases z with
    | lst l1 s1 => exact ⟨_, _, rfl, l1.seq, fun p np => hp _ _ [p] (s.trans (same_new np)) (newL_rep np (fresh_mono s p np) s1.reverse)⟩
  · cases he

theorem RepFs.everyA {P : Addr → Prop} (st : Nat) : ∀ (k : Nat) {vs : List V} {ds : List PyData}, RepFs K H P vs ds → RepFs K H P (Sw.everyA st k vs) (Sw.everyA st k ds)
  | _, _, [], h => by cases h; simp only [Sw.everyA]; exact .nil
  | 0, _, d :: ds, h => by
    cases h with
    | cons h hs => simp only [Sw.everyA]; exact .cons h (RepFs.everyA st (st - 1) hs)
  | k + 1, _, d :: ds, h => by
    cases h with
    | cons h hs => simp only [Sw.everyA]; exact RepFs.everyA st k hs
theorem stp_some {u : R} {y z : PyData} {r : R} (h : stpR u y z = some r) : ∃ l c xs, y = .int ((l : Nat) : Int) ∧ z = .int ((c : Nat) : Int) ∧ 0 < c ∧ u.d = .list xs ∧ r = newL (Sw.everyA c 0 (xs.drop l)) u.al := by
  unfold stpR at h
  split at h
  · rename_i l k xs e
    split at h
    · rename_i q
      cases h
      exact ⟨l.toNat, k.toNat, xs, by rw [Int.toNat_of_nonneg q.1], by rw [Int.toNat_of_nonneg (by omega)], by omega, e, rfl⟩
    · cases h
  · cases h
theorem evB_int {l : Ex} {S : Sw.S} {r : R} {i : Int} (hn : notNon l = true) (h : ev Γ l S = some r) (e : r.d = .int i) : evB Γ l S = some (some i) := by
  have : evB Γ l S = (ev Γ l S).bind fun y => (intD y.d).map some := by
    unfold evB
    cases l <;> first | rfl | cases hn
  rw [this, h]
  show (intD r.d).map some = _
  rw [e]
  rfl
theorem stp_end {u r : R} {y z : PyData} {v : V} {Q : VK} {H3 : Hp} {f : List Addr} (s : Same H H3) (h1 : RepR K G own (Fresh H) H3 u v f) (he : stpR u y z = some r) (hp : Post K G own H r Q) {l : Nat} {lo : Option Int} (hy : y = .int (l : Int)) (hlo : lo = some (l : Int) ∨ (lo = none ∧ l = 0)) {c : Nat} (hz : z = .int (c : Int)) :
    ∃ a xs l c', v = .ref a ∧ SqL K H3 a xs ∧ (lo = some ((l : Nat) : Int) ∨ (lo = none ∧ l = 0)) ∧ some (c : Int) = some ((c' : Nat) : Int) ∧ 0 < c' ∧ ∀ p, H3 p = none → Q (.ref p) (upd H3 p (.lst (Sw.everyA c' 0 (xs.drop l)))) := by
  obtain ⟨l', c', xs, e1, e2, hc, e3, rfl⟩ := stp_some he
  rw [hy] at e1
  rw [hz] at e2
  have e4 : l' = l := by have := PyData.int.inj e1; omega
  have e5 : c' = c := by have := PyData.int.inj e2; omega
  subst e4 e5
  have k := h1.rep
  rw [e3] at k
  cases k with
  | lst l1 s1 => exact ⟨_, _, l', c', rfl, l1.seq, hlo, rfl, hc, fun p np => hp _ _ [p] (s.trans (same_new np)) (newL_rep np (fresh_mono s p np) (RepFs.everyA _ _ (s1.drop _)))⟩
theorem e_stp {lo k : Ex} {p2 : Pos} (ha : PE X x (tE X.K Γ a)) (hl : PE X y (tE X.K Γ lo)) (hk : PE X z (tE X.K Γ k)) (nl : notNon lo = true) (nk : notNon k = true) :
    PE X (.Subscript x (.Slice (some y) none (some z) p2) pos) (tE X.K Γ (.stp a lo k)) := by
  refine pe_imp (pe_stpL ha (po_yes hl nl) (po_yes hk nk)) fun σ H Q ⟨G, own, S, r, hR, he, hp⟩ => ?_
  simp only [ev] at he
  obtain ⟨u, e1, he⟩ := Option.bind_eq_some_iff.mp he
  obtain ⟨o1, e2, he⟩ := Option.bind_eq_some_iff.mp he
  obtain ⟨o2, e3, he⟩ := Option.bind_eq_some_iff.mp he
  obtain ⟨l, c, xs, hy, hz, _⟩ := stp_some he
  refine tE_then hR e1 fun v H1 f s1 R1 h1 => ⟨G, own, S, _, R1, evB_int nl e2 hy, fun H2 s2 => ⟨G, own, S, _, R1.same s2, evB_int nk e3 hz, fun H3 s3 => ?_⟩⟩
  have s13 := s2.trans s3
  exact stp_end (s1.trans s13) (h1.same s13) he hp hy (.inl rfl) hz
theorem e_stp0 {k : Ex} {p2 : Pos} (ha : PE X x (tE X.K Γ a)) (hk : PE X z (tE X.K Γ k)) (nk : notNon k = true) :
    PE X (.Subscript x (.Slice none none (some z) p2) pos) (tE X.K Γ (.stp a (.int 0) k)) := by
  refine pe_imp (pe_stpL (tl := tBd X.K Γ .non) ha po_no (po_yes hk nk)) fun σ H Q ⟨G, own, S, r, hR, he, hp⟩ => ?_
  simp only [ev] at he
  obtain ⟨u, e1, he⟩ := Option.bind_eq_some_iff.mp he
  obtain ⟨o1, e2, he⟩ := Option.bind_eq_some_iff.mp he
  cases e2
  obtain ⟨o2, e3, he⟩ := Option.bind_eq_some_iff.mp he
  obtain ⟨l, c, xs, hy, hz, _⟩ := stp_some he
  have hl0 : l = 0 := by have := PyData.int.inj hy; omega
  refine tE_then hR e1 fun v H1 f s1 R1 h1 => ⟨G, own, S, none, R1, rfl, fun H2 s2 => ⟨G, own, S, _, R1.same s2, evB_int nk e3 hz, fun H3 s3 => ?_⟩⟩
  have s13 := s2.trans s3
  exact stp_end (l := l) (s1.trans s13) (h1.same s13) he hp hy (.inr ⟨rfl, hl0⟩) hz

/-! ### calls -/
theorem star_any : ∀ {es : Exs} {ys : List Expr} {C : Ctx} (env : Env) (pos : Pos), chkEs C es ys = true → (backTo pos (starEach ys env)).any (·.1) = false
  | .nil, [], _, _, _, _ => rfl
  | .cons e es, y :: ys, C, env, pos, h => by
    simp only [chkEs, Bool.and_eq_true] at h
    rw [star_ok h.1.1]
    show (false || (backTo pos (starEach ys env)).any (·.1)) = false
    rw [star_any env pos h.2]
    rfl
  | .nil, _ :: _, _, _, _, h => by simp [chkEs] at h
  | .cons _ _, [], _, _, _, h => by simp [chkEs] at h
theorem run_fnG {CK : PySem.W.Frag} {pins : List (Addr × Obj)} {s : Shared} {Q : VK} {us : List Value} {vs : List V} {f : Addr} {fd : FuncData} {ps : List Str} {sp : Sp} (Fn : FnG X.prog X.w X.K X.mg X.base n f fd ps sp) (hr : Room n X.A) (hg : X.A.guards = some []) (hb : Binds X.K fd ps [])
    (I : Inv X pins σ H s) (r : Vals vs us) (h : sp vs H Q E0) : wpAny (model X.prog X.w) X.A (call (.ref f) us) (EP X pins σ Q) X.xe s := by
  have hl : (us ++ []).length = ps.length := by rw [List.append_nil, ← r.length]; exact Fn.len _ _ _ _ h
  have hb' := hb s us I.kIn hl
  rw [List.append_nil] at hb'
  refine wpAny_call (codeAny_mono (Fn.run X.A X.stack s H ⟨us, []⟩ us vs Q hr hg I.env0 hb' r h) fun r s' hq => ?_)
  cases r with
  | error e => exact False.elim hq
  | ok fl =>
    cases fl with
    | ret u => exact I.after hq
    | next => exact False.elim hq
    | brk => exact False.elim hq
    | cont => exact False.elim hq
theorem e_call (hx : XOk Γ n C X) {f : Nat} {x : Str} {p : Pos} {es : Exs} {y : Expr} {ys : List Expr} (hf : C.fns[f]? = some x) (hg : isGl C.sc x = true) (hd : notDbg x = true) (hs : PA X (y :: ys) (tEs X.K Γ es)) (hc : chkEs C es (y :: ys) = true) :
    PE X (.Call (.Name x p) (y :: ys) [] pos) (tE X.K Γ (.call f es)) := by
  obtain ⟨a, fd, ps, hm, hk, hb, F⟩ := hx.fns f x hf
  unfold notDbg at hd
  simp only [Bool.and_eq_true, Bool.not_eq_true'] at hd
  have st : notStar y = true := by
    cases es with
    | nil => simp [chkEs] at hc
    | cons e es => simp only [chkEs, Bool.and_eq_true] at hc; exact hc.1.1
  have an : (backTo pos (starEach ys X.env)).any (·.1) = false := by
    cases es with
    | nil => simp [chkEs] at hc
    | cons e es => simp only [chkEs, Bool.and_eq_true] at hc; exact star_any X.env pos hc.2
  have base : PE X (.Call (.Name x p) (y :: ys) [] pos) (fun σ H Q => tEs X.K Γ es σ H fun vs H1 => spOf X.K Γ f vs H1 Q E0) := by
    refine ⟨fun pins s σ H Q I h => ?_⟩
    refine wpAny_Call_Name_kw (ld_glob I (gl_ok hx hg) hm ?_ hd.1)
    refine PySem.W.callWith_K (h₀ := X.base) I.ok.mod.kin hk (thn (hs.run pos pins s σ H _ I h) fun us s1 ⟨vs, H1, I1, r, q⟩ => ⟨I1.kIn, ?_⟩) (star_ok st _ _) an
    exact run_fnG (CK := X.K) F hx.room hx.gd hb I1 r q
  refine pe_imp base fun σ H Q ⟨G, own, S, r, hR, he, hp⟩ => ?_
  simp only [ev] at he
  obtain ⟨us, e1, he⟩ := Option.bind_eq_some_iff.mp he
  obtain ⟨⟨o, d⟩, e2, he⟩ := Option.map_eq_some_iff.mp he
  subst he
  refine ⟨G, own, S, us, hR, e1, fun vs H1 g s1 h1 => ?_⟩
  refine ⟨fun a => Pal G own (Fresh H) (us.flatMap R.al) a ∧ H1 a ≠ none, us.map R.d, o, d, fun a z => z.2, ?_, e2, fun v H' g' s2 h2 => ?_⟩
  · refine RepFs.go ⟨fun a xs q r => ⟨r, q, fun z => ?_⟩, fun _ _ r => r⟩ _ _ h1.rep
    rcases r with r | ⟨_, r⟩ <;> rw [r] at z <;> cases z
  · refine hp v H' g' (s1.trans s2) ?_
    have k : ∀ a, Pal (fun a => Pal G own (Fresh H) (us.flatMap R.al) a ∧ H1 a ≠ none) (fun _ => []) (Fresh H1) [] a → Pal G own (Fresh H) (us.flatMap R.al) a := fun a z => by
      rcases z with z | ⟨i, _, z⟩ | z
      · exact z.1
      · cases z
      · exact .inr (.inr (fresh_mono s1 a z))
    by_cases pl : plain d = true
    · have e : mk d o [] = Rp d := if_pos pl
      have e' : mk d o (if o = .dp then [] else us.flatMap R.al) = Rp d := if_pos pl
      dsimp only at h2 ⊢
      rw [e] at h2
      rw [e']
      exact ⟨h2.1, RepF.plain_any _ _ pl h2.2⟩
    · have e : mk d o [] = ⟨d, o, []⟩ := if_neg pl
      have e' : mk d o (if o = .dp then [] else us.flatMap R.al) = ⟨d, o, if o = .dp then [] else us.flatMap R.al⟩ := if_neg pl
      dsimp only at h2 ⊢
      rw [e] at h2
      rw [e']
      cases o with
      | dp => exact ⟨h2.1, h2.2.1, fun a ha => fresh_mono s1 a (h2.2.2 a ha)⟩
      | sh =>
        obtain ⟨a, xs, ds, z1, z2, z3, z4, z5, z6⟩ := h2
        exact ⟨a, xs, ds, z1, z2, z3, fresh_mono s1 a z4, z5, z6.sames (Same.refl _) fun b p => ⟨k b p.1, p.2⟩⟩
      | fz => exact ⟨h2.1, h2.2.sames (Same.refl _) k⟩
      | lsh => exact ⟨h2.1, h2.2.sames (Same.refl _) k⟩
      | ldp => exact ⟨h2.1, h2.2.sames (Same.refl _) k⟩
end
end Sw
end

section
set_option Elab.async false
set_option linter.all false
set_option maxRecDepth 100000
set_option maxHeartbeats 4000000
/-! Built-ins by name, methods of lists that change nothing. -/
namespace Sw
open PySem PySem.Spec PyProof.Rows L2
section
variable {X : Cx} {Γ : Cal} {n : Nat} {C : Ctx} {K : PySem.W.Frag} {G : Addr → Prop} {own : OM} {S : Sw.S} {σ : L2.St} {H H' : Hp} {Fr Fr' : Addr → Prop} {pos : Pos}
variable {a b c : Ex} {x y z : Expr}
theorem pa_1 (ha : PE X x (tE X.K Γ a)) (st : notStar x = true) : PA X [x] (tCons (tE X.K Γ a) tNil) := pa_cons ha pa_nil (star_ok st _ _)
theorem pa_2 (ha : PE X x (tE X.K Γ a)) (hb : PE X y (tE X.K Γ b)) (st : notStar x = true) (st2 : notStar y = true) : PA X [x, y] (tCons (tE X.K Γ a) (tCons (tE X.K Γ b) tNil)) := pa_cons ha (pa_1 hb st2) (star_ok st _ _)
theorem any_1 (st : notStar y = true) (env : Env) (pos : Pos) : (backTo pos (starEach [y] env)).any (·.1) = false := by rw [star_ok st]; rfl
theorem e_blt (hx : XOk Γ n C X) {f : Blt} {p : Pos} (hg : isGl C.sc f.nm = true) (ha : PE X x (tE X.K Γ a)) (st : notStar x = true) (hf : f ≠ .lenset ∧ f ≠ .sortedset) (hr : ∀ q r s, a ≠ .rng q r s) :
    PE X (.Call (.Name f.nm p) [x] [] pos) (tE X.K Γ (.blt f a)) := by
  have fin : ∀ {σ : L2.St} {H : Hp} {Q : VK}, tE X.K Γ (.blt f a) σ H Q → tCB (bltRule X.K f) (tCons (tE X.K Γ a) tNil) σ H Q := by
    intro σ H Q ⟨G, own, S, r, hR, he, hp⟩
    simp only [ev] at he
    obtain ⟨u, e1, he⟩ := Option.bind_eq_some_iff.mp he
    exact tE_then hR e1 fun v H' f s R1 h1 => blt_sem (fun a h => fresh_mono s a h) h1.rep hf he (on_of hp s)
  have g := gl_ok hx hg
  have hu := hx.hu
  have hc := hx.calm
  have pa := pa_1 ha st
  have s1 : starEach [x] X.env = (false, eval x X.env) :: starEach [] X.env := star_ok st _ _
  have mm : X.mg f.nm = none := hx.blt _ (by cases f <;> decide)
  cases f with
  | len => exact pe_imp (pe_callB call_len g mm PySem.boot_len pa (by decide) (by decide) s1 rfl) fun _ _ _ h => fin h
  | abs => exact pe_imp (pe_callB call_abs g mm (by decide +kernel) pa (by decide) (by decide) s1 rfl) fun _ _ _ h => fin h
  | minL => exact pe_imp (pe_callB (cr_minX hc (by omega)) g mm (by decide +kernel) pa (by decide) (by decide) s1 rfl) fun _ _ _ h => fin h
  | maxL => exact pe_imp (pe_callB (cr_maxX hc (by omega)) g mm (by decide +kernel) pa (by decide) (by decide) s1 rfl) fun _ _ _ h => fin h
  | sum => exact pe_imp (pe_callB (cr_sum hc) g mm (by decide +kernel) pa (by decide) (by decide) s1 rfl) fun _ _ _ h => fin h
  | sorted => exact pe_imp (pe_callB (cr_sortX (by omega)) g mm (by decide +kernel) pa (by decide) (by decide) s1 rfl) fun _ _ _ h => fin h
  | list => exact pe_imp (pe_callTy call_list_of g mm (by decide +kernel) pa (by decide) (by decide) s1 rfl) fun _ _ _ h => fin h
  | tuple => exact pe_imp (pe_callTy call_tuple_of g mm (by decide +kernel) pa (by decide) (by decide) s1 rfl) fun _ _ _ h => fin h
  | repr => exact pe_imp (pe_callB (cr_repr (by omega) hx.gd) g mm (by decide +kernel) pa (by decide) (by decide) s1 rfl) fun _ _ _ h => fin h
  | int => exact pe_imp (pe_callTy call_int1 g mm (by decide +kernel) pa (by decide) (by decide) s1 rfl) fun _ _ _ h => fin h
  | lenset => exact absurd rfl hf.1
  | sortedset => exact absurd rfl hf.2

/-! ### sets -/
theorem RepFs.intss {P : Addr → Prop} : ∀ {vs : List V} {ds : List PyData} {ts : List (List Int)}, RepFs K H P vs ds → intss? ds = some ts → ∃ ks : List (Addr × List Int), vs = ks.map (fun p => V.ref p.1) ∧ ts = ks.map (·.2) ∧ ∀ p ∈ ks, SqT K H p.1 (p.2.map V.int)
  | _, [], _, h, e => by cases h; cases e; exact ⟨[], rfl, rfl, by simp⟩
  | _, d :: ds, _, h, e => by
    cases h with
    | cons h hs =>
      cases d with
      | tuple t =>
        unfold intss? at e
        obtain ⟨ns, e1, e⟩ := Option.bind_eq_some_iff.mp e
        obtain ⟨r, e2, rfl⟩ := Option.map_eq_some_iff.mp e
        cases h with
        | tup h1 h2 =>
          obtain ⟨rfl, _⟩ := h2.ints e1
          obtain ⟨ks, rfl, rfl, k⟩ := RepFs.intss hs e2
          refine ⟨(_, ns) :: ks, rfl, rfl, fun p hp => ?_⟩
          rcases List.mem_cons.mp hp with rfl | hp
          · exact h1
          · exact k p hp
      | _ => cases e
theorem lenset_some {u r : R} (h : bltR .lenset u = some r) : ∃ xs n, u.d = .list xs ∧ setSize xs = some n ∧ r = Rp (.int (n : Nat)) := by
  obtain ⟨d, o, al⟩ := u
  cases d with
  | list xs =>
    obtain ⟨n, e, rfl⟩ := Option.map_eq_some_iff.mp (show (setSize xs).map (fun n => Rp (.int (n : Nat))) = some r from by unfold bltR at h; exact h)
    exact ⟨xs, n, rfl, e, rfl⟩
  | _ => cases h
theorem sortset_some {u r : R} (h : bltR .sortedset u = some r) : ∃ xs ns, u.d = .list xs ∧ sortSet xs = some ns ∧ r = ⟨.list (ns.map .int), .dp, []⟩ := by
  obtain ⟨d, o, al⟩ := u
  cases d with
  | list xs =>
    obtain ⟨n, e, rfl⟩ := Option.map_eq_some_iff.mp (show (sortSet xs).map (fun ns => (⟨.list (ns.map .int), .dp, []⟩ : R)) = some r from h)
    exact ⟨xs, n, rfl, e, rfl⟩
  | _ => cases h
theorem ints_rep0 {P : Addr → Prop} : ∀ (ns : List Int), RepFs K H P (ns.map V.int) (ns.map PyData.int)
  | [] => .nil
  | n :: ns => .cons (.int n) (ints_rep0 ns)
theorem plains_ints : ∀ ns : List Int, plains (ns.map PyData.int) = true
  | [] => rfl
  | n :: ns => by rw [List.map_cons, plains, plains_ints ns]; rfl
theorem e_lenset (hx : XOk Γ n C X) {p p2 q : Pos} (hg : isGl C.sc "len" = true) (hg2 : isGl C.sc "set" = true) (ha : PE X x (tE X.K Γ a)) (st : notStar x = true) :
    PE X (.Call (.Name "len" p) [.Call (.Name "set" p2) [x] [] q] [] pos) (tE X.K Γ (.blt .lenset a)) := by
  refine pe_imp (pe_lenSetX hx.calm (by have := hx.hu; omega) (gl_ok hx hg) (hx.blt _ (by decide)) (gl_ok hx hg2) (hx.blt _ (by decide)) ha (star_ok st _ _)) fun σ H Q ⟨G, own, S, r, hR, he, hp⟩ => ?_
  simp only [ev] at he
  obtain ⟨u, e1, he⟩ := Option.bind_eq_some_iff.mp he
  obtain ⟨xs, m, e2, e3, rfl⟩ := lenset_some he
  refine tE_then hR e1 fun v H' f s R1 h1 => ?_
  have z := h1.rep
  rw [e2] at z
  cases z with
  | lst l1 s1 =>
    unfold setSize at e3
    split at e3
    · rename_i ns e4
      split at e3
      · rename_i e5
        cases e3
        obtain ⟨rfl, _⟩ := s1.ints e4
        exact .inl ⟨_, ns, rfl, l1.seq, e5, hp _ _ [] s (repR_int _)⟩
      · cases e3
    · obtain ⟨ts, e4, e3⟩ := Option.bind_eq_some_iff.mp e3
      split at e3
      · rename_i e5
        cases e3
        obtain ⟨ks, rfl, rfl, kk⟩ := s1.intss e4
        exact .inr ⟨_, ks, rfl, l1.seq, kk, by simpa using e5, hp _ _ [] s (repR_int _)⟩
      · cases e3
theorem e_srtset (hx : XOk Γ n C X) {p p2 q : Pos} (hg : isGl C.sc "sorted" = true) (hg2 : isGl C.sc "set" = true) (ha : PE X x (tE X.K Γ a)) (st : notStar x = true) :
    PE X (.Call (.Name "sorted" p) [.Call (.Name "set" p2) [x] [] q] [] pos) (tE X.K Γ (.blt .sortedset a)) := by
  refine pe_imp (pe_srtSet hx.calm (gl_ok hx hg) (hx.blt _ (by decide)) (gl_ok hx hg2) (hx.blt _ (by decide)) ha (star_ok st _ _)) fun σ H Q ⟨G, own, S, r, hR, he, hp⟩ => ?_
  simp only [ev] at he
  obtain ⟨u, e1, he⟩ := Option.bind_eq_some_iff.mp he
  obtain ⟨xs, ms, e2, e3, rfl⟩ := sortset_some he
  refine tE_then hR e1 fun v H' f s R1 h1 => ?_
  have z := h1.rep
  rw [e2] at z
  cases z with
  | lst l1 s1 =>
    obtain ⟨ns, e4, e3⟩ := Option.bind_eq_some_iff.mp e3
    split at e3
    · rename_i e5
      cases e3
      obtain ⟨rfl, _⟩ := s1.ints e4
      refine ⟨_, ns, rfl, l1.seq, e5.1, e5.2, fun p np => hp _ _ [p] (s.trans (same_new np)) ?_⟩
      have := newL_rep (K := X.K) (G := G) (own := own) (al := []) (xs := (srtS ns).map PyData.int) np (fresh_mono s p np) (ints_rep0 (srtS ns))
      unfold newL at this
      rw [if_pos (plains_ints _)] at this
      exact this
    · cases e3
/-! ### ranges as lists -/
theorem range3_one : ∀ (m : Nat) (lo : Int), range3 lo 1 m = (List.range m).map fun i => PyData.int (lo + (i : Nat))
  | 0, lo => rfl
  | m + 1, lo => by
    rw [List.range_succ_eq_map, List.map_cons, List.map_map, range3, range3_one m (lo + 1)]
    congr 1
    · simp
    · apply List.map_congr_left
      intro i _
      simp only [Function.comp]
      congr 1
      omega
theorem plains_range3 : ∀ (m : Nat) (lo st : Int), plains (range3 lo st m) = true
  | 0, _, _ => rfl
  | m + 1, lo, st => by rw [range3, plains, plains_range3 m]; rfl
theorem rgV_rep {P : Addr → Prop} (lo hi : Int) : RepFs K H P (rgV lo hi) (range3 lo 1 (hi - lo).toNat) := by
  rw [range3_one]
  unfold rgV
  induction (List.range (hi - lo).toNat) with
  | nil => exact .nil
  | cons i r ih => exact .cons (.int _) ih
theorem rgOk_one {l h : Int} (k : rngOk l h 1 = true) : RgOk l h := by
  unfold rngOk at k
  simp only [Bool.and_eq_true, decide_eq_true_eq] at k
  have e : rangeN l h 1 = (h - l).toNat := rfl
  have b : big = 4611686018427387904 := rfl
  rw [e, b] at k
  have m : maxLen = 16777216 := rfl
  exact ⟨by omega, by omega, by omega, by omega, by omega⟩
theorem rng_some {x y : PyData} {xs : List PyData} (e : rngD x y (.int 1) = some xs) : ∃ l h, x = .int l ∧ y = .int h ∧ rngOk l h 1 = true ∧ xs = range3 l 1 (h - l).toNat := by
  unfold rngD at e
  split at e
  · rename_i l h k e3
    split at e
    · cases e; cases e3; exact ⟨_, _, rfl, rfl, by assumption, rfl⟩
    · cases e
  · cases e
/-- list(range(..)), tuple(range(..)), once the range's ends are known -/
theorem lr_sem {f : Blt} {l h : Int} {r : R} {Q : VK} {s : Same H H'} (hf : f = .list ∨ f = .tuple) (k : rngOk l h 1 = true) (e : bltR f ⟨.list (range3 l 1 (h - l).toNat), .dp, []⟩ = some r) (hp : Post K G own H r Q) :
    ∀ q, H' q = none → (f = .list → Q (.ref q) (upd H' q (.lst (rgV l h)))) ∧ (f = .tuple → Q (.ref q) (upd H' q (.tup (rgV l h)))) := by
  intro q nq
  refine ⟨fun ef => ?_, fun ef => ?_⟩
  · subst ef
    cases e
    exact hp _ _ [q] (s.trans (same_new nq)) (newL_rep nq (fresh_mono s q nq) (rgV_rep l h))
  · subst ef
    cases e
    exact hp _ _ [] (s.trans (same_new nq)) (repR_mk (.tup (.inl (.inl upd_same)) (rgV_rep l h)))
theorem tE_mono {e : Ex} {Q Q' : VK} (h : tE K Γ e σ H Q) (k : ∀ v H', Q v H' → Q' v H') : tE K Γ e σ H Q' := by
  obtain ⟨G, own, S, r, hR, he, hp⟩ := h
  exact ⟨G, own, S, r, hR, he, fun v H' f s rr => k v H' (hp v H' f s rr)⟩
theorem tRg2_mono {Q Q' : Int → Int → Hp → Prop} (h : tRg2 (tE K Γ a) (tE K Γ b) σ H Q) (k : ∀ l h H', Q l h H' → Q' l h H') : tRg2 (tE K Γ a) (tE K Γ b) σ H Q' :=
  tE_mono h fun v H1 h => tE_mono h fun w H2 ⟨i, j, e1, e2, q⟩ => ⟨i, j, e1, e2, k _ _ _ q⟩
theorem tRg1_mono {Q Q' : Int → Int → Hp → Prop} (h : tRg1 (tE K Γ a) σ H Q) (k : ∀ l h H', Q l h H' → Q' l h H') : tRg1 (tE K Γ a) σ H Q' :=
  tE_mono h fun v H1 ⟨i, e1, q⟩ => ⟨i, e1, k _ _ _ q⟩
theorem e_lr2 (hx : XOk Γ n C X) {f : Blt} {p p2 pos2 : Pos} (hf : f = .list ∨ f = .tuple) (hg : isGl C.sc f.nm = true) (hg2 : isGl C.sc "range" = true) (ha : PE X x (tE X.K Γ a)) (hb : PE X y (tE X.K Γ b)) (st : notStar x = true) (st2 : notStar y = true) :
    PE X (.Call (.Name f.nm p) [.Call (.Name "range" p2) [x, y] [] pos2] [] pos) (tE X.K Γ (.blt f (.rng a b (.int 1)))) := by
  have g := gl_ok hx hg
  have pr := prg_2 (p := p2) (pos := pos2) (gl_ok hx hg2) (hx.blt _ (by decide)) ha hb (star_ok st _ _) (star_ok st2 _ _) (any_1 st2 _ _)
  have mm : X.mg f.nm = none := hx.blt _ (by cases f <;> decide)
  have fin : ∀ {σ : L2.St} {H : Hp} {Q : VK}, tE X.K Γ (.blt f (.rng a b (.int 1))) σ H Q → tRg2 (tE X.K Γ a) (tE X.K Γ b) σ H fun l h H1 => RgOk l h ∧ ∀ q, H1 q = none → (f = .list → Q (.ref q) (upd H1 q (.lst (rgV l h)))) ∧ (f = .tuple → Q (.ref q) (upd H1 q (.tup (rgV l h)))) := by
    intro σ H Q ⟨G, own, S, r, hR, he, hp⟩
    simp only [ev] at he
    obtain ⟨u, e1, he⟩ := Option.bind_eq_some_iff.mp he
    obtain ⟨u1, e2, e1⟩ := Option.bind_eq_some_iff.mp e1
    obtain ⟨u2, e3, e1⟩ := Option.bind_eq_some_iff.mp e1
    obtain ⟨u3, e4, e1⟩ := Option.bind_eq_some_iff.mp e1
    cases e4
    obtain ⟨xs, e5, e1⟩ := Option.map_eq_some_iff.mp e1
    cases e1
    obtain ⟨l, h, z1, z2, z3, rfl⟩ := rng_some e5
    refine tE_two hR e2 e3 fun v w H' f1 g1 s R1 h1 h2 => ?_
    have k1 := h1.rep; have k2 := h2.rep
    rw [z1] at k1; rw [z2] at k2
    cases k1; cases k2
    exact ⟨l, h, rfl, rfl, rgOk_one z3, lr_sem (s := s) hf z3 he hp⟩
  rcases hf with rfl | rfl
  · refine pe_imp (pe_listRg hx.calm g mm pr rfl) fun σ H Q h => ?_
    have := fin h
    refine tRg2_mono this fun l h H1 k => ⟨k.1, fun q nq => (k.2 q nq).1 rfl⟩
  · refine pe_imp (pe_tupRg hx.calm g mm pr rfl) fun σ H Q h => ?_
    have := fin h
    refine tRg2_mono this fun l h H1 k => ⟨k.1, fun q nq => (k.2 q nq).2 rfl⟩
theorem e_lr1 (hx : XOk Γ n C X) {f : Blt} {p p2 pos2 : Pos} (hf : f = .list ∨ f = .tuple) (hg : isGl C.sc f.nm = true) (hg2 : isGl C.sc "range" = true) (hb : PE X y (tE X.K Γ b)) (st2 : notStar y = true) :
    PE X (.Call (.Name f.nm p) [.Call (.Name "range" p2) [y] [] pos2] [] pos) (tE X.K Γ (.blt f (.rng (.int 0) b (.int 1)))) := by
  have g := gl_ok hx hg
  have pr := prg_1 (p := p2) (pos := pos2) (gl_ok hx hg2) (hx.blt _ (by decide)) hb (star_ok st2 _ _)
  have mm : X.mg f.nm = none := hx.blt _ (by cases f <;> decide)
  have fin : ∀ {σ : L2.St} {H : Hp} {Q : VK}, tE X.K Γ (.blt f (.rng (.int 0) b (.int 1))) σ H Q → tRg1 (tE X.K Γ b) σ H fun l h H1 => RgOk l h ∧ ∀ q, H1 q = none → (f = .list → Q (.ref q) (upd H1 q (.lst (rgV l h)))) ∧ (f = .tuple → Q (.ref q) (upd H1 q (.tup (rgV l h)))) := by
    intro σ H Q ⟨G, own, S, r, hR, he, hp⟩
    simp only [ev] at he
    obtain ⟨u, e1, he⟩ := Option.bind_eq_some_iff.mp he
    obtain ⟨u1, e2, e1⟩ := Option.bind_eq_some_iff.mp e1
    obtain ⟨u2, e3, e1⟩ := Option.bind_eq_some_iff.mp e1
    obtain ⟨u3, e4, e1⟩ := Option.bind_eq_some_iff.mp e1
    cases e4; cases e2
    obtain ⟨xs, e5, e1⟩ := Option.map_eq_some_iff.mp e1
    cases e1
    obtain ⟨l, h, z1, z2, z3, rfl⟩ := rng_some e5
    cases z1
    refine tE_then hR e3 fun w H' g1 s R1 h2 => ?_
    have k2 := h2.rep
    rw [z2] at k2
    cases k2
    exact ⟨h, rfl, rgOk_one z3, lr_sem (s := s) hf z3 he hp⟩
  rcases hf with rfl | rfl
  · exact pe_imp (pe_listRg hx.calm g mm pr rfl) fun σ H Q h => tRg1_mono (fin h) fun l h H1 k => ⟨k.1, fun q nq => (k.2 q nq).1 rfl⟩
  · exact pe_imp (pe_tupRg hx.calm g mm pr rfl) fun σ H Q h => tRg1_mono (fin h) fun l h H1 k => ⟨k.1, fun q nq => (k.2 q nq).2 rfl⟩

/-! ### min, max of two, isinstance, index, count -/
theorem e_min2 (hx : XOk Γ n C X) {p : Pos} (hg : isGl C.sc "min" = true) (ha : PE X x (tE X.K Γ a)) (hb : PE X y (tE X.K Γ b)) (st : notStar x = true) (st2 : notStar y = true) : PE X (.Call (.Name "min" p) [x, y] [] pos) (tE X.K Γ (.min2 a b)) := by
  refine pe_imp (pe_callB (call_min2 hx.calm) (gl_ok hx hg) (hx.blt _ (by decide)) (by decide +kernel) (pa_2 ha hb st st2) (by decide) (by decide) (star_ok st _ _) (any_1 st2 _ _)) fun σ H Q ⟨G, own, S, r, hR, he, hp⟩ => ?_
  simp only [ev] at he
  obtain ⟨u, e1, he⟩ := Option.bind_eq_some_iff.mp he
  obtain ⟨w, e2, he⟩ := Option.bind_eq_some_iff.mp he
  refine tE_two hR e1 e2 fun v v' H' f g s R1 h1 h2 => ?_
  have k1 := h1.rep; have k2 := h2.rep
  split at he
  · rename_i i j d1 d2
    rw [d1] at k1; rw [d2] at k2
    cases k1; cases k2; cases he
    refine ⟨i, j, rfl, ?_⟩
    have : (if j < i then j else i) = min i j := by split <;> omega
    rw [this]
    exact hp _ H' [] s (repR_int _)
  · cases he
theorem e_max2 (hx : XOk Γ n C X) {p : Pos} (hg : isGl C.sc "max" = true) (ha : PE X x (tE X.K Γ a)) (hb : PE X y (tE X.K Γ b)) (st : notStar x = true) (st2 : notStar y = true) : PE X (.Call (.Name "max" p) [x, y] [] pos) (tE X.K Γ (.max2 a b)) := by
  refine pe_imp (pe_callB (call_max2 hx.calm) (gl_ok hx hg) (hx.blt _ (by decide)) (by decide +kernel) (pa_2 ha hb st st2) (by decide) (by decide) (star_ok st _ _) (any_1 st2 _ _)) fun σ H Q ⟨G, own, S, r, hR, he, hp⟩ => ?_
  simp only [ev] at he
  obtain ⟨u, e1, he⟩ := Option.bind_eq_some_iff.mp he
  obtain ⟨w, e2, he⟩ := Option.bind_eq_some_iff.mp he
  refine tE_two hR e1 e2 fun v v' H' f g s R1 h1 h2 => ?_
  have k1 := h1.rep; have k2 := h2.rep
  split at he
  · rename_i i j d1 d2
    rw [d1] at k1; rw [d2] at k2
    cases k1; cases k2; cases he
    refine ⟨i, j, rfl, ?_⟩
    have : (if j > i then j else i) = max i j := by split <;> omega
    rw [this]
    exact hp _ H' [] s (repR_int _)
  · cases he
theorem e_isi (hx : XOk Γ n C X) {t : Ty} {p p2 : Pos} (hg : isGl C.sc "isinstance" = true) (hg2 : isGl C.sc t.nm = true) (ha : PE X x (tE X.K Γ a)) (st : notStar x = true) :
    PE X (.Call (.Name "isinstance" p) [x, .Name t.nm p2] [] pos) (tE X.K Γ (.isi a t)) := by
  have m2 : X.mg t.nm = none := hx.blt _ (by cases t <;> decide)
  have hb : PE X (.Name t.nm p2) (tC (.ty t.name)) := pe_bltn (u := .type t.name) (gl_ok hx hg2) m2 (by cases t <;> decide +kernel) rfl (by cases t <;> decide) (by cases t <;> decide)
  have st2 : notStar (.Name t.nm p2) = true := rfl
  refine pe_imp (pe_callB call_isi (gl_ok hx hg) (hx.blt _ (by decide)) (by decide +kernel) (pa_cons ha (pa_cons hb pa_nil rfl) (star_ok st _ _)) (by decide) (by decide) (star_ok st _ _) (any_1 st2 _ _)) fun σ H Q ⟨G, own, S, r, hR, he, hp⟩ => ?_
  simp only [ev] at he
  obtain ⟨u, e1, he⟩ := Option.map_eq_some_iff.mp he
  subst he
  exact tE_then hR e1 fun v H' f s R1 h1 => ⟨v, .ty t.name, _, _, _, rfl, .ty _, tyX_of (RepF.dp _ _ h1.rep), kit_is _ _ t, hp _ H' [] s (repR_bl _)⟩
theorem few_1 (st : notStar y = true) (env : Env) (pos : Pos) : ((backTo pos (starEach [y] env)).all (fun x => !x.1) && (backToKw pos (keywordEach [] env)).all (fun x => x.1.isSome)
      && decide (([y] : List Expr).length + ([] : List Keyword).length + (if ([] : List Keyword).isEmpty then 0 else 1) < 30)) = true := by rw [star_ok st]; rfl
theorem e_index (hx : XOk Γ n C X) {p q : Pos} (hl : (p.endLine == q.line) = true) (hc : notCall0 x = true) (ha : PE X x (tE X.K Γ a)) (hb : PE X y (tE X.K Γ b)) (st : notStar y = true) :
    PE X (.Call (.Attribute x "index" p) [y] [] q) (tE X.K Γ (.index a b)) := by
  refine pe_imp (pe_bm PySem.F.plainAttrs_list PySem.F.slot_list_index PySem.F.type_list_index (mt_indexD (by have := hx.hu; omega)) ha (pa_1 hb st) (base_ok hc _ _) (few_1 st _ _) hl (star_ok st _ _) rfl) fun σ H Q ⟨G, own, S, r, hR, he, hp⟩ => ?_
  simp only [ev] at he
  obtain ⟨u, e1, he⟩ := Option.bind_eq_some_iff.mp he
  obtain ⟨w, e2, he⟩ := Option.bind_eq_some_iff.mp he
  refine tE_then hR e1 fun v H1 f s1 R1 h1 => ?_
  have k1 := h1.rep
  split at he
  · rename_i xs d1
    rw [d1] at k1
    split at he
    · rename_i ok
      obtain ⟨k, e3, he⟩ := Option.map_eq_some_iff.mp he
      subst he
      have k1' := k1
      cases k1 with
      | lst l1 z1 =>
        refine ⟨.inl ⟨rfl, _, l1.seq⟩, tE_then R1 e2 fun v' H2 g s2 R2 h2 => ?_⟩
        unfold inOk at ok
        simp only [Bool.and_eq_true] at ok
        unfold placeD at e3
        rw [List.findIdx?_eq_some_iff_getElem] at e3
        obtain ⟨hlt, e4, e5⟩ := e3
        refine ⟨_, v', w.d, xs, k, xs[k], rfl, rfl, RepF.dp _ _ (k1'.same s2), RepF.dp _ _ h2.rep, ok.2, ok.1, List.getElem?_eq_getElem hlt, e4, fun m z' hm hz => ?_, hp _ H2 [] (s1.trans s2) (repR_int _)⟩
        obtain ⟨hm', rfl⟩ := List.getElem?_eq_some_iff.mp hz
        simpa using e5 m hm
    · cases he
  · cases he
theorem e_count (hx : XOk Γ n C X) {p q : Pos} (hl : (p.endLine == q.line) = true) (hc : notCall0 x = true) (ha : PE X x (tE X.K Γ a)) (hb : PE X y (tE X.K Γ b)) (st : notStar y = true) :
    PE X (.Call (.Attribute x "count" p) [y] [] q) (tE X.K Γ (.count a b)) := by
  refine pe_imp (pe_bm PySem.F.plainAttrs_list PySem.F.slot_list_count PySem.F.type_list_count (mt_countX (by have := hx.hu; omega)) ha (pa_1 hb st) (base_ok hc _ _) (few_1 st _ _) hl (star_ok st _ _) rfl) fun σ H Q ⟨G, own, S, r, hR, he, hp⟩ => ?_
  simp only [ev] at he
  obtain ⟨u, e1, he⟩ := Option.bind_eq_some_iff.mp he
  obtain ⟨w, e2, he⟩ := Option.bind_eq_some_iff.mp he
  refine tE_then hR e1 fun v H1 f s1 R1 h1 => ?_
  have k1 := h1.rep
  split at he
  · rename_i xs d1
    rw [d1] at k1
    split at he
    · rename_i ok
      cases he
      have k1' := k1
      cases k1 with
      | lst l1 z1 =>
        refine ⟨.inl ⟨rfl, _, l1.seq⟩, tE_then R1 e2 fun v' H2 g s2 R2 h2 => ?_⟩
        simp only [Bool.and_eq_true, decide_eq_true_eq] at ok
        have k2 := k1'.same s2
        cases k2 with
        | lst l2 z2 => exact ⟨_, _, _, v', w.d, rfl, rfl, l2.seq, RepFs.dp _ _ z2, RepF.dp _ _ h2.rep, ok.1.1, ok.1.2, ok.2, hp _ H2 [] (s1.trans s2) (repR_int _)⟩
    · cases he
  · cases he
end
end Sw
end

section
set_option Elab.async false
set_option linter.all false
set_option maxRecDepth 100000
set_option maxHeartbeats 4000000
/-! What is walked; comprehensions. -/
namespace Sw
open PySem PySem.Spec PyProof.Rows L2

def Walk (J : It) (vs : List V) (L : List Addr) (H' : Hp) : Prop := ∀ H2 : Hp, (∀ b, b ∈ L → ∀ o, H' b = some o → H2 b = some o) →
  (∀ i, vs.length ≤ i → J.stop i H2) ∧ (∀ i, i < vs.length → J.go i H2) ∧ (∀ i x H3, i < vs.length → J.yld i H2 x H3 → H3 = H2 ∧ vs[i]? = some x)
def tIter (K : PySem.W.Frag) (Γ : Cal) (it : Ex) : TI := fun σ H R => ∃ G own S r xs, Rel K G own S σ H ∧ ev Γ it S = some r ∧ items r.d = some xs ∧
  ∀ J H' vs L, Same H H' → Walk J vs L H' → RepFs K H' (Pal G own (Fresh H) r.al) vs xs → (∀ b, b ∈ L → (Pal G own (Fresh H) r.al b ∧ ∃ ws, Rd H' b (.lst ws)) ∨ ∃ ws, Rd H' b (.tup ws)) → R J H'
def rangeV (lo st : Int) (n : Nat) : List V := (List.range n).map fun i => V.int (lo + (i : Nat) * st)

section
variable {X : Cx} {Γ : Cal} {n : Nat} {C : Ctx} {K : PySem.W.Frag} {G G' : Addr → Prop} {own : OM} {S : Sw.S} {σ : L2.St} {H H' : Hp} {Fr Fr' : Addr → Prop} {pos : Pos}
variable {a b c : Ex} {x y z t : Expr}
theorem i_seq (ha : PE X x (tE X.K Γ a)) : PI X t x (tIter X.K Γ a) := by
  refine ⟨fun pins s σ H R I ⟨G, own, S, r, xs, hR, he, hi, hq⟩ => ?_⟩
  unfold items at hi
  split at hi
  · rename_i ds e
    cases hi
    refine (pi_list ha).run pins s σ H R I (tE_then hR he fun v H' f s R1 h1 => ?_)
    have k := h1.rep
    rw [e] at k
    cases k with
    | @lst a vs _ l1 s1 =>
      refine ⟨a, rfl, ⟨vs, l1.seq⟩, ?_⟩
      rcases l1 with ⟨rd, p⟩ | lk
      · refine hq (Itl X.K a) H' vs [a] s (fun H2 k2 => ?_) s1 fun b hb => .inl ⟨by rw [List.mem_singleton.mp hb]; exact p, vs, by rw [List.mem_singleton.mp hb]; exact rd⟩
        have q2 : SqL X.K H2 a vs := .inl (rd.elim (fun z => .inl (k2 a (by simp) _ z)) fun ⟨o, z⟩ => .inr ⟨o, k2 a (by simp) _ z⟩)
        exact ⟨fun i hi => ⟨vs, q2, hi⟩, fun i hi => ⟨vs, _, q2, List.getElem?_eq_getElem hi⟩, fun i x H3 _ y => ⟨y.1, y.2 vs q2⟩⟩
      · refine hq (Itl X.K a) H' vs [] s (fun H2 k2 => ?_) s1 fun b hb => by cases hb
        have q2 : SqL X.K H2 a vs := (show Lx X.K H2 a vs from .inr lk).seq
        exact ⟨fun i hi => ⟨vs, q2, hi⟩, fun i hi => ⟨vs, _, q2, List.getElem?_eq_getElem hi⟩, fun i x H3 _ y => ⟨y.1, y.2 vs q2⟩⟩
  · rename_i ds e
    cases hi
    refine (pi_tup ha).run pins s σ H R I (tE_then hR he fun v H' f s R1 h1 => ?_)
    have k := h1.rep
    rw [e] at k
    cases k with
    | @tup a vs _ l1 s1 =>
      refine ⟨a, rfl, ⟨vs, l1⟩, ?_⟩
      rcases l1 with rd | lk
      · refine hq (Itt X.K a) H' vs [a] s (fun H2 k2 => ?_) s1 fun b hb => .inr ⟨vs, by rw [List.mem_singleton.mp hb]; exact rd⟩
        have q2 : SqT X.K H2 a vs := .inl (rd.elim (fun z => .inl (k2 a (by simp) _ z)) fun ⟨o, z⟩ => .inr ⟨o, k2 a (by simp) _ z⟩)
        exact ⟨fun i hi => ⟨vs, q2, hi⟩, fun i hi => ⟨vs, _, q2, List.getElem?_eq_getElem hi⟩, fun i x H3 _ y => ⟨y.1, y.2 vs q2⟩⟩
      · refine hq (Itt X.K a) H' vs [] s (fun H2 k2 => ?_) s1 fun b hb => by cases hb
        have q2 : SqT X.K H2 a vs := .inr lk
        exact ⟨fun i hi => ⟨vs, q2, hi⟩, fun i hi => ⟨vs, _, q2, List.getElem?_eq_getElem hi⟩, fun i x H3 _ y => ⟨y.1, y.2 vs q2⟩⟩
  · cases hi
theorem rangeV_rep {P : Addr → Prop} : ∀ (m : Nat) (lo st : Int), RepFs K H P (rangeV lo st m) (range3 lo st m)
  | 0, _, _ => .nil
  | m + 1, lo, st => by
    have ih := rangeV_rep (P := P) m (lo + st) st
    have e : rangeV lo st (m + 1) = V.int lo :: rangeV (lo + st) st m := by
      unfold rangeV
      rw [List.range_succ_eq_map, List.map_cons, List.map_map]
      congr 1
      · simp
      · apply List.map_congr_left
        intro i _
        simp only [Function.comp]
        congr 1
        rw [Int.natCast_succ, Int.add_mul]
        omega
    rw [e, range3]
    exact .cons (.int lo) ih
theorem rangeV_len (lo st : Int) (m : Nat) : (rangeV lo st m).length = m := by simp [rangeV]
theorem rangeV_get (lo st : Int) (m : Nat) {i : Nat} (h : i < m) : (rangeV lo st m)[i]? = some (.int (lo + (i : Nat) * st)) := by simp [rangeV, h]
theorem walk_r (lo : Int) (m : Nat) : Walk (Itr lo m) (rangeV lo 1 m) [] H' := fun H2 _ =>
  ⟨fun i hi => show m ≤ i by rw [rangeV_len] at hi; exact hi, fun i hi => show i < m by rw [rangeV_len] at hi; exact hi, fun i x H3 hi ⟨e1, e2⟩ => by
    rw [rangeV_len] at hi
    refine ⟨e1, ?_⟩
    rw [e2, rangeV_get _ _ _ hi, Int.mul_one]⟩
theorem walk_c (lo st : Int) (m : Nat) : Walk (Itc lo st m) (rangeV lo st m) [] H' := fun H2 _ =>
  ⟨fun i hi => show m ≤ i by rw [rangeV_len] at hi; exact hi, fun i hi => show i < m by rw [rangeV_len] at hi; exact hi, fun i x H3 hi ⟨e1, e2⟩ => by
    rw [rangeV_len] at hi
    refine ⟨e1, ?_⟩
    rw [e2, rangeV_get _ _ _ hi]⟩
theorem rng_of {x y z : PyData} {xs : List PyData} (e : rngD x y z = some xs) : ∃ l h k, x = .int l ∧ y = .int h ∧ z = .int k ∧ rngOk l h k = true ∧ xs = range3 l k (rangeN l h k) := by
  unfold rngD at e
  split at e
  · split at e
    · cases e; exact ⟨_, _, _, rfl, rfl, rfl, by assumption, rfl⟩
    · cases e
  · cases e
theorem i_rng2 (hx : XOk Γ n C X) {p : Pos} (hg : isGl C.sc "range" = true) (ha : PE X x (tE X.K Γ a)) (hb : PE X y (tE X.K Γ b)) (st : notStar x = true) (st2 : notStar y = true) :
    PI X t (.Call (.Name "range" p) [x, y] [] pos) (tIter X.K Γ (.rng a b (.int 1))) := by
  refine ⟨fun pins s σ H R I ⟨G, own, S, r, xs, hR, he, hi, hq⟩ => ?_⟩
  simp only [ev] at he
  obtain ⟨u1, e2, he⟩ := Option.bind_eq_some_iff.mp he
  obtain ⟨u2, e3, he⟩ := Option.bind_eq_some_iff.mp he
  obtain ⟨u3, e4, he⟩ := Option.bind_eq_some_iff.mp he
  cases e4
  obtain ⟨ys, e5, he⟩ := Option.map_eq_some_iff.mp he
  cases he
  cases hi
  obtain ⟨l, h, z1, z2, z3, rfl⟩ := rng_some e5
  refine (pi_range2 (gl_ok hx hg) (hx.blt _ (by decide)) (pa_2 ha hb st st2) (by rw [star_ok st, star_ok st2]; rfl) (by rw [star_ok st2]; rfl)).run pins s σ H R I (tE_two hR e2 e3 fun v w H' f g sm R1 h1 h2 => ?_)
  have k1 := h1.rep; have k2 := h2.rep
  rw [z1] at k1; rw [z2] at k2
  cases k1; cases k2
  have ok := rgOk_one z3
  exact ⟨l, h, rfl, ⟨ok.1, ok.2.1, ok.2.2.1, ok.2.2.2.1⟩, hq _ H' _ [] sm (walk_r l _) (rangeV_rep _ _ _) (fun b hb => by cases hb)⟩
theorem i_rng1 (hx : XOk Γ n C X) {p : Pos} (hg : isGl C.sc "range" = true) (hb : PE X y (tE X.K Γ b)) (st2 : notStar y = true) :
    PI X t (.Call (.Name "range" p) [y] [] pos) (tIter X.K Γ (.rng (.int 0) b (.int 1))) := by
  refine ⟨fun pins s σ H R I ⟨G, own, S, r, xs, hR, he, hi, hq⟩ => ?_⟩
  simp only [ev] at he
  obtain ⟨u1, e2, he⟩ := Option.bind_eq_some_iff.mp he
  obtain ⟨u2, e3, he⟩ := Option.bind_eq_some_iff.mp he
  obtain ⟨u3, e4, he⟩ := Option.bind_eq_some_iff.mp he
  cases e4; cases e2
  obtain ⟨ys, e5, he⟩ := Option.map_eq_some_iff.mp he
  cases he
  cases hi
  obtain ⟨l, h, z1, z2, z3, rfl⟩ := rng_some e5
  cases z1
  refine (pi_range1 (gl_ok hx hg) (hx.blt _ (by decide)) (pa_1 hb st2) (by rw [star_ok st2]; rfl)).run pins s σ H R I (tE_then hR e3 fun w H' g sm R1 h2 => ?_)
  have k2 := h2.rep
  rw [z2] at k2
  cases k2
  have ok := rgOk_one z3
  refine ⟨h, rfl, ok.2.2.1, ok.2.2.2.1, ?_⟩
  have e0 : (h - 0).toNat = h.toNat := by rw [Int.sub_zero]
  rw [e0] at hq
  exact hq _ H' _ [] sm (walk_r 0 _) (rangeV_rep _ _ _) (fun b hb => by cases hb)
theorem rgC_of {l h k : Int} (ok : rngOk l h k = true) : RgC l h k (rangeN l h k) := by
  unfold rngOk at ok
  simp only [Bool.and_eq_true, Bool.or_eq_true, decide_eq_true_eq] at ok
  obtain ⟨⟨⟨⟨b1, b2⟩, b3, b4⟩, ok⟩, _⟩ := ok
  have b : big = 4611686018427387904 := rfl
  rw [b] at b1 b2 b3 b4
  rcases ok with (rfl | rfl) | ⟨⟨⟨o1, o2⟩, o3⟩, o4⟩
  · exact ⟨by decide, by decide, small_one (by omega) (by omega) (by omega) (by omega), rangeSize_nat l h⟩
  · exact RgC.neg (by omega) (by omega) (by omega) (by omega)
  · exact ⟨o1, o2, o3, o4⟩
theorem i_rng3 (hx : XOk Γ n C X) {p : Pos} (hg : isGl C.sc "range" = true) (ha : PE X x (tE X.K Γ a)) (hb : PE X y (tE X.K Γ b)) (hc : PE X z (tE X.K Γ c)) (st : notStar x = true) (st2 : notStar y = true) (st3 : notStar z = true) :
    PI X t (.Call (.Name "range" p) [x, y, z] [] pos) (tIter X.K Γ (.rng a b c)) := by
  refine ⟨fun pins s σ H R I ⟨G, own, S, r, xs, hR, he, hi, hq⟩ => ?_⟩
  simp only [ev] at he
  obtain ⟨u1, e2, he⟩ := Option.bind_eq_some_iff.mp he
  obtain ⟨u2, e3, he⟩ := Option.bind_eq_some_iff.mp he
  obtain ⟨u3, e4, he⟩ := Option.bind_eq_some_iff.mp he
  obtain ⟨ys, e5, he⟩ := Option.map_eq_some_iff.mp he
  cases he
  cases hi
  obtain ⟨l, h, k, z1, z2, z3, ok, rfl⟩ := rng_of e5
  have pa3 : PA X [x, y, z] (tCons (tE X.K Γ a) (tCons (tE X.K Γ b) (tCons (tE X.K Γ c) tNil))) := pa_cons ha (pa_2 hb hc st2 st3) (star_ok st _ _)
  have an : (backTo pos (starEach [y, z] X.env)).any (·.1) = false := by rw [star_ok st2, star_ok st3]; rfl
  refine (pi_range3 (gl_ok hx hg) (hx.blt _ (by decide)) pa3 (star_ok st _ _) an).run pins s σ H R I
    (tE_then hR e2 fun v H1 f s1 R1 h1 => tE_then R1 e3 fun w H2 g s2 R2 h2 => tE_then R2 e4 fun w3 H3 g3 s3 R3 h3 => ?_)
  have k1 := h1.rep; have k2 := h2.rep; have k3 := h3.rep
  rw [z1] at k1; rw [z2] at k2; rw [z3] at k3
  cases k1; cases k2; cases k3
  exact ⟨l, h, k, _, rfl, rgC_of ok, hq _ H3 _ [] (s1.trans (s2.trans s3)) (walk_c l k _) (rangeV_rep _ _ _) (fun b hb => by cases hb)⟩

/-! ### slots stored one after the other -/
def setMany : List Nat → List PyData → Sw.S → Sw.S
  | i :: is, d :: ds, σ => setMany is ds (σ.set i (some (.fz, d)))
  | _, _, σ => σ
def setManyV : List Nat → List V → L2.St → L2.St
  | i :: is, v :: vs, σ => setManyV is vs (σ.set i (some v))
  | _, _, σ => σ
def Tg.ix : Tg → List Nat
  | .nm i => [i]
  | .tp is => is
def gNames : List Nat → TGs
  | [] => gNil
  | i :: is => gCons (gName i) (gNames is)
def gOf (K : PySem.W.Frag) : Tg → TG
  | .nm i => gName i
  | .tp is => gTup K is.length (gNames is)
theorem go_many : ∀ (is : List Nat) (ds : List PyData) (S : Sw.S), is.length = ds.length → setTg.go is ds S = setMany is ds S
  | [], [], _, _ => rfl
  | i :: is, d :: ds, S, h => go_many is ds _ (by simpa using h)
theorem gNames_run : ∀ (is : List Nat) (vs : List V) (σ : L2.St) (H : Hp) (Q : L2.St → Hp → Prop), is.length = vs.length → Q (setManyV is vs σ) H → gNames is vs σ H Q
  | [], [], _, _, _, _, q => ⟨rfl, q⟩
  | i :: is, v :: vs, σ, H, Q, h, q => ⟨v, vs, rfl, gNames_run is vs _ H Q (by simpa using h) q⟩
theorem gOf_run {P : Addr → Prop} {tg : Tg} {v : V} {d : PyData} (h : RepF K H P v d) (e : setTg tg d S = some S') : ∃ vs ds, tg.ix.length = vs.length ∧ tg.ix.length = ds.length ∧ S' = setMany tg.ix ds S ∧ RepFs K H P vs ds ∧
    ∀ (σ : L2.St) (Q : L2.St → Hp → Prop), Q (setManyV tg.ix vs σ) H → gOf K tg v σ H Q := by
  cases tg with
  | nm i => cases e; exact ⟨[v], [d], rfl, rfl, rfl, .cons h .nil, fun σ Q q => q⟩
  | tp is =>
    cases d with
    | tuple ds =>
      simp only [setTg] at e
      split at e
      · rename_i hl
        cases e
        cases h with
        | tup l1 s1 =>
          have k := s1.length
          exact ⟨_, ds, by show is.length = _; omega, hl, go_many is ds S hl, s1, fun σ Q q => ⟨_, _, rfl, l1, by omega, gNames_run is _ σ H Q (by omega) q⟩⟩
      · cases e
    | _ => simp [setTg] at e
theorem any_tgs : ∀ {is : List Nat} {es : List Expr} (env : Env), tgNames C is es = true → (assignEach es env).length = is.length ∧ (assignEach es env).findIdx? (·.1) = none ∧ ∀ e ∈ es, ∃ x p, e = .Name x p
  | [], [], _, _ => ⟨rfl, rfl, by simp⟩
  | i :: is, e :: es, env, h => by
    cases e with
    | Name x p =>
      simp only [tgNames, Bool.and_eq_true] at h
      obtain ⟨a1, a2, a3⟩ := any_tgs env h.2
      refine ⟨?_, ?_, fun e he => ?_⟩
      · show (assignEach es env).length + 1 = _
        rw [a1]; rfl
      · have : assignEach (.Name x p :: es) env = (false, assign (.Name x p) env) :: assignEach es env := rfl
        rw [this, List.findIdx?_cons]
        simp [a2]
      · rcases List.mem_cons.mp he with rfl | he
        · exact ⟨_, _, rfl⟩
        · exact a3 e he
    | _ => simp [tgNames] at h
  | [], _ :: _, _, h => by simp [tgNames] at h
  | _ :: _, [], _, h => by simp [tgNames] at h
theorem name_ok (hx : XOk Γ n C X) {i : Nat} {x : Str} {p : Pos} (h : tgName C i x = true) : PG X (.Name x p) (gName i) := by
  unfold tgName at h
  simp only [Bool.and_eq_true, Bool.or_eq_true, decide_eq_true_eq] at h
  obtain ⟨h1, h2⟩ := h
  have nd : X.N.Nodup := by rw [hx.hN]; exact hx.nd
  have hi : X.N[i]? = some x := by rw [hx.hN]; exact h1
  rcases h2 with h2 | ⟨h2, h3⟩
  · have l : X.env.scope.names.lookup x = some .local := by
      rw [hx.sc]
      unfold isLoc at h2
      split at h2
      · assumption
      · cases h2
    exact pg_name nd hi (.inl l) (.inr l)
  · have l : X.env.scope.names.lookup x = some .cell := by
      rw [hx.sc]
      unfold isCell at h2
      split at h2
      · assumption
      · cases h2
    exact pg_name nd hi (.inr l) (.inl (by rw [hx.fn]; exact h3))
theorem names_ok (hx : XOk Γ n C X) : ∀ {is : List Nat} {es : List Expr}, tgNames C is es = true → PGs X es (gNames is)
  | [], [], _ => pgs_nil
  | i :: is, e :: es, h => by
    cases e with
    | Name x p =>
      simp only [tgNames, Bool.and_eq_true] at h
      exact pgs_cons (name_ok hx h.1) (names_ok hx h.2) rfl
    | _ => simp [tgNames] at h
  | [], _ :: _, h => by simp [tgNames] at h
  | _ :: _, [], h => by simp [tgNames] at h
theorem tg_ok (hx : XOk Γ n C X) {tg : Tg} (h : chkTg C tg t = true) : PG X t (gOf X.K tg) := by
  cases tg with
  | nm i => cases t <;> simp [chkTg] at h; exact name_ok hx h
  | tp is =>
    cases t <;> simp [chkTg] at h
    obtain ⟨a1, a2, _⟩ := any_tgs X.env h
    exact pg_tup hx.calm (names_ok hx h) a1 a2
end
end Sw
end

section
set_option Elab.async false
set_option linter.all false
set_option maxRecDepth 100000
set_option maxHeartbeats 4000000
/-! Slots frozen, emptied, stored; comprehensions. -/
namespace Sw
open PySem PySem.Spec PyProof.Rows L2
section
variable {X : Cx} {Γ : Cal} {n : Nat} {C : Ctx} {K : PySem.W.Frag} {G G' : Addr → Prop} {own : OM} {S : Sw.S} {σ : L2.St} {H H' : Hp} {Fr Fr' : Addr → Prop} {pos : Pos}
theorem fzSlot2 (s : Slot) : fzSlot (fzSlot s) = fzSlot s := by cases s <;> rfl
theorem freezeL_len : ∀ (al : List Nat) (S : Sw.S), (freezeL S al).length = S.length
  | [], S => rfl
  | i :: al, S => by
    rw [freezeL, freezeL_len al]
    split
    · rw [List.length_set]
    · rfl
theorem freezeL_get : ∀ (al : List Nat) (S : Sw.S) (j : Nat), (freezeL S al)[j]? = if j ∈ al then (S[j]?).map fzSlot else S[j]?
  | [], S, j => by simp [freezeL]
  | i :: al, S, j => by
    rw [freezeL, freezeL_get al]
    cases q : S[i]? with
    | none =>
      dsimp only
      by_cases e : j = i
      · subst e; simp [q]
      · simp [e]
    | some s =>
      dsimp only
      have hi : i < S.length := (List.getElem?_eq_some_iff.mp q).1
      by_cases e : j = i
      · subst e
        rw [List.getElem?_set_self hi]
        simp [q, fzSlot2]
      · rw [List.getElem?_set_ne (Ne.symm e)]
        simp [e]
def offs (own : OM) (al : List Nat) : OM := fun i => if i ∈ al then [] else own i
theorem offs_sub {al : List Nat} {i : Nat} {a : Addr} (h : a ∈ offs own al i) : i ∉ al ∧ a ∈ own i := by
  unfold offs at h
  split at h
  · cases h
  · exact ⟨by assumption, h⟩
theorem fz_of {o : Own} {d : PyData} {v : V} {f : List Addr} {P : Addr → Prop} (h : SlotOk K H G f o d v) (k : ∀ a, a ∈ f → P a) (kg : ∀ a, G a → P a) : RepF K H P v d := by
  cases o with
  | fz => exact h.2.sames (Same.refl H) kg
  | dp => exact RepO.fz _ _ _ k h
  | ldp => exact RepO.fz _ _ _ k h
  | sh =>
    obtain ⟨a, xs, ds, rfl, rfl, e3, e4, e5⟩ := h
    exact .lst (.inl ⟨.inl e4, k a (by rw [e3]; simp)⟩) (e5.sames (Same.refl H) kg)
  | lsh =>
    obtain ⟨a, xs, ds, rfl, rfl, e3, e4, e5⟩ := h
    exact .lst (.inl ⟨.inl e4, k a (by rw [e3]; simp)⟩) (e5.sames (Same.refl H) kg)
theorem SlotOk.wide {o : Own} {d : PyData} {v : V} {f : List Addr} (h : SlotOk K H G f o d v) (kg : ∀ a, G a → G' a) : SlotOk K H G' f o d v := by
  cases o with
  | fz => exact ⟨h.1, h.2.sames (Same.refl H) kg⟩
  | dp => exact h
  | ldp => exact h
  | sh =>
    obtain ⟨a, xs, ds, e1, e2, e3, e4, e5⟩ := h
    exact ⟨a, xs, ds, e1, e2, e3, e4, e5.sames (Same.refl H) kg⟩
  | lsh =>
    obtain ⟨a, xs, ds, e1, e2, e3, e4, e5⟩ := h
    exact ⟨a, xs, ds, e1, e2, e3, e4, e5.sames (Same.refl H) kg⟩
theorem Rel.freeze (h : Rel K G own S σ H) (al : List Nat) (hG : ∀ a, G a → G' a) (ha : ∀ i, i ∈ al → ∀ a, a ∈ own i → G' a) (hd : ∀ i, i ∉ al → ∀ a, a ∈ own i → ¬ G' a) (hg : ∀ a, G' a → H a ≠ none) :
    Rel K G' (offs own al) (freezeL S al) σ H := by
  refine ⟨by rw [freezeL_len]; exact h.len, fun i o d e => ?_, fun i e => ?_, fun i => ?_, fun i j a h1 h2 => h.dj i j a (offs_sub h1).2 (offs_sub h2).2, fun i a h1 => hd i (offs_sub h1).1 a (offs_sub h1).2, hg⟩
  · rw [freezeL_get] at e
    by_cases hi : i ∈ al
    · rw [if_pos hi] at e
      cases q : S[i]? with
      | none => rw [q] at e; cases e
      | some s =>
        rw [q] at e
        cases s with
        | none => cases e
        | some p =>
          obtain ⟨o', d'⟩ := p
          cases e
          obtain ⟨v, e1, k⟩ := h.slot i o' d q
          exact ⟨v, e1, by unfold offs; rw [if_pos hi], fz_of k (ha i hi) hG⟩
    · rw [if_neg hi] at e
      obtain ⟨v, e1, k⟩ := h.slot i o d e
      refine ⟨v, e1, ?_⟩
      unfold offs
      rw [if_neg hi]
      exact k.wide hG
  · unfold offs
    split
    · rfl
    · rename_i hi
      refine h.emp i fun o d q => ?_
      have := e o d
      rw [freezeL_get, if_neg hi] at this
      exact this q
  · unfold offs
    split
    · simp
    · exact h.nd i
/-- more places may be frozen -/
theorem Rel.more (h : Rel K G own S σ H) (hG : ∀ a, G a → G' a) (hd : ∀ i, ∀ a, a ∈ own i → ¬ G' a) (hg : ∀ a, G' a → H a ≠ none) : Rel K G' own S σ H :=
  ⟨h.len, fun i o d e => let ⟨v, e1, k⟩ := h.slot i o d e; ⟨v, e1, k.wide hG⟩, h.emp, h.nd, h.dj, fun i a ha => hd i a ha, hg⟩
def put (own : OM) (i : Nat) (f : List Addr) : OM := fun j => if j = i then f else own j
theorem put_same (i : Nat) (f : List Addr) : put own i f i = f := if_pos rfl
theorem put_ne {i j : Nat} (f : List Addr) (h : j ≠ i) : put own i f j = own j := if_neg h
theorem Rel.put (h : Rel K G own S σ H) {i : Nat} {o : Own} {d : PyData} {v : V} {f : List Addr} (hi : i < σ.length) (k : SlotOk K H G f o d v) (nd : f.Nodup) (dj : ∀ j, j ≠ i → ∀ a, a ∈ f → a ∉ own j) (dis : ∀ a, a ∈ f → ¬ G a) :
    Rel K G (put own i f) (S.set i (some (o, d))) (σ.set i (some v)) H := by
  have hS : i < S.length := by rw [h.len]; exact hi
  refine ⟨by simp [h.len], fun j o' d' e => ?_, fun j e => ?_, fun j => ?_, fun j j' a h1 h2 => ?_, fun j a h1 => ?_, h.gin⟩
  · by_cases ej : j = i
    · subst ej
      rw [List.getElem?_set_self hS] at e
      cases e
      exact ⟨v, List.getElem?_set_self hi, by rw [put_same]; exact k⟩
    · rw [List.getElem?_set_ne (Ne.symm ej)] at e
      obtain ⟨w, e1, k'⟩ := h.slot j o' d' e
      exact ⟨w, by rw [List.getElem?_set_ne (Ne.symm ej)]; exact e1, by rw [put_ne _ ej]; exact k'⟩
  · by_cases ej : j = i
    · subst ej
      exact absurd (List.getElem?_set_self hS) (e o d)
    · rw [put_ne _ ej]
      refine h.emp j fun o' d' q => e o' d' ?_
      rw [List.getElem?_set_ne (Ne.symm ej)]; exact q
  · by_cases ej : j = i
    · subst ej; rw [put_same]; exact nd
    · rw [put_ne _ ej]; exact h.nd j
  · by_cases e1 : j = i
    · subst e1
      rw [put_same] at h1
      by_cases e2 : j' = j
      · exact e2.symm
      · rw [put_ne _ e2] at h2; exact absurd h2 (dj j' e2 a h1)
    · rw [put_ne _ e1] at h1
      by_cases e2 : j' = i
      · subst e2; rw [put_same] at h2; exact absurd h1 (dj j e1 a h2)
      · rw [put_ne _ e2] at h2; exact h.dj j j' a h1 h2
  · by_cases ej : j = i
    · subst ej; rw [put_same] at h1; exact dis a h1
    · rw [put_ne _ ej] at h1; exact h.dis j a h1
theorem Rel.put_fz (h : Rel K G own S σ H) {i : Nat} {d : PyData} {v : V} (k : RepF K H G v d) : Rel K G (Sw.put own i []) (S.set i (some (.fz, d))) (σ.set i (some v)) H := by
  by_cases hi : i < σ.length
  · exact h.put hi ⟨rfl, k⟩ (by simp) (fun _ _ _ z => by cases z) (fun _ z => by cases z)
  · have e1 : S.set i (some (.fz, d)) = S := List.set_eq_of_length_le (by rw [h.len]; omega)
    have e2 : σ.set i (some v) = σ := List.set_eq_of_length_le (by omega)
    have e3 : Sw.put own i [] = own := by
      funext j
      by_cases ej : j = i
      · subst ej
        rw [put_same]
        refine (h.emp j fun o d q => ?_).symm
        rw [List.getElem?_eq_none (by rw [h.len]; omega)] at q
        cases q
      · exact put_ne _ ej
    rw [e1, e2, e3]
    exact h
theorem Rel.empty (h : Rel K G own S σ H) (i : Nat) (σ' : L2.St) (hl : σ'.length = σ.length) (hσ : ∀ j, j ≠ i → σ'[j]? = σ[j]?) : Rel K G (Sw.put own i []) (S.set i none) σ' H := by
  refine ⟨by simp [h.len, hl], fun j o d e => ?_, fun j e => ?_, fun j => ?_, fun j j' a h1 h2 => ?_, fun j a h1 => ?_, h.gin⟩
  · by_cases ej : j = i
    · subst ej
      by_cases hj : j < S.length
      · rw [List.getElem?_set_self hj] at e; cases e
      · rw [List.getElem?_eq_none (by simp; omega)] at e; cases e
    · rw [List.getElem?_set_ne (Ne.symm ej)] at e
      obtain ⟨w, e1, k'⟩ := h.slot j o d e
      exact ⟨w, by rw [hσ j ej]; exact e1, by rw [put_ne _ ej]; exact k'⟩
  · by_cases ej : j = i
    · subst ej; rw [put_same]
    · rw [put_ne _ ej]
      refine h.emp j fun o' d' q => e o' d' ?_
      rw [List.getElem?_set_ne (Ne.symm ej)]; exact q
  · by_cases ej : j = i
    · subst ej; rw [put_same]; simp
    · rw [put_ne _ ej]; exact h.nd j
  · by_cases e1 : j = i
    · subst e1; rw [put_same] at h1; cases h1
    · rw [put_ne _ e1] at h1
      by_cases e2 : j' = i
      · subst e2; rw [put_same] at h2; cases h2
      · rw [put_ne _ e2] at h2; exact h.dj j j' a h1 h2
  · by_cases ej : j = i
    · subst ej; rw [put_same] at h1; cases h1
    · rw [put_ne _ ej] at h1; exact h.dis j a h1
def wipeS (S : Sw.S) : List Nat → Sw.S
  | [] => S
  | v :: vs => (wipeS S vs).set v none
theorem offs_nil : offs own [] = own := by funext i; simp [offs]
theorem put_offs (i : Nat) (is : List Nat) : put (offs own is) i [] = offs own (i :: is) := by
  funext j
  unfold put offs
  by_cases e : j = i
  · simp [e]
  · by_cases e2 : j ∈ is <;> simp [e, e2]
theorem Rel.wipe (h : Rel K G own S σ H) : ∀ is : List Nat, Rel K G (offs own is) (wipeS S is) (L2.wipe σ is) H
  | [] => by rw [offs_nil]; exact h
  | i :: is => by
    rw [← put_offs]
    exact (Rel.wipe h is).empty i _ (show ((L2.wipe σ is).set i none).length = _ by simp) (fun j ej => show ((L2.wipe σ is).set i none)[j]? = _ by rw [List.getElem?_set_ne (Ne.symm ej)])
theorem offs_idem (i : Nat) (is : List Nat) (hi : i ∈ is) : put (offs own is) i [] = offs own is := by
  funext j
  unfold put offs
  by_cases e : j = i
  · subst e; simp [hi]
  · simp [e]
theorem Rel.many (is0 : List Nat) : ∀ (is : List Nat) (ds : List PyData) (vs : List V) {S : Sw.S} {σ : L2.St}, (∀ i ∈ is, i ∈ is0) → Rel K G (offs own is0) S σ H → RepFs K H G vs ds → Rel K G (offs own is0) (setMany is ds S) (setManyV is vs σ) H
  | [], _, _, _, _, _, h, _ => by simp only [setMany, setManyV]; exact h
  | i :: is, [], vs, _, _, _, h, k => by cases k; exact h
  | i :: is, d :: ds, _, S, σ, hs, h, k => by
    cases k with
    | cons k ks =>
      have h' := h.put_fz (i := i) k
      rw [offs_idem i is0 (hs i (by simp))] at h'
      exact Rel.many is0 is ds _ (fun j hj => hs j (by simp [hj])) h' ks
theorem many_set : ∀ (is : List Nat) (ds : List PyData) (S : Sw.S) (j : Nat), is.length = ds.length → j ∈ is → setMany is ds (S.set j none) = setMany is ds S
  | [], [], _, _, _, hj => by cases hj
  | i :: is, d :: ds, S, j, hl, hj => by
    rw [setMany, setMany]
    by_cases e : i = j
    · subst e; rw [List.set_set]
    · rw [List.set_comm _ _ (Ne.symm e)]
      exact many_set is ds _ j (by simpa using hl) (by simpa [Ne.symm e] using hj)
theorem many_wipe (is : List Nat) (ds : List PyData) (S : Sw.S) (hl : is.length = ds.length) : ∀ js : List Nat, (∀ j ∈ js, j ∈ is) → setMany is ds (wipeS S js) = setMany is ds S
  | [], _ => rfl
  | j :: js, h => by
    rw [wipeS, many_set is ds _ j hl (h j (by simp))]
    exact many_wipe is ds S hl js fun k hk => h k (by simp [hk])
theorem wipe_at : ∀ {is : List Nat} {σ : L2.St} {j : Nat}, (L2.wipe σ is)[j]? = if j ∈ is then (σ[j]?).map (fun _ => none) else σ[j]?
  | [], σ, j => by simp [L2.wipe]
  | i :: is, σ, j => by
    unfold L2.wipe
    by_cases e : j = i
    · subst e
      by_cases hj : j < σ.length
      · rw [List.getElem?_set_self (by rw [wipe_length]; exact hj)]
        simp [List.getElem?_eq_getElem hj]
      · rw [List.getElem?_eq_none (by simp [wipe_length]; omega)]
        simp [List.getElem?_eq_none (Nat.le_of_not_lt hj)]
    · rw [List.getElem?_set_ne (Ne.symm e), wipe_at]
      simp [e]
theorem manyV_at : ∀ {is : List Nat} {vs : List V} {σ : L2.St} {j : Nat}, j ∉ is → (setManyV is vs σ)[j]? = σ[j]?
  | [], _, _, _, _ => by simp [setManyV]
  | i :: is, [], _, _, _ => by simp [setManyV]
  | i :: is, v :: vs, σ, j, h => by
    rw [setManyV, manyV_at (by simp at h; exact h.2), List.getElem?_set_ne (by simp at h; exact fun e => h.1 e.symm)]
theorem manyV_len : ∀ (is : List Nat) (vs : List V) (σ : L2.St), (setManyV is vs σ).length = σ.length
  | [], _, _ => by simp [setManyV]
  | i :: is, [], _ => by simp [setManyV]
  | i :: is, v :: vs, σ => by rw [setManyV, manyV_len]; simp
theorem wipe_many (is : List Nat) (vs : List V) (σ : L2.St) : L2.wipe (setManyV is vs (L2.wipe σ is)) is = L2.wipe σ is := by
  apply List.ext_getElem?
  intro j
  rw [wipe_at, wipe_at]
  by_cases h : j ∈ is
  · simp only [h, if_true]
    by_cases hj : j < σ.length
    · rw [List.getElem?_eq_getElem (by rw [manyV_len, wipe_length]; exact hj), List.getElem?_eq_getElem hj]
      rfl
    · rw [List.getElem?_eq_none (by rw [manyV_len, wipe_length]; omega), List.getElem?_eq_none (by omega)]
  · simp only [h, if_false]
    rw [manyV_at h, wipe_at, if_neg h]
theorem names_len : ∀ {is : List Nat} {es : List Expr}, tgNames C is es = true → es.length = is.length
  | [], [], _ => rfl
  | i :: is, e :: es, h => by cases e <;> simp [tgNames] at h; simp [names_len h.2]
  | [], _ :: _, h => by simp [tgNames] at h
  | _ :: _, [], h => by simp [tgNames] at h
theorem own_ix {tg : Tg} {t : Expr} (h : chkTg C tg t = true) : (ownOf tg t).map (·.2) = tg.ix := by
  cases tg with
  | nm i => cases t <;> simp [chkTg] at h; rfl
  | tp is =>
    cases t <;> simp [chkTg] at h
    simp only [ownOf, Tg.ix]
    rw [List.map_snd_zip]
    rw [List.length_map, names_len h]
    exact Nat.le_refl _
end
end Sw
end

section
set_option Elab.async false
set_option linter.all false
set_option maxRecDepth 100000
set_option maxHeartbeats 4000000
/-! Comprehensions; every expression. -/
namespace Sw
open PySem PySem.Spec PyProof.Rows L2
section
variable {X : Cx} {Γ : Cal} {n : Nat} {C : Ctx} {K : PySem.W.Frag} {G G' : Addr → Prop} {own own' : OM} {S : Sw.S} {σ : L2.St} {H H' : Hp} {Fr Fr' : Addr → Prop} {pos : Pos}
/-- a value's rep at another heap, where its places stay -/
theorem RepR.go2 {r : R} {v : V} {f : List Addr} (h : RepR K G own Fr H r v f) (k : ∀ a xs, Pal G own Fr r.al a → Rd H a (.lst xs) → Rd H' a (.lst xs)) (kf : ∀ a, Fr a → ∀ xs, H a = some (.lst xs) → H' a = some (.lst xs)) (ht : ∀ a xs, Rd H a (.tup xs) → Rd H' a (.tup xs)) : RepR K G own Fr H' r v f := by
  unfold RepR at h ⊢
  split at h
  · exact ⟨RepO.go ht _ _ _ (fun a ha xs e => kf a (h.2.2 a ha) xs e) h.1, h.2⟩
  · obtain ⟨a, xs, ds, e1, e2, e3, e4, e5, e6⟩ := h
    exact ⟨a, xs, ds, e1, e2, e3, e4, kf a e4 _ e5, RepFs.go ⟨fun b ys p r => ⟨k b ys p.1 r, p⟩, ht⟩ _ _ e6⟩
  · exact ⟨h.1, RepF.go ⟨fun b ys p r => ⟨k b ys p r, p⟩, ht⟩ _ _ h.2⟩
theorem RepRs.upd {D : Addr} {o : HO} {ws : List V} (hD : H D = some (.lst ws)) (hP : ∀ al a, Pal G own Fr al a → a ≠ D) : ∀ {rs : List R} {vs : List V} {f : List Addr}, RepRs K G own Fr H rs vs f → RepRs K G own Fr (L2.upd H D o) rs vs f
  | _, _, _, .nil => .nil
  | _, _, _, .cons h hs d => by
    have kr : ∀ a (u : HO), a ≠ D → Rd H a u → Rd (L2.upd H D o) a u := fun a u ne r => r.elim (fun z => .inl (by rw [upd_ne ne]; exact z)) fun ⟨w, z⟩ => .inr ⟨w, by rw [upd_ne ne]; exact z⟩
    refine .cons (h.go2 (fun a xs p r => kr a _ (hP _ a p) r) (fun a p xs e => by rw [upd_ne (hP [] a (.inr (.inr p)))]; exact e) fun a xs r => kr a _ (fun e => ?_) r) (RepRs.upd hD hP hs) d
    subst e
    rcases r with r | ⟨w, r⟩ <;> rw [hD] at r <;> cases r
/-- the new list's rep, over the outer slots -/
theorem comp_fin {G1 : Addr → Prop} {own1 : OM} {Fr1 : Addr → Prop} {rs : List R} {vs : List V} {f : List Addr} {D : Addr} {al : List Nat} (h : RepRs K G1 own1 Fr1 H rs vs f) (hD : H D = some (.lst vs)) (hP : ∀ al a, Pal G1 own1 Fr1 al a → a ≠ D) (hF : Fr D)
    (kg : ∀ a, G1 a → Pal G own Fr al a) (ko : ∀ i a, a ∈ own1 i → a ∈ own i) (kf : ∀ a, Fr1 a → Fr a) : ∃ g, RepR K G own Fr H (listOf rs al) (.ref D) g := by
  unfold listOf
  by_cases k : rs.all R.ok = true
  · obtain ⟨g, h1, h2, h3⟩ := h.deep k
    refine ⟨D :: g, ?_⟩
    rw [if_pos k]
    have ng : D ∉ g := fun z => hP [] D (.inr (.inr (h.nodes D (h3 D z)).2)) rfl
    refine ⟨.lst hD h1, List.nodup_cons.mpr ⟨ng, h2⟩, fun a ha => ?_⟩
    rcases List.mem_cons.mp ha with rfl | ha
    · exact hF
    · exact kf a (h.nodes a (h3 a ha)).2
  · refine ⟨[D], ?_⟩
    rw [if_neg k]
    refine ⟨D, vs, rs.map R.d, rfl, rfl, rfl, hF, hD, h.rep.sames (Same.refl H) fun b p => ⟨?_, hP _ b p⟩⟩
    rcases p with p | ⟨i, hi, p⟩ | p
    · exact Pal.imp (fun _ q => q) (fun i hi => List.mem_append_left _ hi) b (kg b p)
    · exact .inr (.inl ⟨i, List.mem_append_right _ hi, ko i b p⟩)
    · exact .inr (.inr (kf b p))
theorem RepRs.snoc {r : R} {v : V} {g : List Addr} (h2 : RepR K G own Fr H r v g) : ∀ {rs : List R} {vs : List V} {f : List Addr}, RepRs K G own Fr H rs vs f → (∀ a, a ∈ g → a ∉ f) → RepRs K G own Fr H (rs ++ [r]) (vs ++ [v]) (f ++ g)
  | _, _, _, .nil, d => by
    have := RepRs.cons h2 (RepRs.nil (K := K) (G := G) (own := own) (Fr := Fr) (H := H)) (by simp)
    simpa using this
  | _, _, _, .cons h hs d', d => by
    rw [List.append_assoc]
    refine .cons h (RepRs.snoc h2 hs fun a ha hb => d a ha (List.mem_append_right _ hb)) fun a ha hb => ?_
    rcases List.mem_append.mp hb with hb | hb
    · exact d' a ha hb
    · exact d a hb (List.mem_append_left _ ha)
theorem blk_ok (hx : XOk Γ n C X) {scope : Scope} (s : Shared) (H : Hp) (A : Addr) (cl : List (Str × Addr)) (fp : List Addr) : XOk Γ n (C.blk scope) (X.blk s H scope (compEnvC scope cl A X.env) fp) where
  hN := hx.hN
  nd := hx.nd
  sc := by
    show relabel scope X.env = relS scope C.sc
    rw [← hx.sc]
    rfl
  fn := fun _ => rfl
  calm := hx.calm
  xe := rfl
  room := hx.room
  gd := hx.gd
  blt := hx.blt
  fns := hx.fns
theorem comp_sem {tg : Tg} {it c e : Ex} {Q : VK} (h : tE X.K Γ (.comp tg it c e) σ H Q) : tLc (tIter X.K Γ it) (gOf X.K tg) (tT X.K Γ c) (tE X.K Γ e) tg.ix σ H Q := by
  obtain ⟨G, own, S, r, hR, hev, hp⟩ := h
  simp only [ev] at hev
  obtain ⟨ri, e1, hev⟩ := Option.bind_eq_some_iff.mp hev
  obtain ⟨xs, e2, hev⟩ := Option.bind_eq_some_iff.mp hev
  split at hev
  case isFalse => cases hev
  rename_i hlen
  obtain ⟨rs, e3, hev⟩ := Option.map_eq_some_iff.mp hev
  subst hev
  refine ⟨G, own, S, ri, xs, hR, e1, e2, fun J H1 vs L s1 hw hv hL D hD => ?_⟩
  have hvl := hv.length
  -- the outer slots' lists, and what is new, are frozen within
  have trk : ∀ i a, a ∈ own i → H1 a ≠ none := fun i a ha z => by
    obtain ⟨ys, q⟩ := hR.nodes ha
    rw [s1 a _ q] at z; cases z
  have R1 : Rel X.K (fun a => Pal G own (Fresh H) ri.al a ∧ H1 a ≠ none) (offs own ri.al) (freezeL S ri.al) σ H1 := by
    refine (hR.same s1).freeze ri.al (fun a g => ⟨.inl g, (hR.same s1).gin a g⟩) (fun i hi a ha => ⟨.inr (.inl ⟨i, hi, ha⟩), trk i a ha⟩) (fun i hi a ha z => ?_) fun a z => z.2
    rcases z.1 with z | ⟨j, hj, z⟩ | z
    · exact hR.dis i a ha z
    · exact hi (hR.dj i j a ha z ▸ hj)
    · obtain ⟨ys, q⟩ := hR.nodes ha
      have z' : H a = none := z
      rw [z'] at q; cases q
  have R2 := R1.wipe tg.ix
  have hv1 : RepFs X.K H1 (fun a => Pal G own (Fresh H) ri.al a ∧ H1 a ≠ none) vs xs := RepFs.go ⟨fun a ys p rd => ⟨rd, p, fun z => by rcases rd with rd | ⟨w, rd⟩ <;> rw [z] at rd <;> cases rd⟩, fun _ _ r => r⟩ _ _ hv
  have hPD : ∀ al a, Pal (fun a => Pal G own (Fresh H) ri.al a ∧ H1 a ≠ none) (offs (offs own ri.al) tg.ix) (fun a => H1 a = none ∧ a ≠ D) al a → a ≠ D := fun al a p => by
    rcases p with p | ⟨i, _, p⟩ | p
    · exact fun e => p.2 (e ▸ hD)
    · exact fun e => trk i a (offs_sub (offs_sub p).2).2 (e ▸ hD)
    · exact p.2
  refine ⟨fun i m Hc => m + i = vs.length ∧ ∃ rs1 us f rs2, Same H1 Hc ∧ Hc D = some (.lst us) ∧ RepRs X.K (fun a => Pal G own (Fresh H) ri.al a ∧ H1 a ≠ none) (offs (offs own ri.al) tg.ix) (fun a => H1 a = none ∧ a ≠ D) Hc rs1 us f ∧
      compL (fun x => setTg tg x (freezeL S ri.al)) (fun s => ev Γ c s) (fun s => ev Γ e s) (xs.drop i) = some rs2 ∧ rs1 ++ rs2 = rs ∧ us.length ≤ i, ⟨vs.length, rfl, [], [], [], rs, same_new hD, upd_same, .nil, e3, rfl, Nat.le_refl _⟩, ?_⟩
  rintro i m Hc ⟨hm, rs1, us, f, rs2, sc, cD, cR, cC, cE, cl⟩
  have keepL : ∀ b, b ∈ L → ∀ o, H1 b = some o → Hc b = some o := fun b _ o z => sc b o z
  obtain ⟨w1, w2, w3⟩ := hw Hc keepL
  by_cases hlt : i < vs.length
  · right
    refine ⟨w2 i hlt, fun H' => ∃ rs1 us f rs2, Same H1 H' ∧ H' D = some (.lst us) ∧ RepRs X.K (fun a => Pal G own (Fresh H) ri.al a ∧ H1 a ≠ none) (offs (offs own ri.al) tg.ix) (fun a => H1 a = none ∧ a ≠ D) H' rs1 us f ∧
      compL (fun x => setTg tg x (freezeL S ri.al)) (fun s => ev Γ c s) (fun s => ev Γ e s) (xs.drop (i + 1)) = some rs2 ∧ rs1 ++ rs2 = rs ∧ us.length ≤ i + 1, fun H' h' => ⟨m - 1, by omega, by omega, h'⟩, fun v H' hy => ?_⟩
    obtain ⟨rfl, hvi⟩ := w3 i v H' hlt hy
    have hxl : i < xs.length := by omega
    obtain ⟨v', ev', kv⟩ := hv1.get (List.getElem?_eq_getElem hxl)
    rw [hvi] at ev'
    cases ev'
    rw [List.drop_eq_getElem_cons hxl, compL] at cC
    obtain ⟨Sx, k1, cC⟩ := Option.bind_eq_some_iff.mp cC
    obtain ⟨rc, k2, cC⟩ := Option.bind_eq_some_iff.mp cC
    obtain ⟨ws, ds, l1, l2, eS, kws, run⟩ := gOf_run (K := X.K) (H := H') (P := fun a => Pal G own (Fresh H) ri.al a ∧ H1 a ≠ none) (kv.sames sc fun _ q => q) k1
    refine run _ _ ⟨wipe_many _ _ _, ?_⟩
    have R3 : Rel X.K (fun a => Pal G own (Fresh H) ri.al a ∧ H1 a ≠ none) (offs (offs own ri.al) tg.ix) Sx (setManyV tg.ix ws (L2.wipe σ tg.ix)) H' := by
      have := Rel.many tg.ix tg.ix ds ws (fun _ q => q) (R2.same sc) kws
      rw [many_wipe tg.ix ds _ l2 tg.ix (fun _ q => q)] at this
      rw [eS]
      exact this
    have frr : ∀ {Ha : Hp}, Same H' Ha → ∀ a, Fresh Ha a → H1 a = none ∧ a ≠ D := fun sa a z => by
      refine ⟨sc.free (sa.free z), fun q => ?_⟩
      subst q
      have : H' a = none := sa.free z
      rw [cD] at this; cases this
    cases hb : rc.d with
    | bool b =>
      rw [hb] at cC
      refine ⟨_, _, Sx, rc, b, R3, k2, hb, fun H3 s3 => ?_⟩
      cases b with
      | true =>
        obtain ⟨re, k3, cC⟩ := Option.bind_eq_some_iff.mp cC
        obtain ⟨rs3, k4, cC⟩ := Option.map_eq_some_iff.mp cC
        subst cC
        rw [if_pos rfl]
        refine tE_then (R3.same s3) k3 fun yv H4 g s4 R4 h4 => ?_
        have s34 := s3.trans s4
        have hD4 : H4 D = some (.lst us) := s34 D _ cD
        have nl : us.length < sizeLine := by rw [sizeLine_max]; omega
        refine ⟨us, hD4, nl, rs1 ++ [re], us ++ [yv], f ++ g, rs3, ?_, upd_same, ?_, k4, by rw [← cE]; simp, by simp; omega⟩
        · exact fun b o z => by
            have nb : b ≠ D := ne_of_none z hD
            rw [upd_ne nb]
            exact (sc.trans s34) b o z
        · have c4 := cR.same s34
          have h4' : RepR X.K (fun a => Pal G own (Fresh H) ri.al a ∧ H1 a ≠ none) (offs (offs own ri.al) tg.ix) (fun a => H1 a = none ∧ a ≠ D) H4 re yv g := h4.fr (fun a z => frr s3 a z)
          refine RepRs.upd hD4 hPD (RepRs.snoc h4' c4 fun a ha hb => ?_)
          have z1 : H3 a = none := (h4.nodes a ha).2
          obtain ⟨⟨ys, z2⟩, _⟩ := cR.nodes a hb
          rw [s3 a _ z2] at z1; cases z1
      | false =>
        rw [if_neg Bool.false_ne_true]
        exact ⟨rs1, us, f, rs2, sc.trans s3, s3 D _ cD, cR.same s3, cC, cE, by omega⟩
    | _ => rw [hb] at cC; cases cC
  · left
    refine ⟨w1 i (by omega), ?_⟩
    have : xs.drop i = [] := List.drop_eq_nil_of_le (by omega)
    rw [this, compL] at cC
    cases cC
    rw [List.append_nil] at cE
    subst cE
    obtain ⟨g, fin⟩ := comp_fin (G := G) (own := own) (Fr := Fresh H) (al := ri.al) cR cD hPD (s1.free hD) (fun a z => z.1) (fun i a z => (offs_sub (offs_sub z).2).2) (fun a z => s1.free z.1)
    exact hp _ Hc g (s1.trans sc) fin
theorem e_comp (hx : XOk Γ n C X) {tg : Tg} {it c e : Ex} {y t i : Expr} {ifs : List Expr} {scope : Scope} (hi : PI X t i (tIter X.K Γ it)) (ok : blkC C.N C.sc scope (ownOf tg t) = true) (hf : notSet i = true) (ht : chkTg (C.blk scope) tg t = true)
    (hc : ∀ X' : Cx, XOk Γ n (C.blk scope) X' → X'.K = X.K → PTs X' ifs (tT X.K Γ c)) (he : ∀ X' : Cx, XOk Γ n (C.blk scope) X' → X'.K = X.K → PE X' y (tE X.K Γ e)) : PE X (.ListComp y [⟨t, i, ifs, 0⟩] scope pos) (tE X.K Γ (.comp tg it c e)) := by
  have bok : BlkOk X.N X.env.scope scope (ownOf tg t) := by rw [hx.hN, hx.sc]; exact blkOk_by ok
  have nd : X.N.Nodup := by rw [hx.hN]; exact hx.nd
  refine pe_imp (pe_lc (g := gOf X.K tg) hx.calm nd hi bok (fun s H A cl fp => tg_ok (blk_ok hx s H A cl fp) ht) (fun s H A cl fp => hc _ (blk_ok hx s H A cl fp) rfl) (fun s H A cl fp => he _ (blk_ok hx s H A cl fp) rfl) (fold_ok hf _)) fun σ H Q h => ?_
  rw [own_ix ht]
  exact comp_sem h
theorem s_comp (hx : XOk Γ n C X) {tg : Tg} {it c e : Ex} {y t i : Expr} {ifs : List Expr} {scope : Scope} {j : Nat} {z : Str} {py spos : Pos} (hi : PI X t i (tIter X.K Γ it)) (ok : blkC C.N C.sc scope (ownOf tg t) = true) (hf : notSet i = true) (ht : chkTg (C.blk scope) tg t = true)
    (hc : ∀ X' : Cx, XOk Γ n (C.blk scope) X' → X'.K = X.K → PTs X' ifs (tT X.K Γ c)) (he : ∀ X' : Cx, XOk Γ n (C.blk scope) X' → X'.K = X.K → PE X' y (tE X.K Γ e)) (hy : X.N[j]? = some z) (hyl : X.env.scope.names.lookup z = some .local)
    (hsw : swapsWith (.ListComp y [⟨t, i, ifs, 0⟩] scope pos) (some (.Name z py)) spos.line X.env = pure true) : PS X (.Assign [.Name z py] (.ListComp y [⟨t, i, ifs, 0⟩] scope pos) spos) (tAsg (tE X.K Γ (.comp tg it c e)) (gName j)) := by
  have bok : BlkOk X.N X.env.scope scope (ownOf tg t) := by rw [hx.hN, hx.sc]; exact blkOk_by ok
  have nd : X.N.Nodup := by rw [hx.hN]; exact hx.nd
  have k := ps_setLc (g := gOf X.K tg) hx.calm nd hy hyl hsw hi bok (fun s H A cl fp => tg_ok (blk_ok hx s H A cl fp) ht) (fun s H A cl fp => hc _ (blk_ok hx s H A cl fp) rfl) (fun s H A cl fp => he _ (blk_ok hx s H A cl fp) rfl) (fold_ok hf _)
  refine ⟨fun pins s σ H D I h => k.run pins s σ H D I ?_⟩
  rw [own_ix ht]
  exact comp_sem h
end
end Sw
end

section
set_option Elab.async false
set_option linter.all false
set_option maxRecDepth 100000
set_option maxHeartbeats 8000000
/-! Every expression that passes the look. -/
namespace Sw
open PySem PySem.Spec PyProof.Rows L2
theorem ix_plain {ir : Ex} {C : Ctx} {y : Expr} (h : chkE C ir y = true) : PlainIx y := by
  intro o i
  cases y <;> first | rfl | skip
  exfalso
  cases ir <;> first | (obtain ⟨_, _, _, _, _, _, e, _⟩ := chk_comp h; cases e; done) | (unfold chkE at h; cases h; done) | skip
  all_goals (rename_i f a; cases a <;> (unfold chkE at h; cases h))
theorem pw_of {X : Cx} {o : BoolOp} {vs : List Expr} {p : Pos} {t : TT} (k : PT X (.BoolOp o vs p) t) : PW X (.BoolOp o vs p) t := ⟨fun _ pins s σ H Q I h => k.run pins s σ H Q I h⟩
section
variable {Γ : Cal} {n : Nat}
mutual
theorem sndE : ∀ (ir : Ex) (C : Ctx) (X : Cx) (e : Expr), XOk Γ n C X → chkE C ir e = true → PE X e (tE X.K Γ ir)
  | .var i, C, X, e, hx, h => by
    unfold chkE at h
    split at h
    · simp only [Bool.and_eq_true, decide_eq_true_eq] at h
      exact e_var (by rw [hx.hN]; exact h.1.1) (by rw [hx.sc]; exact vis_ok h.1.2) h.2
    · cases h
  | .mv i, C, X, e, hx, h => by unfold chkE at h; cases h
  | .srt a, C, X, e, hx, h => by unfold chkE at h; cases h
  | .int i, C, X, e, hx, h => by
    unfold chkE at h
    split at h
    · obtain rfl := of_decide_eq_true h; exact e_int
    · cases h
  | .bl i, C, X, e, hx, h => by
    unfold chkE at h
    split at h
    · obtain rfl := of_decide_eq_true h; exact e_bl
    · cases h
  | .non, C, X, e, hx, h => by
    unfold chkE at h
    split at h
    · exact e_non
    · cases h
  | .str i, C, X, e, hx, h => by
    unfold chkE at h
    split at h
    · obtain rfl := of_decide_eq_true h; exact e_str
    · cases h
  | .bin o a b, C, X, e, hx, h => by
    unfold chkE at h
    split at h
    · simp only [Bool.and_eq_true] at h
      obtain rfl := binEq_op h.1.1
      exact e_bin (sndE a C X _ hx h.1.2) (sndE b C X _ hx h.2)
    · cases h
  | .neg a, C, X, e, hx, h => by
    unfold chkE at h
    split at h
    · exact e_neg (sndE a C X _ hx h)
    · cases h
  | .cmp o a b, C, X, e, hx, h => by
    unfold chkE at h
    split at h
    · simp only [Bool.and_eq_true] at h
      obtain rfl := cmEq_op h.1.1.1
      exact e_cmp hx.hu (sndE a C X _ hx h.1.2) (sndE b C X _ hx h.2) h.1.1.2
    · cases h
  | .chain o p a b c, C, X, e, hx, h => by
    unfold chkE at h
    split at h
    · simp only [Bool.and_eq_true] at h
      obtain rfl := cmEq_op h.1.1.1.1.1
      obtain rfl := cmEq_op h.1.1.1.1.2
      exact e_chain hx.hu (sndE a C X _ hx h.1.1.2) (sndE b C X _ hx h.1.2) (sndE c C X _ hx h.2) h.1.1.1.2
    · cases h
  | .isN a, C, X, e, hx, h => by
    unfold chkE at h
    split at h
    · exact e_isN (sndE a C X _ hx h)
    · cases h
  | .notN a, C, X, e, hx, h => by
    unfold chkE at h
    split at h
    · exact e_notN (sndE a C X _ hx h)
    · cases h
  | .isB a b, C, X, e, hx, h => by
    unfold chkE at h
    split at h
    · simp only [Bool.and_eq_true] at h
      obtain rfl := of_decide_eq_true h.1
      exact e_isB (sndE a C X _ hx h.2)
    · cases h
  | .notB a b, C, X, e, hx, h => by
    unfold chkE at h
    split at h
    · simp only [Bool.and_eq_true] at h
      obtain rfl := of_decide_eq_true h.1
      exact e_notB (sndE a C X _ hx h.2)
    · cases h
  | .not a, C, X, e, hx, h => by
    unfold chkE at h
    split at h
    · exact e_not (sndE a C X _ hx h)
    · cases h
  | .and a b, C, X, e, hx, h => by
    unfold chkE at h
    split at h
    · simp only [Bool.and_eq_true] at h
      exact pe_imp (pe_and (sndE a C X _ hx h.1) (pe_one (sndE b C X _ hx h.2))) fun _ _ _ k => and_two k
    · simp only [Bool.and_eq_true] at h
      exact pe_imp (pe_and (sndE a C X _ hx h.1) (sndE b C X _ hx h.2)) fun _ _ _ k => and_two k
    · cases h
  | .or a b, C, X, e, hx, h => by
    unfold chkE at h
    split at h
    · simp only [Bool.and_eq_true] at h
      exact pe_imp (pe_or (sndE a C X _ hx h.1) (pe_one (sndE b C X _ hx h.2))) fun _ _ _ k => or_two k
    · simp only [Bool.and_eq_true] at h
      exact pe_imp (pe_or (sndE a C X _ hx h.1) (sndE b C X _ hx h.2)) fun _ _ _ k => or_two k
    · cases h
  | .tru a, C, X, e, hx, h => by unfold chkE at h; cases h
  | .ite c a b, C, X, e, hx, h => by
    unfold chkE at h
    split at h
    · simp only [Bool.and_eq_true] at h
      exact e_ite (sndT c C X _ hx h.1.1) (sndE a C X _ hx h.1.2) (sndE b C X _ hx h.2)
    · cases h
  | .lst es, C, X, e, hx, h => by
    unfold chkE at h
    split at h
    · exact e_lst (sndEs es C X _ hx h)
    · cases h
  | .tup es, C, X, e, hx, h => by
    unfold chkE at h
    split at h
    · exact e_tup (sndEs es C X _ hx h)
    · cases h
  | .idx a b, C, X, e, hx, h => by
    unfold chkE at h
    split at h
    · simp only [Bool.and_eq_true] at h
      exact e_idx (sndE a C X _ hx h.1) (sndE b C X _ hx h.2) (ix_plain h.2)
    · cases h
  | .slc a l k, C, X, e, hx, h => by
    unfold chkE at h
    split at h
    · simp only [Bool.and_eq_true] at h
      obtain ⟨h1, h2⟩ := h
      split at h2
      · exact e_slc (sndE a C X _ hx h1) po_no po_no
      · cases h2
    · simp only [Bool.and_eq_true] at h
      obtain ⟨⟨⟨h1, h2⟩, h3⟩, h4⟩ := h
      split at h4
      · exact e_slc (sndE a C X _ hx h1) (po_yes (sndE l C X _ hx h3) h2) po_no
      · cases h4
    · simp only [Bool.and_eq_true] at h
      obtain ⟨⟨⟨h1, h2⟩, h3⟩, h4⟩ := h
      split at h4
      · exact e_slc (sndE a C X _ hx h1) po_no (po_yes (sndE k C X _ hx h3) h2)
      · cases h4
    · simp only [Bool.and_eq_true] at h
      obtain ⟨⟨⟨⟨h1, h2⟩, h3⟩, h4⟩, h5⟩ := h
      exact e_slc (sndE a C X _ hx h1) (po_yes (sndE l C X _ hx h4) h2) (po_yes (sndE k C X _ hx h5) h3)
    · cases h
  | .rev a, C, X, e, hx, h => by
    unfold chkE at h
    split at h
    · exact e_rev (sndE a C X _ hx h)
    · cases h
  | .stp a l k, C, X, e, hx, h => by
    unfold chkE at h
    split at h
    · simp only [Bool.and_eq_true] at h
      obtain ⟨⟨⟨h1, h2⟩, h3⟩, h4⟩ := h
      split at h4
      · exact e_stp0 (sndE a C X _ hx h1) (sndE k C X _ hx h3) h2
      · cases h4
    · simp only [Bool.and_eq_true] at h
      obtain ⟨⟨⟨⟨h1, h2⟩, h3⟩, h4⟩, h5⟩ := h
      exact e_stp (sndE a C X _ hx h1) (sndE l C X _ hx h4) (sndE k C X _ hx h5) h2 h3
    · cases h
  | .call f es, C, X, e, hx, h => by
    unfold chkE at h
    split at h
    · simp only [Bool.and_eq_true, decide_eq_true_eq] at h
      exact e_call hx h.1.1.1 h.1.1.2 h.1.2 (sndEs es C X _ hx h.2) h.2
    · cases h
  | .blt f (.rng a b c), C, X, e, hx, h => by
    unfold chkE at h
    split at h
    · simp only [Bool.and_eq_true, Bool.or_eq_true, decide_eq_true_eq] at h
      obtain ⟨⟨⟨⟨⟨⟨⟨h1, h2⟩, h3⟩, h4⟩, h5⟩, h6⟩, h7⟩, h8⟩ := h
      subst h2 h3
      split at h8
      · exact e_lr1 hx h1 h4 h5 (sndE b C X _ hx h7) h6
      · cases h8
    · simp only [Bool.and_eq_true, Bool.or_eq_true, decide_eq_true_eq] at h
      obtain ⟨⟨⟨⟨⟨⟨⟨⟨⟨h1, h2⟩, h3⟩, h4⟩, h5⟩, h6⟩, h6'⟩, h7⟩, h7'⟩, h8⟩ := h
      subst h2 h3
      split at h8
      · exact e_lr2 hx h1 h4 h5 (sndE a C X _ hx h7) (sndE b C X _ hx h7') h6 h6'
      · cases h8
    · cases h
  | .blt f a, C, X, e, hx, h => by
    by_cases q : ∃ x y z, a = .rng x y z
    · obtain ⟨x, y, z, rfl⟩ := q
      unfold chkE at h
      split at h
      · simp only [Bool.and_eq_true, Bool.or_eq_true, decide_eq_true_eq] at h
        obtain ⟨⟨⟨⟨⟨⟨⟨h1, h2⟩, h3⟩, h4⟩, h5⟩, h6⟩, h7⟩, h8⟩ := h
        subst h2 h3
        split at h8
        · exact e_lr1 hx h1 h4 h5 (sndE y C X _ hx h7) h6
        · cases h8
      · simp only [Bool.and_eq_true, Bool.or_eq_true, decide_eq_true_eq] at h
        obtain ⟨⟨⟨⟨⟨⟨⟨⟨⟨h1, h2⟩, h3⟩, h4⟩, h5⟩, h6⟩, h6'⟩, h7⟩, h7'⟩, h8⟩ := h
        subst h2 h3
        split at h8
        · exact e_lr2 hx h1 h4 h5 (sndE x C X _ hx h7) (sndE y C X _ hx h7') h6 h6'
        · cases h8
      · cases h
    · have nr : ∀ x y z, a ≠ .rng x y z := fun x y z e => q ⟨x, y, z, e⟩
      have ih : ∀ e, XOk Γ n C X → chkE C a e = true → PE X e (tE X.K Γ a) := fun e hx h => sndE a C X e hx h
      have hh : ∃ x p y q, e = .Call (.Name x p) [y] [] q ∧ (decide (x = f.nm) && isGl C.sc x &&
      ((!(decide (f = .lenset) || decide (f = .sortedset)) && notStar y && chkE C a y) ||
       ((decide (f = .lenset) || decide (f = .sortedset)) && (match y with
        | .Call (.Name s _) [w] [] _ => decide (s = "set") && isGl C.sc s && notStar w && chkE C a w
        | _ => false)))) = true := by
        cases a <;> first | (exact absurd rfl (nr _ _ _)) | (unfold chkE at h; split at h <;> first | exact ⟨_, _, _, _, rfl, h⟩ | cases h)
      obtain ⟨x, p, y, q, rfl, hh⟩ := hh
      simp only [Bool.and_eq_true, Bool.or_eq_true, decide_eq_true_eq, Bool.not_eq_true', Bool.or_eq_false_iff, decide_eq_false_iff_not] at hh
      obtain ⟨⟨h2, h3⟩, hh⟩ := hh
      subst h2
      rcases hh with ⟨⟨h1, h4⟩, h5⟩ | ⟨h1, h4⟩
      · exact e_blt hx h3 (ih _ hx h5) h4 h1 nr
      · split at h4
        · simp only [Bool.and_eq_true, decide_eq_true_eq] at h4
          obtain ⟨⟨⟨k1, k2⟩, k3⟩, k4⟩ := h4
          subst k1
          rcases h1 with rfl | rfl
          · exact e_lenset hx h3 k2 (ih _ hx k4) k3
          · exact e_srtset hx h3 k2 (ih _ hx k4) k3
        · cases h4
  | .min2 a b, C, X, e, hx, h => by
    unfold chkE at h
    split at h
    · simp only [Bool.and_eq_true, decide_eq_true_eq] at h
      obtain ⟨⟨⟨⟨⟨h1, h2⟩, h3⟩, h4⟩, h5⟩, h6⟩ := h
      subst h1
      exact e_min2 hx h2 (sndE a C X _ hx h5) (sndE b C X _ hx h6) h3 h4
    · cases h
  | .max2 a b, C, X, e, hx, h => by
    unfold chkE at h
    split at h
    · simp only [Bool.and_eq_true, decide_eq_true_eq] at h
      obtain ⟨⟨⟨⟨⟨h1, h2⟩, h3⟩, h4⟩, h5⟩, h6⟩ := h
      subst h1
      exact e_max2 hx h2 (sndE a C X _ hx h5) (sndE b C X _ hx h6) h3 h4
    · cases h
  | .isi a t, C, X, e, hx, h => by
    unfold chkE at h
    split at h
    · simp only [Bool.and_eq_true, decide_eq_true_eq] at h
      obtain ⟨⟨⟨⟨⟨h1, h2⟩, h3⟩, h4⟩, h5⟩, h6⟩ := h
      subst h1 h2
      exact e_isi hx h3 h4 (sndE a C X _ hx h6) h5
    · cases h
  | .rng _ _ _, C, X, e, hx, h => by unfold chkE at h; cases h
  | .index a b, C, X, e, hx, h => by
    unfold chkE at h
    split at h
    · simp only [Bool.and_eq_true, decide_eq_true_eq] at h
      obtain ⟨⟨⟨⟨⟨h1, h2⟩, h3⟩, h4⟩, h5⟩, h6⟩ := h
      subst h1
      exact e_index hx h2 h3 (sndE a C X _ hx h5) (sndE b C X _ hx h6) h4
    · cases h
  | .count a b, C, X, e, hx, h => by
    unfold chkE at h
    split at h
    · simp only [Bool.and_eq_true, decide_eq_true_eq] at h
      obtain ⟨⟨⟨⟨⟨h1, h2⟩, h3⟩, h4⟩, h5⟩, h6⟩ := h
      subst h1
      exact e_count hx h2 h3 (sndE a C X _ hx h5) (sndE b C X _ hx h6) h4
    · cases h
  | .comp tg it c e, C, X, x, hx, h => by
      obtain ⟨y, t, i, ifs, scope, pos, rfl, h1, h2, h3, h4, h5, h6⟩ := chk_comp h
      have hi : PI X t i (tIter X.K Γ it) := by
        by_cases q : ∃ x y z, it = .rng x y z
        · obtain ⟨a, b, k, rfl⟩ := q
          unfold chkI at h3
          dsimp only at h3
          split at h3
          · simp only [Bool.and_eq_true, decide_eq_true_eq] at h3
            obtain ⟨⟨⟨⟨k1, k2⟩, k3⟩, k4⟩, k5⟩ := h3
            subst k1
            split at k5
            · exact i_rng1 hx k2 (sndE b C X _ hx k4) k3
            · cases k5
          · simp only [Bool.and_eq_true, decide_eq_true_eq] at h3
            obtain ⟨⟨⟨⟨⟨⟨k1, k2⟩, k3⟩, k3'⟩, k4⟩, k4'⟩, k5⟩ := h3
            subst k1
            split at k5
            · exact i_rng2 hx k2 (sndE a C X _ hx k4) (sndE b C X _ hx k4') k3 k3'
            · cases k5
          · simp only [Bool.and_eq_true, decide_eq_true_eq] at h3
            obtain ⟨⟨⟨⟨⟨⟨⟨k1, k2⟩, k3⟩, k3'⟩, k3''⟩, k4⟩, k4'⟩, k5⟩ := h3
            subst k1
            exact i_rng3 hx k2 (sndE a C X _ hx k4) (sndE b C X _ hx k4') (sndE k C X _ hx k5) k3 k3' k3''
          · cases h3
        · have nr : ∀ x y z, it ≠ .rng x y z := fun x y z e => q ⟨x, y, z, e⟩
          have ih : chkE C it i = true → PE X i (tE X.K Γ it) := fun h => sndE it C X i hx h
          have hh : chkE C it i = true := by
            cases it <;> first | (exact absurd rfl (nr _ _ _)) | exact h3
          exact i_seq (ih hh)
      refine e_comp hx hi h1 h2 h4 (fun X' hx' ek => ?_) (fun X' hx' ek => by rw [← ek]; exact sndE e _ X' _ hx' h6)
      split at h5
      · obtain rfl := isTrueE_eq h5
        exact ⟨fun pins s σ H Q I ⟨G, own, S, r, b, hR, he, hb, q⟩ => pts_nil.run pins s σ H Q I (by
          simp only [ev] at he; cases he; cases hb; exact q H (Same.refl H))⟩
      · exact pts_one (by rw [← ek]; exact sndT c _ X' _ hx' h5)
      · cases h5
theorem sndT : ∀ (ir : Ex) (C : Ctx) (X : Cx) (e : Expr), XOk Γ n C X → chkT C ir e = true → PT X e (tT X.K Γ ir)
  | .not a, C, X, e, hx, h => by
    unfold chkT at h
    split at h
    · exact t_not (sndT a C X _ hx h)
    · cases h
  | .and a b, C, X, e, hx, h => by
    unfold chkT at h
    split at h
    · simp only [Bool.and_eq_true] at h
      exact pt_imp (pw_and (sndT a C X _ hx h.1) (pw_and1 (sndT b C X _ hx h.2))).pt fun _ _ _ k => tand_two k
    · simp only [Bool.and_eq_true] at h
      exact pt_imp (pw_and (sndT a C X _ hx h.1) (pw_of (sndT b C X _ hx h.2))).pt fun _ _ _ k => tand_two k
    · cases h
  | .or a b, C, X, e, hx, h => by
    unfold chkT at h
    split at h
    · simp only [Bool.and_eq_true] at h
      exact pt_imp (pw_or (sndT a C X _ hx h.1) (pw_or1 (sndT b C X _ hx h.2))).pt fun _ _ _ k => tor_two k
    · simp only [Bool.and_eq_true] at h
      exact pt_imp (pw_or (sndT a C X _ hx h.1) (pw_of (sndT b C X _ hx h.2))).pt fun _ _ _ k => tor_two k
    · cases h
  | .tru a, C, X, e, hx, h => by
    unfold chkT at h
    simp only [Bool.and_eq_true] at h
    exact t_tru (sndE a C X _ hx h.2) h.1
  | .cmp o a b, C, X, e, hx, h => by
    unfold chkT at h
    split at h
    · simp only [Bool.and_eq_true] at h
      obtain rfl := cmEq_op h.1.1.1
      exact t_cmp hx.hu (sndE a C X _ hx h.1.2) (sndE b C X _ hx h.2) h.1.1.2
    · cases h
  | .chain o p a b c, C, X, e, hx, h => by
    unfold chkT at h
    split at h
    · simp only [Bool.and_eq_true] at h
      obtain rfl := cmEq_op h.1.1.1.1.1
      obtain rfl := cmEq_op h.1.1.1.1.2
      exact t_chain hx.hu (sndE a C X _ hx h.1.1.2) (sndE b C X _ hx h.1.2) (sndE c C X _ hx h.2) h.1.1.1.2
    · cases h
  | .isN a, C, X, e, hx, h => by
    unfold chkT at h
    split at h
    · exact t_isN (sndE a C X _ hx h)
    · cases h
  | .notN a, C, X, e, hx, h => by
    unfold chkT at h
    split at h
    · exact t_notN (sndE a C X _ hx h)
    · cases h
  | .isB a b, C, X, e, hx, h => by
    unfold chkT at h
    split at h
    · simp only [Bool.and_eq_true] at h
      obtain rfl := of_decide_eq_true h.1
      exact t_isB (sndE a C X _ hx h.2)
    · cases h
  | .notB a b, C, X, e, hx, h => by
    unfold chkT at h
    split at h
    · simp only [Bool.and_eq_true] at h
      obtain rfl := of_decide_eq_true h.1
      exact t_notB (sndE a C X _ hx h.2)
    · cases h
  | .var _, C, X, e, hx, h => by unfold chkT at h; cases h
  | .mv _, C, X, e, hx, h => by unfold chkT at h; cases h
  | .srt _, C, X, e, hx, h => by unfold chkT at h; cases h
  | .int _, C, X, e, hx, h => by unfold chkT at h; cases h
  | .bl _, C, X, e, hx, h => by unfold chkT at h; cases h
  | .non, C, X, e, hx, h => by unfold chkT at h; cases h
  | .str _, C, X, e, hx, h => by unfold chkT at h; cases h
  | .bin _ _ _, C, X, e, hx, h => by unfold chkT at h; cases h
  | .neg _, C, X, e, hx, h => by unfold chkT at h; cases h
  | .ite _ _ _, C, X, e, hx, h => by unfold chkT at h; cases h
  | .lst _, C, X, e, hx, h => by unfold chkT at h; cases h
  | .tup _, C, X, e, hx, h => by unfold chkT at h; cases h
  | .idx _ _, C, X, e, hx, h => by unfold chkT at h; cases h
  | .slc _ _ _, C, X, e, hx, h => by unfold chkT at h; cases h
  | .rev _, C, X, e, hx, h => by unfold chkT at h; cases h
  | .stp _ _ _, C, X, e, hx, h => by unfold chkT at h; cases h
  | .call _ _, C, X, e, hx, h => by unfold chkT at h; cases h
  | .blt _ _, C, X, e, hx, h => by unfold chkT at h; cases h
  | .min2 _ _, C, X, e, hx, h => by unfold chkT at h; cases h
  | .max2 _ _, C, X, e, hx, h => by unfold chkT at h; cases h
  | .isi _ _, C, X, e, hx, h => by unfold chkT at h; cases h
  | .rng _ _ _, C, X, e, hx, h => by unfold chkT at h; cases h
  | .index _ _, C, X, e, hx, h => by unfold chkT at h; cases h
  | .count _ _, C, X, e, hx, h => by unfold chkT at h; cases h
  | .comp _ _ _ _, C, X, e, hx, h => by unfold chkT at h; cases h
theorem sndEs : ∀ (irs : Exs) (C : Ctx) (X : Cx) (es : List Expr), XOk Γ n C X → chkEs C irs es = true → PA X es (tEs X.K Γ irs)
  | .nil, C, X, [], hx, h => es_nil
  | .cons e es, C, X, x :: xs, hx, h => by
    simp only [chkEs, Bool.and_eq_true] at h
    exact es_cons (sndE e C X _ hx h.1.2) (sndEs es C X _ hx h.2) h.1.1
  | .nil, C, X, _ :: _, hx, h => by simp [chkEs] at h
  | .cons _ _, C, X, [], hx, h => by simp [chkEs] at h
end
end
end Sw
end

section
set_option Elab.async false
set_option linter.all false
set_option maxRecDepth 100000
set_option maxHeartbeats 4000000
/-! What a statement changes; values that are kept. -/
namespace Sw
open PySem PySem.Spec PyProof.Rows L2

def isLck : Option Slot → Bool
  | some (some (.lsh, _)) => true
  | some (some (.ldp, _)) => true
  | _ => false
structure Step (G : Addr → Prop) (own : OM) (S : Sw.S) (H : Hp) (G' : Addr → Prop) (own' : OM) (S' : Sw.S) (H' : Hp) : Prop where
  keep : ∀ a o, H a = some o → (∀ i, a ∈ own i → isOpen S[i]? = false) → H' a = some o
  dom : ∀ a, H a ≠ none → H' a ≠ none
  gsub : ∀ a, G a → G' a
  gnew : ∀ a, G' a → G a ∨ (∃ i, a ∈ own i) ∨ H a = none
  onew : ∀ i a, a ∈ own' i → (∃ j, a ∈ own j) ∨ H a = none
  mnew : ∀ i a, a ∈ own' i → isOpen S'[i]? = true → (∃ j, a ∈ own j ∧ isOpen S[j]? = true) ∨ H a = none
  lck : ∀ i, isLck S'[i]? = true → isLck S[i]? = true ∧ own' i = own i
section
variable {X : Cx} {Γ : Cal} {n : Nat} {C : Ctx} {K : PySem.W.Frag} {G G' G1 G2 G3 : Addr → Prop} {own own' own1 own2 own3 : OM} {S S' S1 S2 S3 : Sw.S} {σ σ' : L2.St} {H H' H1 H2 H3 : Hp} {Fr Fr' : Addr → Prop} {pos : Pos}
theorem Step.trans (a : Step G1 own1 S1 H1 G2 own2 S2 H2) (b : Step G2 own2 S2 H2 G3 own3 S3 H3) : Step G1 own1 S1 H1 G3 own3 S3 H3 where
  keep := fun c o h k => by
    refine b.keep c o (a.keep c o h k) fun i hi => ?_
    cases q : isOpen S2[i]? with
    | false => rfl
    | true =>
      rcases a.mnew i c hi q with ⟨j, h1, h2⟩ | z
      · rw [k j h1] at h2; cases h2
      · rw [h] at z; cases z
  dom := fun c h => b.dom c (a.dom c h)
  gsub := fun c h => b.gsub c (a.gsub c h)
  gnew := fun c h => by
    rcases b.gnew c h with h | ⟨i, h⟩ | h
    · exact a.gnew c h
    · exact .inr (a.onew i c h)
    · exact .inr (.inr (Classical.byContradiction fun z => a.dom c z h))
  onew := fun i c h => by
    rcases b.onew i c h with ⟨j, h⟩ | h
    · exact a.onew j c h
    · exact .inr (Classical.byContradiction fun z => a.dom c z h)
  mnew := fun i c h k => by
    rcases b.mnew i c h k with ⟨j, h, k⟩ | h
    · exact a.mnew j c h k
    · exact .inr (Classical.byContradiction fun z => a.dom c z h)
  lck := fun i h => by
    obtain ⟨h1, e1⟩ := b.lck i h
    obtain ⟨h2, e2⟩ := a.lck i h1
    exact ⟨h2, e1.trans e2⟩
theorem Step.same (s : Same H H') : Step G own S H G own S H' where
  keep := fun c o h _ => s c o h
  dom := fun c h z => h (s.free z)
  gsub := fun _ h => h
  gnew := fun _ h => .inl h
  onew := fun i _ h => .inl ⟨i, h⟩
  mnew := fun i _ h k => .inl ⟨i, h, k⟩
  lck := fun i h => ⟨h, rfl⟩
/-- ours, or new -/
def FrA (own : OM) (H : Hp) : Addr → Prop := fun a => (∃ i, a ∈ own i) ∨ H a = none
def RetOk (K : PySem.W.Frag) (G : Addr → Prop) (own : OM) (S : Sw.S) (H H' : Hp) (o : Own) (d : PyData) (v : V) (f : List Addr) : Prop :=
  (∀ a u, H a = some u → (∀ i, a ∈ own i → isOpen S[i]? = false) → H' a = some u) ∧ RepR K G (fun _ => []) (FrA own H) H' (mk d o []) v f
def Fin (K : PySem.W.Frag) (D : Ends) (G : Addr → Prop) (own : OM) (S : Sw.S) (H : Hp) : Out → Prop
  | .nx S' => ∀ G' own' σ' H', Step G own S H G' own' S' H' → Rel K G' own' S' σ' H' → D.nx σ' H'
  | .bk S' => ∀ G' own' σ' H', Step G own S H G' own' S' H' → Rel K G' own' S' σ' H' → D.bk σ' H'
  | .ct S' => ∀ G' own' σ' H', Step G own S H G' own' S' H' → Rel K G' own' S' σ' H' → D.ct σ' H'
  | .rt o d => ∀ v H' f, RetOk K G own S H H' o d v f → D.rt v H'
def tS (K : PySem.W.Frag) (Γ : Cal) (st : Stm) : TS := fun D σ H => ∃ G own S out, Rel K G own S σ H ∧ exec Γ st S = some out ∧ Fin K D G own S H out
def tSs (K : PySem.W.Frag) (Γ : Cal) (st : Stms) : TS := fun D σ H => ∃ G own S out, Rel K G own S σ H ∧ execs Γ st S = some out ∧ Fin K D G own S H out
theorem RetOk.shift {o : Own} {d : PyData} {v : V} {f : List Addr} (a : Step G1 own1 S1 H1 G2 own2 S2 H2) (h : RetOk K G2 own2 S2 H2 H' o d v f) : RetOk K G1 own1 S1 H1 H' o d v f := by
  obtain ⟨k, r⟩ := h
  have fr : ∀ c, FrA own2 H2 c → FrA own1 H1 c := fun c z => by
    rcases z with ⟨i, z⟩ | z
    · exact a.onew i c z
    · exact .inr (Classical.byContradiction fun q => a.dom c q z)
  refine ⟨fun c u e q => k c u (a.keep c u e q) fun i hi => ?_, ?_⟩
  · cases w : isOpen S2[i]? with
    | false => rfl
    | true =>
      rcases a.mnew i c hi w with ⟨j, h1, h2⟩ | z
      · rw [q j h1] at h2; cases h2
      · rw [e] at z; cases z
  · have pal : ∀ al c, Pal G2 (fun _ => []) (FrA own2 H2) al c → Pal G1 (fun _ => []) (FrA own1 H1) al c := fun al c z => by
      rcases z with z | ⟨i, _, z⟩ | z
      · rcases a.gnew c z with z | z
        · exact .inl z
        · exact .inr (.inr z)
      · cases z
      · exact .inr (.inr (fr c z))
    unfold RepR at r ⊢
    split at r
    · exact ⟨r.1, r.2.1, fun c hc => fr c (r.2.2 c hc)⟩
    · obtain ⟨b, xs, ds, e1, e2, e3, e4, e5, e6⟩ := r
      exact ⟨b, xs, ds, e1, e2, e3, fr b e4, e5, e6.sames (Same.refl _) fun c p => ⟨pal _ c p.1, p.2⟩⟩
    · exact ⟨r.1, r.2.sames (Same.refl _) (pal _)⟩
theorem Fin.shift {D : Ends} {out : Out} (a : Step G1 own1 S1 H1 G2 own2 S2 H2) (h : Fin K D G1 own1 S1 H1 out) : Fin K D G2 own2 S2 H2 out := by
  cases out with
  | nx S' => exact fun G' own' σ' H' s r => h G' own' σ' H' (a.trans s) r
  | bk S' => exact fun G' own' σ' H' s r => h G' own' σ' H' (a.trans s) r
  | ct S' => exact fun G' own' σ' H' s r => h G' own' σ' H' (a.trans s) r
  | rt o d => exact fun v H' f r => h v H' f (r.shift a)
theorem ps_imp {st : Stmt} {t t' : TS} (h : PS X st t) (k : ∀ D σ H, t' D σ H → t D σ H) : PS X st t' := ⟨fun pins s σ H D I hw => h.run pins s σ H D I (k D σ H hw)⟩
theorem pss_imp {st : List Stmt} {t t' : TS} (h : PSs X st t) (k : ∀ D σ H, t' D σ H → t D σ H) : PSs X st t' := ⟨fun pins s σ H D I hw => h.run pins s σ H D I (k D σ H hw)⟩

/-! ### values that are kept: names may be moved into them -/
def Mv (own : OM) (S : Sw.S) (own1 : OM) (S1 : Sw.S) : Prop := ∀ i, (S1[i]? = S[i]? ∧ own1 i = own i) ∨ (S1[i]? = some none ∧ own1 i = [] ∧ isOpen S[i]? = true)
def FrM (own own1 : OM) (H : Hp) : Addr → Prop := fun a => H a = none ∨ ∃ i, a ∈ own i ∧ own1 i = []
theorem Mv.refl : Mv own S own S := fun i => .inl ⟨rfl, rfl⟩
theorem Mv.trans (a : Mv own1 S1 own2 S2) (b : Mv own2 S2 own3 S3) : Mv own1 S1 own3 S3 := fun i => by
  rcases b i with ⟨e1, e2⟩ | ⟨e1, e2, e3⟩
  · rcases a i with ⟨d1, d2⟩ | ⟨d1, d2, d3⟩
    · exact .inl ⟨e1.trans d1, e2.trans d2⟩
    · exact .inr ⟨e1.trans d1, e2.trans d2, d3⟩
  · rcases a i with ⟨d1, d2⟩ | ⟨d1, d2, d3⟩
    · exact .inr ⟨e1, e2, by rw [← d1]; exact e3⟩
    · exact .inr ⟨e1, e2, d3⟩
theorem Mv.sub (a : Mv own S own1 S1) {i : Nat} {c : Addr} (h : c ∈ own1 i) : c ∈ own i ∧ S1[i]? = S[i]? ∧ own1 i = own i := by
  rcases a i with ⟨d1, d2⟩ | ⟨d1, d2, d3⟩
  · exact ⟨d2 ▸ h, d1, d2⟩
  · rw [d2] at h; cases h
def tM (K : PySem.W.Frag) (Γ : Cal) (e : Ex) : TE := fun σ H Q => ∃ G own S r S1, Rel K G own S σ H ∧ evM Γ e S = some (r, S1) ∧
  ∀ v H' f own1, Same H H' → Mv own S own1 S1 → Rel K G own1 S1 σ H' → RepR K G own (FrM own own1 H) H' r v f → Q v H'
def tMs (K : PySem.W.Frag) (Γ : Cal) (es : Exs) : TA := fun σ H Q => ∃ G own S rs S1, Rel K G own S σ H ∧ evMs Γ es S = some (rs, S1) ∧
  ∀ vs H' f own1, Same H H' → Mv own S own1 S1 → Rel K G own1 S1 σ H' → RepRs K G own (FrM own own1 H) H' rs vs f → Q vs H'
mutual
def chkM (C : Ctx) : Ex → Expr → Bool
  | .mv i, e => match e with
    | .Name x _ => decide (C.N[i]? = some x) && vis C.sc x && notDbg x
    | _ => false
  | .lst es, e => match e with | .List xs _ => chkMs C es xs | _ => false
  | .tup es, e => match e with | .Tuple xs _ _ => chkMs C es xs | _ => false
  | .srt a, e => match e with | .Call (.Name x _) [y] [] _ => decide (x = "sorted") && isGl C.sc x && notStar y && chkM C a y | _ => false
  | ir, e => chkE C ir e
termination_by structural x => x
def chkMs (C : Ctx) : Exs → List Expr → Bool
  | .nil, [] => true
  | .cons e es, x :: xs => notStar x && chkM C e x && chkMs C es xs
  | _, _ => false
termination_by structural x => x
end
theorem frm_fresh : ∀ a, Fresh H a → FrM own own H a := fun a h => .inl h
/-- a plain value -/
theorem tM_of {e : Ex} {Q : VK} (h : tM K Γ e σ H Q) (k : ∀ S, evM Γ e S = (ev Γ e S).map fun r => (r, S)) : tE K Γ e σ H Q := by
  obtain ⟨G, own, S, r, S1, hR, he, hq⟩ := h
  rw [k] at he
  obtain ⟨r', e1, e2⟩ := Option.map_eq_some_iff.mp he
  cases e2
  exact ⟨G, own, S, _, hR, e1, fun v H' f s rr => hq v H' f own s Mv.refl (hR.same s) (rr.fr fun a z => .inl z)⟩
theorem m_mv {i : Nat} {x : Str} (hN : X.N[i]? = some x) (hv : Vis X.env.scope x) (hd : notDbg x = true) : PE X (.Name x pos) (tM X.K Γ (.mv i)) := by
  unfold notDbg at hd
  simp only [Bool.and_eq_true, Bool.not_eq_true'] at hd
  refine pe_imp (pe_var hN hv hd.1 hd.2) fun σ H Q ⟨G, own, S, r, S1, hR, he, hq⟩ => ?_
  simp only [evM] at he
  split at he
  · rename_i d e
    cases he
    obtain ⟨v, e1, k⟩ := hR.slot i _ d e
    exact ⟨v, e1, hq v H [] own (Same.refl H) Mv.refl hR (repR_mk (k.2.sames (Same.refl H) fun a z => .inl z))⟩
  · rename_i d e
    cases he
    obtain ⟨v, e1, k⟩ := hR.slot i _ d e
    have hi : i < S.length := (List.getElem?_eq_some_iff.mp e).1
    have mvd : Mv own S (put own i []) (S.set i none) := fun j => by
      by_cases q : j = i
      · subst q; exact .inr ⟨by rw [List.getElem?_set_self hi], put_same _ _, by rw [e]; rfl⟩
      · exact .inl ⟨by rw [List.getElem?_set_ne (Ne.symm q)], put_ne _ q⟩
    obtain ⟨a, xs, ds, rfl, rfl, e3, e4, e5⟩ := k
    refine ⟨.ref a, e1, hq _ H [a] (put own i []) (Same.refl H) mvd (hR.empty i σ rfl fun _ _ => rfl) ?_⟩
    have nm : mk (.list ds) .sh [] = ⟨.list ds, .sh, []⟩ := rfl
    rw [nm]
    refine ⟨a, xs, ds, rfl, rfl, rfl, .inr ⟨i, by rw [e3]; simp, put_same _ _⟩, e4, e5.sames (Same.refl H) fun b z => ⟨.inl z, fun q => ?_⟩⟩
    subst q
    exact hR.dis i b (by rw [e3]; simp) z
  · rename_i d e
    cases he
    obtain ⟨v, e1, k⟩ := hR.slot i _ d e
    have hi : i < S.length := (List.getElem?_eq_some_iff.mp e).1
    have mvd : Mv own S (put own i []) (S.set i none) := fun j => by
      by_cases q : j = i
      · subst q; exact .inr ⟨by rw [List.getElem?_set_self hi], put_same _ _, by rw [e]; rfl⟩
      · exact .inl ⟨by rw [List.getElem?_set_ne (Ne.symm q)], put_ne _ q⟩
    have fr : ∀ a, a ∈ own i → FrM own (put own i []) H a := fun a ha => .inr ⟨i, ha, put_same _ _⟩
    by_cases pl : plain d = true
    · have nm : mk d .dp [] = Rp d := if_pos pl
      rw [nm] at hq
      exact ⟨v, e1, hq v H [] (put own i []) (Same.refl H) mvd (hR.empty i σ rfl fun _ _ => rfl) (repR_p pl (RepO.fz (P := fun _ => True) _ _ _ (fun _ _ => trivial) k))⟩
    · have nm : mk d .dp [] = ⟨d, .dp, []⟩ := if_neg pl
      rw [nm] at hq
      exact ⟨v, e1, hq v H (own i) (put own i []) (Same.refl H) mvd (hR.empty i σ rfl fun _ _ => rfl) ⟨k, hR.nd i, fr⟩⟩
  · rename_i d e
    cases he
    obtain ⟨v, e1, k⟩ := hR.slot i _ d e
    exact ⟨v, e1, hq v H [] own (Same.refl H) Mv.refl hR (repR_mk (fz_of k (fun a z => .inr (.inl ⟨i, by simp, z⟩)) fun a z => .inl z))⟩
  · rename_i d e
    cases he
    obtain ⟨v, e1, k⟩ := hR.slot i _ d e
    exact ⟨v, e1, hq v H [] own (Same.refl H) Mv.refl hR (repR_mk (fz_of k (fun a z => .inr (.inl ⟨i, by simp, z⟩)) fun a z => .inl z))⟩
  · cases he
  · cases he
theorem ms_nil : PA X [] (tMs X.K Γ .nil) := pa_imp pa_nil fun σ H Q ⟨G, own, S, rs, S1, hR, he, hq⟩ => by
  simp only [evMs] at he; cases he; exact hq [] H [] own (Same.refl H) Mv.refl hR .nil
theorem RepR.base {r : R} {v : V} {f : List Addr} (h : RepR K G own1 Fr H r v f) (ko : ∀ i a, a ∈ own1 i → a ∈ own i) (kf : ∀ a, Fr a → Fr' a) : RepR K G own Fr' H r v f := by
  have pal : ∀ al c, Pal G own1 Fr al c → Pal G own Fr' al c := fun al c z => by
    rcases z with z | ⟨i, hi, z⟩ | z
    · exact .inl z
    · exact .inr (.inl ⟨i, hi, ko i c z⟩)
    · exact .inr (.inr (kf c z))
  unfold RepR at h ⊢
  split at h
  · exact ⟨h.1, h.2.1, fun a ha => kf a (h.2.2 a ha)⟩
  · obtain ⟨a, xs, ds, e1, e2, e3, e4, e5, e6⟩ := h
    exact ⟨a, xs, ds, e1, e2, e3, kf a e4, e5, e6.sames (Same.refl H) fun b p => ⟨pal _ b p.1, p.2⟩⟩
  · exact ⟨h.1, h.2.sames (Same.refl H) (pal _)⟩
theorem RepRs.base (ko : ∀ i a, a ∈ own1 i → a ∈ own i) (kf : ∀ a, Fr a → Fr' a) : ∀ {rs : List R} {vs : List V} {f : List Addr}, RepRs K G own1 Fr H rs vs f → RepRs K G own Fr' H rs vs f
  | _, _, _, .nil => .nil
  | _, _, _, .cons h hs d => .cons (h.base ko kf) (RepRs.base ko kf hs) d
theorem ms_cons {a : Ex} {es : Exs} {x : Expr} {ys : List Expr} (ha : PE X x (tM X.K Γ a)) (hs : PA X ys (tMs X.K Γ es)) (st : notStar x = true) : PA X (x :: ys) (tMs X.K Γ (.cons a es)) := by
  refine pa_imp (pa_cons ha hs (star_ok st _ _)) fun σ H Q ⟨G, own, S, rs, S1, hR, he, hq⟩ => ?_
  simp only [evMs] at he
  obtain ⟨⟨r1, T1⟩, e1, he⟩ := Option.bind_eq_some_iff.mp he
  obtain ⟨⟨us, T2⟩, e2, he⟩ := Option.map_eq_some_iff.mp he
  cases he
  refine ⟨G, own, S, r1, T1, hR, e1, fun v H1 f own1 s1 m1 R1 h1 => ⟨G, own1, T1, us, T2, R1, e2, fun vs H2 g own2 s2 m2 R2 h2 => hq _ H2 (f ++ g) own2 (s1.trans s2) (m1.trans m2) R2 ?_⟩⟩
  have sub2 : ∀ i, own1 i = [] → own2 i = [] := fun i z => by
    rcases m2 i with ⟨_, d2⟩ | ⟨_, d2, _⟩
    · rw [d2, z]
    · exact d2
  refine .cons ((h1.same s2).fr fun a z => ?_) (h2.base (fun i a z => (m1.sub z).1) fun a z => ?_) fun b hb hg => ?_
  · rcases z with z | ⟨i, z, q⟩
    · exact .inl z
    · exact .inr ⟨i, z, sub2 i q⟩
  · rcases z with z | ⟨i, z, q⟩
    · exact .inl (s1.free z)
    · exact .inr ⟨i, (m1.sub z).1, q⟩
  · obtain ⟨⟨xs, t1⟩, f1⟩ := h1.nodes b hb
    obtain ⟨_, g1⟩ := h2.nodes b hg
    rcases g1 with z | ⟨i, z, q⟩
    · rw [t1] at z; cases z
    · obtain ⟨z1, z2, z3⟩ := m1.sub z
      rcases f1 with w | ⟨j, w, q'⟩
      · obtain ⟨ys, t2⟩ := hR.nodes z1
        rw [t2] at w; cases w
      · obtain rfl := hR.dj i j b z1 w
        rw [q'] at z; cases z
theorem m_lst {es : Exs} {ys : List Expr} (hs : PA X ys (tMs X.K Γ es)) : PE X (.List ys pos) (tM X.K Γ (.lst es)) := by
  refine pe_imp (pe_lst hs) fun σ H Q ⟨G, own, S, r, S1, hR, he, hp⟩ => ?_
  simp only [evM] at he
  obtain ⟨⟨us, T⟩, e1, he⟩ := Option.bind_eq_some_iff.mp he
  split at he
  · rename_i z
    cases he
    refine ⟨G, own, S, us, T, hR, e1, fun vs H1 f own1 s m R1 h => ⟨by rw [h.length, sizeLine_max]; exact z, fun p np => ?_⟩⟩
    have np0 : FrM own own1 H p := .inl (s.free np)
    rcases listOf_rep (al := []) np np0 h with k | ⟨g, k⟩
    · exact hp _ _ _ own1 (s.trans (same_new np)) m (R1.same (same_new np)) k
    · exact hp _ _ _ own1 (s.trans (same_new np)) m (R1.same (same_new np)) k
  · cases he
theorem m_tup {es : Exs} {ys : List Expr} {k : Nat} (hs : PA X ys (tMs X.K Γ es)) : PE X (.Tuple ys k pos) (tM X.K Γ (.tup es)) := by
  refine pe_imp (pe_tup hs) fun σ H Q ⟨G, own, S, r, S1, hR, he, hp⟩ => ?_
  simp only [evM] at he
  obtain ⟨⟨us, T⟩, e1, he⟩ := Option.bind_eq_some_iff.mp he
  split at he
  · rename_i z
    cases he
    refine ⟨G, own, S, us, T, hR, e1, fun vs H1 f own1 s m R1 h => ⟨by rw [h.length, sizeLine_max]; exact z, fun p np => ?_⟩⟩
    obtain ⟨g, k⟩ := tupOf_rep np h
    exact hp _ _ _ own1 (s.trans (same_new np)) m (R1.same (same_new np)) k
  · cases he
theorem repOs_split : ∀ {ds : List PyData} {vs : List V} {f : List Addr}, RepOs K H vs ds f → ∃ T : List ((V × PyData) × List Addr), T.map (fun t => t.1) = vs.zip ds ∧ vs = T.map (fun t => t.1.1) ∧ ds = T.map (fun t => t.1.2) ∧ f = (T.map (fun t => t.2)).flatten ∧ ∀ t ∈ T, RepO K H t.1.1 t.1.2 t.2
  | [], _, _, h => by cases h; exact ⟨[], rfl, rfl, rfl, rfl, fun t ht => by cases ht⟩
  | d :: ds, _, _, h => by
    cases h with
    | cons h hs =>
      obtain ⟨T, e0, e1, e2, e3, e4⟩ := repOs_split hs
      rename_i v vs f g
      refine ⟨((v, d), f) :: T, by simp [e0], by simp [← e1], by simp [← e2], by simp [e3], fun t ht => ?_⟩
      rcases List.mem_cons.mp ht with rfl | ht
      · exact h
      · exact e4 t ht
theorem repOs_mk : ∀ {T : List ((V × PyData) × List Addr)}, (∀ t ∈ T, RepO K H t.1.1 t.1.2 t.2) → RepOs K H (T.map (fun t => t.1.1)) (T.map (fun t => t.1.2)) (T.map (fun t => t.2)).flatten
  | [], _ => .nil
  | t :: T, h => by
    have := repOs_mk (T := T) (fun u hu => h u (by simp [hu]))
    exact .cons (h t (by simp)) this
theorem sort_repO {ds : List PyData} {vs : List V} {f : List Addr} (h : RepOs K H vs ds f) :
    ∃ g, List.Perm g f ∧ RepOs K H (((vs.zip ds).mergeSort (PySem.W.dataLe false Prod.snd)).map Prod.fst) (sortD ds) g := by
  obtain ⟨T, e0, e1, e2, e3, e4⟩ := repOs_split h
  have p := List.mergeSort_perm T (PySem.W.dataLe false (fun t => t.1.2))
  have s1 : (T.map (fun t => t.1)).mergeSort (PySem.W.dataLe false Prod.snd) = (T.mergeSort (PySem.W.dataLe false (fun t => t.1.2))).map (fun t => t.1) := (PySem.W.sort_maps (r := PySem.W.dataLe false (fun t => t.1.2)) (s := PySem.W.dataLe false Prod.snd) (l := T) (fun t => t.1) (fun a _ b _ => rfl)).symm
  have s2 : sortD ds = (T.mergeSort (PySem.W.dataLe false (fun t => t.1.2))).map (fun t => t.1.2) := by
    rw [e2]
    exact (PySem.W.sort_maps (r := PySem.W.dataLe false (fun t => t.1.2)) (s := PySem.W.dataLe false id) (l := T) (fun t => t.1.2) (fun a _ b _ => rfl)).symm
  refine ⟨((T.mergeSort (PySem.W.dataLe false (fun t => t.1.2))).map (fun t => t.2)).flatten, ?_, ?_⟩
  · rw [e3]; exact (p.map _).flatten
  · rw [← e0, s1, s2, List.map_map]
    exact repOs_mk fun t ht => e4 t (p.mem_iff.mp ht)
theorem m_srt {a : Ex} {x : Expr} {p : Pos} (hx : XOk Γ n C X) (hg : isGl C.sc "sorted" = true) (ha : PE X x (tM X.K Γ a)) (st : notStar x = true) : PE X (.Call (.Name "sorted" p) [x] [] pos) (tM X.K Γ (.srt a)) := by
  have g := gl_ok hx hg
  have hu := hx.hu
  have mm : X.mg "sorted" = none := hx.blt _ (by decide)
  refine pe_imp (pe_callB (cr_sortX (by omega)) g mm (by decide +kernel) (pa_cons ha pa_nil (star_ok st _ _)) (by decide) (by decide) (star_ok st _ _) rfl) fun σ H Q ⟨G, own, S, r, S1, hR, he, hq⟩ => ?_
  simp only [evM] at he
  obtain ⟨⟨⟨d1, o1, al1⟩, T⟩, e1, he⟩ := Option.bind_eq_some_iff.mp he
  obtain ⟨r', e2, e3⟩ := Option.map_eq_some_iff.mp he
  cases e3
  refine ⟨G, own, S, _, T, hR, e1, fun v H1 f own1 s m R1 h => ?_⟩
  unfold srtD at e2
  dsimp only at e2
  split at e2
  · rename_i xs
    split at e2
    · rename_i k
      cases e2
      by_cases w : o1 = .dp
      · subst w
        obtain ⟨k1, k2, k3⟩ := h
        cases k1 with
        | lst t1 t2 =>
          obtain ⟨gf, pg, rg⟩ := sort_repO t2
          refine ⟨_, _, _, rfl, .inl (.inl t1), RepFs.dp _ _ (RepOs.fz (P := fun _ => True) _ _ _ (fun _ _ => trivial) t2), k, fun q hq' => ?_⟩
          refine hq _ _ (q :: gf) own1 (s.trans (same_new hq')) m (R1.same (same_new hq')) ?_
          rw [if_pos rfl]
          have nd := (List.nodup_cons.mp k2).2
          refine ⟨.lst upd_same (RepOs.go (tup_same (same_new hq')) _ _ _ (fun b _ ys e => same_new hq' b _ e) rg), List.nodup_cons.mpr ⟨fun z => ?_, pg.nodup_iff.mpr nd⟩, fun b hb => ?_⟩
          · obtain ⟨ys, e⟩ := RepOs.nodes _ _ _ rg q z
            rw [e] at hq'; cases hq'
          · rcases List.mem_cons.mp hb with rfl | hb
            · exact .inl (s.free hq')
            · exact k3 b (List.mem_cons_of_mem _ (pg.mem_iff.mp hb))
      · have z := h.rep
        cases z with
        | lst l1 s1 =>
          refine ⟨_, _, _, rfl, l1.seq, RepFs.dp _ _ s1, k, fun q hq' => ?_⟩
          refine hq _ _ [q] own1 (s.trans (same_new hq')) m (R1.same (same_new hq')) ?_
          rw [if_neg w]
          exact newL_rep hq' (.inl (s.free hq')) (sort_rep s1)
    · cases e2
  · cases e2
end
section
variable {Γ : Cal} {n : Nat}
mutual
theorem sndM : ∀ (ir : Ex) (C : Ctx) (X : Cx) (e : Expr), XOk Γ n C X → chkM C ir e = true → PE X e (tM X.K Γ ir)
  | .mv i, C, X, e, hx, h => by
    unfold chkM at h
    split at h
    · simp only [Bool.and_eq_true, decide_eq_true_eq] at h
      exact m_mv (by rw [hx.hN]; exact h.1.1) (by rw [hx.sc]; exact vis_ok h.1.2) h.2
    · cases h
  | .lst es, C, X, e, hx, h => by
    unfold chkM at h
    split at h
    · exact m_lst (sndMs es C X _ hx h)
    · cases h
  | .tup es, C, X, e, hx, h => by
    unfold chkM at h
    split at h
    · exact m_tup (sndMs es C X _ hx h)
    · cases h
  | .srt a, C, X, e, hx, h => by
    unfold chkM at h
    split at h
    · simp only [Bool.and_eq_true, decide_eq_true_eq] at h
      obtain ⟨⟨⟨h1, h2⟩, h3⟩, h4⟩ := h
      subst h1
      exact m_srt hx h2 (sndM a C X _ hx h4) h3
    · cases h
  | .var x0, C, X, e, hx, h => pe_imp (sndE (.var x0) C X e hx (by unfold chkM at h; exact h)) fun _ _ _ k => tM_of k fun S => by simp only [evM]
  | .int x0, C, X, e, hx, h => pe_imp (sndE (.int x0) C X e hx (by unfold chkM at h; exact h)) fun _ _ _ k => tM_of k fun S => by simp only [evM]
  | .bl x0, C, X, e, hx, h => pe_imp (sndE (.bl x0) C X e hx (by unfold chkM at h; exact h)) fun _ _ _ k => tM_of k fun S => by simp only [evM]
  | .non, C, X, e, hx, h => pe_imp (sndE (.non) C X e hx (by unfold chkM at h; exact h)) fun _ _ _ k => tM_of k fun S => by simp only [evM]
  | .str x0, C, X, e, hx, h => pe_imp (sndE (.str x0) C X e hx (by unfold chkM at h; exact h)) fun _ _ _ k => tM_of k fun S => by simp only [evM]
  | .bin x0 x1 x2, C, X, e, hx, h => pe_imp (sndE (.bin x0 x1 x2) C X e hx (by unfold chkM at h; exact h)) fun _ _ _ k => tM_of k fun S => by simp only [evM]
  | .neg x0, C, X, e, hx, h => pe_imp (sndE (.neg x0) C X e hx (by unfold chkM at h; exact h)) fun _ _ _ k => tM_of k fun S => by simp only [evM]
  | .cmp x0 x1 x2, C, X, e, hx, h => pe_imp (sndE (.cmp x0 x1 x2) C X e hx (by unfold chkM at h; exact h)) fun _ _ _ k => tM_of k fun S => by simp only [evM]
  | .chain x0 x1 x2 x3 x4, C, X, e, hx, h => pe_imp (sndE (.chain x0 x1 x2 x3 x4) C X e hx (by unfold chkM at h; exact h)) fun _ _ _ k => tM_of k fun S => by simp only [evM]
  | .isN x0, C, X, e, hx, h => pe_imp (sndE (.isN x0) C X e hx (by unfold chkM at h; exact h)) fun _ _ _ k => tM_of k fun S => by simp only [evM]
  | .notN x0, C, X, e, hx, h => pe_imp (sndE (.notN x0) C X e hx (by unfold chkM at h; exact h)) fun _ _ _ k => tM_of k fun S => by simp only [evM]
  | .notB x0 x1, C, X, e, hx, h => pe_imp (sndE (.notB x0 x1) C X e hx (by unfold chkM at h; exact h)) fun _ _ _ k => tM_of k fun S => by simp only [evM]
  | .isB x0 x1, C, X, e, hx, h => pe_imp (sndE (.isB x0 x1) C X e hx (by unfold chkM at h; exact h)) fun _ _ _ k => tM_of k fun S => by simp only [evM]
  | .not x0, C, X, e, hx, h => pe_imp (sndE (.not x0) C X e hx (by unfold chkM at h; exact h)) fun _ _ _ k => tM_of k fun S => by simp only [evM]
  | .and x0 x1, C, X, e, hx, h => pe_imp (sndE (.and x0 x1) C X e hx (by unfold chkM at h; exact h)) fun _ _ _ k => tM_of k fun S => by simp only [evM]
  | .or x0 x1, C, X, e, hx, h => pe_imp (sndE (.or x0 x1) C X e hx (by unfold chkM at h; exact h)) fun _ _ _ k => tM_of k fun S => by simp only [evM]
  | .tru x0, C, X, e, hx, h => pe_imp (sndE (.tru x0) C X e hx (by unfold chkM at h; exact h)) fun _ _ _ k => tM_of k fun S => by simp only [evM]
  | .ite x0 x1 x2, C, X, e, hx, h => pe_imp (sndE (.ite x0 x1 x2) C X e hx (by unfold chkM at h; exact h)) fun _ _ _ k => tM_of k fun S => by simp only [evM]
  | .idx x0 x1, C, X, e, hx, h => pe_imp (sndE (.idx x0 x1) C X e hx (by unfold chkM at h; exact h)) fun _ _ _ k => tM_of k fun S => by simp only [evM]
  | .slc x0 x1 x2, C, X, e, hx, h => pe_imp (sndE (.slc x0 x1 x2) C X e hx (by unfold chkM at h; exact h)) fun _ _ _ k => tM_of k fun S => by simp only [evM]
  | .rev x0, C, X, e, hx, h => pe_imp (sndE (.rev x0) C X e hx (by unfold chkM at h; exact h)) fun _ _ _ k => tM_of k fun S => by simp only [evM]
  | .stp x0 x1 x2, C, X, e, hx, h => pe_imp (sndE (.stp x0 x1 x2) C X e hx (by unfold chkM at h; exact h)) fun _ _ _ k => tM_of k fun S => by simp only [evM]
  | .call x0 x1, C, X, e, hx, h => pe_imp (sndE (.call x0 x1) C X e hx (by unfold chkM at h; exact h)) fun _ _ _ k => tM_of k fun S => by simp only [evM]
  | .blt x0 x1, C, X, e, hx, h => pe_imp (sndE (.blt x0 x1) C X e hx (by unfold chkM at h; exact h)) fun _ _ _ k => tM_of k fun S => by simp only [evM]
  | .min2 x0 x1, C, X, e, hx, h => pe_imp (sndE (.min2 x0 x1) C X e hx (by unfold chkM at h; exact h)) fun _ _ _ k => tM_of k fun S => by simp only [evM]
  | .max2 x0 x1, C, X, e, hx, h => pe_imp (sndE (.max2 x0 x1) C X e hx (by unfold chkM at h; exact h)) fun _ _ _ k => tM_of k fun S => by simp only [evM]
  | .isi x0 x1, C, X, e, hx, h => pe_imp (sndE (.isi x0 x1) C X e hx (by unfold chkM at h; exact h)) fun _ _ _ k => tM_of k fun S => by simp only [evM]
  | .rng x0 x1 x2, C, X, e, hx, h => pe_imp (sndE (.rng x0 x1 x2) C X e hx (by unfold chkM at h; exact h)) fun _ _ _ k => tM_of k fun S => by simp only [evM]
  | .index x0 x1, C, X, e, hx, h => pe_imp (sndE (.index x0 x1) C X e hx (by unfold chkM at h; exact h)) fun _ _ _ k => tM_of k fun S => by simp only [evM]
  | .count x0 x1, C, X, e, hx, h => pe_imp (sndE (.count x0 x1) C X e hx (by unfold chkM at h; exact h)) fun _ _ _ k => tM_of k fun S => by simp only [evM]
  | .comp x0 x1 x2 x3, C, X, e, hx, h => pe_imp (sndE (.comp x0 x1 x2 x3) C X e hx (by unfold chkM at h; exact h)) fun _ _ _ k => tM_of k fun S => by simp only [evM]
theorem sndMs : ∀ (irs : Exs) (C : Ctx) (X : Cx) (es : List Expr), XOk Γ n C X → chkMs C irs es = true → PA X es (tMs X.K Γ irs)
  | .nil, C, X, [], hx, h => ms_nil
  | .cons e es, C, X, x :: xs, hx, h => by
    simp only [chkMs, Bool.and_eq_true] at h
    exact ms_cons (sndM e C X _ hx h.1.2) (sndMs es C X _ hx h.2) h.1.1
  | .nil, C, X, _ :: _, hx, h => by simp [chkMs] at h
  | .cons _ _, C, X, [], hx, h => by simp [chkMs] at h
end
end
end Sw
end

section
set_option Elab.async false
set_option linter.all false
set_option maxRecDepth 100000
set_option maxHeartbeats 4000000
/-! A value taken over; steps with values in hand. -/
namespace Sw
open PySem PySem.Spec PyProof.Rows L2
section
variable {X : Cx} {Γ : Cal} {n : Nat} {C : Ctx} {K : PySem.W.Frag} {G G' G1 G2 G3 : Addr → Prop} {own own' own1 own2 own3 : OM} {S S' S1 S2 S3 : Sw.S} {σ σ' : L2.St} {H H' H1 H2 H3 : Hp} {Fr Fr' : Addr → Prop} {pos : Pos} {F F' : List Addr}
/-- a step while the places F are in hand -/
structure StepF (F : List Addr) (G : Addr → Prop) (own : OM) (S : Sw.S) (H : Hp) (G' : Addr → Prop) (own' : OM) (S' : Sw.S) (H' : Hp) : Prop where
  keep : ∀ a o, H a = some o → a ∉ F → (∀ i, a ∈ own i → isOpen S[i]? = false) → H' a = some o
  dom : ∀ a, H a ≠ none → H' a ≠ none
  gsub : ∀ a, G a → G' a
  gnew : ∀ a, G' a → G a ∨ (∃ i, a ∈ own i) ∨ a ∈ F ∨ H a = none
  onew : ∀ i a, a ∈ own' i → (∃ j, a ∈ own j) ∨ a ∈ F ∨ H a = none
  mnew : ∀ i a, a ∈ own' i → isOpen S'[i]? = true → (∃ j, a ∈ own j ∧ isOpen S[j]? = true) ∨ a ∈ F ∨ H a = none
  lck : ∀ i, isLck S'[i]? = true → isLck S[i]? = true ∧ own' i = own i
theorem StepF.refl : StepF F G own S H G own S H where
  keep := fun _ _ h _ _ => h
  dom := fun _ h => h
  gsub := fun _ h => h
  gnew := fun _ h => .inl h
  onew := fun i _ h => .inl ⟨i, h⟩
  mnew := fun i _ h k => .inl ⟨i, h, k⟩
  lck := fun _ h => ⟨h, rfl⟩
/-- places that a statement may take in hand -/
def Mine (own : OM) (S : Sw.S) (H : Hp) (F : List Addr) : Prop := ∀ a ∈ F, H a = none ∨ ∃ i, a ∈ own i ∧ isOpen S[i]? = true
theorem StepF.after (a : Step G1 own1 S1 H1 G2 own2 S2 H2) (hF : Mine own1 S1 H1 F) (b : StepF F G2 own2 S2 H2 G3 own3 S3 H3) : Step G1 own1 S1 H1 G3 own3 S3 H3 where
  keep := fun c o h k => by
    refine b.keep c o (a.keep c o h k) (fun z => ?_) fun i hi => ?_
    · rcases hF c z with z | ⟨i, z1, z2⟩
      · rw [h] at z; cases z
      · rw [k i z1] at z2; cases z2
    · cases q : isOpen S2[i]? with
      | false => rfl
      | true =>
        rcases a.mnew i c hi q with ⟨j, h1, h2⟩ | z
        · rw [k j h1] at h2; cases h2
        · rw [h] at z; cases z
  dom := fun c h => b.dom c (a.dom c h)
  gsub := fun c h => b.gsub c (a.gsub c h)
  gnew := fun c h => by
    rcases b.gnew c h with h | ⟨i, h⟩ | h | h
    · exact a.gnew c h
    · exact .inr (a.onew i c h)
    · rcases hF c h with z | ⟨i, z, _⟩
      · exact .inr (.inr z)
      · exact .inr (.inl ⟨i, z⟩)
    · exact .inr (.inr (Classical.byContradiction fun z => a.dom c z h))
  onew := fun i c h => by
    rcases b.onew i c h with ⟨j, h⟩ | h | h
    · exact a.onew j c h
    · rcases hF c h with z | ⟨i, z, _⟩
      · exact .inr z
      · exact .inl ⟨i, z⟩
    · exact .inr (Classical.byContradiction fun z => a.dom c z h)
  mnew := fun i c h k => by
    rcases b.mnew i c h k with ⟨j, h, k⟩ | h | h
    · exact a.mnew j c h k
    · rcases hF c h with z | ⟨i, z1, z2⟩
      · exact .inr z
      · exact .inl ⟨i, z1, z2⟩
    · exact .inr (Classical.byContradiction fun z => a.dom c z h)
  lck := fun i h => by
    obtain ⟨h1, e1⟩ := b.lck i h
    obtain ⟨h2, e2⟩ := a.lck i h1
    exact ⟨h2, e1.trans e2⟩
theorem StepF.trans (a : StepF F G1 own1 S1 H1 G2 own2 S2 H2) (b : StepF F G2 own2 S2 H2 G3 own3 S3 H3) : StepF F G1 own1 S1 H1 G3 own3 S3 H3 where
  keep := fun c o h kF k => by
    refine b.keep c o (a.keep c o h kF k) kF fun i hi => ?_
    cases q : isOpen S2[i]? with
    | false => rfl
    | true =>
      rcases a.mnew i c hi q with ⟨j, h1, h2⟩ | z | z
      · rw [k j h1] at h2; cases h2
      · exact absurd z kF
      · rw [h] at z; cases z
  dom := fun c h => b.dom c (a.dom c h)
  gsub := fun c h => b.gsub c (a.gsub c h)
  gnew := fun c h => by
    rcases b.gnew c h with h | ⟨i, h⟩ | h | h
    · exact a.gnew c h
    · exact .inr (a.onew i c h)
    · exact .inr (.inr (.inl h))
    · exact .inr (.inr (.inr (Classical.byContradiction fun z => a.dom c z h)))
  onew := fun i c h => by
    rcases b.onew i c h with ⟨j, h⟩ | h | h
    · exact a.onew j c h
    · exact .inr (.inl h)
    · exact .inr (.inr (Classical.byContradiction fun z => a.dom c z h))
  mnew := fun i c h k => by
    rcases b.mnew i c h k with ⟨j, h, k⟩ | h | h
    · exact a.mnew j c h k
    · exact .inr (.inl h)
    · exact .inr (.inr (Classical.byContradiction fun z => a.dom c z h))
  lck := fun i h => by
    obtain ⟨h1, e1⟩ := b.lck i h
    obtain ⟨h2, e2⟩ := a.lck i h1
    exact ⟨h2, e1.trans e2⟩
theorem StepF.wide (h : ∀ a, a ∈ F → a ∈ F') (b : StepF F G2 own2 S2 H2 G3 own3 S3 H3) : StepF F' G2 own2 S2 H2 G3 own3 S3 H3 where
  keep := fun c o e kF k => b.keep c o e (fun z => kF (h c z)) k
  dom := b.dom
  gsub := b.gsub
  gnew := fun c z => (b.gnew c z).imp_right fun z => z.imp_right fun z => z.imp_left (h c)
  onew := fun i c z => (b.onew i c z).imp_right fun z => z.imp_left (h c)
  mnew := fun i c z k => (b.mnew i c z k).imp_right fun z => z.imp_left (h c)
  lck := b.lck
theorem StepF.trans' (a : StepF F' G1 own1 S1 H1 G2 own2 S2 H2) (b : StepF F G2 own2 S2 H2 G3 own3 S3 H3) (h : ∀ a, a ∈ F → a ∈ F') : StepF F' G1 own1 S1 H1 G3 own3 S3 H3 := a.trans (b.wide h)
/-- a value in hand -/
def soR (r : R) : Own := if plain r.d then .fz else nOwn r.o
structure Held (K : PySem.W.Frag) (G : Addr → Prop) (own : OM) (H : Hp) (F : List Addr) : Prop where
  nd : F.Nodup
  dj : ∀ i a, a ∈ F → a ∉ own i
  dis : ∀ a, a ∈ F → ¬ G a
  lst : ∀ a, a ∈ F → ∃ xs, H a = some (.lst xs)
theorem slotOf_eq (r : R) : slotOf r = some (soR r, r.d) := rfl
theorem go_dom {P : Addr → Prop} : Go P (fun a => P a ∧ H a ≠ none) H H :=
  ⟨fun a xs p r => ⟨r, p, by rcases r with r | ⟨_, r⟩ <;> rw [r] <;> intro z <;> cases z⟩, fun _ _ r => r⟩
theorem opOwn {r : R} {v : V} {f : List Addr} (h : RepR K G own Fr H r v f) (o : soR r = .dp) : RepO K H v r.d f := by
  unfold soR at o
  split at o
  · cases o
  · unfold RepR at h
    cases q : r.o with
    | dp => rw [q] at h; exact h.1
    | _ => rw [q] at o; cases o
/-- what was evaluated to be kept, taken over -/
theorem consume {al : List Nat} (hR : Rel K G own S σ H) (sm : Same H H') (m : Mv own S own1 S1) (R1 : Rel K G own1 S1 σ H') (al : List Nat) (f : List Addr) (hf : ∀ a ∈ f, (∃ xs, H' a = some (.lst xs)) ∧ FrM own own1 H a) (nd : f.Nodup) :
    ∃ G2, Rel K G2 (offs own1 al) (freezeL S1 al) σ H' ∧ Held K G2 (offs own1 al) H' f ∧ Step G own S H G2 (offs own1 al) (freezeL S1 al) H' ∧ Mine own S H f ∧
      (∀ a, Pal G own (FrM own own1 H) al a → H' a ≠ none → a ∉ f → G2 a) := by
  have mine : Mine own S H f := fun a ha => by
    rcases (hf a ha).2 with z | ⟨i, z1, z2⟩
    · exact .inl z
    · refine .inr ⟨i, z1, ?_⟩
      rcases m i with ⟨_, d2⟩ | ⟨_, _, d3⟩
      · rw [d2] at z2; rw [z2] at z1; cases z1
      · exact d3
  have fno : ∀ i a, a ∈ own1 i → a ∉ f := fun i a h1 h2 => by
    obtain ⟨z1, z2, z3⟩ := m.sub h1
    rcases (hf a h2).2 with z | ⟨j, w1, w2⟩
    · obtain ⟨xs, e⟩ := hR.nodes z1
      rw [e] at z; cases z
    · obtain rfl := hR.dj i j a z1 w1
      rw [w2] at h1; cases h1
  have fng : ∀ a, a ∈ f → ¬ G a := fun a h1 h2 => by
    rcases (hf a h1).2 with z | ⟨j, w1, w2⟩
    · exact hR.gin a h2 z
    · exact hR.dis j a w1 h2
  refine ⟨fun a => H' a ≠ none ∧ a ∉ f ∧ Pal G own (FrM own own1 H) al a, R1.freeze al (fun a g => ⟨R1.gin a g, fun z => fng a z g, .inl g⟩) (fun i hi a ha => ⟨?_, fno i a ha, .inr (.inl ⟨i, hi, (m.sub ha).1⟩)⟩) (fun i hi a ha => ?_) (fun a z => z.1), ⟨nd, fun i a h1 h2 => fno i a (offs_sub h2).2 h1, fun a h1 h2 => h2.2.1 h1, fun a h => (hf a h).1⟩, ?_, mine, fun a z1 z2 z3 => ⟨z2, z3, z1⟩⟩
  · obtain ⟨xs, e⟩ := R1.nodes ha
    rw [e]; intro z; cases z
  · rintro ⟨_, _, z | ⟨j, hj, z⟩ | z | ⟨j, z, w⟩⟩
    · exact R1.dis i a ha z
    · obtain rfl := hR.dj i j a (m.sub ha).1 z
      exact hi hj
    · obtain ⟨xs, e⟩ := hR.nodes (m.sub ha).1
      rw [e] at z; cases z
    · obtain rfl := hR.dj i j a (m.sub ha).1 z
      rw [w] at ha; cases ha
  · refine ⟨fun a o e _ => sm a o e, fun a e z => e (sm.free z), fun a g => ⟨R1.gin a g, fun z => fng a z g, .inl g⟩, ?_, fun i a ha => .inl ⟨i, (m.sub (offs_sub ha).2).1⟩, fun i a ha ho => ?_, fun i hl => ?_⟩
    · rintro a ⟨_, _, z | ⟨j, hj, z⟩ | z | ⟨j, z, w⟩⟩
      · exact .inl z
      · exact .inr (.inl ⟨j, z⟩)
      · exact .inr (.inr z)
      · exact .inr (.inl ⟨j, z⟩)
    · obtain ⟨hi, ha⟩ := offs_sub ha
      obtain ⟨z1, z2, z3⟩ := m.sub ha
      refine .inl ⟨i, z1, ?_⟩
      rw [freezeL_get, if_neg hi, z2] at ho
      exact ho
    · rw [freezeL_get] at hl
      by_cases hi : i ∈ al
      · rw [if_pos hi] at hl
        exfalso
        cases q : S1[i]? with
        | none => rw [q] at hl; cases hl
        | some s =>
          rw [q] at hl
          cases s with
          | none => cases hl
          | some p => cases hl
      · rw [if_neg hi] at hl
        unfold offs
        rw [if_neg hi]
        rcases m i with ⟨d1, d2⟩ | ⟨d1, d2, d3⟩
        · rw [d1] at hl; exact ⟨hl, d2⟩
        · rw [d1] at hl; cases hl
theorem held_slot {r : R} {v : V} {f : List Addr} (h : RepR K G own Fr H r v f) (k : ∀ a, Pal G own Fr r.al a → H a ≠ none → a ∉ f → G2 a) : SlotOk K H G2 f (soR r) r.d v := by
  have hp := h.rep
  unfold soR
  by_cases pl : plain r.d = true
  · rw [if_pos pl]
    refine ⟨?_, RepF.plain_any _ _ pl hp⟩
    unfold RepR at h
    split at h
    · exact RepO.plain_nil _ _ _ pl h.1
    · obtain ⟨a, xs, ds, e1, e2, e3, e4, e5, e6⟩ := h
      rw [e2] at pl; cases pl
    · exact h.1
  · rw [if_neg pl]
    have fz : (f = [] ∧ RepF K H (Pal G own Fr r.al) v r.d) → f = [] ∧ RepF K H G2 v r.d := fun ⟨e, z⟩ => ⟨e, RepF.go ⟨fun a xs p q => ⟨q, k a p (go_dom (P := Pal G own Fr r.al) |>.lst a xs p q).2.2 (by rw [e]; simp)⟩, fun _ _ q => q⟩ _ _ z⟩
    unfold RepR at h
    cases q : r.o with
    | dp => rw [q] at h; exact h.1
    | sh =>
      rw [q] at h
      obtain ⟨a, xs, ds, e1, e2, e3, e4, e5, e6⟩ := h
      refine ⟨a, xs, ds, e1, e2, e3, e5, RepFs.go ⟨fun b ys p q => ⟨q, k b p.1 ((go_dom (P := fun b => Pal G own Fr r.al b ∧ b ≠ a)).lst b ys p q).2.2 (by rw [e3]; simpa using p.2)⟩, fun _ _ q => q⟩ _ _ e6⟩
    | fz => rw [q] at h; exact fz h
    | lsh => rw [q] at h; exact fz h
    | ldp => rw [q] at h; exact fz h
end
end Sw
end

section
set_option Elab.async false
set_option linter.all false
set_option maxRecDepth 100000
set_option maxHeartbeats 4000000
/-! Paths into what is ours. -/
namespace Sw
open PySem PySem.Spec PyProof.Rows L2
section
variable {X : Cx} {Γ : Cal} {n : Nat} {C : Ctx} {K : PySem.W.Frag} {G G' G1 G2 G3 : Addr → Prop} {own own' own1 own2 own3 : OM} {S S' S1 S2 S3 : Sw.S} {σ σ' : L2.St} {H H' H1 H2 H3 : Hp} {Fr Fr' : Addr → Prop} {pos : Pos} {F F' : List Addr}
theorem modAt_snoc (g : PyData → Option PyData) : ∀ (ks : List PyData) (k d : PyData), modAt (ks ++ [k]) g d = modAt ks (modAt [k] g) d
  | [], k, d => by rw [List.nil_append]; conv => rhs; unfold modAt
  | q :: ks, k, d => by
    rw [List.cons_append]
    cases q with
    | int i =>
      cases d with
      | list xs => simp only [modAt, modAt_snoc g ks k]
      | tuple xs => simp only [modAt, modAt_snoc g ks k]
      | _ => simp [modAt]
    | _ => simp [modAt]
theorem getAt_snoc : ∀ (ks : List PyData) (k d : PyData), getAt (ks ++ [k]) d = (getAt ks d).bind fun x => idxD x k
  | [], k, d => by simp [getAt]
  | q :: ks, k, d => by
    simp only [List.cons_append, getAt]
    cases idxD d q with
    | none => rfl
    | some x => exact getAt_snoc ks k x
theorem modAt_get {g : PyData → Option PyData} : ∀ {ks : List PyData} {d d' : PyData}, modAt ks g d = some d' → ∃ x y, getAt ks d = some x ∧ g x = some y
  | [], d, d', h => ⟨d, d', rfl, by unfold modAt at h; exact h⟩
  | q :: ks, d, d', h => by
    cases q with
    | int i =>
      cases d with
      | list xs =>
        simp only [modAt] at h
        obtain ⟨j, e1, h⟩ := Option.bind_eq_some_iff.mp h
        obtain ⟨x, e2, h⟩ := Option.bind_eq_some_iff.mp h
        obtain ⟨y, e3, h⟩ := Option.map_eq_some_iff.mp h
        obtain ⟨u, w, e4, e5⟩ := modAt_get e3
        exact ⟨u, w, by simp [getAt, idxD, e1, e2, e4], e5⟩
      | tuple xs =>
        simp only [modAt] at h
        obtain ⟨j, e1, h⟩ := Option.bind_eq_some_iff.mp h
        obtain ⟨x, e2, h⟩ := Option.bind_eq_some_iff.mp h
        obtain ⟨y, e3, h⟩ := Option.map_eq_some_iff.mp h
        obtain ⟨u, w, e4, e5⟩ := modAt_get e3
        exact ⟨u, w, by simp [getAt, idxD, e1, e2, e4], e5⟩
      | _ => simp [modAt] at h
    | _ => simp [modAt] at h
/-- the heap goes on outside a place -/
def Keeps (H H2 : Hp) (A : List Addr) : Prop := (∀ a, a ∈ A → ∀ xs, H a = some (.lst xs) → H2 a = some (.lst xs)) ∧ ∀ a xs, Rd H a (.tup xs) → Rd H2 a (.tup xs)
theorem RepOs.at_ : ∀ {ds : List PyData} {vs : List V} {f : List Addr} {j : Nat} {x : PyData}, RepOs K H vs ds f → ds[j]? = some x →
    ∃ A g B w, f = A ++ g ++ B ∧ vs[j]? = some w ∧ RepO K H w x g ∧ ∀ H2, Keeps H H2 (A ++ B) → ∀ y g', RepO K H2 w y g' → RepOs K H2 vs (ds.set j y) (A ++ g' ++ B)
  | [], _, _, _, _, h, e => by simp at e
  | d :: ds, _, _, 0, x, h, e => by
    cases h with
    | @cons v vs _ _ f g h hs =>
      simp at e; subst e
      exact ⟨[], f, g, v, by simp, rfl, h, fun H2 k y g' hy => .cons (by simpa using hy) (RepOs.go k.2 _ _ _ (fun a ha => k.1 a (by simpa using ha)) hs)⟩
  | d :: ds, _, _, j + 1, x, h, e => by
    cases h with
    | @cons v vs _ _ f g h hs =>
      obtain ⟨A, g0, B, w, e1, e2, e3, e4⟩ := RepOs.at_ (j := j) hs (by simpa using e)
      refine ⟨f ++ A, g0, B, w, by simp [e1], by simpa using e2, e3, fun H2 k y g' hy => ?_⟩
      have := e4 H2 ⟨fun a ha => k.1 a (by simp at ha ⊢; rcases ha with z | z <;> simp [z]), k.2⟩ y g' hy
      rw [List.append_assoc, List.append_assoc, ← List.append_assoc A]
      exact .cons (RepO.go k.2 _ _ _ (fun a ha => k.1 a (by simp [ha])) h) this
def Reb (K : PySem.W.Frag) (H : Hp) (v0 : V) (d0 : PyData) (A B : List Addr) (ks : List PyData) (v : V) (x : PyData) : Prop :=
  ∀ H2, Keeps H H2 (A ++ B) → ∀ (g : PyData → Option PyData) y f', g x = some y → RepO K H2 v y f' → ∃ d', modAt ks g d0 = some d' ∧ RepO K H2 v0 d' (A ++ f' ++ B)
def Zp (K : PySem.W.Frag) (H : Hp) (v0 : V) (d0 : PyData) (f : List Addr) (ks : List PyData) (v : V) (x : PyData) : Prop :=
  ∃ A g B, f = A ++ g ++ B ∧ RepO K H v x g ∧ Reb K H v0 d0 A B ks v x
theorem Zp.nil {v0 : V} {d0 : PyData} {f : List Addr} (h : RepO K H v0 d0 f) : Zp K H v0 d0 f [] v0 d0 :=
  ⟨[], f, [], by simp, h, fun H2 _ g y f' e r => ⟨y, by unfold modAt; exact e, by simpa using r⟩⟩
theorem Zp.snoc {v0 v : V} {d0 x x' k : PyData} {f : List Addr} {ks : List PyData} (h : Zp K H v0 d0 f ks v x) (e : idxD x k = some x') :
    ∃ i w, k = .int i ∧ (∀ Q : VK, Q w H → rIx K v (.int i) H Q) ∧ Zp K H v0 d0 f (ks ++ [k]) w x' := by
  obtain ⟨A, g, B, rfl, r, reb⟩ := h
  unfold idxD at e
  split at e
  · rename_i ds i
    obtain ⟨j, e1, e2⟩ := Option.bind_eq_some_iff.mp e
    cases r with
    | @lst a vs _ gs hl hs =>
      obtain ⟨A', g', B', w, rfl, e3, e4, e5⟩ := hs.at_ e2
      refine ⟨i, w, rfl, fun Q q => .inl ⟨a, vs, i, w, rfl, rfl, .inl (.inl hl), ?_, q⟩, A ++ a :: A', g', B' ++ B, by simp, e4, fun H2 k g y f' ey r2 => ?_⟩
      · unfold atI
        rw [hs.length, ← ix_eq, e1]
        exact e3
      · have l2 : H2 a = some (.lst vs) := k.1 a (by simp) _ hl
        have r3 := e5 H2 ⟨fun b hb => k.1 b (by simp at hb ⊢; rcases hb with z | z <;> simp [z]), k.2⟩ y f' r2
        obtain ⟨d', q1, q2⟩ := reb H2 ⟨fun b hb => k.1 b (by simp at hb ⊢; rcases hb with z | z <;> simp [z]), k.2⟩ (modAt [.int i] g) (.list (ds.set j y)) (a :: (A' ++ f' ++ B')) (by simp [modAt, e1, e2, ey]) (.lst l2 r3)
        exact ⟨d', by rw [modAt_snoc]; exact q1, by simpa using q2⟩
  · rename_i ds i
    obtain ⟨j, e1, e2⟩ := Option.bind_eq_some_iff.mp e
    cases r with
    | @tup a vs _ gs hl hs =>
      obtain ⟨A', g', B', w, rfl, e3, e4, e5⟩ := hs.at_ e2
      refine ⟨i, w, rfl, fun Q q => .inr (.inl ⟨a, vs, i, w, rfl, rfl, hl, ?_, q⟩), A ++ A', g', B' ++ B, by simp, e4, fun H2 k g y f' ey r2 => ?_⟩
      · unfold atI
        rw [hs.length, ← ix_eq, e1]
        exact e3
      · have r3 := e5 H2 ⟨fun b hb => k.1 b (by simp at hb ⊢; rcases hb with z | z <;> simp [z]), k.2⟩ y f' r2
        obtain ⟨d', q1, q2⟩ := reb H2 ⟨fun b hb => k.1 b (by simp at hb ⊢; rcases hb with z | z <;> simp [z]), k.2⟩ (modAt [.int i] g) (.tuple (ds.set j y)) (A' ++ f' ++ B') (by simp [modAt, e1, e2, ey]) (.tup (tp_of k.2 hl) r3)
        exact ⟨d', by rw [modAt_snoc]; exact q1, by simpa using q2⟩
  · cases e
def pathOf (rs : List R) : List PyData := (rs.map R.d).reverse
/-- a slot's item at a path -/
def tN (K : PySem.W.Frag) (Γ : Cal) (i : Nat) (ps : Exs) : TE := fun σ H Q => ∃ G own S rs o d x v0, Rel K G own S σ H ∧ evs Γ ps S = some rs ∧ S[i]? = some (some (o, d)) ∧ σ[i]? = some (some v0) ∧ (rs = [] ∨ o = .dp) ∧
  getAt (pathOf rs) d = some x ∧ ∀ v H', Same H H' → (rs = [] → v = v0) → (o = .dp → Zp K H' v0 d (own i) (pathOf rs) v x) → Q v H'
def chkN (C : Ctx) (i : Nat) : Exs → Expr → Bool
  | .nil, e => match e with | .Name x _ => decide (C.N[i]? = some x) && vis C.sc x && notDbg x | _ => false
  | .cons k ps, e => match e with | .Subscript o y _ => chkN C i ps o && chkE C k y | _ => false
theorem dp_at (hR : Rel K G own S σ H) {i : Nat} {d : PyData} {v0 : V} (e : S[i]? = some (some (.dp, d))) (ev : σ[i]? = some (some v0)) : RepO K H v0 d (own i) := by
  obtain ⟨v, e1, k⟩ := hR.slot i _ d e
  rw [ev] at e1; cases e1; exact k
theorem nav_ok (hx : XOk Γ n C X) (i : Nat) : ∀ (ps : Exs) (e : Expr), chkN C i ps e = true → PE X e (tN X.K Γ i ps)
  | .nil, e, h => by
    unfold chkN at h
    split at h
    · rename_i x p
      simp only [Bool.and_eq_true, decide_eq_true_eq] at h
      have hd := h.2
      unfold notDbg at hd
      simp only [Bool.and_eq_true, Bool.not_eq_true'] at hd
      refine pe_imp (pe_var (by rw [hx.hN]; exact h.1.1) (by rw [hx.sc]; exact vis_ok h.1.2) hd.1 hd.2) fun σ H Q ⟨G, own, S, rs, o, d, x, v0, hR, he, hi, hv, hk, hg, hq⟩ => ?_
      simp only [evs] at he; cases he
      cases hg
      refine ⟨v0, hv, hq v0 H (Same.refl H) (fun _ => rfl) fun eo => ?_⟩
      subst eo
      exact Zp.nil (dp_at hR hi hv)
    · cases h
  | .cons k ps, e, h => by
    unfold chkN at h
    split at h
    · rename_i o y p
      simp only [Bool.and_eq_true] at h
      refine pe_imp (pe_ix ix_seq (nav_ok hx i ps o h.1) (sndE k C X y hx h.2) (ix_plain h.2)) fun σ H Q ⟨G, own, S, rs, o, d, x, v0, hR, he, hi, hv, hk, hg, hq⟩ => ?_
      simp only [evs] at he
      obtain ⟨r, e1, he⟩ := Option.bind_eq_some_iff.mp he
      obtain ⟨rs', e2, he⟩ := Option.map_eq_some_iff.mp he
      subst he
      obtain rfl : o = .dp := hk.elim (fun z => by cases z) id
      have ep : pathOf (r :: rs') = pathOf rs' ++ [r.d] := by simp [pathOf]
      rw [ep, getAt_snoc] at hg
      obtain ⟨x1, g1, g2⟩ := Option.bind_eq_some_iff.mp hg
      refine ⟨G, own, S, rs', .dp, d, x1, v0, hR, e2, hi, hv, .inr rfl, g1, fun v H1 s1 _ z1 => tE_then (hR.same s1) e1 fun w H2 f s2 R2 h2 => ?_⟩
      have z2 := z1 rfl
      have z3 : Zp X.K H2 v0 d (own i) (pathOf rs') v x1 := by
        obtain ⟨A, g, B, q1, q2, q3⟩ := z2
        refine ⟨A, g, B, q1, RepO.same s2 q2, fun H3 k => q3 H3 ⟨fun a ha xs e => k.1 a ha xs (s2 a _ e), fun a xs e => k.2 a xs (tup_same s2 a xs e)⟩⟩
      obtain ⟨i', w', q1, q2, q3⟩ := z3.snoc g2
      have k2 := h2.rep
      rw [q1] at k2
      cases k2
      exact q2 _ (hq w' H2 (s1.trans s2) (fun z => by cases z) fun _ => by rw [ep]; exact q3)
    · cases h
end
end Sw
end

section
set_option Elab.async false
set_option linter.all false
set_option maxRecDepth 100000
set_option maxHeartbeats 4000000
/-! A list of ours is changed. -/
namespace Sw
open PySem PySem.Spec PyProof.Rows L2
section
variable {X : Cx} {Γ : Cal} {n : Nat} {C : Ctx} {K : PySem.W.Frag} {G G' G1 G2 G3 : Addr → Prop} {own own' own1 own2 own3 : OM} {S S' S1 S2 S3 : Sw.S} {σ σ' : L2.St} {H H' H1 H2 H3 : Hp} {Fr Fr' : Addr → Prop} {pos : Pos} {F F' : List Addr}
theorem go_upd {P P' : Addr → Prop} {a : Addr} {vs ws : List V} (h : H a = some (.lst vs)) (k : ∀ b, P b → b ≠ a ∧ P' b) : Go P P' H (upd H a (.lst ws)) :=
  ⟨fun b xs p r => by
    obtain ⟨ne, p'⟩ := k b p
    refine ⟨?_, p'⟩
    rcases r with r | ⟨z, r⟩
    · exact .inl (by rw [upd_ne ne]; exact r)
    · exact .inr ⟨z, by rw [upd_ne ne]; exact r⟩,
   fun b xs r => by
    have ne : b ≠ a := fun e => by subst e; rcases r with r | ⟨_, r⟩ <;> rw [h] at r <;> cases r
    rcases r with r | ⟨z, r⟩
    · exact .inl (by rw [upd_ne ne]; exact r)
    · exact .inr ⟨z, by rw [upd_ne ne]; exact r⟩⟩
theorem SlotOk.updH {a : Addr} {vs ws : List V} {f : List Addr} {o : Own} {d : PyData} {v : V} (h : H a = some (.lst vs)) (hf : a ∉ f) (hg : ∀ b, G b → b ≠ a ∧ G' b) (k : SlotOk K H G f o d v) : SlotOk K (upd H a (.lst ws)) G' f o d v := by
  have ro : ∀ d v f, a ∉ f → RepO K H v d f → RepO K (upd H a (.lst ws)) v d f := fun d v f hf k =>
    RepO.go (go_upd (P := fun _ => False) (P' := fun _ => False) h fun _ z => z.elim).tup d v f (fun b hb xs e => by have ne : b ≠ a := (fun z => hf (z ▸ hb)); rw [upd_ne ne]; exact e) k
  have sh : ShOk K H G f d v → ShOk K (upd H a (.lst ws)) G' f d v := fun ⟨b, xs, ds, e1, e2, e3, e4, e5⟩ =>
    ⟨b, xs, ds, e1, e2, e3, by have ne : b ≠ a := (fun z => hf (by rw [e3, z]; simp)); rw [upd_ne ne]; exact e4, RepFs.go (go_upd h hg) _ _ e5⟩
  cases o with
  | fz => exact ⟨k.1, RepF.go (go_upd h hg) _ _ k.2⟩
  | dp => exact ro _ _ _ hf k
  | ldp => exact ro _ _ _ hf k
  | sh => exact sh k
  | lsh => exact sh k
theorem Rel.mem_of (R : Rel K G own S σ H) {i j : Nat} {a : Addr} (h : a ∈ own i) (ne : j ≠ i) : a ∉ own j := fun z => ne (R.dj j i a z h)
/-- slot i is changed at a, its nodes now fi -/
theorem mut_rel (R : Rel K G own S σ H) (hF : Held K G own H F) {i : Nat} {o o' : Own} {d d' : PyData} {v0 : V} {a : Addr} {vs vs' : List V} {fi : List Addr} (ei : S[i]? = some (some (o, d))) (ev : σ[i]? = some (some v0)) (op : isOpen S[i]? = true)
    (am : a ∈ own i) (ah : H a = some (.lst vs)) (gs : ∀ b, G b → G' b) (gd : ∀ b, G' b → G b ∨ b ∈ own i ∨ b ∈ F) (gf : ∀ b, b ∈ fi → ¬ G' b) (fd : ∀ b, b ∈ fi → b ∈ own i ∨ b ∈ F) (fn : fi.Nodup)
    (ok : SlotOk K (upd H a (.lst vs')) G' fi o' d' v0) (oo : o' = .sh ∨ o' = .dp) (tr : ∀ b, G' b → H b ≠ none) :
    Rel K G' (put own i fi) (S.set i (some (o', d'))) σ (upd H a (.lst vs')) ∧ StepF F G own S H G' (put own i fi) (S.set i (some (o', d'))) (upd H a (.lst vs')) := by
  have hi : i < S.length := (List.getElem?_eq_some_iff.mp ei).1
  have ga : ∀ b, G b → b ≠ a := fun b g e => R.dis i a am (e ▸ g)
  have oth : ∀ j, j ≠ i → ∀ b, b ∈ own j → ¬ G' b := fun j ne b hb g => by
    rcases gd b g with z | z | z
    · exact R.dis j b hb z
    · exact ne (R.dj j i b hb z)
    · exact hF.dj j b z hb
  refine ⟨⟨by simp [R.len], fun j o2 d2 e => ?_, fun j e => ?_, fun j => ?_, fun j j' b h1 h2 => ?_, fun j b h1 => ?_, fun b g z => ?_⟩, ⟨fun b u e kF k => ?_, fun b e z => ?_, gs, fun b g => ?_, fun j b hb => ?_, fun j b hb ho => ?_, fun j hl => ?_⟩⟩
  · by_cases q : j = i
    · subst q
      rw [List.getElem?_set_self hi] at e
      cases e
      exact ⟨v0, ev, by rw [put_same]; exact ok⟩
    · rw [List.getElem?_set_ne (Ne.symm q)] at e
      obtain ⟨v, e1, k⟩ := R.slot j o2 d2 e
      refine ⟨v, e1, ?_⟩
      rw [put_ne _ q]
      exact k.updH ah (R.mem_of am q) fun b g => ⟨ga b g, gs b g⟩
  · by_cases q : j = i
    · subst q; exact absurd (List.getElem?_set_self hi) (e _ _)
    · rw [put_ne _ q]
      refine R.emp j fun o2 d2 z => e o2 d2 ?_
      rw [List.getElem?_set_ne (Ne.symm q)]; exact z
  · by_cases q : j = i
    · subst q; rw [put_same]; exact fn
    · rw [put_ne _ q]; exact R.nd j
  · have one : ∀ j, j ≠ i → ∀ b, b ∈ fi → b ∉ own j := fun j ne b h1 h2 => by
      rcases fd b h1 with z | z
      · exact ne (R.dj j i b h2 z)
      · exact hF.dj j b z h2
    by_cases q1 : j = i
    · subst q1
      rw [put_same] at h1
      by_cases q2 : j' = j
      · exact q2.symm
      · rw [put_ne _ q2] at h2; exact absurd h2 (one j' q2 b h1)
    · rw [put_ne _ q1] at h1
      by_cases q2 : j' = i
      · subst q2; rw [put_same] at h2; exact absurd h1 (one j q1 b h2)
      · rw [put_ne _ q2] at h2; exact R.dj j j' b h1 h2
  · by_cases q : j = i
    · subst q; rw [put_same] at h1; exact gf b h1
    · rw [put_ne _ q] at h1; exact oth j q b h1
  · by_cases q : b = a
    · subst q; rw [upd_same] at z; cases z
    · rw [upd_ne q] at z; exact tr b g z
  · by_cases q : b = a
    · subst q; rw [k i am] at op; cases op
    · rw [upd_ne q]; exact e
  · by_cases q : b = a
    · subst q; rw [upd_same] at z; cases z
    · rw [upd_ne q] at z; exact e z
  · rcases gd b g with z | z | z
    · exact .inl z
    · exact .inr (.inl ⟨i, z⟩)
    · exact .inr (.inr (.inl z))
  · by_cases q : j = i
    · subst q
      rw [put_same] at hb
      rcases fd b hb with z | z
      · exact .inl ⟨j, z⟩
      · exact .inr (.inl z)
    · rw [put_ne _ q] at hb; exact .inl ⟨j, hb⟩
  · by_cases q : j = i
    · subst q
      rw [put_same] at hb
      rcases fd b hb with z | z
      · exact .inl ⟨j, z, op⟩
      · exact .inr (.inl z)
    · rw [put_ne _ q] at hb
      rw [List.getElem?_set_ne (Ne.symm q)] at ho
      exact .inl ⟨j, hb, ho⟩
  · by_cases q : j = i
    · subst q
      rw [List.getElem?_set_self hi] at hl
      rcases oo with z | z <;> subst z <;> cases hl
    · rw [List.getElem?_set_ne (Ne.symm q)] at hl
      exact ⟨hl, put_ne _ q⟩
/-- what comes of a list with new items -/
structure Arr (vs vs' : List V) (ds ds' : List PyData) (ws : List V) (es : List PyData) : Prop where
  f : ∀ (K : PySem.W.Frag) (H : Hp) (P : Addr → Prop), RepFs K H P vs ds → RepFs K H P ws es → RepFs K H P vs' ds'
  o : ∀ (K : PySem.W.Frag) (H : Hp) (gs fe : List Addr), RepOs K H vs ds gs → RepOs K H ws es fe → ∃ gs', RepOs K H vs' ds' gs' ∧ (∀ b, b ∈ gs' → b ∈ gs ∨ b ∈ fe) ∧ ((gs ++ fe).Nodup → gs'.Nodup)
theorem open_own {o : Own} {d : PyData} {i : Nat} {deep k : Bool} {o' : Own} (e : S[i]? = some (some (o, d))) (h : ownAfter o deep k = some o') : isOpen S[i]? = true ∧ ((o = .dp ∧ k = true ∧ o' = .dp) ∨ ((o = .dp ∨ o = .sh) ∧ deep = false ∧ o' = .sh)) := by
  rw [e]
  cases o with
  | dp =>
    refine ⟨rfl, ?_⟩
    unfold ownAfter at h
    cases k <;> cases deep <;> simp at h <;> subst h
    · exact .inr ⟨.inl rfl, rfl, rfl⟩
    · exact .inl ⟨rfl, rfl, rfl⟩
    · exact .inl ⟨rfl, rfl, rfl⟩
  | sh =>
    refine ⟨rfl, ?_⟩
    unfold ownAfter at h
    cases deep <;> simp at h
    subst h
    exact .inr ⟨.inr rfl, rfl, rfl⟩
  | fz => simp [ownAfter] at h
  | lsh => simp [ownAfter] at h
  | ldp => simp [ownAfter] at h
theorem own_node {o : Own} {d : PyData} {i : Nat} {ds : List PyData} {ks : List PyData} {v v0 : V} (R : Rel K G own S σ H) (ei : S[i]? = some (some (o, d))) (ev : σ[i]? = some (some v0)) (op : isOpen S[i]? = true) (hk : ks = [] ∨ o = .dp) (hv : ks = [] → v = v0)
    (hg : getAt ks d = some (.list ds)) (hz : o = .dp → Zp K H v0 d (own i) ks v (.list ds)) :
    ∃ a vs, v = .ref a ∧ H a = some (.lst vs) ∧ a ∈ own i ∧ RepFs K H (fun b => (G b ∨ b ∈ own i) ∧ b ≠ a) vs ds ∧ (o = .dp → ∃ A gs B, own i = A ++ (a :: gs) ++ B ∧ RepOs K H vs ds gs ∧ Reb K H v0 d A B ks v (.list ds)) := by
  by_cases q : o = .dp
  · obtain ⟨A, g, B, e1, e2, e3⟩ := hz q
    cases e2 with
    | @lst a vs _ gs l1 s1 =>
      have nd := R.nd i
      rw [e1] at nd
      have na : a ∉ gs := by
        have := (List.nodup_append.mp (List.nodup_append.mp nd).1).2.1
        exact (List.nodup_cons.mp this).1
      refine ⟨a, vs, rfl, l1, by rw [e1]; simp, RepOs.fz _ _ _ (fun b hb => ⟨.inr (by rw [e1]; simp [hb]), fun z => na (z ▸ hb)⟩) s1, fun _ => ⟨A, gs, B, e1, s1, e3⟩⟩
  · have hk' : ks = [] := hk.elim id fun z => absurd z q
    subst hk'
    cases hg
    have hv' := hv rfl
    subst hv'
    obtain ⟨v1, e1, k⟩ := R.slot i o _ ei
    rw [ev] at e1; cases e1
    have : o = .sh := by
      rw [ei] at op
      cases o with
      | sh => rfl
      | dp => exact absurd rfl q
      | _ => cases op
    subst this
    obtain ⟨a, xs, ds', h1, h2, h3, h4, h5⟩ := k
    cases h2
    exact ⟨a, xs, h1, h4, by rw [h3]; simp, h5.sames (Same.refl H) fun b g => ⟨.inl g, fun z => R.dis i a (by rw [h3]; simp) (z ▸ g)⟩, fun z => absurd z q⟩
theorem isE {α : Type} {ks : List α} (h : (!ks.isEmpty) = false) : ks = [] := by cases ks <;> simp at h ⊢
theorem put_own {i : Nat} {fi : List Addr} (fd : ∀ b, b ∈ fi → b ∈ own i ∨ b ∈ F) : ∀ j b, b ∈ put own i fi j → b ∈ own j ∨ b ∈ F := fun j b h => by
  by_cases q : j = i
  · subst q; rw [put_same] at h; exact fd b h
  · rw [put_ne _ q] at h; exact .inl h
/-- new items are put into a list of ours -/
theorem mutate (R : Rel K G own S σ H) (hF : Held K G own H F) {i : Nat} {o o' : Own} {d d' : PyData} {ds ds' es ks : List PyData} {v v0 : V} {ws : List V} {k : Bool} {g : PyData → Option PyData}
    (ei : S[i]? = some (some (o, d))) (ev : σ[i]? = some (some v0)) (hv : ks = [] → v = v0) (hz : o = .dp → Zp K H v0 d (own i) ks v (.list ds)) (hg : getAt ks d = some (.list ds)) (hd : g (.list ds) = some (.list ds'))
    (ho : ownAfter o (!ks.isEmpty) k = some o') (hm : modAt ks g d = some d') (hw : RepFs K H (fun b => G b ∨ b ∈ F) ws es) (hk : k = true → ∃ fe, RepOs K H ws es fe ∧ fe.Nodup ∧ ∀ b, b ∈ fe → b ∈ F) :
    ∃ a vs, v = .ref a ∧ H a = some (.lst vs) ∧ vs.length = ds.length ∧ ∀ vs', Arr vs vs' ds ds' ws es → ∃ G' own', Rel K G' own' (S.set i (some (o', d'))) σ (upd H a (.lst vs')) ∧ StepF F G own S H G' own' (S.set i (some (o', d'))) (upd H a (.lst vs')) ∧
      (∀ j b, b ∈ own' j → b ∈ own j ∨ b ∈ F) ∧ (∀ b, G' b → G b ∨ b ∈ own i ∨ b ∈ F) ∧ (∀ b, b ≠ a → ∀ u, H b = some u → upd H a (.lst vs') b = some u) ∧ a ∈ own i := by
  obtain ⟨op, cs⟩ := open_own ei ho
  obtain ⟨a, vs, ea, ah, am, rf, deep⟩ := own_node R ei ev op (cs.elim (fun z => .inr z.1) fun z => .inl (isE z.2.1)) hv hg hz
  refine ⟨a, vs, ea, ah, rf.length, fun vs' arr => ?_⟩
  have aF : a ∉ F := fun z => hF.dj i a z am
  have aG : ¬ G a := R.dis i a am
  have same : ∀ b, b ≠ a → ∀ u, H b = some u → upd H a (.lst vs') b = some u := fun b ne u e => by rw [upd_ne ne]; exact e
  rcases cs with ⟨c1, c2, c3⟩ | ⟨c1, c2, c3⟩
  · obtain ⟨A, gs, B, e1, e2, e3⟩ := deep c1
    obtain ⟨fe, f1, f2, f3⟩ := hk c2
    obtain ⟨gs', g1, g2, g3⟩ := arr.o K H gs fe e2 f1
    have nd := R.nd i
    rw [e1] at nd
    have n1 := List.nodup_append.mp nd
    have n2 := List.nodup_append.mp n1.1
    have n3 := List.nodup_cons.mp n2.2.1
    have feo : ∀ b, b ∈ fe → b ∉ own i := fun b hb => hF.dj i b (f3 b hb)
    have gsn : (gs ++ fe).Nodup := List.nodup_append.mpr ⟨n3.2, f2, fun x hx y hy e => by subst e; exact feo x hy (by rw [e1]; simp [hx])⟩
    have ga : a ∉ gs' := fun z => by
      rcases g2 a z with z | z
      · exact n3.1 z
      · exact feo a z am
    have kp : Keeps H (upd H a (.lst vs')) (A ++ B) := ⟨fun b hb xs e => by
      rw [upd_ne (fun z => ?_)]
      · exact e
      · subst z
        rcases List.mem_append.mp hb with z | z
        · exact n2.2.2 b z b (by simp) rfl
        · exact n1.2.2 b (by simp) b z rfl, (go_upd (P := fun _ => False) (P' := fun _ => False) ah fun _ z => z.elim).tup⟩
    have ro : RepOs K (upd H a (.lst vs')) vs' ds' gs' := RepOs.go kp.2 _ _ _ (fun b hb xs e => by have ne : b ≠ a := (fun z => ga (z ▸ hb)); rw [upd_ne ne]; exact e) g1
    subst ea
    obtain ⟨d2, q1, q2⟩ := e3 _ kp g (.list ds') (a :: gs') hd (.lst upd_same ro)
    rw [hm] at q1; cases q1
    subst c3
    have fd : ∀ b, b ∈ A ++ (a :: gs') ++ B → b ∈ own i ∨ b ∈ F := fun b hb => by
      rw [e1]
      simp only [List.mem_append, List.mem_cons] at hb ⊢
      rcases hb with (z | z | z) | z
      · exact .inl (.inl (.inl z))
      · exact .inl (.inl (.inr (.inl z)))
      · rcases g2 b z with z | z
        · exact .inl (.inl (.inr (.inr z)))
        · exact .inr (f3 b z)
      · exact .inl (.inr z)
    have fn : (A ++ (a :: gs') ++ B).Nodup := by
      have out : ∀ b, b ∈ gs' → b ∉ A ∧ b ∉ B ∧ b ≠ a := fun b hb => by
        refine ⟨fun z => ?_, fun z => ?_, fun z => ga (z ▸ hb)⟩
        · rcases g2 b hb with w | w
          · exact n2.2.2 b z b (by simp [w]) rfl
          · exact feo b w (by rw [e1]; simp [z])
        · rcases g2 b hb with w | w
          · exact n1.2.2 b (by simp [w]) b z rfl
          · exact feo b w (by rw [e1]; simp [z])
      refine List.nodup_append.mpr ⟨List.nodup_append.mpr ⟨n2.1, List.nodup_cons.mpr ⟨ga, g3 gsn⟩, fun x hx y hy e => ?_⟩, n1.2.1, fun x hx y hy e => ?_⟩
      · subst e
        rcases List.mem_cons.mp hy with z | z
        · subst z; exact n2.2.2 x hx x (by simp) rfl
        · exact (out x z).1 hx
      · subst e
        rcases List.mem_append.mp hx with z | z
        · exact n1.2.2 x (by simp [z]) x hy rfl
        · rcases List.mem_cons.mp z with z | z
          · subst z; exact n1.2.2 x (by simp) x hy rfl
          · exact (out x z).2.1 hy
    obtain ⟨r1, r2⟩ := mut_rel (G' := G) R hF ei ev op am ah (fun _ g => g) (fun b g => .inl g) (fun b hb => by
      rcases fd b hb with z | z
      · exact R.dis i b z
      · exact hF.dis b z) fd fn (o' := .dp) q2 (.inr rfl) R.gin
    exact ⟨G, _, r1, r2, put_own fd, fun b g => .inl g, same, am⟩
  · have hk0 := isE c2
    subst hk0
    cases hv rfl
    have hm' : g d = some d' := by unfold modAt at hm; exact hm
    have hg' : d = .list ds := by cases hg; rfl
    subst hg'
    rw [hd] at hm'; cases hm'
    subst c3
    have rf2 : RepFs K H (fun b => (G b ∨ b ∈ own i ∨ b ∈ F) ∧ b ≠ a) vs' ds' := arr.f K H _ (rf.sames (Same.refl H) fun b z => ⟨z.1.imp_right .inl, z.2⟩) (hw.sames (Same.refl H) fun b z => ⟨z.imp_right .inr, fun e => by
      subst e
      exact z.elim aG aF⟩)
    have fd : ∀ b, b ∈ [a] → b ∈ own i ∨ b ∈ F := fun b hb => .inl (by rw [List.mem_singleton.mp hb]; exact am)
    obtain ⟨r1, r2⟩ := mut_rel (G' := fun b => (G b ∨ b ∈ own i ∨ b ∈ F) ∧ b ≠ a) (vs' := vs') (fi := [a]) (o' := .sh) (d' := .list ds') R hF ei ev op am ah (fun b g => ⟨.inl g, fun z => aG (z ▸ g)⟩) (fun b g => g.1) (fun b hb g => g.2 (List.mem_singleton.mp hb)) fd (by simp)
      ⟨a, vs', ds', ea, rfl, rfl, upd_same, RepFs.go (go_upd ah fun b z => ⟨z.2, z⟩) _ _ rf2⟩ (.inl rfl) (fun b g z => by
        rcases g.1 with w | w | w
        · exact R.gin b w z
        · obtain ⟨xs, e⟩ := R.nodes w; rw [e] at z; cases z
        · obtain ⟨xs, e⟩ := hF.lst b w; rw [e] at z; cases z)
    exact ⟨_, _, r1, r2, put_own fd, fun b g => g.1, same, am⟩
end
end Sw
end

section
set_option Elab.async false
set_option linter.all false
set_option maxRecDepth 100000
set_option maxHeartbeats 4000000
/-! Lists changed in each way; targets. -/
namespace Sw
open PySem PySem.Spec PyProof.Rows L2
section
variable {X : Cx} {Γ : Cal} {n : Nat} {C : Ctx} {K : PySem.W.Frag} {G G' G1 G2 G3 : Addr → Prop} {own own' own1 own2 own3 : OM} {S S' S1 S2 S3 : Sw.S} {σ σ' : L2.St} {H H' H1 H2 H3 : Hp} {Fr Fr' : Addr → Prop} {pos : Pos} {F F' : List Addr}
theorem arr_ext {vs ws : List V} {ds es : List PyData} : Arr vs (vs ++ ws) ds (ds ++ es) ws es :=
  ⟨fun K H P h k => h.append k, fun K H gs fe h k => ⟨gs ++ fe, RepOs.append h k, fun b hb => List.mem_append.mp hb, fun n => n⟩⟩
theorem RepFs.cons_inv {P : Addr → Prop} {v : V} {vs : List V} {ds : List PyData} (h : RepFs K H P (v :: vs) ds) : ∃ d ds', ds = d :: ds' ∧ RepF K H P v d ∧ RepFs K H P vs ds' := by
  cases h with
  | cons h hs => exact ⟨_, _, rfl, h, hs⟩
theorem RepOs.one {v : V} {d : PyData} {f : List Addr} (h : RepO K H v d f) : RepOs K H [v] [d] f := by
  have := RepOs.cons h .nil
  rwa [List.append_nil] at this
theorem RepOs.one_inv {v : V} {d : PyData} {f : List Addr} (h : RepOs K H [v] [d] f) : RepO K H v d f := by
  cases h with
  | cons h hs => cases hs; rwa [List.append_nil]
theorem RepOs.split : ∀ (k : Nat) {vs : List V} {ds : List PyData} {f : List Addr}, RepOs K H vs ds f → ∃ A B, f = A ++ B ∧ RepOs K H (vs.take k) (ds.take k) A ∧ RepOs K H (vs.drop k) (ds.drop k) B
  | 0, vs, ds, f, h => ⟨[], f, rfl, by simpa using .nil, by simpa using h⟩
  | k + 1, [], ds, f, h => by cases h; exact ⟨[], [], rfl, by simpa using .nil, by simpa using .nil⟩
  | k + 1, v :: vs, ds, f, h => by
    cases h with
    | @cons _ _ _ _ f g h hs =>
      obtain ⟨A, B, rfl, h1, h2⟩ := RepOs.split k hs
      exact ⟨f ++ A, B, by simp, by simpa using .cons h h1, by simpa using h2⟩
theorem arr_ins {vs : List V} {ds : List PyData} {v : V} {d : PyData} (k : Nat) : Arr vs (vs.take k ++ [v] ++ vs.drop k) ds (ds.take k ++ d :: ds.drop k) [v] [d] := by
  have e : ds.take k ++ d :: ds.drop k = ds.take k ++ [d] ++ ds.drop k := by simp
  rw [e]
  refine ⟨fun K H P h q => ((h.take k).append q).append (h.drop k), fun K H gs fe h q => ?_⟩
  obtain ⟨A, B, rfl, h1, h2⟩ := h.split k
  refine ⟨A ++ fe ++ B, RepOs.append (RepOs.append h1 q) h2, fun b hb => ?_, fun nd => ?_⟩
  · simp only [List.mem_append] at hb ⊢
    rcases hb with (z | z) | z <;> simp [z]
  · have n1 := List.nodup_append.mp nd
    have n2 := List.nodup_append.mp n1.1
    refine List.nodup_append.mpr ⟨List.nodup_append.mpr ⟨n2.1, n1.2.1, fun a ha b hb => n1.2.2 a (by simp [ha]) b hb⟩, n2.2.1, fun a ha b hb => ?_⟩
    rcases List.mem_append.mp ha with z | z
    · exact n2.2.2 a z b hb
    · exact Ne.symm (n1.2.2 b (by simp [hb]) a z)
theorem RepFs.set_ {P : Addr → Prop} {vs : List V} {ds : List PyData} {v : V} {d : PyData} (j : Nat) (h : RepFs K H P vs ds) (k : RepF K H P v d) : RepFs K H P (vs.set j v) (ds.set j d) := by
  induction h using RepFs.rec (motive_1 := fun _ _ _ => True) generalizing j with
  | nil => simpa using .nil
  | cons h hs _ ih =>
    cases j with
    | zero => exact .cons k hs
    | succ j => exact .cons h (ih j)
  | _ => trivial
theorem RepOs.set_ : ∀ {vs : List V} {ds : List PyData} {f fe : List Addr} {v : V} {d : PyData} (j : Nat), RepOs K H vs ds f → RepO K H v d fe → j < ds.length → ∃ A g B, f = A ++ g ++ B ∧ RepOs K H (vs.set j v) (ds.set j d) (A ++ fe ++ B)
  | _, [], _, _, _, _, j, h, k, hj => by simp at hj
  | _, d :: ds, _, fe, _, _, 0, h, k, hj => by
    cases h with
    | @cons v vs _ _ f g h hs => exact ⟨[], f, g, by simp, .cons k hs⟩
  | _, d :: ds, _, fe, _, _, j + 1, h, k, hj => by
    cases h with
    | @cons v vs _ _ f g h hs =>
      obtain ⟨A, g0, B, rfl, q⟩ := RepOs.set_ j hs k (by simpa using hj)
      exact ⟨f ++ A, g0, B, by simp, by rw [List.append_assoc, List.append_assoc, ← List.append_assoc A]; exact .cons h q⟩
theorem arr_set {vs : List V} {ds : List PyData} {v : V} {d : PyData} (j : Nat) (hj : j < ds.length) : Arr vs (vs.set j v) ds (ds.set j d) [v] [d] := by
  refine ⟨fun K H P h q => ?_, fun K H gs fe h q => ?_⟩
  · cases q with
    | cons q _ => exact h.set_ j q
  · obtain ⟨A, g, B, rfl, r⟩ := h.set_ j q.one_inv hj
    refine ⟨_, r, fun b hb => ?_, fun nd => ?_⟩
    · simp only [List.mem_append] at hb ⊢
      rcases hb with (z | z) | z <;> simp [z]
    · have n1 := List.nodup_append.mp nd
      have n2 := List.nodup_append.mp n1.1
      have n3 := List.nodup_append.mp n2.1
      refine List.nodup_append.mpr ⟨List.nodup_append.mpr ⟨n3.1, n1.2.1, fun a ha b hb => n1.2.2 a (by simp [ha]) b hb⟩, n2.2.1, fun a ha b hb => ?_⟩
      rcases List.mem_append.mp ha with z | z
      · exact n2.2.2 a (by simp [z]) b hb
      · exact Ne.symm (n1.2.2 b (by simp [hb]) a z)
theorem RepFs.erase {P : Addr → Prop} {vs : List V} {ds : List PyData} (j : Nat) (h : RepFs K H P vs ds) : RepFs K H P (vs.eraseIdx j) (ds.eraseIdx j) := by
  induction h using RepFs.rec (motive_1 := fun _ _ _ => True) generalizing j with
  | nil => simpa using .nil
  | cons h hs _ ih =>
    cases j with
    | zero => exact hs
    | succ j => exact .cons h (ih j)
  | _ => trivial
theorem RepOs.erase : ∀ {vs : List V} {ds : List PyData} {f : List Addr} {j : Nat} {x : PyData}, RepOs K H vs ds f → ds[j]? = some x → ∃ A g B w, f = A ++ g ++ B ∧ vs[j]? = some w ∧ RepO K H w x g ∧ RepOs K H (vs.eraseIdx j) (ds.eraseIdx j) (A ++ B)
  | _, [], _, _, _, h, e => by simp at e
  | _, d :: ds, _, 0, x, h, e => by
    cases h with
    | @cons v vs _ _ f g h hs => simp at e; subst e; exact ⟨[], f, g, v, by simp, rfl, h, hs⟩
  | _, d :: ds, _, j + 1, x, h, e => by
    cases h with
    | @cons v vs _ _ f g h hs =>
      obtain ⟨A, g0, B, w, rfl, e2, e3, e4⟩ := RepOs.erase (j := j) hs (by simpa using e)
      exact ⟨f ++ A, g0, B, w, by simp, by simpa using e2, e3, by rw [List.append_assoc]; exact .cons h e4⟩
/-! ### values in hand -/
theorem Held.rest {F g : List Addr} (h : Held K G own H (F ++ g)) (ho : ∀ j b, b ∈ own' j → b ∈ own j ∨ b ∈ F) (hg : ∀ b, G' b → G b ∨ (∃ j, b ∈ own j) ∨ b ∈ F) (hh : ∀ b, b ∈ g → ∀ u, H b = some u → H' b = some u) : Held K G' own' H' g := by
  have nd := List.nodup_append.mp h.nd
  refine ⟨nd.2.1, fun i a ha z => ?_, fun a ha z => ?_, fun a ha => ?_⟩
  · rcases ho i a z with z | z
    · exact h.dj i a (by simp [ha]) z
    · exact nd.2.2 a z a ha rfl
  · rcases hg a z with z | ⟨j, z⟩ | z
    · exact h.dis a (by simp [ha]) z
    · exact h.dj j a (by simp [ha]) z
    · exact nd.2.2 a z a ha rfl
  · obtain ⟨xs, e⟩ := h.lst a (by simp [ha])
    exact ⟨xs, hh a ha _ e⟩
theorem Held.left {F g : List Addr} (h : Held K G own H (F ++ g)) : Held K G own H F :=
  ⟨(List.nodup_append.mp h.nd).1, fun i a ha => h.dj i a (by simp [ha]), fun a ha => h.dis a (by simp [ha]), fun a ha => h.lst a (by simp [ha])⟩
theorem Held.same (h : Held K G own H F) (s : Same H H') : Held K G own H' F := ⟨h.nd, h.dj, h.dis, fun a ha => let ⟨xs, e⟩ := h.lst a ha; ⟨xs, s a _ e⟩⟩
theorem Held.nil : Held K G own H [] := ⟨by simp, by simp, by simp, by simp⟩
/-- what was frozen stays through a step; so does what is in hand otherwise -/
theorem SlotOk.step {f g : List Addr} {o : Own} {d : PyData} {v : V} (R : Rel K G own S σ H) (h : Held K G own H (f ++ g)) (st : StepF f G own S H G' own' S' H') (hg : ∀ b, b ∈ g → ∀ u, H b = some u → H' b = some u) {fe : List Addr} (hf : ∀ b, b ∈ fe → b ∈ g)
    (k : SlotOk K H G fe o d v) : SlotOk K H' G' fe o d v := by
  have kg : ∀ b, G b → ∀ u, H b = some u → H' b = some u := fun b gb u e => st.keep b u e (fun z => h.dis b (by simp [z]) gb) fun i hi => absurd gb (R.dis i b hi)
  have kt : ∀ a xs, Rd H a (.tup xs) → Rd H' a (.tup xs) := fun a xs r => by
    have nF : a ∉ f := fun z => by
      obtain ⟨ys, e⟩ := h.lst a (by simp [z])
      rcases r with r | ⟨_, r⟩ <;> rw [e] at r <;> cases r
    have no : ∀ i, a ∉ own i := fun i z => by
      obtain ⟨ys, e⟩ := R.nodes z
      rcases r with r | ⟨_, r⟩ <;> rw [e] at r <;> cases r
    rcases r with r | ⟨o, r⟩
    · exact .inl (st.keep a _ r nF fun i hi => absurd hi (no i))
    · exact .inr ⟨o, st.keep a _ r nF fun i hi => absurd hi (no i)⟩
  have g1 : Go G G' H H' := ⟨fun a xs p r => ⟨by
    rcases r with r | ⟨o, r⟩
    · exact .inl (kg a p _ r)
    · exact .inr ⟨o, kg a p _ r⟩, st.gsub a p⟩, kt⟩
  have ro : ∀ d v fe, (∀ b, b ∈ fe → b ∈ g) → RepO K H v d fe → RepO K H' v d fe := fun d v fe hf k => RepO.go kt d v fe (fun a ha xs e => hg a (hf a ha) _ e) k
  have sh : ShOk K H G fe d v → ShOk K H' G' fe d v := fun ⟨b, xs, ds, e1, e2, e3, e4, e5⟩ => ⟨b, xs, ds, e1, e2, e3, hg b (hf b (by rw [e3]; simp)) _ e4, RepFs.go g1 _ _ e5⟩
  cases o with
  | fz => exact ⟨k.1, RepF.go g1 _ _ k.2⟩
  | dp => exact ro _ _ _ hf k
  | ldp => exact ro _ _ _ hf k
  | sh => exact sh k
  | lsh => exact sh k
/-- a slot is stored -/
theorem store_nm (hR : Rel K G own S σ H) {f g : List Addr} (h : Held K G own H (f ++ g)) {r : R} {v : V} (k : SlotOk K H G f (soR r) r.d v) (i : Nat) :
    ∃ own', Rel K G own' (S.set i (slotOf r)) (σ.set i (some v)) H ∧ StepF f G own S H G own' (S.set i (slotOf r)) H ∧ Held K G own' H g := by
  by_cases hi : i < σ.length
  · have hS : i < S.length := by rw [hR.len]; exact hi
    refine ⟨put own i f, ?_, ⟨fun _ _ e _ _ => e, fun _ e => e, fun _ e => e, fun _ e => .inl e, fun j a ha => ?_, fun j a ha ho => ?_, fun j hl => ?_⟩, h.rest (fun j b hb => ?_) (fun b gb => .inl gb) fun _ _ _ e => e⟩
    · rw [slotOf_eq]
      exact hR.put hi k (List.nodup_append.mp h.nd).1 (fun j _ a ha => h.dj j a (by simp [ha])) (fun a ha => h.dis a (by simp [ha]))
    · by_cases q : j = i
      · subst q; rw [put_same] at ha; exact .inr (.inl ha)
      · rw [put_ne _ q] at ha; exact .inl ⟨j, ha⟩
    · by_cases q : j = i
      · subst q; rw [put_same] at ha; exact .inr (.inl ha)
      · rw [put_ne _ q] at ha
        rw [List.getElem?_set_ne (Ne.symm q)] at ho
        exact .inl ⟨j, ha, ho⟩
    · by_cases q : j = i
      · subst q
        rw [List.getElem?_set_self hS, slotOf_eq] at hl
        exfalso
        have nl : isLck (some (some (soR r, r.d))) = false := by
          unfold soR
          split
          · rfl
          · cases r.o <;> rfl
        rw [nl] at hl; cases hl
      · rw [List.getElem?_set_ne (Ne.symm q)] at hl
        exact ⟨hl, put_ne _ q⟩
    · by_cases q : j = i
      · subst q; rw [put_same] at hb; exact .inr hb
      · rw [put_ne _ q] at hb; exact .inl hb
  · have e1 : S.set i (slotOf r) = S := List.set_eq_of_length_le (by rw [hR.len]; omega)
    have e2 : σ.set i (some v) = σ := List.set_eq_of_length_le (by omega)
    rw [e1, e2]
    exact ⟨own, hR, StepF.refl, h.rest (fun _ _ z => .inl z) (fun _ z => .inl z) fun _ _ _ e => e⟩
theorem ok_own {r : R} {v : V} {f : List Addr} (k : SlotOk K H G f (soR r) r.d v) (o : r.ok = true) : RepO K H v r.d f := by
  unfold R.ok at o
  unfold soR at k
  by_cases pl : plain r.d = true
  · rw [if_pos pl] at k
    obtain ⟨rfl, k⟩ := k
    exact RepF.plain_o _ _ pl k
  · rw [if_neg pl] at k
    simp only [pl, Bool.false_or, decide_eq_true_eq] at o
    rw [o] at k
    exact k
/-- a target -/
def gT (K : PySem.W.Frag) (Γ : Cal) (t : Tgt) : TG := fun v σ H Q => ∃ G own S r f g S', Rel K G own S σ H ∧ Held K G own H (f ++ g) ∧ SlotOk K H G f (soR r) r.d v ∧ store Γ S t r = some S' ∧
  ∀ G' own' σ' H', Rel K G' own' S' σ' H' → StepF f G own S H G' own' S' H' → Held K G' own' H' g → (∀ b, b ∈ g → ∀ u, H b = some u → H' b = some u) → Q σ' H'
def chkG (C : Ctx) : Tgt → Expr → Bool
  | .nm i, .Name x _ => tgName C i x
  | .sub i ps k, .Subscript o y _ => chkN C i ps o && chkE C k y
  | _, _ => false
theorem pg_imp {e : Expr} {t t' : TG} (h : PG X e t) (k : ∀ v σ H Q, t' v σ H Q → t v σ H Q) : PG X e t' := ⟨fun pins s σ H v u Q I r hw => h.run pins s σ H v u Q I r (k v σ H Q hw)⟩
theorem setD_some {k y x z : PyData} (e : setD k y x = some z) : ∃ ds i j, x = .list ds ∧ k = .int i ∧ ix ds.length i = some j ∧ z = .list (ds.set j y) := by
  unfold setD at e
  split at e
  · split at e
    · obtain ⟨j, e1, e2⟩ := Option.map_eq_some_iff.mp e
      exact ⟨_, _, j, rfl, rfl, e1, e2.symm⟩
    · cases e
  · cases e
theorem ix_lt {m : Nat} {i : Int} {j : Nat} (h : ix m i = some j) : j < m := by
  rw [ix_eq] at h
  exact (ixN_seq h).2.1
theorem evs_len : ∀ {es : Exs} {S : Sw.S} {rs : List R}, evs Γ es S = some rs → rs.length = (match es with | .nil => 0 | .cons _ _ => rs.length)
  | .nil, _, _, h => by simp only [evs] at h; cases h; rfl
  | .cons _ _, _, _, _ => rfl
theorem path_nil {rs : List R} : pathOf rs = [] ↔ rs = [] := by
  unfold pathOf
  rw [List.reverse_eq_nil_iff, List.map_eq_nil_iff]
theorem change_some {i : Nat} {path : List PyData} {k : Bool} {f : PyData → Option PyData} (e : change S i path k f = some S') : ∃ o d o' d', S[i]? = some (some (o, d)) ∧ ownAfter o (!path.isEmpty) k = some o' ∧ modAt path f d = some d' ∧ S' = S.set i (some (o', d')) := by
  unfold change at e
  split at e
  · obtain ⟨o', e1, e⟩ := Option.bind_eq_some_iff.mp e
    obtain ⟨d', e2, e⟩ := Option.map_eq_some_iff.mp e
    exact ⟨_, _, o', d', by assumption, e1, e2, e.symm⟩
  · cases e
theorem deep_dp {o o' : Own} {ks : List PyData} {k : Bool} (h : ownAfter o (!ks.isEmpty) k = some o') : ks = [] ∨ o = .dp := by
  cases ks with
  | nil => exact .inl rfl
  | cons a b =>
    right
    cases o with
    | dp => rfl
    | _ => simp [ownAfter] at h
theorem Zp.same {v0 v : V} {d x : PyData} {f : List Addr} {ks : List PyData} (h : Zp K H v0 d f ks v x) (s : Same H H') : Zp K H' v0 d f ks v x := by
  obtain ⟨A, g, B, q1, q2, q3⟩ := h
  exact ⟨A, g, B, q1, RepO.same s q2, fun H3 k => q3 H3 ⟨fun a ha xs e => k.1 a ha xs (s a _ e), fun a xs e => k.2 a xs (tup_same s a xs e)⟩⟩
theorem tgt_ok (hx : XOk Γ n C X) (t : Tgt) (e : Expr) (h : chkG C t e = true) : PG X e (gT X.K Γ t) := by
  cases t with
  | nm i =>
    unfold chkG at h
    split at h
    · rename_i e1
      cases e1
      refine pg_imp (name_ok hx h) fun v σ H Q ⟨G, own, S, r, f, g, S', R, hd, k, es, q⟩ => ?_
      simp only [store] at es
      cases es
      obtain ⟨own', r1, r2, r3⟩ := store_nm R hd k i
      exact q G own' _ H r1 r2 r3 fun _ _ _ e => e
    · rename_i e1; cases e1
    · cases h
  | sub i ps k =>
    unfold chkG at h
    split at h
    · rename_i e1; cases e1
    · rename_i e1
      cases e1
      simp only [Bool.and_eq_true] at h
      refine pg_imp (pg_sub (nav_ok hx i ps _ h.1) (sndE k C X _ hx h.2) set_list ?_) fun v σ H Q ⟨G, own, S, r, f, g, S', R, hd, sk, es, q⟩ => ?_
      · intro u
        have pi := h.2
        rename_i y0 _ 
        cases y0 <;> first | rfl | skip
        exfalso
        cases k <;> first | (obtain ⟨_, _, _, _, _, _, e, _⟩ := chk_comp pi; cases e; done) | (unfold chkE at pi; cases pi; done) | skip
        all_goals (rename_i f a; cases a <;> (unfold chkE at pi; cases pi))
      · simp only [store] at es
        obtain ⟨rs, e1, es⟩ := Option.bind_eq_some_iff.mp es
        obtain ⟨q1, e2, es⟩ := Option.bind_eq_some_iff.mp es
        obtain ⟨o, d, o', d', ei, eo, em, rfl⟩ := change_some es
        obtain ⟨x, y, g1, g2⟩ := modAt_get em
        obtain ⟨ds, iz, j, rfl, e5, e6, rfl⟩ := setD_some g2
        obtain ⟨v0, ev, _⟩ := R.slot i o d ei
        refine ⟨G, own, S, rs, o, d, .list ds, v0, R, e1, ei, ev, (deep_dp eo).imp path_nil.mp id, g1, fun w H1 s1 hv hz => tE_then (R.same s1) e2 fun u H2 f2 s2 R2 h2 => ?_⟩
        have s12 := s1.trans s2
        have k2 := h2.rep
        rw [e5] at k2
        cases k2
        have sk2 := sk.same s12
        have hd2 := hd.same s12
        obtain ⟨a, vs, ea, ah, hl, mk⟩ := mutate (ks := pathOf rs) (es := [r.d]) (ws := [v]) R2 hd2.left ei ev (fun z => hv (path_nil.mp z)) (fun z => (hz z).same s2) g1 g2 eo em (.cons (fz_of sk2 (fun a z => .inr z) fun a z => .inl z) .nil) (fun z => ⟨f, RepOs.one (ok_own sk2 z), hd2.left.nd, fun b z => z⟩)
        obtain ⟨G', own', r1, r2, r3, r4, r5, am⟩ := mk (vs.set j v) (arr_set j (ix_lt e6))
        refine ⟨a, vs, iz, j, ea, rfl, ah, by rw [hl]; exact e6, ?_⟩
        have ng : ∀ b, b ∈ g → b ≠ a := fun b hb e => hd.dj i b (by simp [hb]) (e ▸ am)
        have hg : ∀ b, b ∈ g → ∀ u, H b = some u → upd H2 a (.lst (vs.set j v)) b = some u := fun b hb u e => r5 b (ng b hb) u (s12 b u e)
        refine q G' own' σ _ r1 ?_ (hd2.rest r3 (fun b z => (r4 b z).imp_right fun z => z.imp_left fun z => ⟨i, z⟩) fun b hb u e => r5 b (ng b hb) u e) hg
        exact ⟨fun a o e z1 z2 => r2.keep a o (s12 a o e) z1 z2, fun a e => r2.dom a (fun z => e (s12.free z)), r2.gsub, fun a z => (r2.gnew a z).imp_right fun z => z.imp_right fun z => z.imp_right s12.free,
          fun i a z => (r2.onew i a z).imp_right fun z => z.imp_right s12.free, fun i a z w => (r2.mnew i a z w).imp_right fun z => z.imp_right s12.free, r2.lck⟩
    · cases h
end
end Sw
end

section
set_option Elab.async false
set_option linter.all false
set_option maxRecDepth 100000
set_option maxHeartbeats 4000000
/-! Assignments. -/
namespace Sw
open PySem PySem.Spec PyProof.Rows L2
section
variable {X : Cx} {Γ : Cal} {n : Nat} {C : Ctx} {K : PySem.W.Frag} {G G' G1 G2 G3 : Addr → Prop} {own own' own1 own2 own3 : OM} {S S' S1 S2 S3 : Sw.S} {σ σ' : L2.St} {H H' H1 H2 H3 : Hp} {Fr Fr' : Addr → Prop} {pos : Pos} {F F' : List Addr}
/-- the value is no comprehension -/
def swN : Expr → Bool
  | .ListComp .. => false
  | .SetComp .. => false
  | .DictComp .. => false
  | _ => true
theorem sw_no {v : Expr} (h : swN v = true) (t : Option Expr) (l : Nat) (env : Env) : swapsWith v t l env = pure false := by
  cases v <;> first | rfl | cases h
def notName : Expr → Bool
  | .Name .. => false
  | _ => true
theorem sw_sub {v t : Expr} (h : swN v = true ∨ notName t = true) (l : Nat) (env : Env) : swapsWith v (some t) l env = pure false := by
  rcases h with h | h
  · exact sw_no h _ _ _
  · cases t <;> first | (cases h; done) | (cases v <;> rfl)
def RvOk (r : R) : Prop := True
/-- what was evaluated is stored -/
theorem take_one {r : R} {v : V} {f : List Addr} (hR : Rel K G own S σ H) (sm : Same H H') (m : Mv own S own1 S1) (R1 : Rel K G own1 S1 σ H') (h : RepR K G own (FrM own own1 H) H' r v f) :
    ∃ G2 own2, Rel K G2 own2 (freezeL S1 r.al) σ H' ∧ Held K G2 own2 H' f ∧ SlotOk K H' G2 f (soR r) r.d v ∧ Step G own S H G2 own2 (freezeL S1 r.al) H' ∧ Mine own S H f := by
  obtain ⟨G2, a1, a2, a3, a4, a5⟩ := consume (al := r.al) hR sm m R1 r.al f h.nodes h.nodup
  exact ⟨G2, _, a1, a2, held_slot h a5, a3, a4⟩
/-- a comprehension that a cell takes -/
def swC (C : Ctx) : Expr → Expr → Bool
  | .Name y _, .ListComp .. => isCell C.sc y
  | _, _ => false
theorem sw_cell {x v : Expr} (hs : X.env.scope = C.sc) (h : swC C x v = true) (l : Nat) : swapsWith v (some x) l X.env = pure false := by
  unfold swC at h
  split at h
  · rename_i y p _ _ _ _
    have k : X.env.kindOf y = some .cell := by
      unfold Env.kindOf
      rw [hs]
      unfold isCell at h
      split at h
      · assumption
      · cases h
    unfold swapsWith
    simp only [k, show (some NameKind.cell == some NameKind.local) = false from rfl, Bool.and_false, Bool.false_and]
  · cases h
theorem s_asg {t : Tgt} {e : Ex} {x v : Expr} (hv : PE X v (tM X.K Γ e)) (ht : PG X x (gT X.K Γ t)) (hs : ∀ l, swapsWith v (some x) l X.env = pure false) (h1 : ∀ env, (assignEach [x] env).map (·.2) = [assign x env]) (hw : ∀ env, swappedStores [x] v env = pure none) :
    PS X (.Assign [x] v pos) (tS X.K Γ (.asg t e)) := by
  refine ps_imp (ps_asg hv ht (hs _) (hw _) (h1 _)) fun D σ H ⟨G, own, S, out, hR, he, fin⟩ => ?_
  simp only [exec] at he
  obtain ⟨⟨r, S1⟩, e1, he⟩ := Option.bind_eq_some_iff.mp he
  obtain ⟨S', e2, he⟩ := Option.map_eq_some_iff.mp he
  subst he
  refine ⟨G, own, S, r, S1, hR, e1, fun v H' f own1 sm m R1 rep => ?_⟩
  obtain ⟨G2, own2, a1, a2, a3, a4, a5⟩ := take_one hR sm m R1 rep
  exact ⟨G2, own2, _, r, f, [], S', a1, by rw [List.append_nil]; exact a2, a3, e2, fun G' own' σ' H2 R2 st _ _ => fin G' own' σ' H2 (st.after a4 a5) R2⟩
theorem asg_comp {tg : Tg} {it c e : Ex} {j : Nat} {D : Ends} (h : tS X.K Γ (.asg (.nm j) (.comp tg it c e)) D σ H) : tAsg (tE X.K Γ (.comp tg it c e)) (gName j) D σ H := by
  obtain ⟨G, own, S, out, hR, he, fin⟩ := h
  simp only [exec] at he
  obtain ⟨⟨r, S1⟩, e1, he⟩ := Option.bind_eq_some_iff.mp he
  obtain ⟨S', e2, he⟩ := Option.map_eq_some_iff.mp he
  subst he
  simp only [evM] at e1
  obtain ⟨r', e3, e4⟩ := Option.map_eq_some_iff.mp e1
  cases e4
  refine ⟨G, own, S, r, hR, e3, fun v H' f sm rep => ?_⟩
  obtain ⟨G2, own2, a1, a2, a3, a4, a5⟩ := take_one hR sm Mv.refl (hR.same sm) (rep.fr frm_fresh)
  simp only [store] at e2
  cases e2
  obtain ⟨own', r1, r2, r3⟩ := store_nm (g := []) a1 (by rw [List.append_nil]; exact a2) a3 j
  exact fin G2 own' _ H' (r2.after a4 a5) r1
/-! ### several targets -/
inductive HVs (K : PySem.W.Frag) (H : Hp) (G : Addr → Prop) : List R → List V → List Addr → Prop
  | nil : HVs K H G [] [] []
  | cons {r : R} {v : V} {f : List Addr} {rs : List R} {vs : List V} {g : List Addr} (h : SlotOk K H G f (soR r) r.d v) (hs : HVs K H G rs vs g) : HVs K H G (r :: rs) (v :: vs) (f ++ g)
theorem HVs.length : ∀ {rs : List R} {vs : List V} {f : List Addr}, HVs K H G rs vs f → vs.length = rs.length
  | _, _, _, .nil => rfl
  | _, _, _, .cons _ hs => by simp [HVs.length hs]
theorem HVs.step {f g : List Addr} (hR : Rel K G own S σ H) (h : Held K G own H (f ++ g)) (st : StepF f G own S H G' own' S' H') (hg : ∀ b, b ∈ g → ∀ u, H b = some u → H' b = some u) :
    ∀ {rs : List R} {vs : List V} {fe : List Addr}, (∀ b, b ∈ fe → b ∈ g) → HVs K H G rs vs fe → HVs K H' G' rs vs fe
  | _, _, _, _, .nil => .nil
  | _, _, _, hf, .cons k ks => .cons (k.step hR h st hg fun b hb => hf b (by simp [hb])) (HVs.step hR h st hg (fun b hb => hf b (by simp [hb])) ks)
def gTs (K : PySem.W.Frag) (Γ : Cal) (ts : List Tgt) : TGs := fun vs σ H Q => ∃ G own S rs F S', Rel K G own S σ H ∧ Held K G own H F ∧ HVs K H G rs vs F ∧ stores Γ ts rs S = some S' ∧
  ∀ G' own' σ' H', Rel K G' own' S' σ' H' → StepF F G own S H G' own' S' H' → Q σ' H'
def chkGs (C : Ctx) : List Tgt → List Expr → Bool
  | [], [] => true
  | t :: ts, e :: es => chkG C t e && chkGs C ts es
  | _, _ => false
theorem pgs_imp {e : List Expr} {t t' : TGs} (h : PGs X e t) (k : ∀ v σ H Q, t' v σ H Q → t v σ H Q) : PGs X e t' := ⟨fun pins s σ H v u Q I r hw => h.run pins s σ H v u Q I r (k v σ H Q hw)⟩
theorem each_tgt {t : Tgt} {e : Expr} (h : chkG C t e = true) (es : List Expr) (env : Env) : assignEach (e :: es) env = (false, assign e env) :: assignEach es env := by
  cases t <;> (unfold chkG at h; split at h <;> first | rfl | cases h)
theorem tgts_ok (hx : XOk Γ n C X) : ∀ (ts : List Tgt) (es : List Expr), chkGs C ts es = true → PGs X es (gTs X.K Γ ts)
  | [], [], _ => pgs_imp pgs_nil fun vs σ H Q ⟨G, own, S, rs, F, S', hR, hd, hv, es, q⟩ => by
    cases rs with
    | nil => cases hv; simp only [stores] at es; cases es; exact ⟨rfl, q G own σ H hR StepF.refl⟩
    | cons r rs => simp [stores] at es
  | t :: ts, e :: es, h => by
    simp only [chkGs, Bool.and_eq_true] at h
    refine pgs_imp (pgs_cons (tgt_ok hx t e h.1) (tgts_ok hx ts es h.2) (by rw [each_tgt h.1]; rfl)) fun vs σ H Q ⟨G, own, S, rs, F, S', hR, hd, hv, es, q⟩ => ?_
    cases hv with
    | nil => simp [stores] at es
    | @cons r v f rs vs g k ks =>
      simp only [stores] at es
      obtain ⟨S1, e1, es⟩ := Option.bind_eq_some_iff.mp es
      refine ⟨v, vs, rfl, G, own, S, r, f, g, S1, hR, hd, k, e1, fun G' own' σ' H' R1 st hd' hg => ⟨G', own', S1, rs, g, S', R1, hd', ks.step hR hd st hg (fun b hb => hb), es, fun G2 own2 σ2 H2 R2 st2 => q G2 own2 σ2 H2 R2 ?_⟩⟩
      exact (st.wide fun a ha => List.mem_append_left _ ha).trans' st2 (fun a ha => List.mem_append_right _ ha)
  | [], _ :: _, h => by simp [chkGs] at h
  | _ :: _, [], h => by simp [chkGs] at h
theorem tgts_each : ∀ {ts : List Tgt} {es : List Expr} (env : Env), chkGs C ts es = true → (assignEach es env).length = ts.length ∧ (assignEach es env).findIdx? (·.1) = none
  | [], [], _, _ => ⟨rfl, rfl⟩
  | t :: ts, e :: es, env, h => by
    simp only [chkGs, Bool.and_eq_true] at h
    obtain ⟨a1, a2⟩ := tgts_each env h.2
    rw [each_tgt h.1, List.findIdx?_cons]
    exact ⟨by simp [a1], by simp [a2]⟩
  | [], _ :: _, _, h => by simp [chkGs] at h
  | _ :: _, [], _, h => by simp [chkGs] at h
/-- a tuple's items -/
def Parts (K : PySem.W.Frag) (G : Addr → Prop) (own : OM) (Fr : Addr → Prop) (H : Hp) (r : R) (ds : List PyData) (vs : List V) (f : List Addr) : Prop :=
  (r.o = .dp ∧ RepOs K H vs ds f ∧ f.Nodup ∧ ∀ a, a ∈ f → Fr a) ∨ (r.o ≠ .dp ∧ f = [] ∧ RepFs K H (Pal G own Fr r.al) vs ds)
theorem parts_tup {r : R} {v : V} {f : List Addr} {ds : List PyData} (h : RepR K G own Fr H r v f) (e : r.d = .tuple ds) : ∃ a xs, v = .ref a ∧ SqT K H a xs ∧ xs.length = ds.length ∧ Parts K G own Fr H r ds xs f := by
  unfold RepR at h
  split at h
  · rename_i q
    obtain ⟨h1, h2, h3⟩ := h
    rw [e] at h1
    cases h1 with
    | tup l s => exact ⟨_, _, rfl, l, s.length, .inl ⟨q, s, h2, h3⟩⟩
  · obtain ⟨a, xs, ds', e1, e2, _⟩ := h
    rw [e] at e2; cases e2
  · rename_i q1 q2
    obtain ⟨h1, h2⟩ := h
    rw [e] at h2
    cases h2 with
    | tup l s => exact ⟨_, _, rfl, l, s.length, .inr ⟨q1, h1, s⟩⟩
theorem parts_of {rs : List R} {vs : List V} {f : List Addr} (h : RepRs K G own Fr H rs vs f) : ∃ g, Parts K G own Fr H (tupOf rs) (rs.map R.d) vs g := by
  unfold tupOf mk
  by_cases pl : plain (.tuple (rs.map R.d)) = true
  · rw [if_pos pl]
    exact ⟨[], .inr ⟨(fun z => by cases z), rfl, RepFs.plain_any _ _ (by simpa [plain] using pl) h.rep⟩⟩
  · rw [if_neg pl]
    by_cases k : rs.all R.ok = true
    · obtain ⟨g, h1, h2, h3⟩ := h.deep k
      simp only [k, if_true]
      exact ⟨g, .inl ⟨rfl, h1, h2, fun a ha => (h.nodes a (h3 a ha)).2⟩⟩
    · simp only [k]
      exact ⟨[], .inr ⟨(fun z => by cases z), rfl, h.rep⟩⟩
theorem hvs_dp : ∀ {vs : List V} {ds : List PyData} {f : List Addr}, RepOs K H vs ds f → HVs K H G (ds.map fun d => mk d .dp []) vs f
  | _, _, _, .nil => .nil
  | _, _, _, @RepOs.cons _ _ v vs d ds f g h hs => by
    refine .cons ?_ (hvs_dp hs)
    show SlotOk K H G f (soR (mk d .dp [])) (mk d .dp []).d v
    by_cases pl : plain d = true
    · have e : f = [] := RepO.plain_nil _ _ _ pl h
      have e2 : mk d .dp [] = Rp d := if_pos pl
      have e3 : soR (Rp d) = .fz := if_pos pl
      rw [e2, e3]
      exact ⟨e, RepF.plain_any _ _ pl (RepO.fz (P := fun _ => True) _ _ _ (fun _ _ => trivial) h)⟩
    · have e2 : mk d .dp [] = ⟨d, .dp, []⟩ := if_neg pl
      have e3 : soR ⟨d, .dp, []⟩ = .dp := if_neg pl
      rw [e2, e3]
      exact h
theorem hvs_fz : ∀ {vs : List V} {ds : List PyData}, RepFs K H G vs ds → HVs K H G (ds.map fun d => mk d .fz []) vs []
  | _, _, .nil => .nil
  | _, _, @RepFs.cons _ _ _ v vs d ds h hs => by
    refine HVs.cons (f := []) (g := []) ?_ (hvs_fz hs)
    have e3 : soR (mk d .fz []) = .fz ∧ (mk d .fz []).d = d := by
      unfold mk
      split
      · rename_i pl; exact ⟨if_pos pl, rfl⟩
      · rename_i pl; exact ⟨if_neg pl, rfl⟩
    rw [e3.1, e3.2]
    exact ⟨rfl, h⟩
theorem take_parts {r : R} {ds : List PyData} {vs : List V} {f : List Addr} (hR : Rel K G own S σ H) (sm : Same H H') (m : Mv own S own1 S1) (R1 : Rel K G own1 S1 σ H') (h : Parts K G own (FrM own own1 H) H' r ds vs f) :
    ∃ G2 own2, Rel K G2 own2 (freezeL S1 r.al) σ H' ∧ Held K G2 own2 H' f ∧ HVs K H' G2 (partsOf r ds) vs f ∧ Step G own S H G2 own2 (freezeL S1 r.al) H' ∧ Mine own S H f := by
  unfold partsOf
  rcases h with ⟨ho, h1, h2, h3⟩ | ⟨ho, rfl, h1⟩
  · obtain ⟨G2, a1, a2, a3, a4, a5⟩ := consume (al := r.al) hR sm m R1 r.al f (fun a ha => ⟨RepOs.nodes _ _ _ h1 a ha, h3 a ha⟩) h2
    refine ⟨G2, _, a1, a2, ?_, a3, a4⟩
    simp only [ho, if_true]
    exact hvs_dp h1
  · obtain ⟨G2, a1, a2, a3, a4, a5⟩ := consume (al := r.al) hR sm m R1 r.al [] (by simp) (by simp)
    refine ⟨G2, _, a1, a2, ?_, a3, a4⟩
    simp only [ho, if_false]
    exact hvs_fz (RepFs.go ⟨fun a xs p q => ⟨q, a5 a p ((go_dom (P := Pal G own (FrM own own1 H) r.al)).lst a xs p q).2.2 (by simp)⟩, fun _ _ q => q⟩ _ _ h1)
theorem s_unp (hx : XOk Γ n C X) {ts : List Tgt} {e : Ex} {es : List Expr} {v : Expr} {k : Nat} {tpos : Pos} (hv : PE X v (tM X.K Γ e)) (ht : chkGs C ts es = true) (hw : swappedStores [.Tuple es k tpos] v X.env = pure none) :
    PS X (.Assign [.Tuple es k tpos] v pos) (tS X.K Γ (.unp ts e)) := by
  obtain ⟨l1, l2⟩ := tgts_each X.env ht
  refine ps_imp (ps_asg hv (pg_tup hx.calm (tgts_ok hx ts es ht) l1 l2) (sw_sub (t := .Tuple es k tpos) (.inr rfl) pos.line X.env) hw rfl) fun D σ H ⟨G, own, S, out, hR, he, fin⟩ => ?_
  simp only [exec] at he
  obtain ⟨⟨r, S1⟩, e1, he⟩ := Option.bind_eq_some_iff.mp he
  dsimp only at he
  split at he
  · rename_i ds ed
    obtain ⟨S', e2, he⟩ := Option.map_eq_some_iff.mp he
    subst he
    refine ⟨G, own, S, r, S1, hR, e1, fun v H' f own1 sm m R1 rep => ?_⟩
    obtain ⟨a, xs, ea, sq, hl, pt⟩ := parts_tup rep ed
    obtain ⟨G2, own2, a1, a2, a3, a4, a5⟩ := take_parts hR sm m R1 pt
    have hlen : xs.length = ts.length := by
      rw [a3.length]
      have : ∀ (ts : List Tgt) (rs : List R) (S : Sw.S) (S' : Sw.S), stores Γ ts rs S = some S' → rs.length = ts.length := by
        intro ts
        induction ts with
        | nil => intro rs S S' h; cases rs with
          | nil => rfl
          | cons r rs => simp [stores] at h
        | cons t ts ih => intro rs S S' h; cases rs with
          | nil => simp [stores] at h
          | cons r rs =>
            simp only [stores] at h
            obtain ⟨S1, _, h⟩ := Option.bind_eq_some_iff.mp h
            simp [ih _ _ _ h]
      exact this _ _ _ _ e2
    exact ⟨a, xs, ea, sq, hlen, G2, own2, _, _, f, S', a1, a2, a3, e2, fun G' own' σ' H2 R2 st => fin G' own' σ' H2 (st.after a4 a5) R2⟩
  · cases he
/-! ### plain names that swap -/
theorem unp_vals {ts : List Tgt} {es : Exs} {D : Ends} {Q : List V → Hp → Prop} (h : tS K Γ (.unp ts (.tup es)) D σ H)
    (k : ∀ vs H', gTs K Γ ts vs σ H' D.nx → Q vs H') : tMs K Γ es σ H Q := by
  obtain ⟨G, own, S, out, hR, he, fin⟩ := h
  simp only [exec, evM] at he
  obtain ⟨⟨r, S1⟩, e1, he⟩ := Option.bind_eq_some_iff.mp he
  obtain ⟨⟨rs, S2⟩, e0, e1⟩ := Option.bind_eq_some_iff.mp e1
  split at e1
  case isFalse => cases e1
  cases e1
  have ed : (tupOf rs).d = .tuple (rs.map R.d) := by
    unfold tupOf mk
    split <;> rfl
  dsimp only at he
  rw [ed] at he
  dsimp only at he
  obtain ⟨S', e2, he⟩ := Option.map_eq_some_iff.mp he
  subst he
  refine ⟨G, own, S, rs, _, hR, e0, fun vs H' f own1 sm m R1 rep => k vs H' ?_⟩
  obtain ⟨g, pt⟩ := parts_of rep
  obtain ⟨G2, own2, a1, a2, a3, a4, a5⟩ := take_parts hR sm m R1 pt
  exact ⟨G2, own2, _, _, g, S', a1, a2, a3, e2, fun G' own' σ' H2 R2 st => fin G' own' σ' H2 (st.after a4 a5) R2⟩
theorem gTs_nm {Q : L2.St → Hp → Prop} : ∀ (is : List Nat) {vs : List V} {σ : L2.St}, gTs K Γ (is.map .nm) vs σ H Q → is.length = vs.length ∧ Q (setManyV is vs σ) H
  | [], vs, σ, ⟨G, own, S, rs, F, S', hR, hd, hv, es, q⟩ => by
    cases rs with
    | nil => cases hv; simp only [stores, List.map] at es; cases es; exact ⟨rfl, q G own σ H hR StepF.refl⟩
    | cons r rs => simp [stores] at es
  | i :: is, vs, σ, ⟨G, own, S, rs, F, S', hR, hd, hv, es, q⟩ => by
    cases hv with
    | nil => simp [stores] at es
    | @cons r v f rs vs g k ks =>
      simp only [stores, List.map, store, Option.bind_some] at es
      obtain ⟨own', r1, r2, r3⟩ := store_nm hR hd k i
      obtain ⟨l, z⟩ := gTs_nm is (vs := vs) (σ := σ.set i (some v)) (Q := Q) ⟨G, own', _, rs, g, S', r1, r3, ks.step hR hd r2 (fun _ _ _ e => e) (fun _ hb => hb), es, fun G2 own2 σ2 H2 R2 st2 => q G2 own2 σ2 H2 R2 ((r2.wide fun a ha => List.mem_append_left _ ha).trans' st2 fun a ha => List.mem_append_right _ ha)⟩
      exact ⟨by simp [l], z⟩
end
end Sw
end

section
set_option Elab.async false
set_option linter.all false
set_option maxRecDepth 100000
set_option maxHeartbeats 4000000
/-! Lists changed by methods. -/
namespace Sw
open PySem PySem.Spec PyProof.Rows L2
section
variable {X : Cx} {Γ : Cal} {n : Nat} {C : Ctx} {K : PySem.W.Frag} {G G' G1 G2 G3 : Addr → Prop} {own own' own1 own2 own3 : OM} {S S' S1 S2 S3 : Sw.S} {σ σ' : L2.St} {H H' H1 H2 H3 : Hp} {Fr Fr' : Addr → Prop} {pos : Pos} {F F' : List Addr}
theorem drop_erase {α : Type} : ∀ (xs : List α), xs.dropLast = xs.eraseIdx (xs.length - 1)
  | [] => rfl
  | [a] => rfl
  | a :: b :: r => by
    show a :: (b :: r).dropLast = a :: (b :: r).eraseIdx (r.length + 1 - 1 + 1 - 1)
    rw [drop_erase (b :: r)]
    rfl
def PopAt (q : PyData) (n j : Nat) : Prop := (q = .none ∧ j = n - 1) ∨ ∃ i, q = .int i ∧ -(2 ^ 63) ≤ i ∧ i < 2 ^ 63 ∧ ix n i = some j
theorem popD_some {q l x l' : PyData} (e : popD q l = some (x, l')) : ∃ ds j, l = .list ds ∧ ds[j]? = some x ∧ l' = .list (ds.eraseIdx j) ∧ PopAt q ds.length j := by
  unfold popD at e
  split at e
  · split at e
    · split at e
      · rename_i xs x' hx
        cases e
        refine ⟨_, _, rfl, ?_, by rw [drop_erase], .inl ⟨rfl, rfl⟩⟩
        rw [← hx, List.getLast?_eq_getElem?]
      · cases e
    · split at e
      · rename_i hb
        obtain ⟨j, e1, e⟩ := Option.bind_eq_some_iff.mp e
        obtain ⟨y, e2, e⟩ := Option.map_eq_some_iff.mp e
        cases e
        have b : big = 4611686018427387904 := rfl
        rw [b] at hb
        exact ⟨_, j, rfl, e2, rfl, .inr ⟨_, rfl, by omega, by omega, e1⟩⟩
      · cases e
    · cases e
  · cases e
theorem takeOut_some {i : Nat} {ks : List PyData} {q : PyData} {po : Own} {px : PyData} (e : takeOut S i ks q = some (po, px, S')) : ∃ o d o' ds j d', S[i]? = some (some (o, d)) ∧ ownAfter o (!ks.isEmpty) true = some o' ∧ getAt ks d = some (.list ds) ∧ ds[j]? = some px ∧ PopAt q ds.length j ∧
    modAt ks (fun _ => some (.list (ds.eraseIdx j))) d = some d' ∧ po = (if plain px then .fz else if o = .dp then .dp else .fz) ∧ S' = S.set i (some (o', d')) := by
  unfold takeOut at e
  split at e
  · obtain ⟨o', e1, e⟩ := Option.bind_eq_some_iff.mp e
    obtain ⟨l, e2, e⟩ := Option.bind_eq_some_iff.mp e
    obtain ⟨⟨x, l'⟩, e3, e⟩ := Option.bind_eq_some_iff.mp e
    obtain ⟨d', e4, e⟩ := Option.map_eq_some_iff.mp e
    cases e
    obtain ⟨ds, j, rfl, h2, rfl, h4⟩ := popD_some e3
    exact ⟨_, _, o', ds, j, d', by assumption, e1, e2, h2, h4, e4, rfl, rfl⟩
  · cases e
theorem take_out (R : Rel K G own S σ H) {i : Nat} {ks : List PyData} {o o' : Own} {d d' px : PyData} {ds : List PyData} {j : Nat} {v v0 : V} (ei : S[i]? = some (some (o, d))) (ev : σ[i]? = some (some v0)) (hv : ks = [] → v = v0) (hz : o = .dp → Zp K H v0 d (own i) ks v (.list ds)) (hg : getAt ks d = some (.list ds))
    (ho : ownAfter o (!ks.isEmpty) true = some o') (hx : ds[j]? = some px) (hm : modAt ks (fun _ => some (.list (ds.eraseIdx j))) d = some d') :
    ∃ a vs w f own' G', v = .ref a ∧ H a = some (.lst vs) ∧ vs.length = ds.length ∧ vs[j]? = some w ∧ Rel K G' own' (S.set i (some (o', d'))) σ (upd H a (.lst (vs.eraseIdx j))) ∧
      StepF [] G own S H G' own' (S.set i (some (o', d'))) (upd H a (.lst (vs.eraseIdx j))) ∧ Held K G' own' (upd H a (.lst (vs.eraseIdx j))) f ∧
      SlotOk K (upd H a (.lst (vs.eraseIdx j))) G' f (soR ⟨px, if plain px then .fz else if o = .dp then .dp else .fz, []⟩) px w ∧ Mine own S H f := by
  obtain ⟨op, cs⟩ := open_own ei ho
  obtain ⟨a, vs, ea, ah, am, rf, deep⟩ := own_node R ei ev op (cs.elim (fun z => .inr z.1) fun z => .inl (isE z.2.1)) hv hg hz
  have aG : ¬ G a := R.dis i a am
  have jl : j < ds.length := (List.getElem?_eq_some_iff.mp hx).1
  by_cases od : o = .dp
  · obtain ⟨A, gs, B, e1, e2, e3⟩ := deep od
    obtain ⟨A', fx, B', w, rfl, f2, f3, f4⟩ := e2.erase hx
    have nd := R.nd i
    rw [e1] at nd
    have n1 := List.nodup_append.mp nd
    have n2 := List.nodup_append.mp n1.1
    have n3 := List.nodup_cons.mp n2.2.1
    have n4 := List.nodup_append.mp n3.2
    have n5 := List.nodup_append.mp n4.1
    have kp : Keeps H (upd H a (.lst (vs.eraseIdx j))) (A ++ B) := ⟨fun b hb xs e => by
      have ne : b ≠ a := by
        intro z
        subst z
        rcases List.mem_append.mp hb with z | z
        · exact n2.2.2 b z b (by simp) rfl
        · exact n1.2.2 b (by simp) b z rfl
      rw [upd_ne ne]; exact e, (go_upd (P := fun _ => False) (P' := fun _ => False) ah fun _ z => z.elim).tup⟩
    have na : ∀ b, b ∈ A' ++ fx ++ B' → b ≠ a := fun b hb e => n3.1 (e ▸ hb)
    have ro : RepOs K (upd H a (.lst (vs.eraseIdx j))) (vs.eraseIdx j) (ds.eraseIdx j) (A' ++ B') := RepOs.go kp.2 _ _ _ (fun b hb xs e => by
      have ne := na b (by simp at hb ⊢; rcases hb with z | z <;> simp [z])
      rw [upd_ne ne]; exact e) f4
    subst ea
    obtain ⟨d2, q1, q2⟩ := e3 _ kp (fun _ => some (.list (ds.eraseIdx j))) (.list (ds.eraseIdx j)) (a :: (A' ++ B')) rfl (.lst upd_same ro)
    rw [hm] at q1; cases q1
    have fd : ∀ b, b ∈ A ++ (a :: (A' ++ B')) ++ B → b ∈ own i ∨ b ∈ ([] : List Addr) := fun b hb => by
      rw [e1]
      left
      simp only [List.mem_append, List.mem_cons] at hb ⊢
      rcases hb with (z | z | z | z) | z <;> simp [z]
    have fn : (A ++ (a :: (A' ++ B')) ++ B).Nodup := by
      refine List.nodup_append.mpr ⟨List.nodup_append.mpr ⟨n2.1, List.nodup_cons.mpr ⟨fun z => na a (by simp at z ⊢; rcases z with z | z <;> simp [z]) rfl, List.nodup_append.mpr ⟨n5.1, n4.2.1, fun x hx y hy => n4.2.2 x (by simp [hx]) y hy⟩⟩, fun x hx y hy => n2.2.2 x hx y ?_⟩, n1.2.1, fun x hx y hy => n1.2.2 x ?_ y hy⟩
      · simp only [List.mem_append, List.mem_cons] at hy ⊢
        rcases hy with z | z | z <;> simp [z]
      · simp only [List.mem_append, List.mem_cons] at hx ⊢
        rcases hx with z | z | z | z <;> simp [z]
    have oo : o' = .dp := by
      rcases cs with z | z
      · exact z.2.2
      · subst od
        have := ho
        cases ks <;> (simp [ownAfter] at this; exact this.symm)
    subst od; subst oo
    obtain ⟨r1, r2⟩ := mut_rel (G' := G) (F := []) R Held.nil ei ev op am ah (fun _ g => g) (fun b g => .inl g) (fun b hb => by
      rcases fd b hb with z | z
      · exact R.dis i b z
      · cases z) fd fn (o' := .dp) q2 (.inr rfl) R.gin
    have fxo : ∀ b, b ∈ fx → b ∈ own i := fun b hb => by rw [e1]; simp [hb]
    have outs : ∀ b, b ∈ fx → b ∉ A ++ (a :: (A' ++ B')) ++ B := fun b hb z => by
      simp only [List.mem_append, List.mem_cons] at z
      rcases z with (z | z | z | z) | z
      · exact n2.2.2 b z b (by simp [hb]) rfl
      · exact na b (by simp [hb]) z
      · exact n5.2.2 b z b hb rfl
      · exact n4.2.2 b (by simp [hb]) b z rfl
      · exact n1.2.2 b (by simp [hb]) b z rfl
    have rx : RepO K (upd H a (.lst (vs.eraseIdx j))) w px fx := RepO.go kp.2 _ _ _ (fun b hb xs e => by
      have ne := na b (by simp [hb])
      rw [upd_ne ne]; exact e) f3
    refine ⟨a, vs, w, fx, _, G, rfl, ah, rf.length, f2, r1, r2, ⟨n5.2.1, fun k b hb z => ?_, fun b hb => R.dis i b (fxo b hb), RepO.nodes _ _ _ rx⟩, ?_, fun b hb => .inr ⟨i, fxo b hb, op⟩⟩
    · by_cases q : k = i
      · subst q; rw [put_same] at z; exact outs b hb z
      · rw [put_ne _ q] at z; exact q (R.dj k i b z (fxo b hb))
    · unfold soR
      by_cases pl : plain px = true
      · simp only [pl, if_true]
        exact ⟨RepO.plain_nil _ _ _ pl rx, RepF.plain_any _ _ pl (RepO.fz (P := fun _ => True) _ _ _ (fun _ _ => trivial) rx)⟩
      · simp only [pl, if_true]
        exact rx
  · rcases cs with z | ⟨c1, c2, c3⟩
    · exact absurd z.1 od
    · have c1 : o = .sh := c1.elim (fun z => absurd z od) id
      subst c1; subst c3
      have hk0 := isE c2
      subst hk0
      have hv' := hv rfl
      subst hv'
      have hm' : some (PyData.list (ds.eraseIdx j)) = some d' := by unfold modAt at hm; exact hm
      cases hm'
      obtain ⟨w, w1, w2⟩ := rf.get hx
      have fd : ∀ b, b ∈ [a] → b ∈ own i ∨ b ∈ ([] : List Addr) := fun b hb => .inl (by rw [List.mem_singleton.mp hb]; exact am)
      have gin : ∀ b, (G b ∨ b ∈ own i) ∧ b ≠ a → H b ≠ none := fun b z e => by
        rcases z.1 with w | w
        · exact R.gin b w e
        · obtain ⟨xs, q⟩ := R.nodes w; rw [q] at e; cases e
      obtain ⟨r1, r2⟩ := mut_rel (G' := fun b => (G b ∨ b ∈ own i) ∧ b ≠ a) (F := []) (vs' := vs.eraseIdx j) (fi := [a]) (o' := .sh) (d' := .list (ds.eraseIdx j)) R Held.nil ei ev op am ah (fun b g => ⟨.inl g, fun z => aG (z ▸ g)⟩) (fun b g => g.1.imp_right .inl) (fun b hb g => g.2 (List.mem_singleton.mp hb)) fd (by simp)
        ⟨a, vs.eraseIdx j, ds.eraseIdx j, ea, rfl, rfl, upd_same, RepFs.go (go_upd ah fun b z => ⟨z.2, z⟩) _ _ (rf.erase j)⟩ (.inl rfl) gin
      refine ⟨a, vs, w, [], _, _, ea, ah, rf.length, w1, r1, r2, Held.nil, ?_, fun b hb => by cases hb⟩
      have e3 : soR ⟨px, if plain px then Own.fz else if Own.sh = Own.dp then Own.dp else Own.fz, []⟩ = .fz := by
        unfold soR
        split
        · rfl
        · rename_i z; simp only [z, if_false]; rfl
      rw [e3]
      exact ⟨rfl, RepF.go (go_upd ah fun b z => ⟨z.2, z⟩) _ _ w2⟩
/-! ### pop -/
def tPop (K : PySem.W.Frag) (Γ : Cal) (i : Nat) (ps : Exs) : Ex → TE
  | .non => tBM0 K "list" rPop (tN K Γ i ps)
  | k => tBM K "list" rPopAt (tN K Γ i ps) (tCons (tE K Γ k) tNil)
def chkPop (C : Ctx) (i : Nat) (ps : Exs) (k : Ex) : Expr → Bool
  | .Call (.Attribute x m p) [] [] q => decide (m = "pop") && (p.endLine == q.line) && notCall0 x && chkN C i ps x && !notNon k
  | .Call (.Attribute x m p) [y] [] q => decide (m = "pop") && (p.endLine == q.line) && notCall0 x && chkN C i ps x && notNon k && chkE C k y && notStar y
  | _ => false
theorem pop_ok (hx : XOk Γ n C X) {i : Nat} {ps : Exs} {k : Ex} {e : Expr} (h : chkPop C i ps k e = true) : PE X e (tPop X.K Γ i ps k) := by
  unfold chkPop at h
  split at h
  · simp only [Bool.and_eq_true, decide_eq_true_eq] at h
    obtain ⟨⟨⟨⟨rfl, h2⟩, h3⟩, h4⟩, h5⟩ := h
    have : k = .non := by cases k <;> first | rfl | cases h5
    subst this
    exact pe_bm0 PySem.F.plainAttrs_list PySem.F.slot_list_pop PySem.F.type_list_pop mt_pop (nav_ok hx i ps _ h4) (base_ok h3 _ _) h2
  · simp only [Bool.and_eq_true, decide_eq_true_eq] at h
    obtain ⟨⟨⟨⟨⟨⟨rfl, h2⟩, h3⟩, h4⟩, h5⟩, h6⟩, h7⟩ := h
    have e : tPop X.K Γ i ps k = tBM X.K "list" rPopAt (tN X.K Γ i ps) (tCons (tE X.K Γ k) tNil) := by cases k <;> first | rfl | cases h5
    rw [e]
    exact pe_bm PySem.F.plainAttrs_list PySem.F.slot_list_pop PySem.F.type_list_pop mt_popAt (nav_ok hx i ps _ h4) (pa_1 (sndE k C X _ hx h6) h7) (base_ok h3 _ _) (few_1 h7 _ _) h2 (star_ok h7 _ _) rfl
  · cases h
theorem ty_lst {a : Addr} {vs : List V} (h : H a = some (.lst vs)) : tyV K "list" (.ref a) H := .inl ⟨rfl, vs, .inl (.inl h)⟩
theorem pop_run {i : Nat} {ps : Exs} {k : Ex} {Q : VK} {rs : List R} {q : R} {kd : PyData} {po : Own} {px : PyData} (hR : Rel K G own S σ H) (e1 : evs Γ ps S = some rs) (e2 : ev Γ k S = some q) (ek : popK k q.d = some kd) (e3 : takeOut S i (pathOf rs) kd = some (po, px, S'))
    (cont : ∀ w f G' own' H2, Rel K G' own' S' σ H2 → StepF [] G own S H G' own' S' H2 → Held K G' own' H2 f → SlotOk K H2 G' f (soR ⟨px, po, []⟩) px w → Mine own S H f → Q w H2) : tPop K Γ i ps k σ H Q := by
  obtain ⟨o, d, o', ds, j, d', ei, ho, hg, hx, hp, hm, rfl, rfl⟩ := takeOut_some e3
  obtain ⟨v0, ev, _⟩ := hR.slot i o d ei
  have key : ∀ (H1 : Hp) (hR1 : Rel K G own S σ H1), Same H H1 → ∀ v, (rs = [] → v = v0) → (o = .dp → Zp K H1 v0 d (own i) (pathOf rs) v (.list ds)) → ∃ a vs w, v = .ref a ∧ H1 a = some (.lst vs) ∧ vs.length = ds.length ∧ vs[j]? = some w ∧ Q w (upd H1 a (.lst (vs.eraseIdx j))) := by
    intro H1 hR1 s v hv hz
    obtain ⟨a, vs, w, f, own', G', r1, r2, r3, r4, r5, r6, r7, r8, r9⟩ := take_out hR1 ei ev (fun z => hv (path_nil.mp z)) hz hg ho hx hm
    refine ⟨a, vs, w, r1, r2, r3, r4, cont w f G' own' _ r5 ?_ r7 r8 fun b hb => (r9 b hb).imp_left s.free⟩
    exact ⟨fun a o e z1 z2 => r6.keep a o (s a o e) z1 z2, fun a e => r6.dom a (fun z => e (s.free z)), r6.gsub, fun a z => (r6.gnew a z).imp_right fun z => z.imp_right fun z => z.imp_right s.free,
      fun i a z => (r6.onew i a z).imp_right fun z => z.imp_right s.free, fun i a z w => (r6.mnew i a z w).imp_right fun z => z.imp_right s.free, r6.lck⟩
  have nav : ∀ Q' : VK, (∀ v H1, Same H H1 → (rs = [] → v = v0) → (o = .dp → Zp K H1 v0 d (own i) (pathOf rs) v (.list ds)) → Q' v H1) → tN K Γ i ps σ H Q' := fun Q' k => ⟨G, own, S, rs, o, d, _, v0, hR, e1, ei, ev, (deep_dp ho).imp path_nil.mp id, hg, k⟩
  have none_case : kd = .none → tBM0 K "list" rPop (tN K Γ i ps) σ H Q := fun hq => by
    refine nav _ fun v H1 s hv hz => ?_
    obtain ⟨a, vs, w, rfl, r2, r3, r4, r5⟩ := key H1 (hR.same s) s v hv hz
    refine ⟨ty_lst r2, a, vs, w, rfl, rfl, r2, ?_, ?_⟩
    · rcases hp with ⟨_, rfl⟩ | ⟨_, z, _⟩
      · rw [r3]; exact r4
      · rw [hq] at z; cases z
    · rcases hp with ⟨_, rfl⟩ | ⟨_, z, _⟩
      · rw [drop_erase, r3]; exact r5
      · rw [hq] at z; cases z
  have some_case : (∃ iz, kd = .int iz ∧ q.d = .int iz) → tBM K "list" rPopAt (tN K Γ i ps) (tCons (tE K Γ k) tNil) σ H Q := fun ⟨iz, z1, z2⟩ => by
    refine nav _ fun v H1 s hv hz => ?_
    obtain ⟨a, vs, w, rfl, r2, r3, r4, r5⟩ := key H1 (hR.same s) s v hv hz
    refine ⟨ty_lst r2, tE_then (hR.same s) e2 fun u H2 f2 s2 R2 h2 => ?_⟩
    rcases hp with ⟨z, _⟩ | ⟨iz', z, b1, b2, b3⟩
    · rw [z1] at z; cases z
    · rw [z1] at z; cases z
      have k2 := h2.rep
      rw [z2] at k2
      cases k2
      obtain ⟨a', vs', w', q1, q2, q3, q4, q5⟩ := key H2 R2 (s.trans s2) (.ref a) hv (fun z => (hz z).same s2)
      cases q1
      exact ⟨a, vs', iz, j, w', rfl, rfl, q2, b1, b2, (ixN_seq (by rw [q3, ← ix_eq]; exact b3)).1, q4, q5⟩
  by_cases hk : k = .non
  · subst hk
    cases ek
    exact none_case rfl
  · have h1 : tPop K Γ i ps k = tBM K "list" rPopAt (tN K Γ i ps) (tCons (tE K Γ k) tNil) := by cases k <;> first | rfl | exact absurd rfl hk
    have h2 : popK k q.d = (match q.d with | .int i => some (.int i) | _ => none) := by cases k <;> first | exact absurd rfl hk | (cases q.d <;> rfl)
    rw [h1]
    rw [h2] at ek
    split at ek
    · rename_i e
      cases ek
      exact some_case ⟨_, rfl, e⟩
    · cases ek
/-- a popped item is stored, or dropped -/
theorem s_pop (hx : XOk Γ n C X) {j i : Nat} {ps : Exs} {k : Ex} {x : Str} {p : Pos} {e : Expr} (h : chkPop C i ps k e = true) (hn : tgName C j x = true) : PS X (.Assign [.Name x p] e pos) (tS X.K Γ (.pop (some j) i ps k)) := by
  have sw : swN e = true := by unfold chkPop at h; split at h <;> first | rfl | cases h
  have st : swappedStores [.Name x p] e X.env = pure none := rfl
  refine ps_imp (ps_asg (pop_ok hx h) (name_ok hx hn) (sw_sub (t := .Name x p) (.inl sw) pos.line X.env) st rfl) fun D σ H ⟨G, own, S, out, hR, he, fin⟩ => ?_
  simp only [exec] at he
  obtain ⟨rs, e1, he⟩ := Option.bind_eq_some_iff.mp he
  obtain ⟨q, e2, he⟩ := Option.bind_eq_some_iff.mp he
  obtain ⟨kd, e3, he⟩ := Option.bind_eq_some_iff.mp he
  obtain ⟨⟨po, px, S'⟩, e4, he⟩ := Option.map_eq_some_iff.mp he
  subst he
  refine pop_run hR e1 e2 e3 e4 fun w f G' own' H2 R2 st hd sk mine => ?_
  obtain ⟨own2, r1, r2, r3⟩ := store_nm (g := []) (r := ⟨px, po, []⟩) R2 (by rw [List.append_nil]; exact hd) sk j
  have es : slotOf ⟨px, po, []⟩ = some (po, px) := by
    obtain ⟨o, d, o', ds, j, d', ei, ho, hg, hx, hp, hm, ep, rfl⟩ := takeOut_some e4
    unfold slotOf
    subst ep
    by_cases pl : plain px = true
    · simp [pl]
    · simp only [pl]
      by_cases z : o = .dp <;> simp [z, nOwn]
  rw [es] at r1 r2
  refine fin G' own2 _ H2 ?_ r1
  exact r2.after (st.after (Step.same (Same.refl H)) fun _ z => by cases z) mine
theorem s_popD (hx : XOk Γ n C X) {i : Nat} {ps : Exs} {k : Ex} {e : Expr} (h : chkPop C i ps k e = true) : PS X (.Expr e pos) (tS X.K Γ (.pop none i ps k)) := by
  have sw : swN e = true := by unfold chkPop at h; split at h <;> first | rfl | cases h
  refine ps_imp (ps_expr (pop_ok hx h) (sw_no sw _ _ _)) fun D σ H ⟨G, own, S, out, hR, he, fin⟩ => ?_
  simp only [exec] at he
  obtain ⟨rs, e1, he⟩ := Option.bind_eq_some_iff.mp he
  obtain ⟨q, e2, he⟩ := Option.bind_eq_some_iff.mp he
  obtain ⟨kd, e3, he⟩ := Option.bind_eq_some_iff.mp he
  obtain ⟨⟨po, px, S'⟩, e4, he⟩ := Option.map_eq_some_iff.mp he
  subst he
  exact pop_run hR e1 e2 e3 e4 fun w f G' own' H2 R2 st hd sk mine => fin G' own' _ H2 (st.after (Step.same (Same.refl H)) fun _ z => by cases z) R2
theorem s_drop {e : Ex} {x : Expr} (hv : PE X x (tE X.K Γ e)) (sw : swN x = true) : PS X (.Expr x pos) (tS X.K Γ (.drop e)) := by
  refine ps_imp (ps_expr hv (sw_no sw _ _ _)) fun D σ H ⟨G, own, S, out, hR, he, fin⟩ => ?_
  simp only [exec] at he
  obtain ⟨r, e1, he⟩ := Option.map_eq_some_iff.mp he
  subst he
  exact ⟨G, own, S, r, hR, e1, fun v H' f s _ => fin G own σ H' (Step.same s) (hR.same s)⟩
end
end Sw
end

section
set_option Elab.async false
set_option linter.all false
set_option maxRecDepth 100000
set_option maxHeartbeats 4000000
/-! append, insert, extend. -/
namespace Sw
open PySem PySem.Spec PyProof.Rows L2
section
variable {Γ : Cal}
mutual
theorem evM_at : ∀ (e : Ex) (S S1 : Sw.S) (r : R), evM Γ e S = some (r, S1) → ∀ i : Nat, S1[i]? = S[i]? ∨ S1[i]? = some none
  | .mv j, S, S1, r, h, i => by
    simp only [evM] at h
    have st : ∀ T : Sw.S, T = S.set j none → (T[i]? = S[i]? ∨ T[i]? = some none) := fun T e => by
      subst e
      by_cases q : i = j
      · subst q
        by_cases hi : i < S.length
        · exact .inr (List.getElem?_set_self hi)
        · left; rw [List.getElem?_eq_none (by simp; omega), List.getElem?_eq_none (by omega)]
      · exact .inl (List.getElem?_set_ne (Ne.symm q))
    split at h
    · cases h; exact .inl rfl
    · cases h; exact st _ rfl
    · cases h; exact st _ rfl
    · cases h; exact .inl rfl
    · cases h; exact .inl rfl
    · cases h
    · cases h
  | .lst es, S, S1, r, h, i => by
    simp only [evM] at h
    obtain ⟨⟨rs, T⟩, e1, h⟩ := Option.bind_eq_some_iff.mp h
    split at h
    · cases h; exact evMs_at es S _ _ e1 i
    · cases h
  | .tup es, S, S1, r, h, i => by
    simp only [evM] at h
    obtain ⟨⟨rs, T⟩, e1, h⟩ := Option.bind_eq_some_iff.mp h
    split at h
    · cases h; exact evMs_at es S _ _ e1 i
    · cases h
  | .var _, S, S1, r, h, i => by simp only [evM] at h; obtain ⟨r', _, e⟩ := Option.map_eq_some_iff.mp h; cases e; exact .inl rfl
  | .int _, S, S1, r, h, i => by simp only [evM] at h; obtain ⟨r', _, e⟩ := Option.map_eq_some_iff.mp h; cases e; exact .inl rfl
  | .bl _, S, S1, r, h, i => by simp only [evM] at h; obtain ⟨r', _, e⟩ := Option.map_eq_some_iff.mp h; cases e; exact .inl rfl
  | .non, S, S1, r, h, i => by simp only [evM] at h; obtain ⟨r', _, e⟩ := Option.map_eq_some_iff.mp h; cases e; exact .inl rfl
  | .str _, S, S1, r, h, i => by simp only [evM] at h; obtain ⟨r', _, e⟩ := Option.map_eq_some_iff.mp h; cases e; exact .inl rfl
  | .bin _ _ _, S, S1, r, h, i => by simp only [evM] at h; obtain ⟨r', _, e⟩ := Option.map_eq_some_iff.mp h; cases e; exact .inl rfl
  | .neg _, S, S1, r, h, i => by simp only [evM] at h; obtain ⟨r', _, e⟩ := Option.map_eq_some_iff.mp h; cases e; exact .inl rfl
  | .cmp _ _ _, S, S1, r, h, i => by simp only [evM] at h; obtain ⟨r', _, e⟩ := Option.map_eq_some_iff.mp h; cases e; exact .inl rfl
  | .chain _ _ _ _ _, S, S1, r, h, i => by simp only [evM] at h; obtain ⟨r', _, e⟩ := Option.map_eq_some_iff.mp h; cases e; exact .inl rfl
  | .isN _, S, S1, r, h, i => by simp only [evM] at h; obtain ⟨r', _, e⟩ := Option.map_eq_some_iff.mp h; cases e; exact .inl rfl
  | .notN _, S, S1, r, h, i => by simp only [evM] at h; obtain ⟨r', _, e⟩ := Option.map_eq_some_iff.mp h; cases e; exact .inl rfl
  | .isB _ _, S, S1, r, h, i => by simp only [evM] at h; obtain ⟨r', _, e⟩ := Option.map_eq_some_iff.mp h; cases e; exact .inl rfl
  | .not _, S, S1, r, h, i => by simp only [evM] at h; obtain ⟨r', _, e⟩ := Option.map_eq_some_iff.mp h; cases e; exact .inl rfl
  | .and _ _, S, S1, r, h, i => by simp only [evM] at h; obtain ⟨r', _, e⟩ := Option.map_eq_some_iff.mp h; cases e; exact .inl rfl
  | .or _ _, S, S1, r, h, i => by simp only [evM] at h; obtain ⟨r', _, e⟩ := Option.map_eq_some_iff.mp h; cases e; exact .inl rfl
  | .tru _, S, S1, r, h, i => by simp only [evM] at h; obtain ⟨r', _, e⟩ := Option.map_eq_some_iff.mp h; cases e; exact .inl rfl
  | .ite _ _ _, S, S1, r, h, i => by simp only [evM] at h; obtain ⟨r', _, e⟩ := Option.map_eq_some_iff.mp h; cases e; exact .inl rfl
  | .idx _ _, S, S1, r, h, i => by simp only [evM] at h; obtain ⟨r', _, e⟩ := Option.map_eq_some_iff.mp h; cases e; exact .inl rfl
  | .slc _ _ _, S, S1, r, h, i => by simp only [evM] at h; obtain ⟨r', _, e⟩ := Option.map_eq_some_iff.mp h; cases e; exact .inl rfl
  | .rev _, S, S1, r, h, i => by simp only [evM] at h; obtain ⟨r', _, e⟩ := Option.map_eq_some_iff.mp h; cases e; exact .inl rfl
  | .stp _ _ _, S, S1, r, h, i => by simp only [evM] at h; obtain ⟨r', _, e⟩ := Option.map_eq_some_iff.mp h; cases e; exact .inl rfl
  | .call _ _, S, S1, r, h, i => by simp only [evM] at h; obtain ⟨r', _, e⟩ := Option.map_eq_some_iff.mp h; cases e; exact .inl rfl
  | .blt _ _, S, S1, r, h, i => by simp only [evM] at h; obtain ⟨r', _, e⟩ := Option.map_eq_some_iff.mp h; cases e; exact .inl rfl
  | .min2 _ _, S, S1, r, h, i => by simp only [evM] at h; obtain ⟨r', _, e⟩ := Option.map_eq_some_iff.mp h; cases e; exact .inl rfl
  | .max2 _ _, S, S1, r, h, i => by simp only [evM] at h; obtain ⟨r', _, e⟩ := Option.map_eq_some_iff.mp h; cases e; exact .inl rfl
  | .isi _ _, S, S1, r, h, i => by simp only [evM] at h; obtain ⟨r', _, e⟩ := Option.map_eq_some_iff.mp h; cases e; exact .inl rfl
  | .rng _ _ _, S, S1, r, h, i => by simp only [evM] at h; obtain ⟨r', _, e⟩ := Option.map_eq_some_iff.mp h; cases e; exact .inl rfl
  | .index _ _, S, S1, r, h, i => by simp only [evM] at h; obtain ⟨r', _, e⟩ := Option.map_eq_some_iff.mp h; cases e; exact .inl rfl
  | .count _ _, S, S1, r, h, i => by simp only [evM] at h; obtain ⟨r', _, e⟩ := Option.map_eq_some_iff.mp h; cases e; exact .inl rfl
  | .notB _ _, S, S1, r, h, i => by simp only [evM] at h; obtain ⟨r', _, e⟩ := Option.map_eq_some_iff.mp h; cases e; exact .inl rfl
  | .srt a, S, S1, r, h, i => by
    simp only [evM] at h
    obtain ⟨⟨r1, T⟩, e1, h⟩ := Option.bind_eq_some_iff.mp h
    obtain ⟨r2, _, e⟩ := Option.map_eq_some_iff.mp h
    cases e
    exact evM_at a S T r1 e1 i
  | .comp _ _ _ _, S, S1, r, h, i => by simp only [evM] at h; obtain ⟨r', _, e⟩ := Option.map_eq_some_iff.mp h; cases e; exact .inl rfl
theorem evMs_at : ∀ (es : Exs) (S S1 : Sw.S) (rs : List R), evMs Γ es S = some (rs, S1) → ∀ i : Nat, S1[i]? = S[i]? ∨ S1[i]? = some none
  | .nil, S, S1, rs, h, i => by simp only [evMs] at h; cases h; exact .inl rfl
  | .cons e es, S, S1, rs, h, i => by
    simp only [evMs] at h
    obtain ⟨⟨r, T⟩, e1, h⟩ := Option.bind_eq_some_iff.mp h
    obtain ⟨⟨us, T2⟩, e2, h⟩ := Option.map_eq_some_iff.mp h
    cases h
    rcases evMs_at es T T2 us e2 i with z | z
    · rcases evM_at e S T r e1 i with w | w
      · exact .inl (z.trans w)
      · exact .inr (z.trans w)
    · exact .inr z
end
end
section
variable {X : Cx} {Γ : Cal} {n : Nat} {C : Ctx} {K : PySem.W.Frag} {G G' G1 G2 G3 : Addr → Prop} {own own' own1 own2 own3 : OM} {S S' S1 S2 S3 : Sw.S} {σ σ' : L2.St} {H H' H1 H2 H3 : Hp} {Fr Fr' : Addr → Prop} {pos : Pos} {F F' : List Addr}
theorem pa_m {y : Expr} {t : TE} (h : PE X y t) (st : notStar y = true) : PA X [y] (tCons t tNil) := pa_cons h pa_nil (star_ok st _ _)
/-- where a kept value's nodes are then frozen -/
def Into (K : PySem.W.Frag) (G : Addr → Prop) (own own1 : OM) (H H2 : Hp) (al : List Nat) (f : List Addr) (G2 : Addr → Prop) : Prop := ∀ a, Pal G own (FrM own own1 H) al a → H2 a ≠ none → a ∉ f → G2 a
theorem ch_pre {e : Ex} {r : R} {i : Nat} {ks : List PyData} {k : Bool} {g : PyData → Option PyData} (e2 : evM Γ e S = some (r, S1)) (ec : change (freezeL S1 r.al) i ks k g = some S') :
    ∃ o d o' d' x y, S[i]? = some (some (o, d)) ∧ i ∉ r.al ∧ S1[i]? = S[i]? ∧ ownAfter o (!ks.isEmpty) k = some o' ∧ modAt ks g d = some d' ∧ getAt ks d = some x ∧ g x = some y ∧ S' = (freezeL S1 r.al).set i (some (o', d')) := by
  obtain ⟨o, d, o', d', ei, eo, em, es⟩ := change_some ec
  obtain ⟨op, _⟩ := open_own ei eo
  obtain ⟨x, y, g1, g2⟩ := modAt_get em
  rw [freezeL_get] at ei op
  by_cases hi : i ∈ r.al
  · rw [if_pos hi] at op
    cases q : S1[i]? with
    | none => rw [q] at op; cases op
    | some s =>
      rw [q] at op
      cases s with
      | none => cases op
      | some p => cases op
  · rw [if_neg hi] at ei
    rcases evM_at e S S1 r e2 i with z | z
    · exact ⟨o, d, o', d', x, y, by rw [← z]; exact ei, hi, z, eo, em, g1, g2, es⟩
    · rw [z] at ei; cases ei
theorem ch_post {D : Ends} {r : R} {y : V} {f : List Addr} {i : Nat} {o o' : Own} {d d' : PyData} {ds ds' es ks : List PyData} {v v0 : V} {ws : List V} {k : Bool} {g : PyData → Option PyData} (hR : Rel K G own S σ H) (sm : Same H H2) (m : Mv own S own1 S1) (R1 : Rel K G own1 S1 σ H2)
    (h : RepR K G own (FrM own own1 H) H2 r y f) (ei : S[i]? = some (some (o, d))) (hi : i ∉ r.al) (e1i : S1[i]? = S[i]?) (ev : σ[i]? = some (some v0)) (hv : ks = [] → v = v0) (hz : o = .dp → Zp K H2 v0 d (own i) ks v (.list ds)) (hg : getAt ks d = some (.list ds)) (hd : g (.list ds) = some (.list ds'))
    (ho : ownAfter o (!ks.isEmpty) k = some o') (hm : modAt ks g d = some d') (hw : ∀ G2, Into K G own own1 H H2 r.al f G2 → RepFs K H2 (fun b => G2 b ∨ b ∈ f) ws es)
    (hk : k = true → ∃ fe, RepOs K H2 ws es fe ∧ (f.Nodup → fe.Nodup) ∧ ∀ b, b ∈ fe → b ∈ f) (fin : Fin K D G own S H (.nx ((freezeL S1 r.al).set i (some (o', d'))))) :
    ∃ a vs, v = .ref a ∧ H2 a = some (.lst vs) ∧ vs.length = ds.length ∧ ∀ vs', Arr vs vs' ds ds' ws es → D.nx σ (upd H2 a (.lst vs')) := by
  obtain ⟨G2, a1, a2, a3, a4, a5⟩ := consume (al := r.al) hR sm m R1 r.al f h.nodes h.nodup
  have ei2 : (freezeL S1 r.al)[i]? = some (some (o, d)) := by rw [freezeL_get, if_neg hi, e1i, ei]
  have own_i : offs own1 r.al i = own i := by
    unfold offs
    rw [if_neg hi]
    rcases m i with ⟨_, z⟩ | ⟨z, _, _⟩
    · exact z
    · rw [e1i, ei] at z; cases z
  obtain ⟨a, vs, ea, ah, hl, mk⟩ := mutate (ks := ks) (es := es) (ws := ws) a1 a2 ei2 ev hv (fun z => by rw [own_i]; exact hz z) hg hd ho hm (hw _ a5) (fun z => by
    obtain ⟨fe, z1, z2, z3⟩ := hk z
    exact ⟨fe, z1, z2 a2.nd, z3⟩)
  refine ⟨a, vs, ea, ah, hl, fun vs' arr => ?_⟩
  obtain ⟨G', own', r1, r2, _⟩ := mk vs' arr
  exact fin G' own' σ _ (r2.after a3 a4) r1
theorem nav_ref {i : Nat} {o o' : Own} {d : PyData} {ds ks : List PyData} {v v0 : V} {k : Bool} (R : Rel K G own S σ H) (ei : S[i]? = some (some (o, d))) (ev : σ[i]? = some (some v0)) (ho : ownAfter o (!ks.isEmpty) k = some o') (hv : ks = [] → v = v0)
    (hg : getAt ks d = some (.list ds)) (hz : o = .dp → Zp K H v0 d (own i) ks v (.list ds)) : tyV K "list" v H := by
  obtain ⟨op, cs⟩ := open_own ei ho
  obtain ⟨a, vs, ea, ah, _⟩ := own_node R ei ev op (cs.elim (fun z => .inr z.1) fun z => .inl (isE z.2.1)) hv hg hz
  rw [ea]
  exact ty_lst ah
theorem appD_some {y x z : PyData} (e : appD y x = some z) : ∃ ds, x = .list ds ∧ ds.length < maxLen ∧ z = .list (ds ++ [y]) := by
  unfold appD at e
  split at e
  · split at e
    · cases e; exact ⟨_, rfl, by assumption, rfl⟩
    · cases e
  · cases e
theorem s_app (hx : XOk Γ n C X) {i : Nat} {ps : Exs} {e : Ex} {o y : Expr} {p q : Pos} (hl : (p.endLine == q.line) = true) (hc : notCall0 o = true) (hn : chkN C i ps o = true) (he : PE X y (tM X.K Γ e)) (st : notStar y = true) :
    PS X (.Expr (.Call (.Attribute o "append" p) [y] [] q) pos) (tS X.K Γ (.app i ps e)) := by
  refine ps_imp (ps_expr (pe_bm PySem.F.plainAttrs_list PySem.F.slot_list_append PySem.F.type_list_append mt_append (nav_ok hx i ps o hn) (pa_m he st) (base_ok hc _ _) (few_1 st _ _) hl (star_ok st _ _) rfl) rfl) fun D σ H ⟨G, own, S, out, hR, he, fin⟩ => ?_
  simp only [exec] at he
  obtain ⟨rs, e1, he⟩ := Option.bind_eq_some_iff.mp he
  obtain ⟨⟨r, S1⟩, e2, he⟩ := Option.bind_eq_some_iff.mp he
  obtain ⟨S', e3, he⟩ := Option.map_eq_some_iff.mp he
  subst he
  obtain ⟨o1, d, o', d', x, z, ei, hi, e1i, eo, em, g1, g2, rfl⟩ := ch_pre e2 e3
  obtain ⟨ds, rfl, hlen, rfl⟩ := appD_some g2
  obtain ⟨v0, ev, _⟩ := hR.slot i o1 d ei
  refine ⟨G, own, S, rs, o1, d, _, v0, hR, e1, ei, ev, (deep_dp eo).imp path_nil.mp id, g1, fun v H1 s1 hv hz => ⟨nav_ref (hR.same s1) ei ev eo (fun z => hv (path_nil.mp z)) g1 hz, ?_⟩⟩
  refine ⟨G, own, S, r, S1, hR.same s1, e2, fun w H2 f own1 s2 m R1 rep => ?_⟩
  have rep' : RepR X.K G own (FrM own own1 H) H2 r w f := rep.fr fun a z => z.imp_left s1.free
  obtain ⟨a, vs, ea, ah, hl2, mk⟩ := ch_post (ws := [w]) (es := [r.d]) hR (s1.trans s2) m R1 rep' ei hi e1i ev (fun z => hv (path_nil.mp z)) (fun z => (hz z).same s2) g1 g2 eo em (fun G2 k => .cons (fz_of (held_slot rep' k) (fun a z => .inr z) fun a z => .inl z) .nil) (fun z => ⟨f, RepOs.one (ok_own (held_slot (G2 := fun _ => True) rep' fun _ _ _ _ => trivial) z), id, fun b z => z⟩) fin
  exact ⟨a, vs, w, ea, rfl, ah, by rw [hl2, sizeLine_max]; exact hlen, mk _ arr_ext⟩
theorem insD_some {k : Int} {y x z : PyData} (e : insD k y x = some z) : ∃ ds, x = .list ds ∧ ds.length < maxLen ∧ 0 ≤ k ∧ k < 2 ^ 63 ∧ z = .list (ds.take k.toNat ++ y :: ds.drop k.toNat) := by
  unfold insD at e
  split at e
  · split at e
    · rename_i h
      cases e
      have b : big = 4611686018427387904 := rfl
      rw [b] at h
      exact ⟨_, rfl, h.1, h.2.1, by omega, rfl⟩
    · cases e
  · cases e
theorem few_2 {x y : Expr} (s1 : notStar x = true) (s2 : notStar y = true) (env : Env) (pos : Pos) : ((backTo pos (starEach [x, y] env)).all (fun x => !x.1) && (backToKw pos (keywordEach [] env)).all (fun x => x.1.isSome)
      && decide (([x, y] : List Expr).length + ([] : List Keyword).length + (if ([] : List Keyword).isEmpty then 0 else 1) < 30)) = true := by rw [star_ok s1, star_ok s2]; rfl
theorem s_ins (hx : XOk Γ n C X) {i : Nat} {k e : Ex} {o y z : Expr} {p q : Pos} (hl : (p.endLine == q.line) = true) (hc : notCall0 o = true) (hn : chkN C i .nil o = true) (hk : PE X z (tE X.K Γ k)) (he : PE X y (tM X.K Γ e)) (st : notStar z = true) (st2 : notStar y = true) :
    PS X (.Expr (.Call (.Attribute o "insert" p) [z, y] [] q) pos) (tS X.K Γ (.ins i k e)) := by
  refine ps_imp (ps_expr (pe_bm PySem.F.plainAttrs_list PySem.F.slot_list_insert PySem.F.type_list_insert mt_insert (nav_ok hx i .nil o hn) (pa_cons hk (pa_m he st2) (star_ok st _ _)) (base_ok hc _ _) (few_2 st st2 _ _) hl (star_ok st _ _) (by rw [star_ok st2]; rfl)) rfl) fun D σ H ⟨G, own, S, out, hR, he, fin⟩ => ?_
  simp only [exec] at he
  obtain ⟨q, e0, he⟩ := Option.bind_eq_some_iff.mp he
  obtain ⟨⟨r, S1⟩, e2, he⟩ := Option.bind_eq_some_iff.mp he
  dsimp only at he
  split at he
  case h_2 => cases he
  rename_i iz qd
  obtain ⟨S', e3, he⟩ := Option.map_eq_some_iff.mp he
  subst he
  obtain ⟨o1, d, o', d', x, z, ei, hi, e1i, eo, em, g1, g2, rfl⟩ := ch_pre e2 e3
  obtain ⟨ds, rfl, hlen, b1, b2, rfl⟩ := insD_some g2
  obtain ⟨v0, ev, _⟩ := hR.slot i o1 d ei
  refine ⟨G, own, S, [], o1, d, _, v0, hR, rfl, ei, ev, .inl rfl, g1, fun v H1 s1 hv hz => ⟨nav_ref (hR.same s1) ei ev eo (fun z => hv rfl) g1 hz, ?_⟩⟩
  refine tE_then (hR.same s1) e0 fun u H1' f' s1' R1' h1' => ?_
  have k1 := h1'.rep
  rw [qd] at k1
  cases k1
  have s11 := s1.trans s1'
  refine ⟨G, own, S, r, S1, R1', e2, fun w H2 f own1 s2 m R1 rep => ?_⟩
  have rep' : RepR X.K G own (FrM own own1 H) H2 r w f := rep.fr fun a z => z.imp_left s11.free
  obtain ⟨a, vs, ea, ah, hl2, mk⟩ := ch_post (ks := []) (ws := [w]) (es := [r.d]) hR (s11.trans s2) m R1 rep' ei hi e1i ev (fun z => hv rfl) (fun z => ((hz z).same s1').same s2) g1 g2 eo em (fun G2 k => .cons (fz_of (held_slot rep' k) (fun a z => .inr z) fun a z => .inl z) .nil) (fun z => ⟨f, RepOs.one (ok_own (held_slot (G2 := fun _ => True) rep' fun _ _ _ _ => trivial) z), id, fun b z => z⟩) fin
  exact ⟨a, vs, iz, w, ea, rfl, ah, by rw [hl2, sizeLine_max]; exact hlen, b1, b2, mk _ (arr_ins _)⟩
theorem extD_some {ys : List PyData} {x z : PyData} (e : extD ys x = some z) : ∃ ds, x = .list ds ∧ ds.length + ys.length ≤ maxLen ∧ z = .list (ds ++ ys) := by
  unfold extD at e
  split at e
  · split at e
    · cases e; exact ⟨_, rfl, by assumption, rfl⟩
    · cases e
  · cases e
theorem soR_list {r : R} {ys : List PyData} (e : r.d = .list ys) : soR r = nOwn r.o := by
  unfold soR
  rw [e]
  rfl
theorem s_ext (hx : XOk Γ n C X) {i : Nat} {ps : Exs} {e : Ex} {o y : Expr} {p q : Pos} (hl : (p.endLine == q.line) = true) (hc : notCall0 o = true) (hn : chkN C i ps o = true) (he : PE X y (tM X.K Γ e)) (st : notStar y = true) :
    PS X (.Expr (.Call (.Attribute o "extend" p) [y] [] q) pos) (tS X.K Γ (.ext i ps e)) := by
  refine ps_imp (ps_expr (pe_bm PySem.F.plainAttrs_list PySem.F.slot_list_extend PySem.F.type_list_extend mt_extendX (nav_ok hx i ps o hn) (pa_m he st) (base_ok hc _ _) (few_1 st _ _) hl (star_ok st _ _) rfl) rfl) fun D σ H ⟨G, own, S, out, hR, he, fin⟩ => ?_
  simp only [exec] at he
  obtain ⟨rs, e1, he⟩ := Option.bind_eq_some_iff.mp he
  obtain ⟨⟨r, S1⟩, e2, he⟩ := Option.bind_eq_some_iff.mp he
  dsimp only at he
  split at he
  case h_2 => cases he
  rename_i ys rd
  obtain ⟨S', e3, he⟩ := Option.map_eq_some_iff.mp he
  subst he
  obtain ⟨o1, d, o', d', x, z, ei, hi, e1i, eo, em, g1, g2, rfl⟩ := ch_pre e2 e3
  obtain ⟨ds, rfl, hlen, rfl⟩ := extD_some g2
  obtain ⟨v0, ev, _⟩ := hR.slot i o1 d ei
  refine ⟨G, own, S, rs, o1, d, _, v0, hR, e1, ei, ev, (deep_dp eo).imp path_nil.mp id, g1, fun v H1 s1 hv hz => ⟨nav_ref (hR.same s1) ei ev eo (fun z => hv (path_nil.mp z)) g1 hz, ?_⟩⟩
  refine ⟨G, own, S, r, S1, hR.same s1, e2, fun w H2 f own1 s2 m R1 rep => ?_⟩
  have rep' : RepR X.K G own (FrM own own1 H) H2 r w f := rep.fr fun a z => z.imp_left s1.free
  have wl : ∃ b zs, w = .ref b ∧ Lx X.K H2 b zs ∧ zs.length = ys.length ∧ (∀ G2, Into X.K G own own1 H H2 r.al f G2 → RepFs X.K H2 (fun b => G2 b ∨ b ∈ f) zs ys) ∧
      ((plains ys || decide (r.o = .dp)) = true → ∃ fe, RepOs X.K H2 zs ys fe ∧ (f.Nodup → fe.Nodup) ∧ ∀ b, b ∈ fe → b ∈ f) := by
    have pln : ∀ zs, RepFs X.K H2 (fun _ => True) zs ys → plains ys = true → ∃ fe, RepOs X.K H2 zs ys fe ∧ (f.Nodup → fe.Nodup) ∧ ∀ b, b ∈ fe → b ∈ f := fun zs h pl => ⟨[], RepFs.plain_o _ _ pl h, fun _ => by simp, by simp⟩
    unfold RepR at rep'
    split at rep'
    · rename_i ro
      obtain ⟨h1, h2, h3⟩ := rep'
      rw [rd] at h1
      cases h1 with
      | @lst b zs _ gs l1 z1 =>
        exact ⟨b, zs, rfl, .inl (.inl l1), z1.length, fun G2 _ => RepOs.fz _ _ _ (fun c hc => .inr (by simp [hc])) z1, fun _ => ⟨gs, z1, fun nd => (List.nodup_cons.mp nd).2, fun c hc => by simp [hc]⟩⟩
    · rename_i ro
      obtain ⟨b, zs, ds', h1, h2, h3, h4, h5, h6⟩ := rep'
      rw [rd] at h2
      cases h2
      refine ⟨b, zs, h1, .inl (.inl h5), h6.length, fun G2 k => RepFs.go ⟨fun a xs p q => ⟨q, .inl (k a p.1 ((go_dom (P := fun _ => True)).lst a xs trivial q).2.2 (by rw [h3]; simpa using p.2))⟩, fun _ _ q => q⟩ _ _ h6, fun z => ?_⟩
      rw [ro] at z
      exact pln zs (h6.sames (Same.refl _) fun _ _ => trivial) (by simpa using z)
    · rename_i ro _
      obtain ⟨h1, h2⟩ := rep'
      rw [rd] at h2
      cases h2 with
      | @lst b zs _ l1 z1 =>
        refine ⟨b, zs, rfl, l1.lx, z1.length, fun G2 k => RepFs.go ⟨fun a xs p q => ⟨q, .inl (k a p ((go_dom (P := fun _ => True)).lst a xs trivial q).2.2 (by rw [h1]; simp))⟩, fun _ _ q => q⟩ _ _ z1, fun z => ?_⟩
        refine pln zs (z1.sames (Same.refl _) fun _ _ => trivial) ?_
        simp only [Bool.or_eq_true, decide_eq_true_eq] at z
        exact z.resolve_right ro
  obtain ⟨b, zs, rfl, lx, zl, w1, w2⟩ := wl
  obtain ⟨a, vs, ea, ah, hl2, mk⟩ := ch_post (ws := zs) (es := ys) hR (s1.trans s2) m R1 rep' ei hi e1i ev (fun z => hv (path_nil.mp z)) (fun z => (hz z).same s2) g1 g2 eo em w1 w2 fin
  exact ⟨a, b, vs, zs, ea, rfl, ah, lx, by rw [hl2, zl, sizeLine_max]; exact hlen, mk _ arr_ext⟩
end
end Sw
end

section
set_option Elab.async false
set_option linter.all false
set_option maxRecDepth 100000
set_option maxHeartbeats 4000000
/-! return, if, while, for. -/
namespace Sw
open PySem PySem.Spec PyProof.Rows L2
section
variable {X : Cx} {Γ : Cal} {n : Nat} {C : Ctx} {K : PySem.W.Frag} {G G' G0 G1 G2 G3 : Addr → Prop} {own own' own0 own1 own2 own3 : OM} {S S' S0 S1 S2 S3 : Sw.S} {σ σ' : L2.St} {H H' H0 H1 H2 H3 : Hp} {Fr Fr' : Addr → Prop} {pos : Pos} {F F' : List Addr}
theorem ret_rep {r : R} {v : V} {f : List Addr} (h : RepR K G own (FrM own own1 H) H' r v f) : ∃ f', RepR K G (fun _ => []) (FrA own H) H' (mk r.d (if plain r.d then .fz else nOwn r.o) []) v f' := by
  have fr : ∀ a, FrM own own1 H a → FrA own H a := fun a z => z.elim .inr fun ⟨i, z, _⟩ => .inl ⟨i, z⟩
  have pal : ∀ al a, Pal G own (FrM own own1 H) al a → Pal G (fun _ => []) (FrA own H) [] a := fun al a z => by
    rcases z with z | ⟨i, _, z⟩ | z
    · exact .inl z
    · exact .inr (.inr (.inl ⟨i, z⟩))
    · exact .inr (.inr (fr a z))
  have hp := h.rep
  by_cases pl : plain r.d = true
  · have e : mk r.d (if plain r.d then Own.fz else nOwn r.o) [] = Rp r.d := if_pos pl
    rw [e]
    exact ⟨[], rfl, RepF.plain_any _ _ pl hp⟩
  · have e : mk r.d (if plain r.d then Own.fz else nOwn r.o) [] = ⟨r.d, nOwn r.o, []⟩ := by
      unfold mk
      rw [if_neg pl, if_neg pl]
    rw [e]
    unfold RepR at h
    cases q : r.o with
    | dp => rw [q] at h; exact ⟨f, h.1, h.2.1, fun a ha => fr a (h.2.2 a ha)⟩
    | sh =>
      rw [q] at h
      obtain ⟨a, xs, ds, e1, e2, e3, e4, e5, e6⟩ := h
      exact ⟨f, a, xs, ds, e1, e2, e3, fr a e4, e5, e6.sames (Same.refl _) fun b p => ⟨pal _ b p.1, p.2⟩⟩
    | fz => rw [q] at h; exact ⟨[], rfl, h.2.sames (Same.refl _) (pal _)⟩
    | lsh => rw [q] at h; exact ⟨[], rfl, h.2.sames (Same.refl _) (pal _)⟩
    | ldp => rw [q] at h; exact ⟨[], rfl, h.2.sames (Same.refl _) (pal _)⟩
theorem s_ret {e : Ex} {x : Expr} (hv : PE X x (tM X.K Γ e)) : PS X (.Return (some x) pos) (tS X.K Γ (.ret e)) := by
  refine ps_imp (ps_ret hv) fun D σ H ⟨G, own, S, out, hR, he, fin⟩ => ?_
  simp only [exec] at he
  obtain ⟨⟨r, S1⟩, e1, he⟩ := Option.map_eq_some_iff.mp he
  subst he
  refine ⟨G, own, S, r, S1, hR, e1, fun v H' f own1 sm m R1 rep => ?_⟩
  obtain ⟨f', k⟩ := ret_rep rep
  exact fin v H' f' ⟨fun a u e _ => sm a u e, k⟩
theorem s_retN : PS X (.Return none pos) (tS X.K Γ .retN) := by
  refine ps_imp ps_retN fun D σ H ⟨G, own, S, out, hR, he, fin⟩ => ?_
  simp only [exec] at he
  cases he
  exact fin .non H [] ⟨fun _ _ e _ => e, rfl, .non⟩
theorem s_pass : PS X (.Pass pos) (tS X.K Γ .pass) := ps_imp ps_pass fun D σ H ⟨G, own, S, out, hR, he, fin⟩ => by
  simp only [exec] at he; cases he; exact fin G own σ H (Step.same (Same.refl H)) hR
theorem s_brk : PS X (.Break pos) (tS X.K Γ .brk) := ps_imp ps_break fun D σ H ⟨G, own, S, out, hR, he, fin⟩ => by
  simp only [exec] at he; cases he; exact fin G own σ H (Step.same (Same.refl H)) hR
theorem s_cont : PS X (.Continue pos) (tS X.K Γ .cont) := ps_imp ps_continue fun D σ H ⟨G, own, S, out, hR, he, fin⟩ => by
  simp only [exec] at he; cases he; exact fin G own σ H (Step.same (Same.refl H)) hR
theorem s_ite {c : Ex} {a b : Stms} {x : Expr} {ys zs : List Stmt} (hc : PT X x (tT X.K Γ c)) (ha : PSs X ys (tSs X.K Γ a)) (hb : PSs X zs (tSs X.K Γ b)) : PS X (.If x ys zs pos) (tS X.K Γ (.ite c a b)) := by
  refine ps_imp (ps_if hc ha hb) fun D σ H ⟨G, own, S, out, hR, he, fin⟩ => ?_
  simp only [exec] at he
  obtain ⟨r, e1, he⟩ := Option.bind_eq_some_iff.mp he
  split at he
  · rename_i rb
    refine ⟨G, own, S, r, true, hR, e1, rb, fun H1 s => ?_⟩
    exact ⟨G, own, S, out, hR.same s, he, fin.shift (Step.same s)⟩
  · rename_i rb
    refine ⟨G, own, S, r, false, hR, e1, rb, fun H1 s => ?_⟩
    exact ⟨G, own, S, out, hR.same s, he, fin.shift (Step.same s)⟩
  · cases he
theorem ss_nil : PSs X [] (tSs X.K Γ .nil) := pss_imp pss_nil fun D σ H ⟨G, own, S, out, hR, he, fin⟩ => by
  simp only [execs] at he; cases he; exact fin G own σ H (Step.same (Same.refl H)) hR
theorem ss_cons {s : Stm} {r : Stms} {x : Stmt} {ys : List Stmt} (hs : PS X x (tS X.K Γ s)) (hr : PSs X ys (tSs X.K Γ r)) : PSs X (x :: ys) (tSs X.K Γ (.cons s r)) := by
  refine pss_imp (pss_cons hs hr) fun D σ H ⟨G, own, S, out, hR, he, fin⟩ => ?_
  simp only [execs] at he
  obtain ⟨o, e1, he⟩ := Option.bind_eq_some_iff.mp he
  refine ⟨G, own, S, o, hR, e1, ?_⟩
  cases o with
  | nx S1 => exact fun G' own' σ' H' st R1 => ⟨G', own', S1, out, R1, he, fin.shift st⟩
  | bk S1 => cases he; exact fin
  | ct S1 => cases he; exact fin
  | rt o d => cases he; exact fin
theorem owns_no (hx : XOk Γ n C X) : PassesOwn (model X.prog X.w) X.A X.env X.xe := by
  rw [hx.xe]
  exact PassesOwn.never
theorem s_while (hx : XOk Γ n C X) {c : Ex} {b : Stms} {x : Expr} {ys : List Stmt} (hc : PT X x (tT X.K Γ c)) (hb : PSs X ys (tSs X.K Γ b)) : PS X (.While x ys [] pos) (tS X.K Γ (.while_ c b)) := by
  refine ps_imp (ps_while (owns_no hx) hc hb) fun D σ H ⟨G, own, S, out, hR, he, fin⟩ => ?_
  simp only [exec] at he
  refine ⟨fun m σ H' => ∃ G1 own1 S1, Step G own S H G1 own1 S1 H' ∧ Rel X.K G1 own1 S1 σ H' ∧ whileL (ev Γ c) (execs Γ b) m S1 = some out, ⟨WF, G, own, S, Step.same (Same.refl H), hR, he⟩, ?_⟩
  rintro m σ1 H1 ⟨G1, own1, S1, st, R1, hw⟩
  cases m with
  | zero => simp [whileL] at hw
  | succ m =>
    simp only [whileL] at hw
    obtain ⟨r, e1, hw⟩ := Option.bind_eq_some_iff.mp hw
    split at hw
    · rename_i rb
      cases hw
      refine ⟨G1, own1, S1, r, false, R1, e1, rb, fun H2 s => ?_⟩
      exact fin G1 own1 σ1 H2 (st.trans (Step.same s)) (R1.same s)
    · rename_i rb
      obtain ⟨o, e2, hw⟩ := Option.bind_eq_some_iff.mp hw
      refine ⟨G1, own1, S1, r, true, R1, e1, rb, fun H2 s => ?_⟩
      refine ⟨fun σ' H' => ∃ G2 own2 S2, Step G own S H G2 own2 S2 H' ∧ Rel X.K G2 own2 S2 σ' H' ∧ whileL (ev Γ c) (execs Γ b) m S2 = some out, fun σ' H' h => ⟨m, by omega, h⟩, G1, own1, S1, o, R1.same s, e2, ?_⟩
      have st2 := st.trans (Step.same (G := G1) (own := own1) (S := S1) s)
      cases o with
      | nx S2 => exact fun G' own' σ' H' st3 R3 => ⟨G', own', S2, st2.trans st3, R3, hw⟩
      | ct S2 => exact fun G' own' σ' H' st3 R3 => ⟨G', own', S2, st2.trans st3, R3, hw⟩
      | bk S2 => cases hw; exact fun G' own' σ' H' st3 R3 => fin G' own' σ' H' (st2.trans st3) R3
      | rt o d => cases hw; exact fun v H' f k => fin v H' f (k.shift st2)
    · cases hw
/-! ### for -/
theorem Step.go (R : Rel K G own S σ H) (st : Step G own S H G' own' S' H') : Go G G' H H' :=
  ⟨fun a xs p r => ⟨by
    have kg : ∀ u, H a = some u → H' a = some u := fun u e => st.keep a u e fun i hi => absurd p (R.dis i a hi)
    rcases r with r | ⟨o, r⟩
    · exact .inl (kg _ r)
    · exact .inr ⟨o, kg _ r⟩, st.gsub a p⟩, fun a xs r => by
    have kt : ∀ u, H a = some u → (∀ xs, u ≠ .lst xs) → H' a = some u := fun u e ne => st.keep a u e fun i hi => by
      obtain ⟨ys, z⟩ := R.nodes hi
      rw [e] at z; cases z; exact absurd rfl (ne ys)
    rcases r with r | ⟨o, r⟩
    · exact .inl (kt _ r fun _ z => by cases z)
    · exact .inr ⟨o, kt _ r fun _ z => by cases z⟩⟩
/-- a place that no step changes -/
def Still (own : OM) (S : Sw.S) (H : Hp) (b : Addr) : Prop := H b ≠ none ∧ ∀ i, b ∈ own i → isOpen S[i]? = false
theorem Still.step {b : Addr} (h : Still own S H b) (st : Step G own S H G' own' S' H') : Still own' S' H' b ∧ H' b = H b := by
  cases q : H b with
  | none => exact absurd q h.1
  | some o =>
    have k := st.keep b o q h.2
    refine ⟨⟨(by rw [k]; intro z; cases z), fun i hi => ?_⟩, k⟩
    cases w : isOpen S'[i]? with
    | false => rfl
    | true =>
      rcases st.mnew i b hi w with ⟨j, z1, z2⟩ | z
      · rw [h.2 j z1] at z2; cases z2
      · rw [q] at z; cases z
theorem many_fz : ∀ (is : List Nat) {ds : List PyData} {vs : List V} {S : Sw.S} {σ : L2.St} {own : OM}, Rel K G own S σ H → RepFs K H G vs ds → ∃ own', Rel K G own' (setMany is ds S) (setManyV is vs σ) H ∧ Step G own S H G own' (setMany is ds S) H
  | [], ds, vs, S, σ, own, hR, h => ⟨own, by simp only [setMany, setManyV]; exact hR, by simp only [setMany]; exact Step.same (Same.refl H)⟩
  | i :: is, [], vs, S, σ, own, hR, h => by cases h; exact ⟨own, hR, Step.same (Same.refl H)⟩
  | i :: is, d :: ds, vs, S, σ, own, hR, h => by
    cases h with
    | @cons v vs _ _ h hs =>
      have k : SlotOk K H G [] (soR ⟨d, .fz, []⟩) d v := by
        have e : soR ⟨d, .fz, []⟩ = .fz := by unfold soR; split <;> rfl
        rw [e]
        exact ⟨rfl, h⟩
      obtain ⟨own1, r1, r2, _⟩ := store_nm (f := []) (g := []) (r := ⟨d, .fz, []⟩) hR Held.nil k i
      have es : slotOf ⟨d, .fz, []⟩ = some (.fz, d) := by unfold slotOf; split <;> rfl
      rw [es] at r1 r2
      obtain ⟨own2, q1, q2⟩ := many_fz is r1 hs
      exact ⟨own2, q1, (r2.after (Step.same (Same.refl H)) fun _ z => by cases z).trans q2⟩
theorem loop_run {D : Ends} {J : It} {vs : List V} {L : List Addr} {xs : List PyData} {tg : Tg} {body : Stms} {o1 : Out} (hR : Rel K G own S σ H) (hw : Walk J vs L H) (hv : RepFs K H G vs xs) (hL : ∀ b, b ∈ L → Still own S H b)
    (hf : forL (fun x s => (setTg tg x s).bind (execs Γ body)) xs S = some o1) (fin : Fin K D G own S H o1) :
    ∃ W : Nat → Nat → L2.St → Hp → Prop, (∃ m, W 0 m σ H) ∧ ∀ i m σ H, W i m σ H →
      (J.stop i H ∧ D.nx σ H) ∨ (J.go i H ∧ ∃ N : L2.St → Hp → Prop, (∀ σ' H', N σ' H' → ∃ m', m' < m ∧ W (i + 1) m' σ' H') ∧ ∀ x H', J.yld i H x H' → gOf K tg x σ H' fun σ2 H2 => tSs K Γ body { D with nx := N, ct := N, bk := D.nx } σ2 H2) := by
  have hvl := hv.length
  refine ⟨fun i m σ1 H1 => m + i = vs.length ∧ ∃ G1 own1 S1, Step G own S H G1 own1 S1 H1 ∧ Rel K G1 own1 S1 σ1 H1 ∧ RepFs K H1 G1 vs xs ∧ (∀ b, b ∈ L → Still own1 S1 H1 b ∧ H1 b = H b) ∧ forL (fun x s => (setTg tg x s).bind (execs Γ body)) (xs.drop i) S1 = some o1,
    ⟨vs.length, rfl, G, own, S, Step.same (Same.refl H), hR, hv, fun b hb => ⟨hL b hb, rfl⟩, hf⟩, ?_⟩
  rintro i m σ1 H1 ⟨hm, G1, own1, S1, st, R1, hv1, hL1, hf1⟩
  obtain ⟨w1, w2, w3⟩ := hw H1 fun b hb o z => by rw [(hL1 b hb).2]; exact z
  by_cases hlt : i < vs.length
  · right
    refine ⟨w2 i hlt, fun σ' H' => m - 1 + (i + 1) = vs.length ∧ ∃ G1 own1 S1, Step G own S H G1 own1 S1 H' ∧ Rel K G1 own1 S1 σ' H' ∧ RepFs K H' G1 vs xs ∧ (∀ b, b ∈ L → Still own1 S1 H' b ∧ H' b = H b) ∧ forL (fun x s => (setTg tg x s).bind (execs Γ body)) (xs.drop (i + 1)) S1 = some o1,
      fun σ' H' h' => ⟨m - 1, by omega, h'⟩, fun v H' hy => ?_⟩
    obtain ⟨rfl, hvi⟩ := w3 i v H' hlt hy
    have hxl : i < xs.length := by omega
    obtain ⟨v', ev', kv⟩ := hv1.get (List.getElem?_eq_getElem hxl)
    rw [hvi] at ev'
    cases ev'
    rw [List.drop_eq_getElem_cons hxl, forL] at hf1
    obtain ⟨o2, e2, hf1⟩ := Option.bind_eq_some_iff.mp hf1
    obtain ⟨Sx, e3, e2⟩ := Option.bind_eq_some_iff.mp e2
    obtain ⟨ws, ds, l1, l2, rfl, kws, run⟩ := gOf_run kv e3
    obtain ⟨own2, R2, st2⟩ := many_fz tg.ix R1 kws
    have st12 := st.trans st2
    refine run _ _ ⟨G1, own2, _, o2, R2, e2, ?_⟩
    have again : ∀ S3, forL (fun x s => (setTg tg x s).bind (execs Γ body)) (xs.drop (i + 1)) S3 = some o1 → ∀ G' own' σ' H3, Step G1 own2 (setMany tg.ix ds S1) H' G' own' S3 H3 → Rel K G' own' S3 σ' H3 → _ := fun S3 hf3 G' own' σ' H3 st3 R3 =>
      show m - 1 + (i + 1) = vs.length ∧ ∃ G1 own1 S1, Step G own S H G1 own1 S1 H3 ∧ Rel K G1 own1 S1 σ' H3 ∧ RepFs K H3 G1 vs xs ∧ (∀ b, b ∈ L → Still own1 S1 H3 b ∧ H3 b = H b) ∧ forL (fun x s => (setTg tg x s).bind (execs Γ body)) (xs.drop (i + 1)) S1 = some o1 from
      ⟨by omega, G', own', S3, st12.trans st3, R3, RepFs.go ((st2.trans st3).go R1) _ _ hv1, fun b hb => by
        obtain ⟨k1, k2⟩ := (hL1 b hb).1.step (st2.trans st3)
        exact ⟨k1, k2.trans (hL1 b hb).2⟩, hf3⟩
    cases o2 with
    | nx S3 => exact again S3 hf1
    | ct S3 => exact again S3 hf1
    | bk S3 => cases hf1; exact fun G' own' σ' H3 st3 R3 => fin G' own' σ' H3 (st12.trans st3) R3
    | rt o d => cases hf1; exact fun v H3 f k => fin v H3 f (k.shift st12)
  · left
    refine ⟨w1 i (by omega), ?_⟩
    have : xs.drop i = [] := List.drop_eq_nil_of_le (by omega)
    rw [this, forL] at hf1
    cases hf1
    exact fin G1 own1 σ1 H1 st R1
/-! ### locks -/
theorem lockAt_get (S : Sw.S) (i j : Nat) : (lockAt S i)[j]? = if j = i then (S[j]?).map lockS else S[j]? := by
  unfold lockAt
  split
  · rename_i s e
    have hi : i < S.length := (List.getElem?_eq_some_iff.mp e).1
    by_cases q : j = i
    · subst q; rw [List.getElem?_set_self hi, if_pos rfl, e]; rfl
    · rw [List.getElem?_set_ne (Ne.symm q), if_neg q]
  · rename_i e
    by_cases q : j = i
    · subst q; rw [if_pos rfl, e]; rfl
    · rw [if_neg q]
theorem unlockAt_get (S : Sw.S) (i j : Nat) : (unlockAt S i)[j]? = if j = i then (S[j]?).map unlockS else S[j]? := by
  unfold unlockAt
  split
  · rename_i s e
    have hi : i < S.length := (List.getElem?_eq_some_iff.mp e).1
    by_cases q : j = i
    · subst q; rw [List.getElem?_set_self hi, if_pos rfl, e]; rfl
    · rw [List.getElem?_set_ne (Ne.symm q), if_neg q]
  · rename_i e
    by_cases q : j = i
    · subst q; rw [if_pos rfl, e]; rfl
    · rw [if_neg q]
theorem lockS2 (s : Slot) : lockS (lockS s) = lockS s := by
  rcases s with _ | ⟨o, d⟩
  · rfl
  · cases o <;> rfl
theorem unlockS2 (s : Slot) : unlockS (unlockS s) = unlockS s := by
  rcases s with _ | ⟨o, d⟩
  · rfl
  · cases o <;> rfl
theorem locks_get : ∀ (al : List Nat) (S : Sw.S) (j : Nat), (al.foldl lockAt S)[j]? = if j ∈ al then (S[j]?).map lockS else S[j]?
  | [], S, j => by simp
  | i :: al, S, j => by
    rw [List.foldl_cons, locks_get al, lockAt_get]
    by_cases q : j = i
    · subst q
      by_cases w : j ∈ al
      · simp [w, Function.comp_def, lockS2]
      · simp [w]
    · by_cases w : j ∈ al <;> simp [q, w]
theorem unlocks_get : ∀ (al : List Nat) (S : Sw.S) (j : Nat), (al.foldl unlockAt S)[j]? = if j ∈ al then (S[j]?).map unlockS else S[j]?
  | [], S, j => by simp
  | i :: al, S, j => by
    rw [List.foldl_cons, unlocks_get al, unlockAt_get]
    by_cases q : j = i
    · subst q
      by_cases w : j ∈ al
      · simp [w, Function.comp_def, unlockS2]
      · simp [w]
    · by_cases w : j ∈ al <;> simp [q, w]
theorem len_of_get {α β : Type} {xs : List α} {ys : List β} (h : ∀ j : Nat, (xs[j]?).isSome = (ys[j]?).isSome) : xs.length = ys.length := by
  rcases Nat.lt_trichotomy xs.length ys.length with z | z | z
  · have := h xs.length
    rw [List.getElem?_eq_none (Nat.le_refl _), List.getElem?_eq_getElem z] at this
    cases this
  · exact z
  · have := h ys.length
    rw [List.getElem?_eq_none (l := ys) (Nat.le_refl _), List.getElem?_eq_getElem z] at this
    cases this
/-- slots marked otherwise -/
theorem Rel.mark (h : Rel K G own S σ H) (g : Slot → Slot) (hg : ∀ o d, ∃ o', g (some (o, d)) = some (o', d) ∧ ∀ f v, SlotOk K H G f o d v → SlotOk K H G f o' d v) (hn : g none = none) (al : List Nat) (hS : ∀ j : Nat, S'[j]? = if j ∈ al then (S[j]?).map g else S[j]?) : Rel K G own S' σ H := by
  refine ⟨?_, fun i o d e => ?_, fun i e => h.emp i fun o d q => ?_, h.nd, h.dj, h.dis, h.gin⟩
  · rw [← h.len]
    refine len_of_get fun j => ?_
    rw [hS]
    split
    · rw [Option.isSome_map]
    · rfl
  · rw [hS] at e
    split at e
    · cases q : S[i]? with
      | none => rw [q] at e; cases e
      | some s =>
        rw [q] at e
        rcases s with _ | ⟨o0, d0⟩
        · rw [Option.map_some, hn] at e; cases e
        · obtain ⟨o', e1, e2⟩ := hg o0 d0
          rw [Option.map_some, e1] at e
          cases e
          obtain ⟨v, k1, k2⟩ := h.slot i o0 _ q
          exact ⟨v, k1, e2 _ _ k2⟩
    · exact h.slot i o d e
  · have := hS i
    rw [q] at this
    split at this
    · obtain ⟨o', e1, _⟩ := hg o d
      rw [Option.map_some, e1] at this
      exact e _ _ this
    · exact e _ _ this
theorem lock_ok (o : Own) (d : PyData) : ∃ o', lockS (some (o, d)) = some (o', d) ∧ ∀ f v, SlotOk K H G f o d v → SlotOk K H G f o' d v := by
  cases o with
  | fz => exact ⟨.fz, rfl, fun _ _ k => k⟩
  | sh => exact ⟨.lsh, rfl, fun _ _ k => k⟩
  | dp => exact ⟨.ldp, rfl, fun _ _ k => k⟩
  | lsh => exact ⟨.lsh, rfl, fun _ _ k => k⟩
  | ldp => exact ⟨.ldp, rfl, fun _ _ k => k⟩
theorem unlock_ok (o : Own) (d : PyData) : ∃ o', unlockS (some (o, d)) = some (o', d) ∧ ∀ f v, SlotOk K H G f o d v → SlotOk K H G f o' d v := by
  cases o with
  | fz => exact ⟨.fz, rfl, fun _ _ k => k⟩
  | sh => exact ⟨.sh, rfl, fun _ _ k => k⟩
  | dp => exact ⟨.dp, rfl, fun _ _ k => k⟩
  | lsh => exact ⟨.sh, rfl, fun _ _ k => k⟩
  | ldp => exact ⟨.dp, rfl, fun _ _ k => k⟩
theorem lock_open {s : Option Slot} (h : isOpen (s.map lockS) = true) : False := by
  rcases s with _ | _ | ⟨o, d⟩
  · cases h
  · cases h
  · cases o <;> cases h
theorem unlock_lck {s : Option Slot} (h : isLck (s.map unlockS) = true) : False := by
  rcases s with _ | _ | ⟨o, d⟩
  · cases h
  · cases h
  · cases o <;> cases h
theorem unlock_open {s : Option Slot} (h : isOpen (s.map unlockS) = true) : isOpen s = true ∨ isLck s = true := by
  rcases s with _ | _ | ⟨o, d⟩
  · cases h
  · cases h
  · cases o <;> first | exact .inl rfl | exact .inr rfl | cases h
theorem s_for (hx : XOk Γ n C X) {tg : Tg} {it : Ex} {body : Stms} {t i : Expr} {ys : List Stmt} (hi : PI X t i (tIter X.K Γ it)) (ht : chkTg C tg t = true) (hf : notSet i = true) (hb : PSs X ys (tSs X.K Γ body)) : PS X (.For t i ys [] pos) (tS X.K Γ (.for_ tg it body)) := by
  refine ps_imp (ps_for (owns_no hx) hx.calm hi (tg_ok hx ht) hb (fold_ok hf _)) fun D σ H ⟨G, own, S, out, hR, he, fin⟩ => ?_
  simp only [exec] at he
  obtain ⟨r, e1, he⟩ := Option.bind_eq_some_iff.mp he
  obtain ⟨xs, e2, he⟩ := Option.bind_eq_some_iff.mp he
  refine ⟨G, own, S, r, xs, hR, e1, e2, fun J H' vs L sm hw hv hL => ?_⟩
  have R' := hR.same sm
  split at he
  · rename_i pl
    obtain ⟨o1, e3, rfl⟩ := Option.map_eq_some_iff.mp he
    generalize hlk : r.al.filter (fun i => isOpen S[i]?) = lk at e3 fin
    have hmem : ∀ j : Nat, j ∈ lk ↔ j ∈ r.al ∧ isOpen S[j]? = true := fun j => by rw [← hlk, List.mem_filter]
    have g0 := locks_get lk S
    have R0 : Rel X.K G own (lk.foldl lockAt S) σ H' := R'.mark lockS lock_ok rfl lk g0
    have cl : ∀ j : Nat, isOpen S[j]? = false → isOpen (lk.foldl lockAt S)[j]? = false := fun j h => by
      rw [g0]
      split
      · cases q : isOpen ((S[j]?).map lockS) with
        | false => rfl
        | true => exact (lock_open q).elim
      · exact h
    have op0 : ∀ j : Nat, isOpen (lk.foldl lockAt S)[j]? = true → isOpen S[j]? = true := fun j h => by
      cases q : isOpen S[j]? with
      | true => rfl
      | false => rw [cl j q] at h; cases h
    refine loop_run R0 hw (RepFs.plain_any _ _ pl hv) (fun b hb => ?_) e3 ?_
    · rcases hL b hb with ⟨p, ws, rd⟩ | ⟨ws, rd⟩
      · have nn : H' b ≠ none := by rcases rd with rd | ⟨_, rd⟩ <;> rw [rd] <;> intro z <;> cases z
        refine ⟨nn, fun j hj => ?_⟩
        rcases p with p | ⟨k, hk, p⟩ | p
        · exact absurd p (hR.dis j b hj)
        · obtain rfl := hR.dj j k b hj p
          cases q : isOpen S[j]? with
          | false => exact cl j q
          | true =>
            have := (hmem j).mpr ⟨hk, q⟩
            rw [g0, if_pos this]
            cases q2 : isOpen ((S[j]?).map lockS) with
            | false => rfl
            | true => exact (lock_open q2).elim
        · obtain ⟨zs, z⟩ := hR.nodes hj
          have p' : H b = none := p
          rw [p'] at z; cases z
      · refine ⟨(by rcases rd with rd | ⟨_, rd⟩ <;> rw [rd] <;> intro z <;> cases z), fun j hj => ?_⟩
        obtain ⟨zs, z⟩ := R'.nodes hj
        rcases rd with rd | ⟨_, rd⟩ <;> rw [rd] at z <;> cases z
    · have back : ∀ {G' : Addr → Prop} {own' : OM} {S' : Sw.S} {σ' : L2.St} {H'' : Hp}, Step G own (lk.foldl lockAt S) H' G' own' S' H'' → Rel X.K G' own' S' σ' H'' → Step G own S H G' own' (lk.foldl unlockAt S') H'' ∧ Rel X.K G' own' (lk.foldl unlockAt S') σ' H'' := fun {G' own' S' σ' H''} st R2 => by
        have g1 := unlocks_get lk S'
        refine ⟨⟨fun a o e k => st.keep a o (sm a o e) fun j hj => cl j (k j hj), fun a e => st.dom a fun z => e (sm.free z), st.gsub, fun a z => (st.gnew a z).imp_right fun z => z.imp_right sm.free, fun j a z => (st.onew j a z).imp_right sm.free, fun j a ha ho => ?_, fun j hl => ?_⟩, R2.mark unlockS unlock_ok rfl lk g1⟩
        · rw [g1] at ho
          have fwd : isOpen S'[j]? = true → _ := fun q => (st.mnew j a ha q).imp (fun ⟨k, z1, z2⟩ => (⟨k, z1, op0 k z2⟩ : ∃ j, a ∈ own j ∧ isOpen S[j]? = true)) (fun z => sm.free z)
          split at ho
          · rename_i hj
            rcases unlock_open ho with q | q
            · exact fwd q
            · obtain ⟨z1, z2⟩ := st.lck j q
              exact .inl ⟨j, z2 ▸ ha, ((hmem j).mp hj).2⟩
          · exact fwd ho
        · rw [g1] at hl
          split at hl
          · exact (unlock_lck hl).elim
          · rename_i hj
            obtain ⟨z1, z2⟩ := st.lck j hl
            rw [g0, if_neg hj] at z1
            exact ⟨z1, z2⟩
      cases o1 with
      | nx S' => exact fun G' own' σ' H'' st R2 => fin G' own' σ' H'' (back st R2).1 (back st R2).2
      | bk S' => exact fun G' own' σ' H'' st R2 => fin G' own' σ' H'' (back st R2).1 (back st R2).2
      | ct S' => exact fun G' own' σ' H'' st R2 => fin G' own' σ' H'' (back st R2).1 (back st R2).2
      | rt o d =>
        refine fun v H'' f ⟨k1, k2⟩ => fin v H'' f ⟨fun a u e k => k1 a u (sm a u e) fun j hj => cl j (k j hj), ?_⟩
        exact k2.fr fun a z => z.imp_right sm.free
  · obtain ⟨G2, a1, a2, a3, a4, a5⟩ := consume (al := r.al) (own1 := own) (S1 := S) hR sm Mv.refl R' r.al [] (by simp) (by simp)
    have pal : ∀ a, Pal G own (Fresh H) r.al a → H' a ≠ none → G2 a := fun a p q => a5 a (Pal.imp (fun _ z => .inl z) (fun _ z => z) a p) q (by simp)
    refine loop_run a1 hw (RepFs.go ⟨fun a ws p rd => ⟨rd, pal a p ((go_dom (P := fun _ => True)).lst a ws trivial rd).2.2⟩, fun _ _ q => q⟩ _ _ hv) (fun b hb => ?_) he (fin.shift a3)
    rcases hL b hb with ⟨p, ws, rd⟩ | ⟨ws, rd⟩
    · have nn := ((go_dom (P := fun _ => True)).lst b ws trivial rd).2.2
      exact ⟨nn, fun j hj => absurd (pal b p nn) (a1.dis j b hj)⟩
    · refine ⟨(by rcases rd with rd | ⟨_, rd⟩ <;> rw [rd] <;> intro z <;> cases z), fun j hj => ?_⟩
      obtain ⟨zs, z⟩ := a1.nodes hj
      rcases rd with rd | ⟨_, rd⟩ <;> rw [rd] at z <;> cases z
end
end Sw
end

section
set_option Elab.async false
set_option linter.all false
set_option maxRecDepth 100000
set_option maxHeartbeats 4000000
/-! Every statement that passes the look. -/
namespace Sw
open PySem PySem.Spec PyProof.Rows L2
/-- the names that a pair or three of names stores from the right -/
def nmsOf (sc : Scope) (es : List Expr) : List Str :=
  let line := (es.head?.map (·.pos.line)).getD 0
  es.filterMap fun
    | .Name id pos => if sc.names.lookup id == some .local && pos.line == line then some id else none
    | _ => none
def isTupE : Expr → Bool
  | .Tuple .. => true
  | _ => false
/-- the items are stored one by one in order -/
def inOrder (C : Ctx) (es : List Expr) : Expr → Bool
  | .Tuple vs _ _ => !(es.length == 2 || es.length == 3) || vs.length != es.length || vs.any (fun | .Starred .. => true | _ => false) || (nmsOf C.sc es).length != es.length || (nmsOf C.sc es).eraseDups.length != (nmsOf C.sc es).length || vs.all (foldedForSure 8)
  | _ => true
/-- .. from the right -/
def fromRight (C : Ctx) (es : List Expr) : Expr → Bool
  | .Tuple vs _ _ => (es.length == 2 || es.length == 3) && vs.length == es.length && !vs.any (fun | .Starred .. => true | _ => false) && (nmsOf C.sc es).length == es.length && (nmsOf C.sc es).eraseDups.length == (nmsOf C.sc es).length && !vs.all (foldedForSure 8) && !vs.all (constantsAlone 8)
  | _ => false
def isFn (C : Ctx) : Bool := C.sc.kind == .function
/-- a comprehension that a local name takes on one line -/
def swY (C : Ctx) : Expr → Expr → Bool
  | .Name y py, .ListComp _ _ scope pos => isFn C && isLoc C.sc y && (py.line == pos.line) && !(scope.names.any fun (n, k) => n == y && (k == .local || k == .cell))
  | _, _ => false
def tgsNm : List Tgt → Option (List Nat)
  | [] => some []
  | .nm i :: ts => (tgsNm ts).map (i :: ·)
  | _ => none
section
variable {X : Cx} {Γ : Cal} {n : Nat} {C : Ctx} {pos : Pos}
theorem fn_kind (hs : X.env.scope = C.sc) (h : isFn C = true) : X.env.scope.kind = .function ∧ X.env.blockKind = .function := by
  have e : X.env.scope.kind = .function := by
    rw [hs]
    unfold isFn at h
    cases q : C.sc.kind <;> first | rfl | (rw [q] at h; cases h)
  refine ⟨e, ?_⟩
  unfold Env.blockKind
  rw [e]
  rfl
theorem in_order (hs : X.env.scope = C.sc) (hb : X.env.blockKind = .function) {es : List Expr} {v : Expr} {k : Nat} {tp : Pos} (h : inOrder C es v = true) : swappedStores [.Tuple es k tp] v X.env = pure none := by
  unfold inOrder at h
  split at h
  · rename_i vs k2 tp2
    unfold swappedStores
    have ek : ∀ x, X.env.kindOf x = C.sc.names.lookup x := fun x => by unfold Env.kindOf; rw [hs]
    simp only [hb, ek]
    unfold nmsOf at h
    dsimp only at h ⊢
    simp only [Bool.or_eq_true] at h
    split
    · rfl
    · rename_i n1
      simp only [Bool.or_eq_true] at n1
      split
      · rfl
      · rename_i n2
        split
        · rfl
        · rename_i n3
          simp only [Bool.or_eq_true] at n3
          split
          · rfl
          · rename_i n4
            exfalso
            rcases h with ((((h | h) | h) | h) | h) | h
            · exact n1 (.inl (.inl h))
            · exact n1 (.inl (.inr h))
            · exact n2 h
            · exact n3 (.inl h)
            · exact n3 (.inr h)
            · exact n4 h
  · rename_i hn
    cases v <;> first | rfl | exact absurd rfl (hn _ _ _)
theorem from_right (hs : X.env.scope = C.sc) (hb : X.env.blockKind = .function) {es vs : List Expr} {k k2 : Nat} {tp tp2 : Pos} (h : fromRight C es (.Tuple vs k2 tp2) = true) : swappedStores [.Tuple es k tp] (.Tuple vs k2 tp2) X.env = pure (some (nmsOf C.sc es)) := by
  unfold fromRight at h
  unfold swappedStores
  have ek : ∀ x, X.env.kindOf x = C.sc.names.lookup x := fun x => by unfold Env.kindOf; rw [hs]
  simp only [hb, ek]
  unfold nmsOf at h ⊢
  dsimp only at h ⊢
  rw [Bool.and_eq_true, Bool.and_eq_true, Bool.and_eq_true, Bool.and_eq_true, Bool.and_eq_true, Bool.and_eq_true] at h
  obtain ⟨⟨⟨⟨⟨⟨h1, h2⟩, h3⟩, h4⟩, h5⟩, h6⟩, h7⟩ := h
  split
  · rename_i z
    exfalso
    rw [h1] at z
    simp only [bne, h2] at z
    cases z
  · split
    · rename_i z
      exfalso
      have h3' := (Bool.not_eq_true' _).mp h3
      exact Bool.noConfusion (h3'.symm.trans z)
    · split
      · rename_i z
        exfalso
        rcases (Bool.or_eq_true _ _).mp z with z | z
        · exact Bool.noConfusion (h4.symm.trans ((Bool.not_eq_true' _).mp z))
        · exact Bool.noConfusion (h5.symm.trans ((Bool.not_eq_true' _).mp z))
      · split
        · rename_i z
          exfalso
          rw [z] at h6; cases h6
        · split
          · rename_i z
            exfalso
            rw [z] at h7; cases h7
          · rfl
theorem nms_loc {sc : Scope} {es : List Expr} : ∀ x ∈ nmsOf sc es, sc.names.lookup x = some .local := by
  intro x hx
  unfold nmsOf at hx
  dsimp only at hx
  obtain ⟨e, _, h⟩ := List.mem_filterMap.mp hx
  split at h
  · split at h
    · rename_i c
      cases h
      simp only [Bool.and_eq_true] at c
      cases q : sc.names.lookup x with
      | none => rw [q] at c; cases c.1
      | some z => rw [q] at c; cases z <;> first | rfl | cases c.1
    · cases h
  · cases h
theorem filter_all {α β : Type} (f : α → Option β) : ∀ {xs : List α}, (xs.filterMap f).length = xs.length → ∀ x ∈ xs, ∃ y, f x = some y
  | [], _, x, hx => by cases hx
  | a :: xs, h, x, hx => by
    rw [List.filterMap_cons] at h
    cases q : f a with
    | none =>
      rw [q] at h
      have := List.length_filterMap_le f xs
      simp at h
      omega
    | some y =>
      rw [q] at h
      rcases List.mem_cons.mp hx with rfl | hx
      · exact ⟨y, q⟩
      · exact filter_all f (by simpa using h) x hx
theorem nms_all {sc : Scope} {es : List Expr} (h : (nmsOf sc es).length = es.length) : ∀ x p, Expr.Name x p ∈ es → sc.names.lookup x = some .local ∧ (p.line == (es.head?.map (·.pos.line)).getD 0) = true := by
  intro x p hx
  unfold nmsOf at h
  dsimp only at h
  obtain ⟨y, e⟩ := filter_all _ h _ hx
  dsimp only at e
  split at e
  · rename_i c
    rw [Bool.and_eq_true] at c
    exact ⟨by simpa using c.1, c.2⟩
  · cases e
theorem nms_two {sc : Scope} {x y : Str} {px py : Pos} (h : (nmsOf sc [.Name x px, .Name y py]).length = 2) : nmsOf sc [.Name x px, .Name y py] = [x, y] := by
  obtain ⟨a1, a2⟩ := nms_all (sc := sc) (es := [.Name x px, .Name y py]) h x px (by simp)
  obtain ⟨b1, b2⟩ := nms_all (sc := sc) (es := [.Name x px, .Name y py]) h y py (by simp)
  unfold nmsOf
  dsimp only at a2 b2 ⊢
  rw [List.filterMap_cons, List.filterMap_cons, List.filterMap_nil]
  dsimp only
  rw [if_pos (by rw [a1, a2]; rfl), if_pos (by rw [b1, b2]; rfl)]
theorem nms_three {sc : Scope} {x y z : Str} {px py pz : Pos} (h : (nmsOf sc [.Name x px, .Name y py, .Name z pz]).length = 3) : nmsOf sc [.Name x px, .Name y py, .Name z pz] = [x, y, z] := by
  obtain ⟨a1, a2⟩ := nms_all (sc := sc) (es := [.Name x px, .Name y py, .Name z pz]) h x px (by simp)
  obtain ⟨b1, b2⟩ := nms_all (sc := sc) (es := [.Name x px, .Name y py, .Name z pz]) h y py (by simp)
  obtain ⟨c1, c2⟩ := nms_all (sc := sc) (es := [.Name x px, .Name y py, .Name z pz]) h z pz (by simp)
  unfold nmsOf
  dsimp only at a2 b2 c2 ⊢
  rw [List.filterMap_cons, List.filterMap_cons, List.filterMap_cons, List.filterMap_nil]
  dsimp only
  rw [if_pos (by rw [a1, a2]; rfl), if_pos (by rw [b1, b2]; rfl), if_pos (by rw [c1, c2]; rfl)]
theorem tg_at (hx : XOk Γ n C X) {i : Nat} {x : Str} (h : tgName C i x = true) : X.N[i]? = some x := by
  unfold tgName at h
  simp only [Bool.and_eq_true, decide_eq_true_eq] at h
  rw [hx.hN]; exact h.1
theorem from_len {es vs : List Expr} {k2 : Nat} {tp2 : Pos} (h : fromRight C es (.Tuple vs k2 tp2) = true) : (nmsOf C.sc es).length = es.length := by
  unfold fromRight at h
  rw [Bool.and_eq_true, Bool.and_eq_true, Bool.and_eq_true, Bool.and_eq_true] at h
  exact LawfulBEq.eq_of_beq h.1.1.1.2
theorem s_swap2 (hx : XOk Γ n C X) {i j : Nat} {es : Exs} {x y : Str} {a b : Expr} {k k2 : Nat} {px py tp tp2 : Pos} (hf : isFn C = true) (h : fromRight C [.Name x px, .Name y py] (.Tuple [a, b] k2 tp2) = true) (hi : tgName C i x = true) (hj : tgName C j y = true) (hne : i ≠ j)
    (hv : PA X [a, b] (tMs X.K Γ es)) : PS X (.Assign [.Tuple [.Name x px, .Name y py] k tp] (.Tuple [a, b] k2 tp2) pos) (tS X.K Γ (.unp [.nm i, .nm j] (.tup es))) := by
  have hl := from_len h
  have sw := from_right (k := k) (tp := tp) hx.sc (fn_kind hx.sc hf).2 h
  rw [nms_two hl] at sw
  obtain ⟨a1, _⟩ := nms_all hl x px (by simp)
  obtain ⟨b1, _⟩ := nms_all hl y py (by simp)
  refine ps_imp (ps_par hx.calm (by rw [hx.hN]; exact hx.nd) (tg_at hx hi) (tg_at hx hj) hne (by rw [hx.sc]; exact a1) (by rw [hx.sc]; exact b1) hv sw rfl) fun D σ H h => ?_
  refine unp_vals h fun vs H' g => ?_
  obtain ⟨l, q⟩ := gTs_nm [i, j] g
  match vs, l, q with
  | [v, w], _, q => exact ⟨v, w, rfl, q⟩
theorem s_swap3 (hx : XOk Γ n C X) {i j l : Nat} {es : Exs} {x y z : Str} {a b c : Expr} {k k2 : Nat} {px py pz tp tp2 : Pos} (hf : isFn C = true) (h : fromRight C [.Name x px, .Name y py, .Name z pz] (.Tuple [a, b, c] k2 tp2) = true) (hi : tgName C i x = true) (hj : tgName C j y = true) (hk : tgName C l z = true) (hij : i ≠ j) (hil : i ≠ l) (hjl : j ≠ l)
    (hv : PA X [a, b, c] (tMs X.K Γ es)) : PS X (.Assign [.Tuple [.Name x px, .Name y py, .Name z pz] k tp] (.Tuple [a, b, c] k2 tp2) pos) (tS X.K Γ (.unp [.nm i, .nm j, .nm l] (.tup es))) := by
  have hl := from_len h
  have sw := from_right (k := k) (tp := tp) hx.sc (fn_kind hx.sc hf).2 h
  rw [nms_three hl] at sw
  obtain ⟨a1, _⟩ := nms_all hl x px (by simp)
  obtain ⟨b1, _⟩ := nms_all hl y py (by simp)
  obtain ⟨c1, _⟩ := nms_all hl z pz (by simp)
  refine ps_imp (ps_par3 hx.calm (by rw [hx.hN]; exact hx.nd) (tg_at hx hi) (tg_at hx hj) (tg_at hx hk) hij hil hjl (by rw [hx.sc]; exact a1) (by rw [hx.sc]; exact b1) (by rw [hx.sc]; exact c1) hv sw rfl) fun D σ H h => ?_
  refine unp_vals h fun vs H' g => ?_
  obtain ⟨l', q⟩ := gTs_nm [i, j, l] g
  match vs, l', q with
  | [u, v, w], _, q => exact ⟨u, v, w, rfl, q⟩
theorem iter_ok (hx : XOk Γ n C X) {it : Ex} {t i : Expr} (h : chkI C it i = true) : PI X t i (tIter X.K Γ it) := by
  unfold chkI at h
  split at h
  · rename_i a b k
    split at h
    · simp only [Bool.and_eq_true, decide_eq_true_eq] at h
      obtain ⟨⟨⟨⟨k1, k2⟩, k3⟩, k4⟩, k5⟩ := h
      subst k1
      split at k5
      · exact i_rng1 hx k2 (sndE b C X _ hx k4) k3
      · cases k5
    · simp only [Bool.and_eq_true, decide_eq_true_eq] at h
      obtain ⟨⟨⟨⟨⟨⟨k1, k2⟩, k3⟩, k3'⟩, k4⟩, k4'⟩, k5⟩ := h
      subst k1
      split at k5
      · exact i_rng2 hx k2 (sndE a C X _ hx k4) (sndE b C X _ hx k4') k3 k3'
      · cases k5
    · simp only [Bool.and_eq_true, decide_eq_true_eq] at h
      obtain ⟨⟨⟨⟨⟨⟨⟨k1, k2⟩, k3⟩, k3'⟩, k3''⟩, k4⟩, k4'⟩, k5⟩ := h
      subst k1
      exact i_rng3 hx k2 (sndE a C X _ hx k4) (sndE b C X _ hx k4') (sndE k C X _ hx k5) k3 k3' k3''
    · cases h
  · exact i_seq (sndE it C X i hx h)
end
/-- two or three plain names that take their values from the right -/
def chkSw (C : Ctx) : List Tgt → Ex → List Expr → Expr → Bool
  | [.nm i, .nm j], .tup es, [.Name x px, .Name y py], .Tuple [a, b] k p => isFn C && fromRight C [.Name x px, .Name y py] (.Tuple [a, b] k p) && tgName C i x && tgName C j y && decide (i ≠ j) && chkMs C es [a, b]
  | [.nm i, .nm j, .nm l], .tup es, [.Name x px, .Name y py, .Name z pz], .Tuple [a, b, c] k p => isFn C && fromRight C [.Name x px, .Name y py, .Name z pz] (.Tuple [a, b, c] k p) && tgName C i x && tgName C j y && tgName C l z && decide (i ≠ j) && decide (i ≠ l) && decide (j ≠ l) && chkMs C es [a, b, c]
  | _, _, _, _ => false
mutual
def chkS (C : Ctx) : Stm → Stmt → Bool
  | .asg t e, st => match st with
    | .Assign [x] v _ => chkG C t x && ((swN v || notName x || swC C x v) && chkM C e v || (swY C x v && chkE C e v))
    | _ => false
  | .unp ts e, st => match st with
    | .Assign [.Tuple es _ _] v _ => (isFn C && inOrder C es v && chkGs C ts es && chkM C e v) || chkSw C ts e es v
    | _ => false
  | .app i ps e, st => match st with
    | .Expr (.Call (.Attribute o m p) [y] [] q) _ => decide (m = "append") && (p.endLine == q.line) && notCall0 o && chkN C i ps o && notStar y && chkM C e y
    | _ => false
  | .ins i k e, st => match st with
    | .Expr (.Call (.Attribute o m p) [z, y] [] q) _ => decide (m = "insert") && (p.endLine == q.line) && notCall0 o && chkN C i .nil o && notStar z && notStar y && chkE C k z && chkM C e y
    | _ => false
  | .ext i ps e, st => match st with
    | .Expr (.Call (.Attribute o m p) [y] [] q) _ => decide (m = "extend") && (p.endLine == q.line) && notCall0 o && chkN C i ps o && notStar y && chkM C e y
    | _ => false
  | .pop (some j) i ps k, st => match st with
    | .Assign [.Name x _] v _ => tgName C j x && chkPop C i ps k v
    | _ => false
  | .pop none i ps k, st => match st with
    | .Expr v _ => chkPop C i ps k v
    | _ => false
  | .appPop _ _ _, _ => false
  | .drop e, st => match st with
    | .Expr v _ => swN v && chkE C e v
    | _ => false
  | .ret e, st => match st with
    | .Return (some v) _ => chkM C e v
    | _ => false
  | .retN, st => match st with
    | .Return none _ => true
    | _ => false
  | .ite c a b, st => match st with
    | .If x ys zs _ => chkT C c x && chkSs C a ys && chkSs C b zs
    | _ => false
  | .for_ tg it b, st => match st with
    | .For t i ys [] _ => chkTg C tg t && notSet i && chkI C it i && chkSs C b ys
    | _ => false
  | .while_ c b, st => match st with
    | .While x ys [] _ => chkT C c x && chkSs C b ys
    | _ => false
  | .pass, st => match st with
    | .Pass _ => true
    | _ => false
  | .brk, st => match st with
    | .Break _ => true
    | _ => false
  | .cont, st => match st with
    | .Continue _ => true
    | _ => false
termination_by structural x => x
def chkSs (C : Ctx) : Stms → List Stmt → Bool
  | .nil, [] => true
  | .cons s r, x :: xs => chkS C s x && chkSs C r xs
  | _, _ => false
termination_by structural x => x
end
section
variable {X : Cx} {Γ : Cal} {n : Nat} {C : Ctx} {pos : Pos}
theorem sw_of (hx : XOk Γ n C X) {ts : List Tgt} {e : Ex} {es : List Expr} {v : Expr} {k : Nat} {tp : Pos} (h : chkSw C ts e es v = true) : PS X (.Assign [.Tuple es k tp] v pos) (tS X.K Γ (.unp ts e)) := by
  unfold chkSw at h
  split at h
  · simp only [Bool.and_eq_true, decide_eq_true_eq] at h
    obtain ⟨⟨⟨⟨⟨h1, h2⟩, h3⟩, h4⟩, h5⟩, h6⟩ := h
    exact s_swap2 hx h1 h2 h3 h4 h5 (sndMs _ C X _ hx h6)
  · simp only [Bool.and_eq_true, decide_eq_true_eq] at h
    obtain ⟨⟨⟨⟨⟨⟨⟨⟨h1, h2⟩, h3⟩, h4⟩, h5⟩, h6⟩, h7⟩, h8⟩, h9⟩ := h
    exact s_swap3 hx h1 h2 h3 h4 h5 h6 h7 h8 (sndMs _ C X _ hx h9)
  · cases h
theorem one_tgt {t : Tgt} {x : Expr} (h : chkG C t x = true) : (∀ env, (assignEach [x] env).map (·.2) = [assign x env]) ∧ ∀ v env, swappedStores [x] v env = pure none := by
  cases t <;> (unfold chkG at h; split at h <;> first | cases h | exact ⟨fun _ => rfl, fun _ _ => rfl⟩)
theorem asg_of (hx : XOk Γ n C X) {t : Tgt} {e : Ex} {x v : Expr} (ht : chkG C t x = true) (h : ((swN v || notName x || swC C x v) && chkM C e v || (swY C x v && chkE C e v)) = true) : PS X (.Assign [x] v pos) (tS X.K Γ (.asg t e)) := by
  obtain ⟨o1, o2⟩ := one_tgt ht
  rcases (Bool.or_eq_true _ _).mp h with h | h
  · rw [Bool.and_eq_true, Bool.or_eq_true, Bool.or_eq_true] at h
    exact s_asg (sndM e C X v hx h.2) (tgt_ok hx t x ht) (fun l => h.1.elim (fun q => sw_sub q _ _) fun q => sw_cell hx.sc q l) o1 (o2 v)
  · rw [Bool.and_eq_true] at h
    obtain ⟨h1, h2⟩ := h
    unfold swY at h1
    split at h1
    · rename_i y py elt gs scope lpos
      simp only [Bool.and_eq_true, Bool.not_eq_true'] at h1
      obtain ⟨⟨⟨h1, h3⟩, h4⟩, h5⟩ := h1
      have hl : X.env.scope.names.lookup y = some .local := by
        rw [hx.sc]
        unfold isLoc at h3
        split at h3
        · assumption
        · cases h3
      have hsw := sw_true (gs := gs) (elt := elt) (pos := lpos) (l := pos.line) (fn_kind hx.sc h1).1 hl h4 h5
      cases t with
      | sub _ _ _ => cases (show false = true from ht)
      | nm j =>
        have htn : tgName C j y = true := ht
        have ec : ∃ tg it c e', e = .comp tg it c e' := by
          cases e <;> first | exact ⟨_, _, _, _, rfl⟩ | (unfold chkE at h2; cases h2; done) | skip
          rename_i f a
          cases a <;> (unfold chkE at h2; cases h2)
        obtain ⟨tg, it, c, e', rfl⟩ := ec
        obtain ⟨elt', t, i, ifs, scope', lpos', el, k1, k2, k3, k4, k5, k6⟩ := chk_comp h2
        · cases el
          have hi : PI X t i (tIter X.K Γ it) := iter_ok hx k3
          refine ps_imp (s_comp (e := e') hx hi k1 k2 k4 (fun X' hx' ek => ?_) (fun X' hx' ek => by rw [← ek]; exact sndE e' _ X' _ hx' k6) (tg_at hx htn) hl hsw) fun D σ H h => asg_comp h
          split at k5
          · obtain rfl := isTrueE_eq k5
            exact ⟨fun pins s σ H Q I ⟨G, own, S, r, b, hR, he, hb, q⟩ => pts_nil.run pins s σ H Q I (by
              simp only [ev] at he; cases he; cases hb; exact q H (Same.refl H))⟩
          · exact pts_one (by rw [← ek]; exact sndT c _ X' _ hx' k5)
          · cases k5
    · cases h1
mutual
theorem sndS : ∀ (ir : Stm) (C : Ctx) (X : Cx) (st : Stmt), XOk Γ n C X → chkS C ir st = true → PS X st (tS X.K Γ ir)
  | .asg t e, C, X, st, hx, h => by
    unfold chkS at h
    split at h
    · rw [Bool.and_eq_true] at h
      exact asg_of hx h.1 h.2
    · cases h
  | .unp ts e, C, X, st, hx, h => by
    unfold chkS at h
    split at h
    · rcases (Bool.or_eq_true _ _).mp h with h | h
      · simp only [Bool.and_eq_true] at h
        obtain ⟨⟨⟨h1, h2⟩, h3⟩, h4⟩ := h
        exact s_unp hx (sndM e C X _ hx h4) h3 (in_order hx.sc (fn_kind hx.sc h1).2 h2)
      · exact sw_of hx h
    · cases h
  | .app i ps e, C, X, st, hx, h => by
    unfold chkS at h
    split at h
    · simp only [Bool.and_eq_true, decide_eq_true_eq] at h
      obtain ⟨⟨⟨⟨⟨h1, h2⟩, h3⟩, h4⟩, h5⟩, h6⟩ := h
      subst h1
      exact s_app hx h2 h3 h4 (sndM e C X _ hx h6) h5
    · cases h
  | .ins i k e, C, X, st, hx, h => by
    unfold chkS at h
    split at h
    · simp only [Bool.and_eq_true, decide_eq_true_eq] at h
      obtain ⟨⟨⟨⟨⟨⟨⟨h1, h2⟩, h3⟩, h4⟩, h5⟩, h6⟩, h7⟩, h8⟩ := h
      subst h1
      exact s_ins hx h2 h3 h4 (sndE k C X _ hx h7) (sndM e C X _ hx h8) h5 h6
    · cases h
  | .ext i ps e, C, X, st, hx, h => by
    unfold chkS at h
    split at h
    · simp only [Bool.and_eq_true, decide_eq_true_eq] at h
      obtain ⟨⟨⟨⟨⟨h1, h2⟩, h3⟩, h4⟩, h5⟩, h6⟩ := h
      subst h1
      exact s_ext hx h2 h3 h4 (sndM e C X _ hx h6) h5
    · cases h
  | .pop (some j) i ps k, C, X, st, hx, h => by
    unfold chkS at h
    split at h
    · rw [Bool.and_eq_true] at h
      exact s_pop hx h.2 h.1
    · cases h
  | .pop none i ps k, C, X, st, hx, h => by
    unfold chkS at h
    split at h
    · exact s_popD hx h
    · cases h
  | .appPop _ _ _, C, X, st, hx, h => by unfold chkS at h; cases h
  | .drop e, C, X, st, hx, h => by
    unfold chkS at h
    split at h
    · rw [Bool.and_eq_true] at h
      exact s_drop (sndE e C X _ hx h.2) h.1
    · cases h
  | .ret e, C, X, st, hx, h => by
    unfold chkS at h
    split at h
    · exact s_ret (sndM e C X _ hx h)
    · cases h
  | .retN, C, X, st, hx, h => by
    unfold chkS at h
    split at h
    · exact s_retN
    · cases h
  | .ite c a b, C, X, st, hx, h => by
    unfold chkS at h
    split at h
    · simp only [Bool.and_eq_true] at h
      exact s_ite (sndT c C X _ hx h.1.1) (sndSs a C X _ hx h.1.2) (sndSs b C X _ hx h.2)
    · cases h
  | .for_ tg it b, C, X, st, hx, h => by
    unfold chkS at h
    split at h
    · simp only [Bool.and_eq_true] at h
      exact s_for hx (iter_ok hx h.1.2) h.1.1.1 h.1.1.2 (sndSs b C X _ hx h.2)
    · cases h
  | .while_ c b, C, X, st, hx, h => by
    unfold chkS at h
    split at h
    · simp only [Bool.and_eq_true] at h
      exact s_while hx (sndT c C X _ hx h.1) (sndSs b C X _ hx h.2)
    · cases h
  | .pass, C, X, st, hx, h => by
    unfold chkS at h
    split at h
    · exact s_pass
    · cases h
  | .brk, C, X, st, hx, h => by
    unfold chkS at h
    split at h
    · exact s_brk
    · cases h
  | .cont, C, X, st, hx, h => by
    unfold chkS at h
    split at h
    · exact s_cont
    · cases h
theorem sndSs : ∀ (irs : Stms) (C : Ctx) (X : Cx) (sts : List Stmt), XOk Γ n C X → chkSs C irs sts = true → PSs X sts (tSs X.K Γ irs)
  | .nil, C, X, [], hx, h => ss_nil
  | .cons s r, C, X, x :: xs, hx, h => by
    simp only [chkSs, Bool.and_eq_true] at h
    exact ss_cons (sndS s C X _ hx h.1) (sndSs r C X _ hx h.2)
  | .nil, C, X, _ :: _, hx, h => by simp [chkSs] at h
  | .cons _ _, C, X, [], hx, h => by simp [chkSs] at h
end
end
end Sw
end

section
set_option Elab.async false
set_option linter.all false
set_option maxRecDepth 100000
set_option maxHeartbeats 4000000
/-! Functions, to any depth; the law's call. -/
namespace Sw
open PySem PySem.Spec PyProof.Rows L2
section
variable {P : Program} {w : World} {K : PySem.W.Frag} {mg : Str → Option Value} {base : Heap}
/-- a def by its body, while no guard stands -/
theorem fnG_of {k : Nat} {f : Addr} {name qual : Str} {params : Arguments} {body : List Stmt} {scope : Scope} {dV kV doc pm cdv ct oc : Value} {an od : Option Addr} {osl : Array (Option Value)} {N ps : List Str} {sp : Sp}
    (look : K.lookup f = some ⟨oc, od, .func (PySem.W.fnOf name qual params body scope dV kV doc pm an cdv ct), osl⟩) (code : PySem.W.codeIn K cdv qual = true) (fs : FnScope N ps scope) (few : ∀ vs H Q E, sp vs H Q E → vs.length = ps.length)
    (walk : ∀ (A : Around) (outer : List Env) (s : Shared) (H : Hp) (vs : List V) (Q : VK), Room k (A.deeper (envOfC qual scope s.heap.objs.size f cdv)) → A.guards = some [] → sp vs H Q E0 →
      ∃ t, PSs (cxOf CX0 P w K mg base N qual scope f cdv A outer s H E0).nox body t ∧ t { nx := fun _ H' => Q .non H', rt := Q } (start N vs) H) :
    FnG P w K mg base (k + 1) f (PySem.W.fnOf name qual params body scope dV kV doc pm an cdv ct) ps sp := by
  refine ⟨few, fun A outer s H args us vs Q room gd env0 bd rel pr => ?_⟩
  have inK : K.In s.heap := env0.mod.kin.keeps fun b o q => (env0.bs b o q).1
  have noL : s.heap.NoLimit := env0.mod.nolimit.keeps fun b o q => (env0.bs b o q).1
  refine Att.call_fn inK noL look code room.depth bd (List.all_eq_true.mpr fun y hy => ?_) (fun s1 entered => ?_) fs.co fs.gen fs.kind
  · rcases fs.par y.1 (List.of_mem_zip (show (y.1, y.2) ∈ ps.zip us from hy)).1 with q | q <;> rw [q] <;> rfl
  · obtain ⟨t, ok, wish⟩ := walk A outer s H vs Q (room.deeper _) gd pr
    have inv0 := inv_start (CX := CX0) (P := P) (w := w) (E := E0) fs room.hd env0 (few _ _ _ _ pr) rel entered
    refine wpAny_mono (ok.run [] s1 (start N vs) H _ (inv0.wish _) wish) (fun fl s' q => ?_) (fun e s' z => False.elim z)
    cases fl with
    | ret u => obtain ⟨v, σ', H', J, rv, q⟩ := q; exact ⟨v, H', J.os, J.bare, J.base, J.hok, rv, q⟩
    | next => obtain ⟨σ', H', J, q⟩ := q; exact ⟨.non, H', J.os, J.bare, J.base, J.hok, rfl, q⟩
    | brk => obtain ⟨_, _, _, q⟩ := q; exact q.elim
    | cont => obtain ⟨_, _, _, q⟩ := q; exact q.elim
/-- a def of the text, told by what it is here -/
def okF (fns : List Str) (F : Fn) (scope : Scope) (body : List Stmt) : Bool :=
  C8.scC F.names (F.names.take F.np) scope && decide (F.np ≤ F.names.length) && chkSs ⟨F.names, scope, fun _ => true, fns⟩ F.body body
structure IsFn (K : PySem.W.Frag) (mg : Str → Option Value) (fns : List Str) (F : Fn) : Prop where
  ex : ∃ (params : Arguments) (body : List Stmt) (scope : Scope) (f : Addr) (fd : FuncData), FunD K F.name F.name params body scope [] [] f fd ∧ mg F.name = some (.ref f) ∧ Binds K fd (F.names.take F.np) [] ∧ okF fns F scope body = true
theorem runF_some {Γ : Cal} {F : Fn} {ds : List PyData} {o : Own} {d : PyData} (h : runF Γ F ds = some (o, d)) : ds.length = F.np ∧ ∃ out, execs Γ F.body (ds.map (fun d => some (.fz, d)) ++ List.replicate (F.names.length - ds.length) none) = some out ∧
    ((out = .rt o d) ∨ (∃ S, out = .nx S) ∧ o = .fz ∧ d = .none) := by
  unfold runF at h
  split at h
  · rename_i hl
    refine ⟨hl, ?_⟩
    split at h
    · cases h; exact ⟨_, by assumption, .inl rfl⟩
    · cases h; exact ⟨_, by assumption, .inr ⟨⟨_, rfl⟩, rfl, rfl⟩⟩
    · cases h
  · cases h
theorem start_rel {G : Addr → Prop} {H : Hp} {N : List Str} {vs : List V} {ds : List PyData} (hG : ∀ a, G a → H a ≠ none) (hv : RepFs K H G vs ds) : Rel K G (fun _ => []) (ds.map (fun d => some (Own.fz, d)) ++ List.replicate (N.length - ds.length) none) (start N vs) H := by
  have hl := hv.length
  refine ⟨(by simp [L2.start, hl]), fun i o d e => ?_, fun _ _ => rfl, fun _ => (by simp), fun _ _ _ z => (by cases z), fun _ _ z => (by cases z), hG⟩
  by_cases hi : i < ds.length
  · rw [List.getElem?_append_left (by simpa using hi), List.getElem?_map, List.getElem?_eq_getElem hi] at e
    simp only [Option.map_some, Option.some.injEq, Prod.mk.injEq] at e
    obtain ⟨rfl, rfl⟩ := e
    obtain ⟨v, e1, k⟩ := hv.get (List.getElem?_eq_getElem hi)
    refine ⟨v, ?_, rfl, k⟩
    unfold L2.start
    rw [List.getElem?_append_left (by simp; omega), List.getElem?_map, e1]
    rfl
  · rw [List.getElem?_append_right (by simpa using hi), List.getElem?_replicate] at e
    split at e <;> cases e
theorem level {fns : List Str} {T : List Fn} (hf : ∀ (f : Nat) (x : Str), fns[f]? = some x → ∃ F : Fn, T[f]? = some F ∧ F.name = x) (hb : ∀ x ∈ bltNames, mg x = none) (hT : ∀ F ∈ T, IsFn K mg fns F) :
    ∀ (n f : Nat) (F : Fn), T[f]? = some F → ∃ (a : Addr) (fd : FuncData), mg F.name = some (.ref a) ∧ PySem.W.keepIn K (.ref a) = true ∧ Binds K fd (F.names.take F.np) [] ∧ FnG P w K mg base n a fd (F.names.take F.np) (spOf K (Gam T n) f)
  | 0, f, F, h => by
    obtain ⟨params, body, scope, a, fd, e1, e2, e3, e4⟩ := (hT F (List.mem_of_getElem? h)).ex
    refine ⟨a, fd, e2, e1.kp, e3, ⟨fun vs H Q E z => ?_, fun A outer s H args us vs Q room gd env0 bd rel pr => ?_⟩⟩
    · obtain ⟨G, ds, o, d, _, _, z, _⟩ := z; cases z
    · obtain ⟨G, ds, o, d, _, _, z, _⟩ := pr; cases z
  | n + 1, f, F, h => by
    obtain ⟨params, body, scope, a, fd, e1, e2, e3, e4⟩ := (hT F (List.mem_of_getElem? h)).ex
    refine ⟨a, fd, e2, e1.kp, e3, ?_⟩
    unfold okF at e4
    simp only [Bool.and_eq_true, decide_eq_true_eq] at e4
    obtain ⟨⟨k1, k2⟩, k3⟩ := e4
    have fs := C8.fnScope_by k1
    obtain ⟨oc, od, dV, kV, doc, pm, an, cdv, ct, osl, rfl, lk, hcd, _, _⟩ := e1.ex
    have run : ∀ ds o d, Gam T (n + 1) f ds = some (o, d) → runF (Gam T n) F ds = some (o, d) := fun ds o d z => by
      simp only [Gam] at z
      rw [h] at z
      exact z
    refine fnG_of lk hcd fs (fun vs H Q E z => ?_) fun A outer s H vs Q room gd pr => ?_
    · obtain ⟨G, ds, o, d, _, z1, z2, _⟩ := z
      rw [z1.length, (runF_some (run _ _ _ z2)).1, List.length_take]
      omega
    · obtain ⟨G, ds, o, d, hG, z1, z2, z3⟩ := pr
      obtain ⟨hl, out, ex, fin⟩ := runF_some (run _ _ _ z2)
      refine ⟨tSs K (Gam T n) F.body, sndSs (Γ := Gam T n) (n := n) F.body _ _ body ?_ k3, G, fun _ => [], _, out, start_rel hG z1, ex, ?_⟩
      · refine ⟨rfl, fs.nd, rfl, fun _ => rfl, rfl, rfl, room, gd, hb, fun g x hg => ?_⟩
        obtain ⟨F', q1, rfl⟩ := hf g x hg
        obtain ⟨a', fd', r1, r2, r3, r4⟩ := level hf hb hT n g F' q1
        exact ⟨a', fd', _, r1, r2, r3, r4⟩
      · rcases fin with rfl | ⟨⟨S', rfl⟩, rfl, rfl⟩
        · refine fun v H' f' ⟨q1, q2⟩ => z3 v H' f' (fun b u e => q1 b u e fun i z => by cases z) (q2.fr fun b z => ?_)
          rcases z with ⟨i, z⟩ | z
          · cases z
          · exact z
        · exact fun G' own' σ' H' st R' => z3 .non H' [] (fun b u e => st.keep b u e fun i z => by cases z) ⟨rfl, .non⟩
end
end Sw
end

section
set_option Elab.async false
set_option linter.all false
set_option maxRecDepth 100000
set_option maxHeartbeats 4000000
/-! The law's call, by what the interpreter answers. -/
namespace Sw
open PySem PySem.Spec PyProof.Rows L2
section
variable {P : Program} {w : World} {K : PySem.W.Frag} {mg mb : Str → Option Value} {x : Str} {s1 : Shared} {vs : List Value} {ns : List Int} {a : Addr}
/-- what is tracked at the entry: the script, unless it is an object of the module -/
def H0 (o : Obj) (a : Addr) (xs : List V) : Bool → Hp
  | true => fun b => if b = a then some (.frz o (.lst xs)) else none
  | false => fun _ => none
theorem ints_rep {H : Hp} {G : Addr → Prop} (h : LsP K H G a (ns.map V.int)) : RepF K H G (.ref a) (.list (ns.map PyData.int)) := .lst h (repF_ints ns)
theorem true_of {H : Hp} {G : Addr → Prop} {o : Own} {v : V} {g : List Addr} {Fr : Addr → Prop} (h : RepR K G (fun _ => []) Fr H (mk (.bool true) o []) v g) : v = .bl true := by
  have e : mk (.bool true) o [] = Rp (.bool true) := rfl
  rw [e] at h
  have := h.rep
  cases this
  rfl
theorem call_G {k : Nat} {fa : Addr} {Γ : Cal} {fL : Nat} {o : Own} (inK : K.In s1.heap) (nsM : s1.heap.Ns mainGlobals mg) (nsB : s1.heap.Ns builtinsNs mb) (boot : ∀ x : Str, x ≠ "__name__" → mb x = bootBuiltins x) (noL : s1.heap.NoLimit) (hg : s1.gens = #[])
    (at_ : s1.heap.get? a = some { cls := .type "list", data := .seq vs.toArray }) (hi : IntsAre vs ns) (hl : ns.length ≤ sizeLine) (room : Room k callerA)
    (F : ∀ base : Heap, K.In base → base.Ns mainGlobals mg → ∃ fd : FuncData, Binds K fd [x] [] ∧ FnG P w K mg base k fa fd [x] (spOf K Γ fL))
    (yes : Γ fL [.list (ns.map .int)] = some (o, .bool true)) :
    codeAny (model P w) callerA (.call (.ref fa) ⟨[.ref a], []⟩) (fun r s' => r = .ok (.ret (.bool true)) ∧ OldK s1.heap s'.heap ∧ s'.os = s1.os ∧ AllBare s'.gens) s1 := by
  have same_len := hi.length
  have vals := vals_ints hi
  let scr : Obj := { cls := .type "list", data := .seq vs.toArray }
  -- one of two heaps: the script tracked as it stands, or nothing
  have go : ∀ t : Bool, (t = true → K.lookup a = none) → LsP K (H0 scr a (ns.map V.int) t) (fun b => H0 scr a (ns.map V.int) t b ≠ none) a (ns.map V.int) →
      codeAny (model P w) callerA (.call (.ref fa) ⟨[.ref a], []⟩) (fun r s' => r = .ok (.ret (.bool true)) ∧ OldK s1.heap s'.heap ∧ s'.os = s1.os ∧ AllBare s'.gens) s1 := by
    intro t free ls
    generalize hH : H0 scr a (ns.map V.int) t = H at ls
    have only : ∀ b, H b ≠ none → b = a ∧ t = true ∧ H b = some (.frz scr (.lst (ns.map V.int))) := fun b q => by
      rw [← hH] at q ⊢
      cases t with
      | false => exact absurd rfl q
      | true =>
        by_cases e : b = a
        · exact ⟨e, rfl, if_pos e⟩
        · exact absurd (if_neg e) q
    have not_a : ∀ {b : Addr} {u : Obj}, s1.heap.get? b = some u → (∀ es ep, u.data = .dict es ep → H b = none) := fun {b u} e es ep d => Classical.byContradiction fun q => by
      obtain ⟨rfl, _, _⟩ := only b q
      rw [at_] at e
      cases e
      cases d
    have keepNs : ∀ {b : Addr} {m : Str → Option Value}, s1.heap.Ns b m → (hidT s1.heap H).Ns b m := fun {b m} q => by
      obtain ⟨u, es, ep, e, d, r⟩ := q
      exact ⟨u, es, ep, hidT_get e (not_a e es ep d), d, r⟩
    have inB : K.In (hidT s1.heap H) := fun b u e => by
      refine hidT_get (inK b u e) (Classical.byContradiction fun q => ?_)
      obtain ⟨rfl, e2, _⟩ := only b q
      rw [free e2] at e
      cases e
    have md : Mod K mg (hidT s1.heap H) := by
      obtain ⟨mc, l1, l2⟩ := noL
      exact ⟨inB, keepNs nsM, ⟨mb, keepNs nsB, boot⟩, ⟨mc, keepNs l1, l2⟩⟩
    have hok : HOk P w H s1.heap := fun b u e => by
      obtain ⟨rfl, _, e2⟩ := only b (by rw [e]; intro z; cases z)
      rw [e] at e2
      cases e2
      refine ⟨at_, ?_, vs, _, vals, at_⟩
      rw [List.length_map]
      exact hl
    have env : Env0 P w K mg (hidT s1.heap H) callerA [] s1 H := ⟨rfl, md, fun b u e => of_hidT e, Nat.le_of_eq (hidT_size _ _), trivial, fun b z => absurd z (List.not_mem_nil), hok, .of_eq hg⟩
    have pr : spOf K Γ fL [.ref a] H (fun v _ => v = .bl true) E0 := ⟨fun b => H b ≠ none, [.list (ns.map .int)], o, .bool true, fun _ z => z, .cons (ints_rep ls) .nil, yes, fun v H' g _ r => true_of r⟩
    obtain ⟨fd, bind, ok⟩ := F _ inB (keepNs nsM)
    refine codeAny_mono (ok.run callerA [] s1 H ⟨[.ref a], []⟩ [.ref a] [.ref a] _ room rfl env (bind s1 [.ref a] inK rfl) (.cons rfl .nil) pr) fun r s' q => ?_
    cases r with
    | error e => exact q.elim
    | ok fl =>
      cases fl with
      | ret u =>
        obtain ⟨v, H', os, bare, un, hok', rv, q⟩ := q
        obtain rfl : v = .bl true := q
        obtain rfl : u = Value.bool true := rv
        refine ⟨rfl, OldK.of_keep fun b u e => ?_, os, bare⟩
        by_cases z : H b = none
        · exact un.keep b u e z List.not_mem_nil List.not_mem_nil
        · obtain ⟨rfl, _, e2⟩ := only b z
          obtain ⟨e3, _⟩ := hok b _ e2
          obtain ⟨e4, _⟩ := hok' b _ (un.frzs b scr _ e2)
          rw [e] at e3
          cases e3
          exact e4
      | next => exact q.elim
      | brk => exact q.elim
      | cont => exact q.elim
  cases hk : K.lookup a with
  | none => exact go true (fun _ => hk) (.inl ⟨.inr ⟨scr, if_pos rfl⟩, by show (if a = a then _ else _) ≠ _; rw [if_pos rfl]; intro z; cases z⟩)
  | some u =>
    have e := inK a u hk
    rw [at_] at e
    cases e
    exact go false (fun z => by cases z) (.inr ⟨vs, _, hk, by rw [same_len]; exact hl, vals⟩)
end
theorem walk_G {l : PySem.W.OpenLaw} {n k : Nat} {q : Program} {loose : List Str} {XP : (Str → Option Value) → Heap → Prop} {YP : World → Heap → Prop} {d : DefRec} {x : Str} {Γ : Cal} {fL : Nat}
    (hn : l.most = some n) (hn2 : n ≤ sizeLine) (hdf : d.params.defaults = []) (room : Room k callerA)
    (F : ∀ (w : World) (mg : Str → Option Value) (fa : Addr) (h : Heap), YP w h → h.Ns mainGlobals mg → mg d.name = some (.ref fa) →
      ∃ K : PySem.W.Frag, K.In h ∧ ∀ base : Heap, K.In base → base.Ns mainGlobals mg → ∃ fd : FuncData, Binds K fd [x] [] ∧ FnG l.prog w K mg base k fa fd [x] (spOf K Γ fL))
    (yes : ∀ ns : List Int, ns.length ≤ n → ∃ o, Γ fL [.list (ns.map .int)] = some (o, .bool true)) :
    PySem.W.WalkO q loose XP YP l.row.toRowW d [] (fun f vs => PySem.call f vs) := by
  refine Att.attach_call hn hdf fun w s0 s1 mg mb fa o pm cd doc a vs ns G Y ho hd hcd hmg hobj hints hlen hg => ?_
  obtain ⟨K, inK, hF⟩ := F w mg fa _ Y G.T.g hmg
  obtain ⟨o, hy⟩ := yes ns hlen
  exact call_G inK G.T.g G.T.b G.T.builtins G.T.nolimit hg hobj hints (Nat.le_trans hlen hn2) room hF hy
end Sw
end

section
set_option Elab.async false
set_option linter.all false
set_option maxRecDepth 100000
set_option maxHeartbeats 1000000
/-! How the interpreter runs, in rows for simp. -/
namespace Sp
open Sw
open PySem (PyData Str)
abbrev LI (xs : List Int) : PyData := .list (xs.map .int)
abbrev FI (d : PyData) : Option R := some ⟨d, .fz, []⟩
/-! ### helpers without binders -/
def seqO (Γ : Cal) (r : Stms) : Option Out → Option Out
  | some (.nx σ) => execs Γ r σ
  | some o => some o
  | none => none
def binO (o : Bin) : Option R → Option R → Option R
  | some x, some y => binD o x y
  | _, _ => none
def bolO : Option Bool → Option R
  | some b => some ⟨.bool b, .fz, []⟩
  | none => none
def datO (al : List Nat) : Option PyData → Option R
  | some d => some (mk d .fz al)
  | none => none
def cmpO (o : Cm) : Option R → Option R → Option R
  | some x, some y => bolO (cmpD o x.d y.d)
  | _, _ => none
def idxO : Option R → Option R → Option R
  | some x, some y => datO x.al (idxD x.d y.d)
  | _, _ => none
def slcO : Option R → Option (Option Int) → Option (Option Int) → Option R
  | some x, some l, some h => slcR x l h
  | _, _, _ => none
def bltO (f : Blt) : Option R → Option R
  | some x => bltR f x
  | none => none
def consO : Option R → Option (List R) → Option (List R)
  | some r, some rs => some (r :: rs)
  | _, _ => none
def callO (al : List Nat) : Option (Own × PyData) → Option R
  | some (o, d) => some (mk d o (if o = .dp then [] else al))
  | none => none
def callR (Γ : Cal) (f : Nat) : Option (List R) → Option R
  | some rs => callO (rs.flatMap R.al) (Γ f (rs.map R.d))
  | none => none
def lstO : Option (List R) → Option R
  | some rs => if rs.length ≤ maxLen then some (listOf rs []) else none
  | none => none
def tupO : Option (List R) → Option R
  | some rs => if rs.length ≤ maxLen then some (tupOf rs) else none
  | none => none
def notO : Option R → Option R
  | some ⟨.bool k, _, _⟩ => some ⟨.bool (!k), .fz, []⟩
  | _ => none
def negO : Option R → Option R
  | some ⟨.int i, _, _⟩ => some ⟨.int (-i), .fz, []⟩
  | _ => none
def andO (Γ : Cal) (b : Ex) (σ : S) : Option R → Option R
  | some ⟨.bool true, _, _⟩ => ev Γ b σ
  | some ⟨.bool false, _, _⟩ => FI (.bool false)
  | _ => none
def orO (Γ : Cal) (b : Ex) (σ : S) : Option R → Option R
  | some ⟨.bool true, _, _⟩ => FI (.bool true)
  | some ⟨.bool false, _, _⟩ => ev Γ b σ
  | _ => none
def iteE (Γ : Cal) (a b : Ex) (σ : S) : Option R → Option R
  | some ⟨.bool true, _, _⟩ => ev Γ a σ
  | some ⟨.bool false, _, _⟩ => ev Γ b σ
  | _ => none
def truO : Option R → Option R
  | some x => bolO (truD x.d)
  | none => none
def revO : Option R → Option R
  | some ⟨.list xs, _, al⟩ => some (newL xs.reverse al)
  | _ => none
def stpO : Option R → Option R → Option R → Option R
  | some x, some y, some z => stpR x y.d z.d
  | _, _, _ => none
def isNO (b : Bool) : Option R → Option R
  | some x => FI (.bool (isNone x.d == b))
  | none => none
def isiO (t : Ty) : Option R → Option R
  | some x => FI (.bool (isiD x.d t))
  | none => none
def m2O (mx : Bool) : Option R → Option R → Option R
  | some ⟨.int i, _, _⟩, some ⟨.int j, _, _⟩ => FI (.int (if mx then max i j else min i j))
  | _, _ => none
def rngO : Option R → Option R → Option R → Option R
  | some x, some y, some z => match rngD x.d y.d z.d with
    | some xs => some ⟨.list xs, .dp, []⟩
    | none => none
  | _, _, _ => none
def chnO (Γ : Cal) (p : Cm) (c : Ex) (σ : S) : Option Bool → Option R → Option R
  | some true, some y => cmpO p (some y) (ev Γ c σ)
  | some false, some _ => FI (.bool false)
  | _, _ => none
def cmB (o : Cm) : Option R → Option R → Option Bool
  | some x, some y => cmpD o x.d y.d
  | _, _ => none
section
variable {Γ : Cal} {σ : S}
@[simp] theorem xs_nil : execs Γ .nil σ = some (.nx σ) := by simp only [execs]
@[simp] theorem xs_cons (s : Stm) (r : Stms) : execs Γ (.cons s r) σ = seqO Γ r (exec Γ s σ) := by
  simp only [execs]
  cases h : exec Γ s σ with
  | none => rfl
  | some o => cases o <;> rfl
@[simp] theorem sq_nx (r : Stms) (s : S) : seqO Γ r (some (.nx s)) = execs Γ r s := rfl
@[simp] theorem sq_bk (r : Stms) (s : S) : seqO Γ r (some (.bk s)) = some (.bk s) := rfl
@[simp] theorem sq_ct (r : Stms) (s : S) : seqO Γ r (some (.ct s)) = some (.ct s) := rfl
@[simp] theorem sq_rt (r : Stms) (o : Own) (d : PyData) : seqO Γ r (some (.rt o d)) = some (.rt o d) := rfl
theorem e_var0 (i : Nat) : ev Γ (.var i) σ = match σ[i]? with
    | some (some (o, d)) => some (mk d .fz (if o = .fz then [] else [i]))
    | _ => none := by simp only [ev] <;> rfl
def varO (i : Nat) : Option Slot → Option R
  | some (some (.fz, d)) => some (mk d .fz [])
  | some (some (_, d)) => some (mk d .fz [i])
  | _ => none
@[simp] theorem e_var1 (i : Nat) : ev Γ (.var i) σ = varO i σ[i]? := by
  rw [e_var0]
  unfold varO
  rcases σ[i]? with _ | _ | ⟨o, d⟩
  · rfl
  · rfl
  · cases o <;> rfl
@[simp] theorem var_fz (i : Nat) (d : PyData) : varO i (some (some (.fz, d))) = some (mk d .fz []) := rfl
@[simp] theorem var_dp (i : Nat) (d : PyData) : varO i (some (some (.dp, d))) = some (mk d .fz [i]) := rfl
@[simp] theorem var_sh (i : Nat) (d : PyData) : varO i (some (some (.sh, d))) = some (mk d .fz [i]) := rfl
@[simp] theorem var_ldp (i : Nat) (d : PyData) : varO i (some (some (.ldp, d))) = some (mk d .fz [i]) := rfl
@[simp] theorem var_lsh (i : Nat) (d : PyData) : varO i (some (some (.lsh, d))) = some (mk d .fz [i]) := rfl
@[simp] theorem mk_int (i : Int) (o : Own) (al : List Nat) : mk (.int i) o al = ⟨.int i, .fz, []⟩ := rfl
@[simp] theorem mk_bool (b : Bool) (o : Own) (al : List Nat) : mk (.bool b) o al = ⟨.bool b, .fz, []⟩ := rfl
@[simp] theorem mk_none (o : Own) (al : List Nat) : mk .none o al = ⟨.none, .fz, []⟩ := rfl
@[simp] theorem mk_str (s : Str) (o : Own) (al : List Nat) : mk (.str s) o al = ⟨.str s, .fz, []⟩ := rfl
@[simp] theorem mk_list (xs : List PyData) (o : Own) (al : List Nat) : mk (.list xs) o al = ⟨.list xs, o, al⟩ := rfl
@[simp] theorem rp_eq (d : PyData) : Rp d = ⟨d, .fz, []⟩ := rfl
@[simp] theorem e_int (i : Int) : ev Γ (.int i) σ = FI (.int i) := by simp only [ev]; rfl
@[simp] theorem e_bl (b : Bool) : ev Γ (.bl b) σ = FI (.bool b) := by simp only [ev]; rfl
@[simp] theorem e_non : ev Γ .non σ = FI .none := by simp only [ev]; rfl
@[simp] theorem e_str (s : Str) : ev Γ (.str s) σ = FI (.str s) := by simp only [ev]; rfl
@[simp] theorem e_bin (o : Bin) (a b : Ex) : ev Γ (.bin o a b) σ = binO o (ev Γ a σ) (ev Γ b σ) := by
  simp only [ev]; cases ev Γ a σ <;> cases ev Γ b σ <;> rfl
@[simp] theorem e_cmp (o : Cm) (a b : Ex) : ev Γ (.cmp o a b) σ = cmpO o (ev Γ a σ) (ev Γ b σ) := by
  simp only [ev]; cases ev Γ a σ <;> cases ev Γ b σ <;> first | rfl | skip
  rename_i x y
  show (cmpD o x.d y.d).map _ = bolO _
  cases cmpD o x.d y.d <;> rfl
@[simp] theorem e_chain (o p : Cm) (a b c : Ex) : ev Γ (.chain o p a b c) σ = chnO Γ p c σ (cmB o (ev Γ a σ) (ev Γ b σ)) (ev Γ b σ) := by
  simp only [ev]; cases ev Γ a σ <;> cases ev Γ b σ <;> first | rfl | skip
  rename_i x y
  show (cmpD o x.d y.d).bind _ = chnO Γ p c σ (cmpD o x.d y.d) (some y)
  cases cmpD o x.d y.d with
  | none => rfl
  | some k => cases k with
    | false => rfl
    | true =>
      show (ev Γ c σ).bind _ = cmpO p (some y) (ev Γ c σ)
      cases ev Γ c σ with
      | none => rfl
      | some z =>
        show (cmpD p y.d z.d).map _ = bolO _
        cases cmpD p y.d z.d <;> rfl
@[simp] theorem e_neg (a : Ex) : ev Γ (.neg a) σ = negO (ev Γ a σ) := by
  simp only [ev]; rcases ev Γ a σ with _ | ⟨d, o, al⟩
  · rfl
  · cases d <;> rfl
@[simp] theorem e_not (a : Ex) : ev Γ (.not a) σ = notO (ev Γ a σ) := by
  simp only [ev]; rcases ev Γ a σ with _ | ⟨d, o, al⟩
  · rfl
  · cases d <;> rfl
@[simp] theorem e_and (a b : Ex) : ev Γ (.and a b) σ = andO Γ b σ (ev Γ a σ) := by
  simp only [ev]; rcases ev Γ a σ with _ | ⟨d, o, al⟩
  · rfl
  · cases d <;> first | rfl | (rename_i k; cases k <;> rfl)
@[simp] theorem e_or (a b : Ex) : ev Γ (.or a b) σ = orO Γ b σ (ev Γ a σ) := by
  simp only [ev]; rcases ev Γ a σ with _ | ⟨d, o, al⟩
  · rfl
  · cases d <;> first | rfl | (rename_i k; cases k <;> rfl)
@[simp] theorem e_ite (c a b : Ex) : ev Γ (.ite c a b) σ = iteE Γ a b σ (ev Γ c σ) := by
  simp only [ev]; rcases ev Γ c σ with _ | ⟨d, o, al⟩
  · rfl
  · cases d <;> first | rfl | (rename_i k; cases k <;> rfl)
@[simp] theorem e_tru (a : Ex) : ev Γ (.tru a) σ = truO (ev Γ a σ) := by
  simp only [ev]; cases ev Γ a σ with
  | none => rfl
  | some x =>
    show (truD x.d).map _ = bolO _
    cases truD x.d <;> rfl
@[simp] theorem e_isN (a : Ex) : ev Γ (.isN a) σ = isNO true (ev Γ a σ) := by
  simp only [ev]; cases ev Γ a σ with
  | none => rfl
  | some x => simp [isNO, Rp]
@[simp] theorem e_notN (a : Ex) : ev Γ (.notN a) σ = isNO false (ev Γ a σ) := by
  simp only [ev]; cases ev Γ a σ with
  | none => rfl
  | some x => simp [isNO, Rp]
@[simp] theorem e_isi (a : Ex) (t : Ty) : ev Γ (.isi a t) σ = isiO t (ev Γ a σ) := by
  simp only [ev]; cases ev Γ a σ <;> rfl
@[simp] theorem e_idx (a b : Ex) : ev Γ (.idx a b) σ = idxO (ev Γ a σ) (ev Γ b σ) := by
  simp only [ev]; cases ev Γ a σ <;> cases ev Γ b σ <;> first | rfl | skip
  rename_i x y
  show (idxD x.d y.d).map _ = datO _ _
  cases idxD x.d y.d <;> rfl
@[simp] theorem e_slc (a l h : Ex) : ev Γ (.slc a l h) σ = slcO (ev Γ a σ) (bndO l (ev Γ l σ)) (bndO h (ev Γ h σ)) := by
  simp only [ev]; cases ev Γ a σ with
  | none => rfl
  | some x => cases bndO l (ev Γ l σ) with
    | none => rfl
    | some l => cases bndO h (ev Γ h σ) <;> rfl
@[simp] theorem e_stp (a l k : Ex) : ev Γ (.stp a l k) σ = stpO (ev Γ a σ) (ev Γ l σ) (ev Γ k σ) := by
  simp only [ev]; cases ev Γ a σ <;> cases ev Γ l σ <;> cases ev Γ k σ <;> rfl
@[simp] theorem e_rev (a : Ex) : ev Γ (.rev a) σ = revO (ev Γ a σ) := by
  simp only [ev]; rcases ev Γ a σ with _ | ⟨d, o, al⟩
  · rfl
  · cases d <;> rfl
@[simp] theorem e_blt (f : Blt) (a : Ex) : ev Γ (.blt f a) σ = bltO f (ev Γ a σ) := by
  simp only [ev]; cases ev Γ a σ <;> rfl
@[simp] theorem e_min2 (a b : Ex) : ev Γ (.min2 a b) σ = m2O false (ev Γ a σ) (ev Γ b σ) := by
  simp only [ev]; rcases ev Γ a σ with _ | ⟨d, o, al⟩
  · rfl
  · rcases ev Γ b σ with _ | ⟨d', o', al'⟩
    · cases d <;> rfl
    · cases d <;> cases d' <;> rfl
@[simp] theorem e_max2 (a b : Ex) : ev Γ (.max2 a b) σ = m2O true (ev Γ a σ) (ev Γ b σ) := by
  simp only [ev]; rcases ev Γ a σ with _ | ⟨d, o, al⟩
  · rfl
  · rcases ev Γ b σ with _ | ⟨d', o', al'⟩
    · cases d <;> rfl
    · cases d <;> cases d' <;> rfl
@[simp] theorem e_rng (a b c : Ex) : ev Γ (.rng a b c) σ = rngO (ev Γ a σ) (ev Γ b σ) (ev Γ c σ) := by
  simp only [ev]; cases ev Γ a σ with
  | none => rfl
  | some x => cases ev Γ b σ with
    | none => rfl
    | some y => cases ev Γ c σ with
      | none => rfl
      | some z =>
        show (rngD x.d y.d z.d).map _ = rngO (some x) (some y) (some z)
        unfold rngO
        dsimp only
        cases rngD x.d y.d z.d <;> rfl
@[simp] theorem es_nil : evs Γ .nil σ = some [] := by simp only [evs]
@[simp] theorem es_cons (e : Ex) (es : Exs) : evs Γ (.cons e es) σ = consO (ev Γ e σ) (evs Γ es σ) := by
  simp only [evs]; cases ev Γ e σ <;> cases evs Γ es σ <;> rfl
@[simp] theorem e_lst (es : Exs) : ev Γ (.lst es) σ = lstO (evs Γ es σ) := by
  simp only [ev]; cases evs Γ es σ <;> rfl
@[simp] theorem e_tup (es : Exs) : ev Γ (.tup es) σ = tupO (evs Γ es σ) := by
  simp only [ev]; cases evs Γ es σ <;> rfl
@[simp] theorem e_call (f : Nat) (es : Exs) : ev Γ (.call f es) σ = callR Γ f (evs Γ es σ) := by
  simp only [ev]; cases evs Γ es σ with
  | none => rfl
  | some rs =>
    show (Γ f (rs.map R.d)).map _ = callO _ _
    rcases Γ f (rs.map R.d) with _ | ⟨o, d⟩ <;> rfl
end
@[simp] theorem binO_s (o : Bin) (x y : R) : binO o (some x) (some y) = binD o x y := rfl
@[simp] theorem bolO_s (b : Bool) : bolO (some b) = FI (.bool b) := rfl
@[simp] theorem datO_s (al : List Nat) (d : PyData) : datO al (some d) = some (mk d .fz al) := rfl
@[simp] theorem cmpO_s (o : Cm) (x y : R) : cmpO o (some x) (some y) = bolO (cmpD o x.d y.d) := rfl
@[simp] theorem cmB_s (o : Cm) (x y : R) : cmB o (some x) (some y) = cmpD o x.d y.d := rfl
@[simp] theorem idxO_s (x y : R) : idxO (some x) (some y) = datO x.al (idxD x.d y.d) := rfl
@[simp] theorem slcO_s (x : R) (l h : Option Int) : slcO (some x) (some l) (some h) = slcR x l h := rfl
@[simp] theorem bltO_s (f : Blt) (x : R) : bltO f (some x) = bltR f x := rfl
@[simp] theorem consO_s (r : R) (rs : List R) : consO (some r) (some rs) = some (r :: rs) := rfl
@[simp] theorem callR_s (Γ : Cal) (f : Nat) (rs : List R) : callR Γ f (some rs) = callO (rs.flatMap R.al) (Γ f (rs.map R.d)) := rfl
@[simp] theorem callO_dp (al : List Nat) (d : PyData) : callO al (some (.dp, d)) = some (mk d .dp []) := rfl
@[simp] theorem callO_fz (al : List Nat) (d : PyData) : callO al (some (.fz, d)) = some (mk d .fz al) := rfl
@[simp] theorem callO_sh (al : List Nat) (d : PyData) : callO al (some (.sh, d)) = some (mk d .sh al) := rfl
@[simp] theorem notO_s (k : Bool) (o : Own) (al : List Nat) : notO (some ⟨.bool k, o, al⟩) = FI (.bool (!k)) := rfl
@[simp] theorem negO_s (i : Int) (o : Own) (al : List Nat) : negO (some ⟨.int i, o, al⟩) = FI (.int (-i)) := rfl
@[simp] theorem andO_t (Γ : Cal) (b : Ex) (σ : S) (o : Own) (al : List Nat) : andO Γ b σ (some ⟨.bool true, o, al⟩) = ev Γ b σ := rfl
@[simp] theorem andO_f (Γ : Cal) (b : Ex) (σ : S) (o : Own) (al : List Nat) : andO Γ b σ (some ⟨.bool false, o, al⟩) = FI (.bool false) := rfl
@[simp] theorem orO_t (Γ : Cal) (b : Ex) (σ : S) (o : Own) (al : List Nat) : orO Γ b σ (some ⟨.bool true, o, al⟩) = FI (.bool true) := rfl
@[simp] theorem orO_f (Γ : Cal) (b : Ex) (σ : S) (o : Own) (al : List Nat) : orO Γ b σ (some ⟨.bool false, o, al⟩) = ev Γ b σ := rfl
@[simp] theorem iteE_t (Γ : Cal) (a b : Ex) (σ : S) (o : Own) (al : List Nat) : iteE Γ a b σ (some ⟨.bool true, o, al⟩) = ev Γ a σ := rfl
@[simp] theorem iteE_f (Γ : Cal) (a b : Ex) (σ : S) (o : Own) (al : List Nat) : iteE Γ a b σ (some ⟨.bool false, o, al⟩) = ev Γ b σ := rfl
@[simp] theorem truO_s (x : R) : truO (some x) = bolO (truD x.d) := rfl
@[simp] theorem isNO_s (b : Bool) (x : R) : isNO b (some x) = FI (.bool (isNone x.d == b)) := rfl
@[simp] theorem isiO_s (t : Ty) (x : R) : isiO t (some x) = FI (.bool (isiD x.d t)) := rfl
@[simp] theorem m2O_t (i j : Int) (o p : Own) (al bl : List Nat) : m2O true (some ⟨.int i, o, al⟩) (some ⟨.int j, p, bl⟩) = FI (.int (max i j)) := rfl
@[simp] theorem m2O_f (i j : Int) (o p : Own) (al bl : List Nat) : m2O false (some ⟨.int i, o, al⟩) (some ⟨.int j, p, bl⟩) = FI (.int (min i j)) := rfl
@[simp] theorem stpO_s (x y z : R) : stpO (some x) (some y) (some z) = stpR x y.d z.d := rfl
@[simp] theorem revO_s (xs : List PyData) (o : Own) (al : List Nat) : revO (some ⟨.list xs, o, al⟩) = some (newL xs.reverse al) := rfl
@[simp] theorem chn_t (Γ : Cal) (p : Cm) (c : Ex) (σ : S) (y : R) : chnO Γ p c σ (some true) (some y) = cmpO p (some y) (ev Γ c σ) := rfl
@[simp] theorem chn_f (Γ : Cal) (p : Cm) (c : Ex) (σ : S) (y : R) : chnO Γ p c σ (some false) (some y) = FI (.bool false) := rfl
/-! ### data -/
@[simp] theorem plains_int (xs : List Int) : plains (xs.map .int) = true := by
  induction xs with
  | nil => rfl
  | cons x xs ih => simp [plains, plain, ih]
@[simp] theorem plains_nil : plains [] = true := rfl
@[simp] theorem plains_cons (x : PyData) (xs : List PyData) : plains (x :: xs) = (plain x && plains xs) := rfl
@[simp] theorem plains_append (xs ys : List PyData) : plains (xs ++ ys) = (plains xs && plains ys) := by
  induction xs with
  | nil => simp
  | cons x xs ih => simp [ih, Bool.and_assoc]
@[simp] theorem plain_int (i : Int) : plain (.int i) = true := rfl
@[simp] theorem plain_bool (i : Bool) : plain (.bool i) = true := rfl
@[simp] theorem plain_none : plain .none = true := rfl
@[simp] theorem plain_str (i : Str) : plain (.str i) = true := rfl
@[simp] theorem plain_list (xs : List PyData) : plain (.list xs) = false := rfl
@[simp] theorem plain_tuple (xs : List PyData) : plain (.tuple xs) = plains xs := rfl
theorem plains_all {xs : List PyData} (h : ∀ x ∈ xs, plain x = true) : plains xs = true := by
  induction xs with
  | nil => rfl
  | cons x xs ih => rw [plains_cons, h x (by simp), ih fun y hy => h y (by simp [hy])]; rfl
theorem plains_iff {xs : List PyData} : plains xs = true ↔ ∀ x ∈ xs, plain x = true := by
  constructor
  · intro h
    induction xs with
    | nil => simp
    | cons x xs ih =>
      rw [plains_cons, Bool.and_eq_true] at h
      intro y hy
      rcases List.mem_cons.mp hy with rfl | hy
      · exact h.1
      · exact ih h.2 y hy
  · exact plains_all
theorem newL_p {xs : List PyData} {al : List Nat} (h : plains xs = true) : newL xs al = ⟨.list xs, .dp, []⟩ := if_pos h
@[simp] theorem newL_int (xs : List Int) (al : List Nat) : newL (xs.map .int) al = ⟨LI xs, .dp, []⟩ := newL_p (plains_int xs)
@[simp] theorem b_add (i j : Int) (o p : Own) (al bl : List Nat) : binD .add ⟨.int i, o, al⟩ ⟨.int j, p, bl⟩ = FI (.int (i + j)) := rfl
@[simp] theorem b_sub (i j : Int) (o p : Own) (al bl : List Nat) : binD .sub ⟨.int i, o, al⟩ ⟨.int j, p, bl⟩ = FI (.int (i - j)) := rfl
theorem b_mul {i j : Int} (h : mulOk i j = true) (o p : Own) (al bl : List Nat) : binD .mul ⟨.int i, o, al⟩ ⟨.int j, p, bl⟩ = FI (.int (i * j)) := if_pos h
theorem b_div {i j : Int} (h : divOk j = true) (o p : Own) (al bl : List Nat) : binD .div ⟨.int i, o, al⟩ ⟨.int j, p, bl⟩ = FI (.int (i / j)) := if_pos h
@[simp] theorem b_mod {i j : Int} (h : 0 < j) (o p : Own) (al bl : List Nat) : binD .mod ⟨.int i, o, al⟩ ⟨.int j, p, bl⟩ = FI (.int (i % j)) := if_pos h
theorem log_lt {n k : Nat} (h : n < 2 ^ k) (hk : 0 < k) : n.log2 < k := by
  by_cases z : n = 0
  · subst z; simpa using hk
  · exact (Nat.log2_lt z).mpr h
theorem div_ok {j : Int} (h : 0 < j) (h2 : j < 2 ^ 64) : divOk j = true := by
  unfold divOk
  have : j.natAbs.log2 < 64 := log_lt (by omega) (by decide)
  exact decide_eq_true ⟨h, by omega⟩
@[simp] theorem b_divS {i j : Int} (h : 0 < j) (h2 : j < 18446744073709551616) (o p : Own) (al bl : List Nat) : binD .div ⟨.int i, o, al⟩ ⟨.int j, p, bl⟩ = FI (.int (i / j)) := b_div (div_ok h h2) o p al bl
theorem mul_ok {i j : Int} (h : -(2 ^ 500) < i ∧ i < 2 ^ 500) (h2 : -(2 ^ 500) < j ∧ j < 2 ^ 500) : mulOk i j = true := by
  unfold mulOk
  have a : i.natAbs.log2 < 500 := log_lt (by omega) (by decide)
  have b : j.natAbs.log2 < 500 := log_lt (by omega) (by decide)
  exact decide_eq_true (by omega)
@[simp] theorem b_mulS {i j : Int} (h1 : -1000000000000000000000000000000000000 < i) (h2 : i < 1000000000000000000000000000000000000) (h3 : -1000000000000000000000000000000000000 < j) (h4 : j < 1000000000000000000000000000000000000) (o p : Own) (al bl : List Nat) : binD .mul ⟨.int i, o, al⟩ ⟨.int j, p, bl⟩ = FI (.int (i * j)) :=
  b_mul (mul_ok (by omega) (by omega)) o p al bl
@[simp] theorem b_cat (xs ys : List Int) (h : xs.length + ys.length ≤ 16777216) (o p : Own) (al bl : List Nat) : binD .add ⟨LI xs, o, al⟩ ⟨LI ys, p, bl⟩ = some ⟨LI (xs ++ ys), .dp, []⟩ := by
  have e : binD .add ⟨LI xs, o, al⟩ ⟨LI ys, p, bl⟩ = if (xs.map PyData.int).length + (ys.map PyData.int).length ≤ maxLen then some (newL (xs.map PyData.int ++ ys.map PyData.int) (al ++ bl)) else none := rfl
  rw [e, ← List.map_append, newL_int, if_pos]
  simpa [maxLen] using h
theorem c_catP (xs ys : List PyData) (h : xs.length + ys.length ≤ 16777216) (hx : plains xs = true) (hy : plains ys = true) (o p : Own) (al bl : List Nat) : binD .add ⟨.list xs, o, al⟩ ⟨.list ys, p, bl⟩ = some ⟨.list (xs ++ ys), .dp, []⟩ := by
  have e : binD .add ⟨.list xs, o, al⟩ ⟨.list ys, p, bl⟩ = if xs.length + ys.length ≤ maxLen then some (newL (xs ++ ys) (al ++ bl)) else none := rfl
  rw [e, if_pos (by simpa [maxLen] using h), newL_p (by rw [plains_append, hx, hy]; rfl)]
/-- the item of a list of ints -/
def itI (xs : List Int) (i : Int) : Int := xs.getD i.toNat 0
theorem ix_in {n : Nat} {i : Int} (h : 0 ≤ i) (h2 : i < n) : ix n i = some i.toNat := by
  unfold ix
  rw [if_pos h, if_pos h2]
theorem ix_neg {n : Nat} {i : Int} (h : i < 0) (h2 : -(n : Int) ≤ i) : ix n i = some (i + n).toNat := by
  unfold ix
  rw [if_neg (by omega), if_pos h2]
@[simp] theorem idx_I {xs : List Int} {i : Int} (h : 0 ≤ i) (h2 : i < xs.length) : idxD (LI xs) (.int i) = some (.int (itI xs i)) := by
  have e : idxD (LI xs) (.int i) = (ix (xs.map PyData.int).length i).bind fun j => (xs.map PyData.int)[j]? := rfl
  rw [e, List.length_map, ix_in h h2]
  simp only [Option.bind_some, List.getElem?_map]
  rw [List.getElem?_eq_getElem (by omega)]
  unfold itI
  rw [List.getD_eq_getElem?_getD, List.getElem?_eq_getElem (by omega)]
  rfl
@[simp] theorem idx_In {xs : List Int} {i : Int} (h : i < 0) (h2 : -(xs.length : Int) ≤ i) : idxD (LI xs) (.int i) = some (.int (itI xs (i + xs.length))) := by
  have e : idxD (LI xs) (.int i) = (ix (xs.map PyData.int).length i).bind fun j => (xs.map PyData.int)[j]? := rfl
  rw [e, List.length_map, ix_neg h h2]
  simp only [Option.bind_some, List.getElem?_map]
  rw [List.getElem?_eq_getElem (by omega)]
  unfold itI
  rw [List.getD_eq_getElem?_getD, List.getElem?_eq_getElem (by omega)]
  rfl
@[simp] theorem idx_0 (x : PyData) (xs : List PyData) : idxD (.tuple (x :: xs)) (.int 0) = some x := by
  have e : idxD (.tuple (x :: xs)) (.int 0) = (ix (x :: xs).length 0).bind fun j => (x :: xs)[j]? := rfl
  rw [e, ix_in (by omega) (by simp)]
  rfl
@[simp] theorem idx_1 (x y : PyData) (xs : List PyData) : idxD (.tuple (x :: y :: xs)) (.int 1) = some y := by
  have e : idxD (.tuple (x :: y :: xs)) (.int 1) = (ix (x :: y :: xs).length 1).bind fun j => (x :: y :: xs)[j]? := rfl
  rw [e, ix_in (by omega) (by simp; omega)]
  rfl
@[simp] theorem len_l (xs : List PyData) (o : Own) (al : List Nat) : bltR .len ⟨.list xs, o, al⟩ = FI (.int xs.length) := rfl
@[simp] theorem len_t (xs : List PyData) (o : Own) (al : List Nat) : bltR .len ⟨.tuple xs, o, al⟩ = FI (.int xs.length) := rfl
@[simp] theorem abs_i (i : Int) (o : Own) (al : List Nat) : bltR .abs ⟨.int i, o, al⟩ = FI (.int i.natAbs) := rfl
@[simp] theorem int_i (i : Int) (o : Own) (al : List Nat) : bltR .int ⟨.int i, o, al⟩ = FI (.int i) := rfl
@[simp] theorem int_b (b : Bool) (o : Own) (al : List Nat) : bltR .int ⟨.bool b, o, al⟩ = FI (.int (if b then 1 else 0)) := rfl
@[simp] theorem lst_l (xs : List PyData) (o : Own) (al : List Nat) : bltR .list ⟨.list xs, o, al⟩ = some (newL xs al) := rfl
@[simp] theorem ints_map (xs : List Int) : ints? (xs.map .int) = some xs := by
  induction xs with
  | nil => rfl
  | cons x xs ih => simp [ints?, ih]
@[simp] theorem sum_l (xs : List Int) (o : Own) (al : List Nat) : bltR .sum ⟨LI xs, o, al⟩ = FI (.int xs.sum) := by
  show (ints? (xs.map .int)).map _ = _
  rw [ints_map]
  rfl
@[simp] theorem tru_b (b : Bool) : truD (.bool b) = some b := rfl
/-! ### comparisons -/
theorem shp_int (i : Int) : shp (.int i) = true := rfl
end Sp
end

section
set_option Elab.async false
set_option linter.all false
set_option maxRecDepth 100000
set_option maxHeartbeats 1000000
/-! Statements, loops and comprehensions, in rows for simp. -/
namespace Sp
open Sw
open PySem (PyData Str)
def keepO (σ : S) : Option R → Option (R × S)
  | some r => some (r, σ)
  | none => none
@[simp] theorem keepO_s (σ : S) (r : R) : keepO σ (some r) = some (r, σ) := rfl
def bdO : Option R → Option (Option Int)
  | some ⟨.int i, _, _⟩ => some (some i)
  | _ => none
@[simp] theorem bdO_s (i : Int) (o : Own) (al : List Nat) : bdO (some ⟨.int i, o, al⟩) = some (some i) := rfl
theorem bdO_eq (r : Option R) : (r.bind fun y => (intD y.d).map some) = bdO r := by
  rcases r with _ | ⟨d, o, al⟩
  · rfl
  · cases d <;> rfl
def mvO (i : Nat) (σ : S) : Option Slot → Option (R × S)
  | some (some (.fz, d)) => some (mk d .fz [], σ)
  | some (some (.sh, d)) => some (mk d .sh [], σ.set i none)
  | some (some (.dp, d)) => some (mk d .dp [], σ.set i none)
  | some (some (_, d)) => some (mk d .fz [i], σ)
  | _ => none
@[simp] theorem mvO_fz (i : Nat) (σ : S) (d : PyData) : mvO i σ (some (some (.fz, d))) = some (mk d .fz [], σ) := rfl
@[simp] theorem mvO_sh (i : Nat) (σ : S) (d : PyData) : mvO i σ (some (some (.sh, d))) = some (mk d .sh [], σ.set i none) := rfl
@[simp] theorem mvO_dp (i : Nat) (σ : S) (d : PyData) : mvO i σ (some (some (.dp, d))) = some (mk d .dp [], σ.set i none) := rfl
@[simp] theorem mvO_ldp (i : Nat) (σ : S) (d : PyData) : mvO i σ (some (some (.ldp, d))) = some (mk d .fz [i], σ) := rfl
@[simp] theorem mvO_lsh (i : Nat) (σ : S) (d : PyData) : mvO i σ (some (some (.lsh, d))) = some (mk d .fz [i], σ) := rfl
def lstM : Option (List R × S) → Option (R × S)
  | some (rs, s) => if rs.length ≤ maxLen then some (listOf rs [], s) else none
  | none => none
def tupM : Option (List R × S) → Option (R × S)
  | some (rs, s) => if rs.length ≤ maxLen then some (tupOf rs, s) else none
  | none => none
def outO : Option S → Option Out
  | some s => some (.nx s)
  | none => none
@[simp] theorem outO_s (s : S) : outO (some s) = some (.nx s) := rfl
def asgO (Γ : Cal) (t : Tgt) : Option (R × S) → Option Out
  | some (r, s) => outO (store Γ (freezeL s r.al) t r)
  | none => none
@[simp] theorem asgO_s (Γ : Cal) (t : Tgt) (r : R) (s : S) : asgO Γ t (some (r, s)) = outO (store Γ (freezeL s r.al) t r) := rfl
def unpO (Γ : Cal) (ts : List Tgt) : Option (R × S) → Option Out
  | some (⟨.tuple ds, o, al⟩, s) => outO (stores Γ ts (partsOf ⟨.tuple ds, o, al⟩ ds) (freezeL s al))
  | _ => none
@[simp] theorem unpO_s (Γ : Cal) (ts : List Tgt) (ds : List PyData) (o : Own) (al : List Nat) (s : S) : unpO Γ ts (some (⟨.tuple ds, o, al⟩, s)) = outO (stores Γ ts (partsOf ⟨.tuple ds, o, al⟩ ds) (freezeL s al)) := rfl
def retO : Option (R × S) → Option Out
  | some (r, _) => some (.rt (if plain r.d then .fz else nOwn r.o) r.d)
  | none => none
@[simp] theorem retO_s (r : R) (s : S) : retO (some (r, s)) = some (.rt (if plain r.d then .fz else nOwn r.o) r.d) := rfl
def iteS (Γ : Cal) (a b : Stms) (σ : S) : Option R → Option Out
  | some ⟨.bool true, _, _⟩ => execs Γ a σ
  | some ⟨.bool false, _, _⟩ => execs Γ b σ
  | _ => none
@[simp] theorem iteS_t (Γ : Cal) (a b : Stms) (σ : S) (o : Own) (al : List Nat) : iteS Γ a b σ (some ⟨.bool true, o, al⟩) = execs Γ a σ := rfl
@[simp] theorem iteS_f (Γ : Cal) (a b : Stms) (σ : S) (o : Own) (al : List Nat) : iteS Γ a b σ (some ⟨.bool false, o, al⟩) = execs Γ b σ := rfl
def chO (i : Nat) (k : Bool) (f : PyData → Option PyData) (σ : S) (path : List PyData) : Option Slot → Option S
  | some (some (o, d)) => (ownAfter o (!path.isEmpty) k).bind fun o' => (modAt path f d).map fun d' => σ.set i (some (o', d'))
  | _ => none
def put1 (i : Nat) (o : Own) (σ : S) : Option PyData → Option S
  | some d => some (σ.set i (some (o, d)))
  | none => none
@[simp] theorem put1_s (i : Nat) (o : Own) (σ : S) (d : PyData) : put1 i o σ (some d) = some (σ.set i (some (o, d))) := rfl
@[simp] theorem chO_dt (i : Nat) (f : PyData → Option PyData) (σ : S) (d : PyData) : chO i true f σ [] (some (some (.dp, d))) = put1 i .dp σ (f d) := by
  show (modAt [] f d).map _ = _
  unfold modAt
  cases f d <;> rfl
@[simp] theorem chO_df (i : Nat) (f : PyData → Option PyData) (σ : S) (d : PyData) : chO i false f σ [] (some (some (.dp, d))) = put1 i .sh σ (f d) := by
  show (modAt [] f d).map _ = _
  unfold modAt
  cases f d <;> rfl
@[simp] theorem chO_s (i : Nat) (k : Bool) (f : PyData → Option PyData) (σ : S) (d : PyData) : chO i k f σ [] (some (some (.sh, d))) = put1 i .sh σ (f d) := by
  show (modAt [] f d).map _ = _
  unfold modAt
  cases f d <;> rfl
theorem ch_eq (σ : S) (i : Nat) (path : List PyData) (k : Bool) (f : PyData → Option PyData) : change σ i path k f = chO i k f σ path σ[i]? := by
  unfold change chO
  rcases σ[i]? with _ | _ | ⟨o, d⟩ <;> rfl
def appO (Γ : Cal) (i : Nat) (path : List PyData) : Option (R × S) → Option Out
  | some (r, s) => outO (chO i r.ok (appD r.d) (freezeL s r.al) path (freezeL s r.al)[i]?)
  | none => none
@[simp] theorem appO_s (Γ : Cal) (i : Nat) (path : List PyData) (r : R) (s : S) : appO Γ i path (some (r, s)) = outO (chO i r.ok (appD r.d) (freezeL s r.al) path (freezeL s r.al)[i]?) := rfl
def insO (Γ : Cal) (i : Nat) : Option R → Option (R × S) → Option Out
  | some ⟨.int n, _, _⟩, some (r, s) => outO (chO i r.ok (insD n r.d) (freezeL s r.al) [] (freezeL s r.al)[i]?)
  | _, _ => none
@[simp] theorem insO_s (Γ : Cal) (i : Nat) (n : Int) (o : Own) (al : List Nat) (r : R) (s : S) : insO Γ i (some ⟨.int n, o, al⟩) (some (r, s)) = outO (chO i r.ok (insD n r.d) (freezeL s r.al) [] (freezeL s r.al)[i]?) := rfl
def extO (Γ : Cal) (i : Nat) (path : List PyData) : Option (R × S) → Option Out
  | some (⟨.list ys, o, al⟩, s) => outO (chO i (plains ys || decide (o = .dp)) (extD ys) (freezeL s al) path (freezeL s al)[i]?)
  | _ => none
@[simp] theorem extO_s (Γ : Cal) (i : Nat) (path : List PyData) (ys : List PyData) (o : Own) (al : List Nat) (s : S) : extO Γ i path (some (⟨.list ys, o, al⟩, s)) = outO (chO i (plains ys || decide (o = .dp)) (extD ys) (freezeL s al) path (freezeL s al)[i]?) := rfl
def subO (Γ : Cal) (σ : S) (i : Nat) (r : R) : Option (List R) → Option R → Option S
  | some ps, some q => chO i r.ok (setD q.d r.d) σ (ps.map R.d).reverse σ[i]?
  | _, _ => none
@[simp] theorem subO_s (Γ : Cal) (σ : S) (i : Nat) (r : R) (ps : List R) (q : R) : subO Γ σ i r (some ps) (some q) = chO i r.ok (setD q.d r.d) σ (ps.map R.d).reverse σ[i]? := rfl
def storesO (Γ : Cal) (ts : List Tgt) (rs : List R) : Option S → Option S
  | some s => stores Γ ts rs s
  | none => none
@[simp] theorem storesO_s (Γ : Cal) (ts : List Tgt) (rs : List R) (s : S) : storesO Γ ts rs (some s) = stores Γ ts rs s := rfl
section
variable {Γ : Cal} {σ : S}
@[simp] theorem m_var (a0 : Nat) : evM Γ (.var a0) σ = keepO σ (ev Γ (.var a0) σ) := by
  simp only [evM]; cases ev Γ (.var a0) σ <;> rfl
@[simp] theorem bd_var (a0 : Nat) (r : Option R) : bndO (.var a0) r = bdO r := bdO_eq r
@[simp] theorem m_int (a0 : Int) : evM Γ (.int a0) σ = keepO σ (ev Γ (.int a0) σ) := by
  simp only [evM]; cases ev Γ (.int a0) σ <;> rfl
@[simp] theorem bd_int (a0 : Int) (r : Option R) : bndO (.int a0) r = bdO r := bdO_eq r
@[simp] theorem m_bl (a0 : Bool) : evM Γ (.bl a0) σ = keepO σ (ev Γ (.bl a0) σ) := by
  simp only [evM]; cases ev Γ (.bl a0) σ <;> rfl
@[simp] theorem bd_bl (a0 : Bool) (r : Option R) : bndO (.bl a0) r = bdO r := bdO_eq r
@[simp] theorem m_non  : evM Γ .non σ = keepO σ (ev Γ .non σ) := by
  simp only [evM]; cases ev Γ .non σ <;> rfl
@[simp] theorem m_str (a0 : Str) : evM Γ (.str a0) σ = keepO σ (ev Γ (.str a0) σ) := by
  simp only [evM]; cases ev Γ (.str a0) σ <;> rfl
@[simp] theorem bd_str (a0 : Str) (r : Option R) : bndO (.str a0) r = bdO r := bdO_eq r
@[simp] theorem m_bin (a0 : Bin) (a1 : Ex) (a2 : Ex) : evM Γ (.bin a0 a1 a2) σ = keepO σ (ev Γ (.bin a0 a1 a2) σ) := by
  simp only [evM]; cases ev Γ (.bin a0 a1 a2) σ <;> rfl
@[simp] theorem bd_bin (a0 : Bin) (a1 : Ex) (a2 : Ex) (r : Option R) : bndO (.bin a0 a1 a2) r = bdO r := bdO_eq r
@[simp] theorem m_neg (a0 : Ex) : evM Γ (.neg a0) σ = keepO σ (ev Γ (.neg a0) σ) := by
  simp only [evM]; cases ev Γ (.neg a0) σ <;> rfl
@[simp] theorem bd_neg (a0 : Ex) (r : Option R) : bndO (.neg a0) r = bdO r := bdO_eq r
@[simp] theorem m_cmp (a0 : Cm) (a1 : Ex) (a2 : Ex) : evM Γ (.cmp a0 a1 a2) σ = keepO σ (ev Γ (.cmp a0 a1 a2) σ) := by
  simp only [evM]; cases ev Γ (.cmp a0 a1 a2) σ <;> rfl
@[simp] theorem bd_cmp (a0 : Cm) (a1 : Ex) (a2 : Ex) (r : Option R) : bndO (.cmp a0 a1 a2) r = bdO r := bdO_eq r
@[simp] theorem m_chain (a0 : Cm) (a1 : Cm) (a2 : Ex) (a3 : Ex) (a4 : Ex) : evM Γ (.chain a0 a1 a2 a3 a4) σ = keepO σ (ev Γ (.chain a0 a1 a2 a3 a4) σ) := by
  simp only [evM]; cases ev Γ (.chain a0 a1 a2 a3 a4) σ <;> rfl
@[simp] theorem bd_chain (a0 : Cm) (a1 : Cm) (a2 : Ex) (a3 : Ex) (a4 : Ex) (r : Option R) : bndO (.chain a0 a1 a2 a3 a4) r = bdO r := bdO_eq r
@[simp] theorem m_isN (a0 : Ex) : evM Γ (.isN a0) σ = keepO σ (ev Γ (.isN a0) σ) := by
  simp only [evM]; cases ev Γ (.isN a0) σ <;> rfl
@[simp] theorem bd_isN (a0 : Ex) (r : Option R) : bndO (.isN a0) r = bdO r := bdO_eq r
@[simp] theorem m_notN (a0 : Ex) : evM Γ (.notN a0) σ = keepO σ (ev Γ (.notN a0) σ) := by
  simp only [evM]; cases ev Γ (.notN a0) σ <;> rfl
@[simp] theorem bd_notN (a0 : Ex) (r : Option R) : bndO (.notN a0) r = bdO r := bdO_eq r
@[simp] theorem m_isB (a0 : Ex) (a1 : Bool) : evM Γ (.isB a0 a1) σ = keepO σ (ev Γ (.isB a0 a1) σ) := by
  simp only [evM]; cases ev Γ (.isB a0 a1) σ <;> rfl
@[simp] theorem bd_isB (a0 : Ex) (a1 : Bool) (r : Option R) : bndO (.isB a0 a1) r = bdO r := bdO_eq r
@[simp] theorem m_notB (a0 : Ex) (a1 : Bool) : evM Γ (.notB a0 a1) σ = keepO σ (ev Γ (.notB a0 a1) σ) := by
  simp only [evM]; cases ev Γ (.notB a0 a1) σ <;> rfl
@[simp] theorem bd_notB (a0 : Ex) (a1 : Bool) (r : Option R) : bndO (.notB a0 a1) r = bdO r := bdO_eq r
@[simp] theorem m_not (a0 : Ex) : evM Γ (.not a0) σ = keepO σ (ev Γ (.not a0) σ) := by
  simp only [evM]; cases ev Γ (.not a0) σ <;> rfl
@[simp] theorem bd_not (a0 : Ex) (r : Option R) : bndO (.not a0) r = bdO r := bdO_eq r
@[simp] theorem m_and (a0 : Ex) (a1 : Ex) : evM Γ (.and a0 a1) σ = keepO σ (ev Γ (.and a0 a1) σ) := by
  simp only [evM]; cases ev Γ (.and a0 a1) σ <;> rfl
@[simp] theorem bd_and (a0 : Ex) (a1 : Ex) (r : Option R) : bndO (.and a0 a1) r = bdO r := bdO_eq r
@[simp] theorem m_or (a0 : Ex) (a1 : Ex) : evM Γ (.or a0 a1) σ = keepO σ (ev Γ (.or a0 a1) σ) := by
  simp only [evM]; cases ev Γ (.or a0 a1) σ <;> rfl
@[simp] theorem bd_or (a0 : Ex) (a1 : Ex) (r : Option R) : bndO (.or a0 a1) r = bdO r := bdO_eq r
@[simp] theorem m_tru (a0 : Ex) : evM Γ (.tru a0) σ = keepO σ (ev Γ (.tru a0) σ) := by
  simp only [evM]; cases ev Γ (.tru a0) σ <;> rfl
@[simp] theorem bd_tru (a0 : Ex) (r : Option R) : bndO (.tru a0) r = bdO r := bdO_eq r
@[simp] theorem m_ite (a0 : Ex) (a1 : Ex) (a2 : Ex) : evM Γ (.ite a0 a1 a2) σ = keepO σ (ev Γ (.ite a0 a1 a2) σ) := by
  simp only [evM]; cases ev Γ (.ite a0 a1 a2) σ <;> rfl
@[simp] theorem bd_ite (a0 : Ex) (a1 : Ex) (a2 : Ex) (r : Option R) : bndO (.ite a0 a1 a2) r = bdO r := bdO_eq r
@[simp] theorem m_idx (a0 : Ex) (a1 : Ex) : evM Γ (.idx a0 a1) σ = keepO σ (ev Γ (.idx a0 a1) σ) := by
  simp only [evM]; cases ev Γ (.idx a0 a1) σ <;> rfl
@[simp] theorem bd_idx (a0 : Ex) (a1 : Ex) (r : Option R) : bndO (.idx a0 a1) r = bdO r := bdO_eq r
@[simp] theorem m_slc (a0 : Ex) (a1 : Ex) (a2 : Ex) : evM Γ (.slc a0 a1 a2) σ = keepO σ (ev Γ (.slc a0 a1 a2) σ) := by
  simp only [evM]; cases ev Γ (.slc a0 a1 a2) σ <;> rfl
@[simp] theorem bd_slc (a0 : Ex) (a1 : Ex) (a2 : Ex) (r : Option R) : bndO (.slc a0 a1 a2) r = bdO r := bdO_eq r
@[simp] theorem m_rev (a0 : Ex) : evM Γ (.rev a0) σ = keepO σ (ev Γ (.rev a0) σ) := by
  simp only [evM]; cases ev Γ (.rev a0) σ <;> rfl
@[simp] theorem bd_rev (a0 : Ex) (r : Option R) : bndO (.rev a0) r = bdO r := bdO_eq r
@[simp] theorem m_stp (a0 : Ex) (a1 : Ex) (a2 : Ex) : evM Γ (.stp a0 a1 a2) σ = keepO σ (ev Γ (.stp a0 a1 a2) σ) := by
  simp only [evM]; cases ev Γ (.stp a0 a1 a2) σ <;> rfl
@[simp] theorem bd_stp (a0 : Ex) (a1 : Ex) (a2 : Ex) (r : Option R) : bndO (.stp a0 a1 a2) r = bdO r := bdO_eq r
@[simp] theorem m_call (a0 : Nat) (a1 : Exs) : evM Γ (.call a0 a1) σ = keepO σ (ev Γ (.call a0 a1) σ) := by
  simp only [evM]; cases ev Γ (.call a0 a1) σ <;> rfl
@[simp] theorem bd_call (a0 : Nat) (a1 : Exs) (r : Option R) : bndO (.call a0 a1) r = bdO r := bdO_eq r
@[simp] theorem m_blt (a0 : Blt) (a1 : Ex) : evM Γ (.blt a0 a1) σ = keepO σ (ev Γ (.blt a0 a1) σ) := by
  simp only [evM]; cases ev Γ (.blt a0 a1) σ <;> rfl
@[simp] theorem bd_blt (a0 : Blt) (a1 : Ex) (r : Option R) : bndO (.blt a0 a1) r = bdO r := bdO_eq r
@[simp] theorem m_min2 (a0 : Ex) (a1 : Ex) : evM Γ (.min2 a0 a1) σ = keepO σ (ev Γ (.min2 a0 a1) σ) := by
  simp only [evM]; cases ev Γ (.min2 a0 a1) σ <;> rfl
@[simp] theorem bd_min2 (a0 : Ex) (a1 : Ex) (r : Option R) : bndO (.min2 a0 a1) r = bdO r := bdO_eq r
@[simp] theorem m_max2 (a0 : Ex) (a1 : Ex) : evM Γ (.max2 a0 a1) σ = keepO σ (ev Γ (.max2 a0 a1) σ) := by
  simp only [evM]; cases ev Γ (.max2 a0 a1) σ <;> rfl
@[simp] theorem bd_max2 (a0 : Ex) (a1 : Ex) (r : Option R) : bndO (.max2 a0 a1) r = bdO r := bdO_eq r
@[simp] theorem m_isi (a0 : Ex) (a1 : Ty) : evM Γ (.isi a0 a1) σ = keepO σ (ev Γ (.isi a0 a1) σ) := by
  simp only [evM]; cases ev Γ (.isi a0 a1) σ <;> rfl
@[simp] theorem bd_isi (a0 : Ex) (a1 : Ty) (r : Option R) : bndO (.isi a0 a1) r = bdO r := bdO_eq r
@[simp] theorem m_rng (a0 : Ex) (a1 : Ex) (a2 : Ex) : evM Γ (.rng a0 a1 a2) σ = keepO σ (ev Γ (.rng a0 a1 a2) σ) := by
  simp only [evM]; cases ev Γ (.rng a0 a1 a2) σ <;> rfl
@[simp] theorem bd_rng (a0 : Ex) (a1 : Ex) (a2 : Ex) (r : Option R) : bndO (.rng a0 a1 a2) r = bdO r := bdO_eq r
@[simp] theorem m_index (a0 : Ex) (a1 : Ex) : evM Γ (.index a0 a1) σ = keepO σ (ev Γ (.index a0 a1) σ) := by
  simp only [evM]; cases ev Γ (.index a0 a1) σ <;> rfl
@[simp] theorem bd_index (a0 : Ex) (a1 : Ex) (r : Option R) : bndO (.index a0 a1) r = bdO r := bdO_eq r
@[simp] theorem m_count (a0 : Ex) (a1 : Ex) : evM Γ (.count a0 a1) σ = keepO σ (ev Γ (.count a0 a1) σ) := by
  simp only [evM]; cases ev Γ (.count a0 a1) σ <;> rfl
@[simp] theorem bd_count (a0 : Ex) (a1 : Ex) (r : Option R) : bndO (.count a0 a1) r = bdO r := bdO_eq r
@[simp] theorem m_comp (a0 : Tg) (a1 : Ex) (a2 : Ex) (a3 : Ex) : evM Γ (.comp a0 a1 a2 a3) σ = keepO σ (ev Γ (.comp a0 a1 a2 a3) σ) := by
  simp only [evM]; cases ev Γ (.comp a0 a1 a2 a3) σ <;> rfl
@[simp] theorem bd_comp (a0 : Tg) (a1 : Ex) (a2 : Ex) (a3 : Ex) (r : Option R) : bndO (.comp a0 a1 a2 a3) r = bdO r := bdO_eq r
@[simp] theorem bd_non (r : Option R) : bndO .non r = some none := rfl
@[simp] theorem m_mv (i : Nat) : evM Γ (.mv i) σ = mvO i σ σ[i]? := by
  simp only [evM]
  rcases σ[i]? with _ | _ | ⟨o, d⟩
  · rfl
  · rfl
  · cases o <;> rfl
@[simp] theorem m_lst (es : Exs) : evM Γ (.lst es) σ = lstM (evMs Γ es σ) := by
  simp only [evM]; cases evMs Γ es σ <;> rfl
@[simp] theorem m_tup (es : Exs) : evM Γ (.tup es) σ = tupM (evMs Γ es σ) := by
  simp only [evM]; cases evMs Γ es σ <;> rfl
def consM (Γ : Cal) (es : Exs) : Option (R × S) → Option (List R × S)
  | some (r, s) => (evMs Γ es s).map fun q => (r :: q.1, q.2)
  | none => none
def consM2 (r : R) : Option (List R × S) → Option (List R × S)
  | some (rs, s) => some (r :: rs, s)
  | none => none
@[simp] theorem consM2_s (r : R) (rs : List R) (s : S) : consM2 r (some (rs, s)) = some (r :: rs, s) := rfl
@[simp] theorem consM_s (es : Exs) (r : R) (s : S) : consM Γ es (some (r, s)) = consM2 r (evMs Γ es s) := by
  show (evMs Γ es s).map _ = _
  rcases evMs Γ es s with _ | ⟨rs, s'⟩ <;> rfl
@[simp] theorem ms_nil : evMs Γ .nil σ = some ([], σ) := by simp only [evMs]
@[simp] theorem ms_cons (e : Ex) (es : Exs) : evMs Γ (.cons e es) σ = consM Γ es (evM Γ e σ) := by
  simp only [evMs]; rcases evM Γ e σ with _ | ⟨r, s⟩ <;> rfl
@[simp] theorem x_asg (t : Tgt) (e : Ex) : exec Γ (.asg t e) σ = asgO Γ t (evM Γ e σ) := by
  simp only [exec]; rcases evM Γ e σ with _ | ⟨r, s⟩
  · rfl
  · show (store Γ (freezeL s r.al) t r).map _ = _
    simp only [asgO]
    cases store Γ (freezeL s r.al) t r <;> rfl
@[simp] theorem x_unp (ts : List Tgt) (e : Ex) : exec Γ (.unp ts e) σ = unpO Γ ts (evM Γ e σ) := by
  simp only [exec]; rcases evM Γ e σ with _ | ⟨⟨d, o, al⟩, s⟩
  · rfl
  · cases d <;> first | rfl | skip
    rename_i ds
    show (stores Γ ts _ _).map _ = outO _
    cases stores Γ ts (partsOf ⟨.tuple ds, o, al⟩ ds) (freezeL s al) <;> rfl
@[simp] theorem x_ret (e : Ex) : exec Γ (.ret e) σ = retO (evM Γ e σ) := by
  simp only [exec]; rcases evM Γ e σ with _ | ⟨r, s⟩ <;> rfl
@[simp] theorem x_retN : exec Γ .retN σ = some (.rt .fz .none) := by simp only [exec]
@[simp] theorem x_pass : exec Γ .pass σ = some (.nx σ) := by simp only [exec]
@[simp] theorem x_brk : exec Γ .brk σ = some (.bk σ) := by simp only [exec]
@[simp] theorem x_cont : exec Γ .cont σ = some (.ct σ) := by simp only [exec]
@[simp] theorem x_ite (c : Ex) (a b : Stms) : exec Γ (.ite c a b) σ = iteS Γ a b σ (ev Γ c σ) := by
  simp only [exec]; rcases ev Γ c σ with _ | ⟨d, o, al⟩
  · rfl
  · cases d <;> first | rfl | (rename_i k; cases k <;> rfl)
def optL : Option (List R) → Option (List PyData)
  | some ps => some (ps.map R.d).reverse
  | none => none
@[simp] theorem x_app0 (i : Nat) (e : Ex) : exec Γ (.app i .nil e) σ = appO Γ i [] (evM Γ e σ) := by
  simp only [exec, evs, Option.bind_some]; rcases evM Γ e σ with _ | ⟨r, s⟩
  · rfl
  · show (change _ i _ _ _).map _ = outO _
    rw [ch_eq]
    simp only [List.map_nil, List.reverse_nil]
    cases chO i r.ok (appD r.d) (freezeL s r.al) [] (freezeL s r.al)[i]? <;> rfl
@[simp] theorem x_ins (i : Nat) (k e : Ex) : exec Γ (.ins i k e) σ = insO Γ i (ev Γ k σ) (evM Γ e σ) := by
  simp only [exec]; rcases ev Γ k σ with _ | ⟨d, o, al⟩
  · rfl
  · rcases evM Γ e σ with _ | ⟨r, s⟩
    · cases d <;> rfl
    · cases d <;> first | rfl | skip
      rename_i n
      show (change _ i _ _ _).map _ = outO _
      rw [ch_eq]
      cases chO i r.ok (insD n r.d) (freezeL s r.al) [] (freezeL s r.al)[i]? <;> rfl
@[simp] theorem x_ext0 (i : Nat) (e : Ex) : exec Γ (.ext i .nil e) σ = extO Γ i [] (evM Γ e σ) := by
  simp only [exec, evs, Option.bind_some]; rcases evM Γ e σ with _ | ⟨⟨d, o, al⟩, s⟩
  · rfl
  · cases d <;> first | rfl | skip
    rename_i ys
    show (change _ i _ _ _).map _ = outO _
    rw [ch_eq]
    simp only [List.map_nil, List.reverse_nil]
    cases chO i (plains ys || decide (o = .dp)) (extD ys) (freezeL s al) [] (freezeL s al)[i]? <;> rfl
@[simp] theorem st_nm (i : Nat) (r : R) : store Γ σ (.nm i) r = some (σ.set i (slotOf r)) := by simp only [store]
@[simp] theorem st_sub (i : Nat) (path : Exs) (k : Ex) (r : R) : store Γ σ (.sub i path k) r = subO Γ σ i r (evs Γ path σ) (ev Γ k σ) := by
  simp only [store]; cases evs Γ path σ with
  | none => rfl
  | some ps => cases ev Γ k σ with
    | none => rfl
    | some q => show change _ _ _ _ _ = _; rw [ch_eq]; rfl
@[simp] theorem sts_nil : stores Γ [] [] σ = some σ := rfl
@[simp] theorem sts_cons (t : Tgt) (ts : List Tgt) (r : R) (rs : List R) : stores Γ (t :: ts) (r :: rs) σ = storesO Γ ts rs (store Γ σ t r) := by
  show (store Γ σ t r).bind _ = _
  cases store Γ σ t r <;> rfl
@[simp] theorem parts_cons (r : R) (d : PyData) (ds : List PyData) : partsOf r (d :: ds) = mk d (if r.o = .dp then .dp else .fz) [] :: partsOf r ds := rfl
@[simp] theorem parts_nil (r : R) : partsOf r [] = [] := rfl
@[simp] theorem fr_nil : freezeL σ [] = σ := rfl
@[simp] theorem sl_int (i : Int) (o : Own) (al : List Nat) : slotOf ⟨.int i, o, al⟩ = some (.fz, .int i) := rfl
@[simp] theorem sl_bool (i : Bool) (o : Own) (al : List Nat) : slotOf ⟨.bool i, o, al⟩ = some (.fz, .bool i) := rfl
@[simp] theorem sl_str (i : Str) (o : Own) (al : List Nat) : slotOf ⟨.str i, o, al⟩ = some (.fz, .str i) := rfl
@[simp] theorem sl_none (o : Own) (al : List Nat) : slotOf ⟨.none, o, al⟩ = some (.fz, .none) := rfl
@[simp] theorem sl_list (xs : List PyData) (o : Own) (al : List Nat) : slotOf ⟨.list xs, o, al⟩ = some (nOwn o, .list xs) := rfl
@[simp] theorem sl_tup (xs : List PyData) (o : Own) (al : List Nat) : slotOf ⟨.tuple xs, o, al⟩ = some (if plains xs then .fz else nOwn o, .tuple xs) := rfl
@[simp] theorem nown_dp : nOwn .dp = .dp := rfl
@[simp] theorem nown_sh : nOwn .sh = .sh := rfl
@[simp] theorem nown_fz : nOwn .fz = .fz := rfl
@[simp] theorem ok_dp (d : PyData) (al : List Nat) : R.ok ⟨d, .dp, al⟩ = true := by unfold R.ok; simp
@[simp] theorem ok_fz (d : PyData) (al : List Nat) : R.ok ⟨d, .fz, al⟩ = plain d := by unfold R.ok; simp
@[simp] theorem ok_sh (d : PyData) (al : List Nat) : R.ok ⟨d, .sh, al⟩ = plain d := by unfold R.ok; simp
@[simp] theorem lstM_s (rs : List R) (s : S) (h : rs.length ≤ 16777216) : lstM (some (rs, s)) = some (listOf rs [], s) := if_pos h
@[simp] theorem tupM_s (rs : List R) (s : S) (h : rs.length ≤ 16777216) : tupM (some (rs, s)) = some (tupOf rs, s) := if_pos h
@[simp] theorem lstO_s (rs : List R) (h : rs.length ≤ 16777216) : lstO (some rs) = some (listOf rs []) := if_pos h
@[simp] theorem tupO_s (rs : List R) (h : rs.length ≤ 16777216) : tupO (some rs) = some (tupOf rs) := if_pos h
@[simp] theorem listOf_nil (al : List Nat) : listOf [] al = ⟨LI [], .dp, []⟩ := rfl
theorem listOf_ok {rs : List R} {al : List Nat} (h : rs.all R.ok = true) : listOf rs al = ⟨.list (rs.map R.d), .dp, []⟩ := by unfold listOf; rw [if_pos h]
theorem tupOf_pl {rs : List R} (h : plains (rs.map R.d) = true) : tupOf rs = ⟨.tuple (rs.map R.d), .fz, []⟩ := by
  unfold tupOf mk
  rw [if_pos (by rw [plain_tuple]; exact h)]
  rfl
end
@[simp] theorem get0 {α : Type} (x : α) (xs : List α) : (x :: xs)[0]? = some x := rfl
@[simp] theorem set0 {α : Type} (x y : α) (xs : List α) : (x :: xs).set 0 y = y :: xs := rfl
/-! ### lists of ints -/
theorem app_l (y : PyData) (xs : List PyData) (h : xs.length < 16777216) : appD y (.list xs) = some (.list (xs ++ [y])) := if_pos h
@[simp] theorem app_LI (y : Int) (xs : List Int) (h : xs.length < 16777216) : appD (.int y) (LI xs) = some (LI (xs ++ [y])) := by
  rw [app_l _ _ (by simpa using h)]
  simp
@[simp] theorem ins_LI (k y : Int) (xs : List Int) (h : xs.length < 16777216) (h1 : 0 ≤ k) (h2 : k < 4611686018427387904) : insD k (.int y) (LI xs) = some (LI (xs.take k.toNat ++ y :: xs.drop k.toNat)) := by
  show (if _ then _ else _) = _
  rw [if_pos ⟨by simpa [maxLen] using h, h1, h2⟩]
  simp
@[simp] theorem set_LI (k y : Int) (xs : List Int) (h1 : 0 ≤ k) (h2 : k < xs.length) : setD (.int k) (.int y) (LI xs) = some (LI (xs.set k.toNat y)) := by
  show (ix (xs.map PyData.int).length k).map _ = _
  rw [List.length_map, ix_in h1 h2]
  simp [List.map_set]
@[simp] theorem ext_LI (ys xs : List Int) (h : xs.length + ys.length ≤ 16777216) : extD (ys.map .int) (LI xs) = some (LI (xs ++ ys)) := by
  show (if _ then _ else _) = _
  rw [if_pos (by simpa [maxLen] using h)]
  simp
/-! ### slices of lists of ints -/
def cutI (xs : List Int) (l h : Option Int) : List Int := (xs.drop (clip xs.length 0 l)).take (clip xs.length xs.length h - clip xs.length 0 l)
@[simp] theorem slc_LI (xs : List Int) (o : Own) (al : List Nat) (l h : Option Int) : slcR ⟨LI xs, o, al⟩ l h = some ⟨LI (cutI xs l h), .dp, []⟩ := by
  show some (newL (cut (xs.map .int) l h) al) = _
  have e : cut (xs.map PyData.int) l h = (cutI xs l h).map .int := by
    unfold cut cutI
    simp
  rw [e, newL_int]
/-! ### loops -/
theorem seq_nx {Γ : Cal} {s : Stm} {r : Stms} {σ σ' : S} {out : Option Out} (h : exec Γ s σ = some (.nx σ')) (k : execs Γ r σ' = out) : execs Γ (.cons s r) σ = out := by
  rw [xs_cons, h, sq_nx, k]
def stepF (Γ : Cal) (tg : Tg) (body : Stms) (x : PyData) (s : S) : Option Out := (setTg tg x s).bind (execs Γ body)
theorem for_plain {Γ : Cal} {σ : S} {tg : Tg} {it : Ex} {body : Stms} {d : PyData} {xs : List PyData} {o : Own} (h : ev Γ it σ = some ⟨d, o, []⟩) (hi : items d = some xs) : exec Γ (.for_ tg it body) σ = forL (stepF Γ tg body) xs σ := by
  simp only [exec, h, Option.bind_some, hi]
  split
  · simp only [List.filter_nil, List.foldl_nil]
    show (forL (stepF Γ tg body) xs σ).map _ = _
    cases forL (stepF Γ tg body) xs σ with
    | none => rfl
    | some o => cases o <;> rfl
  · rfl
theorem forL_inv {step : PyData → S → Option Out} {xs : List PyData} (P : Nat → S → Prop) (hs : ∀ (i : Nat) (h : i < xs.length) (s : S), P i s → ∃ s', (step xs[i] s = some (.nx s') ∨ step xs[i] s = some (.ct s')) ∧ P (i + 1) s') :
    ∀ (σ : S), P 0 σ → ∃ s', forL step xs σ = some (.nx s') ∧ P xs.length s' := by
  have go : ∀ (k i : Nat) (σ : S), i + k = xs.length → P i σ → ∃ s', forL step (xs.drop i) σ = some (.nx s') ∧ P xs.length s' := by
    intro k
    induction k with
    | zero =>
      intro i σ hi p
      have : xs.drop i = [] := List.drop_eq_nil_of_le (by omega)
      rw [this]
      have e : i = xs.length := by omega
      exact ⟨σ, rfl, e ▸ p⟩
    | succ k ih =>
      intro i σ hi p
      have hl : i < xs.length := by omega
      obtain ⟨s', h, p'⟩ := hs i hl σ p
      obtain ⟨s2, h2, p2⟩ := ih (i + 1) s' (by omega) p'
      rw [List.drop_eq_getElem_cons hl]
      refine ⟨s2, ?_, p2⟩
      rw [forL]
      rcases h with h | h <;> rw [h] <;> exact h2
  intro σ p
  exact go xs.length 0 σ (by omega) p
/-- a loop over ints, by a word of the state -/
theorem forI_inv {Γ : Cal} {j : Nat} {body : Stms} {ys : List Int} (P : Nat → S → Prop) (hs : ∀ (i : Nat) (h : i < ys.length) (s : S), P i s → ∃ s', (execs Γ body (s.set j (some (.fz, .int ys[i]))) = some (.nx s') ∨ execs Γ body (s.set j (some (.fz, .int ys[i]))) = some (.ct s')) ∧ P (i + 1) s') (σ : S) (h0 : P 0 σ) :
    ∃ s', forL (stepF Γ (.nm j) body) (ys.map .int) σ = some (.nx s') ∧ P ys.length s' := by
  obtain ⟨s', h, p⟩ := forL_inv (step := stepF Γ (.nm j) body) (xs := ys.map .int) P (fun i hi s p => by
    have hi' : i < ys.length := by simpa using hi
    obtain ⟨s', h, p'⟩ := hs i hi' s p
    refine ⟨s', ?_, p'⟩
    rw [List.getElem_map]
    exact h) σ h0
  exact ⟨s', h, by simpa using p⟩
/-- .. told as the statement -/
theorem forI_run {Γ : Cal} {j : Nat} {body : Stms} {it : Ex} {o : Own} {ys : List Int} {σ : S} (hit : ev Γ it σ = some ⟨LI ys, o, []⟩) (P : Nat → S → Prop) (hs : ∀ (i : Nat) (h : i < ys.length) (s : S), P i s → ∃ s', (execs Γ body (s.set j (some (.fz, .int ys[i]))) = some (.nx s') ∨ execs Γ body (s.set j (some (.fz, .int ys[i]))) = some (.ct s')) ∧ P (i + 1) s') (h0 : P 0 σ) :
    ∃ s', exec Γ (.for_ (.nm j) it body) σ = some (.nx s') ∧ P ys.length s' := by
  obtain ⟨s', h, p⟩ := forI_inv P hs σ h0
  exact ⟨s', by rw [for_plain hit rfl, h], p⟩
theorem compL_map {α : Type} {st : PyData → Option S} {c e : S → Option R} (enc : α → PyData) (t : α → S) (p : α → Bool) (r : α → R) : ∀ (ys : List α), (∀ y ∈ ys, st (enc y) = some (t y)) → (∀ y ∈ ys, c (t y) = FI (.bool (p y))) → (∀ y ∈ ys, p y = true → e (t y) = some (r y)) →
    compL st c e (ys.map enc) = some ((ys.filter p).map r)
  | [], _, _, _ => rfl
  | y :: ys, h1, h2, h3 => by
    rw [List.map_cons, compL, h1 y (by simp)]
    simp only [Option.bind_some]
    rw [h2 y (by simp)]
    simp only [Option.bind_some]
    have ih := compL_map enc t p r ys (fun z hz => h1 z (by simp [hz])) (fun z hz => h2 z (by simp [hz])) (fun z hz => h3 z (by simp [hz]))
    cases q : p y with
    | true =>
      rw [List.filter_cons_of_pos q]
      show (e (t y)).bind _ = _
      rw [h3 y (by simp) q]
      simp only [Option.bind_some]
      rw [ih]
      rfl
    | false =>
      rw [List.filter_cons_of_neg (by rw [q]; simp)]
      exact ih
theorem comp_gen {α : Type} {Γ : Cal} {σ : S} {tg : Tg} {it c e : Ex} {d : PyData} {o : Own} {al : List Nat} (enc : α → PyData) (ys : List α) (t : α → S) (p : α → Bool) (r : α → R) (hit : ev Γ it σ = some ⟨d, o, al⟩) (hi : items d = some (ys.map enc)) (hl : ys.length ≤ maxLen)
    (hs : ∀ y ∈ ys, setTg tg (enc y) (freezeL σ al) = some (t y)) (hc : ∀ y ∈ ys, ev Γ c (t y) = FI (.bool (p y))) (he : ∀ y ∈ ys, p y = true → ev Γ e (t y) = some (r y)) : ev Γ (.comp tg it c e) σ = some (listOf ((ys.filter p).map r) al) := by
  simp only [ev, hit, Option.bind_some, hi]
  rw [if_pos (by simpa using hl), compL_map enc t p r ys hs hc he]
  rfl
/-- items that are plain data -/
theorem comp_pl {α : Type} {Γ : Cal} {σ : S} {tg : Tg} {it c e : Ex} {d : PyData} {o : Own} {al : List Nat} (enc : α → PyData) (ys : List α) (t : α → S) (p : α → Bool) (g : α → PyData) (hit : ev Γ it σ = some ⟨d, o, al⟩) (hi : items d = some (ys.map enc)) (hl : ys.length ≤ maxLen)
    (hs : ∀ y ∈ ys, setTg tg (enc y) (freezeL σ al) = some (t y)) (hc : ∀ y ∈ ys, ev Γ c (t y) = FI (.bool (p y))) (he : ∀ y ∈ ys, p y = true → ev Γ e (t y) = FI (g y)) (hp : ∀ y ∈ ys, p y = true → plain (g y) = true) : ev Γ (.comp tg it c e) σ = some ⟨.list ((ys.filter p).map g), .dp, []⟩ := by
  rw [comp_gen enc ys t p (fun y => ⟨g y, .fz, []⟩) hit hi hl hs hc he, listOf_ok, List.map_map]
  · rfl
  · rw [List.all_eq_true]
    intro x hx
    obtain ⟨y, hy, rfl⟩ := List.mem_map.mp hx
    rw [List.mem_filter] at hy
    show (plain (g y) || decide (Own.fz = Own.dp)) = true
    rw [hp y hy.1 hy.2]
    rfl
/-! ### ranges -/
def upto (n : Int) : List Int := (List.range n.toNat).map fun (i : Nat) => (i : Int)
theorem range3_one : ∀ (n : Nat) (l : Int), range3 l 1 n = (List.range n).map fun (i : Nat) => PyData.int (l + i)
  | 0, _ => rfl
  | n + 1, l => by
    rw [range3, range3_one n, List.range_succ_eq_map, List.map_cons, List.map_map]
    congr 1
    · simp
    · apply List.map_congr_left
      intro i _
      simp only [Function.comp]
      congr 1
      omega
theorem rng_1 {l h : Int} (h1 : -4611686018427387904 ≤ l) (h2 : l < 4611686018427387904) (h3 : -4611686018427387904 ≤ h) (h4 : h < 4611686018427387904) (h5 : h - l ≤ 16777216) : rngD (.int l) (.int h) (.int 1) = some ((List.range (h - l).toNat).map fun (i : Nat) => PyData.int (l + i)) := by
  have e : rngD (.int l) (.int h) (.int 1) = if rngOk l h 1 then some (range3 l 1 (rangeN l h 1)) else none := rfl
  have en : rangeN l h 1 = (h - l).toNat := rfl
  rw [e, en, if_pos, range3_one]
  unfold rngOk
  rw [en]
  have b : big = 4611686018427387904 := rfl
  have m : maxLen = 16777216 := rfl
  rw [b, m]
  simp
  omega
@[simp] theorem rng_01 {h : Int} (h3 : -4611686018427387904 ≤ h) (h5 : h ≤ 16777216) : rngD (.int 0) (.int h) (.int 1) = some ((upto h).map .int) := by
  rw [rng_1 (by omega) (by omega) h3 (by omega) (by omega)]
  unfold upto
  simp
@[simp] theorem upto_len (n : Int) : (upto n).length = n.toNat := by simp [upto]
theorem mem_upto {n i : Int} : i ∈ upto n ↔ 0 ≤ i ∧ i < n := by
  unfold upto
  rw [List.mem_map]
  constructor
  · rintro ⟨k, hk, rfl⟩
    rw [List.mem_range] at hk
    omega
  · rintro ⟨h1, h2⟩
    exact ⟨i.toNat, by rw [List.mem_range]; omega, by omega⟩
def lisO : Option (List PyData) → Option R
  | some xs => some ⟨.list xs, .dp, []⟩
  | none => none
@[simp] theorem lisO_s (xs : List PyData) : lisO (some xs) = some ⟨.list xs, .dp, []⟩ := rfl
@[simp] theorem rngO_s (x y z : R) : rngO (some x) (some y) (some z) = lisO (rngD x.d y.d z.d) := by
  show (match rngD x.d y.d z.d with | some xs => _ | none => _) = _
  cases rngD x.d y.d z.d <;> rfl
end Sp
end

section
set_option Elab.async false
set_option linter.all false
set_option maxRecDepth 100000
set_option maxHeartbeats 4000000
/-! The laws' own helpers: draws. -/
namespace Sp
open Sw
open PySem (PyData Str)
def w_draws1 : Stms := (.cons (.ite (.cmp .gt (.var 5) (.int 0)) (.cons (.app 2 .nil (.bin .mod (.var 5) (.int 1000003)))
      (.cons (.asg (.nm 5) (.bin .div (.var 5) (.int 1000003)))
      .nil)) .nil)
      .nil)
def w_draws2 : Stms := (.cons (.asg (.nm 6) (.bin .mod (.bin .add (.bin .add (.bin .add (.bin .mul (.var 6) (.int 69621)) (.bin .div (.var 6) (.int 65536))) (.bin .mul (.int 13) (.var 4))) (.int 5)) (.int 2147483629)))
      (.cons (.app 2 .nil (.bin .mod (.bin .div (.var 6) (.int 8)) (.int 1000003)))
      .nil))
def w_draws3 : Stms := (.cons (.asg (.nm 5) (.blt .abs (.blt .int (.var 3))))
      (.cons (.ite (.cmp .ge (.var 5) (.bin .pow (.int 10) (.int 18))) (.cons (.for_ (.nm 4) (.rng (.int 0) (.int 60) (.int 1)) w_draws1)
      .nil) (.cons (.asg (.nm 6) (.bin .mod (.bin .add (.bin .add (.bin .mul (.var 5) (.int 48271)) (.bin .mul (.int 7) (.blt .len (.var 2)))) (.int 11)) (.int 2147483647)))
      (.cons (.for_ (.nm 4) (.rng (.int 0) (.int 4) (.int 1)) w_draws2)
      .nil)))
      .nil))
def w_draws4 : Stms := (.cons (.ite (.cmp .lt (.blt .len (.var 2)) (.var 1)) (.cons (.asg (.nm 7) (.int 0))
      (.cons (.ite (.cmp .gt (.blt .len (.var 2)) (.int 0)) (.cons (.asg (.nm 7) (.idx (.var 2) (.bin .mod (.var 4) (.blt .len (.var 2)))))
      .nil) .nil)
      (.cons (.app 2 .nil (.bin .mod (.bin .add (.bin .add (.bin .mul (.var 7) (.int 16807)) (.bin .mul (.int 31) (.blt .len (.var 2)))) (.int 17)) (.int 1000003)))
      .nil))) .nil)
      .nil)
def w_draws : Fn := ⟨"_law_draws", 2, ["script", "many", "found", "cell", "k", "number", "mixed", "base"],
    (.cons (.asg (.nm 2) (.lst .nil))
      (.cons (.for_ (.nm 3) (.slc (.var 0) .non (.int 63)) w_draws3)
      (.cons (.for_ (.nm 4) (.rng (.int 0) (.var 1) (.int 1)) w_draws4)
      (.cons (.ret (.slc (.var 2) .non (.var 1)))
      .nil))))⟩
/-! comparisons of ints -/
theorem ltOk_int (i j : Int) : ltOk (.int i) (.int j) = true := by rfl
theorem lt_int (i j : Int) : PySem.W.dataLt (.int i) (.int j) = decide (i < j) := PySem.W.dataLt_int i j
theorem eqv_int (i j : Int) : PyData.eqv (.int i) (.int j) = decide (i = j) := by rfl
theorem cm_lt {x y : PyData} (h : ltOk x y = true) : cmpD .lt x y = some (PySem.W.dataLt x y) := if_pos h
theorem cm_gt {x y : PyData} (h : ltOk x y = true) : cmpD .gt x y = some (PySem.W.dataLt y x) := if_pos h
theorem cm_le {x y : PyData} (h : ltOk x y = true) : cmpD .le x y = some (!PySem.W.dataLt y x) := if_pos h
theorem cm_ge {x y : PyData} (h : ltOk x y = true) : cmpD .ge x y = some (!PySem.W.dataLt x y) := if_pos h
theorem cm_eq {x y : PyData} (h : shp x = true) (h2 : shp y = true) : cmpD .eq x y = some (PyData.eqv x y) := if_pos (by rw [h, h2]; rfl)
theorem cm_ne {x y : PyData} (h : shp x = true) (h2 : shp y = true) : cmpD .ne x y = some (!PyData.eqv x y) := if_pos (by rw [h, h2]; rfl)
@[simp] theorem c_lt (i j : Int) : cmpD .lt (.int i) (.int j) = some (decide (i < j)) := by rw [cm_lt (ltOk_int i j), lt_int]
@[simp] theorem c_gt (i j : Int) : cmpD .gt (.int i) (.int j) = some (decide (i > j)) := by rw [cm_gt (ltOk_int i j), lt_int]
@[simp] theorem c_le (i j : Int) : cmpD .le (.int i) (.int j) = some (decide (i ≤ j)) := by
  rw [cm_le (ltOk_int i j), lt_int]
  by_cases h : j < i <;> simp [h] <;> omega
@[simp] theorem c_ge (i j : Int) : cmpD .ge (.int i) (.int j) = some (decide (i ≥ j)) := by
  rw [cm_ge (ltOk_int i j), lt_int]
  by_cases h : i < j <;> simp [h] <;> omega
@[simp] theorem c_eq (i j : Int) : cmpD .eq (.int i) (.int j) = some (decide (i = j)) := by rw [cm_eq rfl rfl, eqv_int]
@[simp] theorem c_ne (i j : Int) : cmpD .ne (.int i) (.int j) = some (!decide (i = j)) := by rw [cm_ne rfl rfl, eqv_int]
/-! ### draws -/
/-- numbers below the law's modulus -/
def Small (xs : List Int) : Prop := ∀ x ∈ xs, 0 ≤ x ∧ x < 1000003
theorem Small.app {xs : List Int} (h : Small xs) {y : Int} (h1 : 0 ≤ y) (h2 : y < 1000003) : Small (xs ++ [y]) := fun x hx => by
  rcases List.mem_append.mp hx with z | z
  · exact h x z
  · rw [List.mem_singleton.mp z]; exact ⟨h1, h2⟩
section
variable {Γ : Cal}
theorem draws1_step (sc : PyData) (many : Int) (xs : List Int) (c : PyData) (k : Int) (num : Int) (m b : Slot) (h0 : 0 ≤ num) (hx : Small xs) (hl : xs.length < 16777216) :
    ∃ xs' num', execs Γ w_draws1 [some (.fz, sc), some (.fz, .int many), some (.dp, LI xs), some (.fz, c), some (.fz, .int k), some (.fz, .int num), m, b] = some (.nx [some (.fz, sc), some (.fz, .int many), some (.dp, LI xs'), some (.fz, c), some (.fz, .int k), some (.fz, .int num'), m, b]) ∧
      0 ≤ num' ∧ Small xs' ∧ xs'.length ≤ xs.length + 1 ∧ xs.length ≤ xs'.length := by
  by_cases h : num > 0
  · refine ⟨xs ++ [num % 1000003], num / 1000003, ?_, by omega, hx.app (by omega) (by omega), by simp, by simp⟩
    simp (disch := omega) [w_draws1, h]
  · exact ⟨xs, num, by simp (disch := omega) [w_draws1, h], h0, hx, by omega, by omega⟩
theorem draws2_step (sc : PyData) (many : Int) (xs : List Int) (c : PyData) (k : Int) (num : PyData) (mx : Int) (b : Slot) (hk : 0 ≤ k ∧ k < 4) (h0 : 0 ≤ mx ∧ mx < 2147483647) (hx : Small xs) (hl : xs.length < 16777216) :
    ∃ xs' mx', execs Γ w_draws2 [some (.fz, sc), some (.fz, .int many), some (.dp, LI xs), some (.fz, c), some (.fz, .int k), some (.fz, num), some (.fz, .int mx), b] = some (.nx [some (.fz, sc), some (.fz, .int many), some (.dp, LI xs'), some (.fz, c), some (.fz, .int k), some (.fz, num), some (.fz, .int mx'), b]) ∧
      (0 ≤ mx' ∧ mx' < 2147483647) ∧ Small xs' ∧ xs'.length = xs.length + 1 := by
  refine ⟨xs ++ [(mx * 69621 + mx / 65536 + 13 * k + 5) % 2147483629 / 8 % 1000003], (mx * 69621 + mx / 65536 + 13 * k + 5) % 2147483629, ?_, by omega, hx.app (by omega) (by omega), by simp⟩
  simp (disch := omega) [w_draws2]
theorem draws1_loop (sc : PyData) (many : Int) (xs : List Int) (c : PyData) (k : Slot) (num : Int) (m b : Slot) (h0 : 0 ≤ num) (hx : Small xs) (hl : xs.length < 16000000) :
    ∃ s', exec Γ (.for_ (.nm 4) (.rng (.int 0) (.int 60) (.int 1)) w_draws1) [some (.fz, sc), some (.fz, .int many), some (.dp, LI xs), some (.fz, c), k, some (.fz, .int num), m, b] = some (.nx s') ∧ ∃ xs' k' num', s' = [some (.fz, sc), some (.fz, .int many), some (.dp, LI xs'), some (.fz, c), k', some (.fz, .int num'), m, b] ∧
      0 ≤ num' ∧ Small xs' ∧ xs'.length ≤ xs.length + 60 :=
  forI_run (ys := upto 60) (o := .dp) (by simp (disch := omega)) (fun i s => ∃ xs' k' num', s = [some (.fz, sc), some (.fz, .int many), some (.dp, LI xs'), some (.fz, c), k', some (.fz, .int num'), m, b] ∧ 0 ≤ num' ∧ Small xs' ∧ xs'.length ≤ xs.length + i) (fun i hi s ⟨xs1, k1, num1, e, p1, p2, p3⟩ => by
      subst e
      have hi' : i < 60 := by simpa using hi
      obtain ⟨xs2, num2, q1, q2, q3, q4, q5⟩ := draws1_step (Γ := Γ) sc many xs1 c (upto 60)[i] num1 m b p1 p2 (by omega)
      exact ⟨_, .inl q1, xs2, some (.fz, .int (upto 60)[i]), num2, rfl, q2, q3, by omega⟩) ⟨xs, k, num, rfl, h0, hx, by omega⟩
theorem draws2_loop (sc : PyData) (many : Int) (xs : List Int) (c : PyData) (k : Slot) (num : PyData) (mx : Int) (b : Slot) (h0 : 0 ≤ mx ∧ mx < 2147483647) (hx : Small xs) (hl : xs.length < 16000000) :
    ∃ s', exec Γ (.for_ (.nm 4) (.rng (.int 0) (.int 4) (.int 1)) w_draws2) [some (.fz, sc), some (.fz, .int many), some (.dp, LI xs), some (.fz, c), k, some (.fz, num), some (.fz, .int mx), b] = some (.nx s') ∧ ∃ xs' k' mx', s' = [some (.fz, sc), some (.fz, .int many), some (.dp, LI xs'), some (.fz, c), k', some (.fz, num), some (.fz, .int mx'), b] ∧
      (0 ≤ mx' ∧ mx' < 2147483647) ∧ Small xs' ∧ xs'.length = xs.length + 4 :=
  forI_run (ys := upto 4) (o := .dp) (by simp (disch := omega)) (fun i s => ∃ xs' k' mx', s = [some (.fz, sc), some (.fz, .int many), some (.dp, LI xs'), some (.fz, c), k', some (.fz, num), some (.fz, .int mx'), b] ∧ (0 ≤ mx' ∧ mx' < 2147483647) ∧ Small xs' ∧ xs'.length = xs.length + i) (fun i hi s ⟨xs1, k1, mx1, e, p1, p2, p3⟩ => by
      subst e
      have hi' : i < 4 := by simpa using hi
      have hk : 0 ≤ (upto 4)[i] ∧ (upto 4)[i] < 4 := mem_upto.mp (List.getElem_mem _)
      obtain ⟨xs2, mx2, q1, q2, q3, q4⟩ := draws2_step (Γ := Γ) sc many xs1 c (upto 4)[i] num mx1 b hk p1 p2 (by omega)
      exact ⟨_, .inl q1, xs2, some (.fz, .int (upto 4)[i]), mx2, rfl, q2, q3, by omega⟩) ⟨xs, k, mx, rfl, h0, hx, by omega⟩
@[simp] theorem pow_18 (o p : Own) (al bl : List Nat) : binD .pow ⟨.int 10, o, al⟩ ⟨.int 18, p, bl⟩ = FI (.int 1000000000000000000) := by rfl
theorem draws3_step (sc : PyData) (many : Int) (xs : List Int) (c : Int) (k n m b : Slot) (hx : Small xs) (hl : xs.length < 15000000) :
    ∃ xs' k' n' m', execs Γ w_draws3 [some (.fz, sc), some (.fz, .int many), some (.dp, LI xs), some (.fz, .int c), k, n, m, b] = some (.nx [some (.fz, sc), some (.fz, .int many), some (.dp, LI xs'), some (.fz, .int c), k', n', m', b]) ∧
      Small xs' ∧ xs'.length ≤ xs.length + 60 := by
  by_cases h : (c.natAbs : Int) ≥ 1000000000000000000
  · obtain ⟨s', q1, xs', k', num', rfl, q2, q3, q4⟩ := draws1_loop (Γ := Γ) sc many xs (.int c) k c.natAbs m b (by omega) hx (by omega)
    exact ⟨xs', k', some (.fz, .int num'), m, by simp (disch := omega) [w_draws3, h, q1], q3, q4⟩
  · obtain ⟨s', q1, xs', k', mx', rfl, q2, q3, q4⟩ := draws2_loop (Γ := Γ) sc many xs (.int c) k (.int c.natAbs) ((c.natAbs * 48271 + 7 * xs.length + 11) % 2147483647) b (by omega) hx (by omega)
    exact ⟨xs', k', some (.fz, .int c.natAbs), some (.fz, .int mx'), by simp (disch := omega) [w_draws3, h, q1], q3, by omega⟩
theorem draws4_step (sc : PyData) (many : Int) (xs : List Int) (c : Slot) (k : Int) (n m b : Slot) (hk : 0 ≤ k) (hm : many < 1000) (hx : Small xs) (hl : xs.length < 15000000) :
    ∃ xs' b', execs Γ w_draws4 [some (.fz, sc), some (.fz, .int many), some (.dp, LI xs), c, some (.fz, .int k), n, m, b] = some (.nx [some (.fz, sc), some (.fz, .int many), some (.dp, LI xs'), c, some (.fz, .int k), n, m, b']) ∧
      Small xs' ∧ xs'.length ≤ xs.length + 1 ∧ xs.length ≤ xs'.length ∧ (xs.length < many → xs'.length = xs.length + 1) := by
  by_cases h : (xs.length : Int) < many
  · by_cases h2 : 0 < xs.length
    · have hi := Int.emod_nonneg k (show (xs.length : Int) ≠ 0 by omega)
      have hi2 := Int.emod_lt_of_pos k (show 0 < (xs.length : Int) by omega)
      have hb : 0 ≤ itI xs (k % xs.length) ∧ itI xs (k % xs.length) < 1000003 := by
        refine hx _ ?_
        unfold itI
        rw [List.getD_eq_getElem?_getD, List.getElem?_eq_getElem (by omega)]
        exact List.getElem_mem _
      refine ⟨xs ++ [(itI xs (k % xs.length) * 16807 + 31 * xs.length + 17) % 1000003], some (.fz, .int (itI xs (k % xs.length))), ?_, hx.app (by omega) (by omega), by simp, by simp, by simp⟩
      simp (disch := omega) [w_draws4, h, h2]
    · refine ⟨xs ++ [((0 : Int) * 16807 + 31 * (xs.length : Int) + 17) % 1000003], some (.fz, .int 0), ?_, hx.app (by omega) (by omega), by simp, by simp, by simp⟩
      have e : xs = [] := List.length_eq_zero_iff.mp (by omega)
      subst e
      have h' : (0 : Int) < many := by simpa using h
      simp (disch := omega) [w_draws4, h']
  · exact ⟨xs, b, by simp (disch := omega) [w_draws4, h], hx, by omega, by omega, fun z => absurd z h⟩
theorem upto_get {n : Int} {i : Nat} (h : i < (upto n).length) : (upto n)[i] = (i : Int) := by
  simp [upto]
theorem draws_loop3 (ns : List Int) (many : Int) (hl : ns.length ≤ 63) (k n m b : Slot) (c : Slot) : ∃ s', exec Γ (.for_ (.nm 3) (.slc (.var 0) .non (.int 63)) w_draws3) [some (.fz, LI ns), some (.fz, .int many), some (.dp, .list []), c, k, n, m, b] = some (.nx s') ∧
    ∃ xs c' k' n' m', s' = [some (.fz, LI ns), some (.fz, .int many), some (.dp, LI xs), c', k', n', m', b] ∧ Small xs ∧ xs.length ≤ 60 * 63 := by
  have ec : cutI ns none (some 63) = ns := by
    unfold cutI
    have e1 : clip ns.length 0 none = 0 := rfl
    have e2 : clip ns.length ns.length (some 63) = min 63 ns.length := rfl
    rw [e1, e2, List.drop_zero, List.take_of_length_le (by omega)]
  obtain ⟨s', h, xs, c', k', n', m', e, p1, p2⟩ := forI_run (Γ := Γ) (j := 3) (body := w_draws3) (it := .slc (.var 0) .non (.int 63)) (o := .dp) (ys := ns) (σ := [some (.fz, LI ns), some (.fz, .int many), some (.dp, .list []), c, k, n, m, b]) (by simp (disch := omega) [ec])
    (fun i s => ∃ xs c' k' n' m', s = [some (.fz, LI ns), some (.fz, .int many), some (.dp, LI xs), c', k', n', m', b] ∧ Small xs ∧ xs.length ≤ 60 * i) (fun i hi s ⟨xs1, c1, k1, n1, m1, e, p1, p2⟩ => by
      subst e
      obtain ⟨xs2, k2, n2, m2, q1, q2, q3⟩ := draws3_step (Γ := Γ) (LI ns) many xs1 ns[i] k1 n1 m1 b p1 (by omega)
      exact ⟨_, .inl q1, xs2, some (.fz, .int ns[i]), k2, n2, m2, rfl, q2, by omega⟩) ⟨[], c, k, n, m, rfl, (fun x hx => by cases hx), by simp⟩
  exact ⟨s', h, xs, c', k', n', m', e, p1, by omega⟩
theorem draws_loop4 (sc : PyData) (many : Int) (xs : List Int) (c k n m b : Slot) (hm : 0 ≤ many ∧ many < 1000) (hx : Small xs) (hl : xs.length ≤ 60 * 63) : ∃ s', exec Γ (.for_ (.nm 4) (.rng (.int 0) (.var 1) (.int 1)) w_draws4) [some (.fz, sc), some (.fz, .int many), some (.dp, LI xs), c, k, n, m, b] = some (.nx s') ∧
    ∃ xs' k' b', s' = [some (.fz, sc), some (.fz, .int many), some (.dp, LI xs'), c, k', n, m, b'] ∧ Small xs' ∧ many ≤ xs'.length ∧ xs'.length < 15000000 := by
  obtain ⟨s', h, xs', k', b', e, p1, p2, p3⟩ := forI_run (Γ := Γ) (j := 4) (body := w_draws4) (it := .rng (.int 0) (.var 1) (.int 1)) (o := .dp) (ys := upto many) (σ := [some (.fz, sc), some (.fz, .int many), some (.dp, LI xs), c, k, n, m, b]) (by simp (disch := omega))
    (fun i s => ∃ xs' k' b', s = [some (.fz, sc), some (.fz, .int many), some (.dp, LI xs'), c, k', n, m, b'] ∧ Small xs' ∧ (i ≤ xs'.length ∨ many ≤ xs'.length) ∧ xs'.length ≤ xs.length + i) (fun i hi s ⟨xs1, k1, b1, e, p1, p2, p3⟩ => by
      subst e
      have hi' : i < many.toNat := by simpa using hi
      have hk : 0 ≤ (upto many)[i] := by rw [upto_get hi]; omega
      obtain ⟨xs2, b2, q1, q2, q3, q4, q5⟩ := draws4_step (Γ := Γ) sc many xs1 c (upto many)[i] n m b1 hk hm.2 p1 (by omega)
      refine ⟨_, .inl q1, xs2, some (.fz, .int (upto many)[i]), b2, rfl, q2, ?_, by omega⟩
      by_cases z : (xs1.length : Int) < many
      · have := q5 z; omega
      · omega) ⟨xs, k, b, rfl, hx, by omega, by omega⟩
  rw [upto_len] at p2 p3
  exact ⟨s', h, xs', k', b', e, p1, by omega, by omega⟩
/-- what a law draws -/
theorem draws_ok (ns : List Int) (many : Int) (hl : ns.length ≤ 63) (hm : 0 ≤ many ∧ many < 1000) : ∃ ds, runF Γ w_draws [LI ns, .int many] = some (.dp, LI ds) ∧ (ds.length : Int) = many ∧ Small ds := by
  obtain ⟨s1, h1, xs, c1, k1, n1, m1, rfl, p1, p2⟩ := draws_loop3 (Γ := Γ) ns many hl none none none none none
  obtain ⟨s2, h2, xs2, k2, b2, rfl, q1, q2, q3⟩ := draws_loop4 (Γ := Γ) (LI ns) many xs c1 k1 n1 m1 none hm p1 p2
  have ec : cutI xs2 none (some many) = xs2.take many.toNat := by
    unfold cutI
    have e1 : clip xs2.length 0 none = 0 := rfl
    have e2 : clip xs2.length xs2.length (some many) = min many.toNat xs2.length := if_neg (by omega)
    rw [e1, e2, List.drop_zero]
    congr 1
    omega
  refine ⟨xs2.take many.toNat, ?_, by rw [List.length_take]; omega, fun x hx => q1 x (List.mem_of_mem_take hx)⟩
  simp (disch := first | omega | simp) [runF, w_draws, h1, h2, ec]
end
end Sp
end

section
set_option Elab.async false
set_option linter.all false
set_option maxRecDepth 100000
set_option maxHeartbeats 4000000
/-! Orders: exchanges, turned pairs, rows. -/
namespace Sp
open Sw
open PySem (PyData Str)
/-- the things at two places exchanged -/
def swp (xs : List Int) (i j : Int) : List Int := (xs.set i.toNat (itI xs j)).set j.toNat (itI xs i)
@[simp] theorem swp_len (xs : List Int) (i j : Int) : (swp xs i j).length = xs.length := by simp [swp]
theorem itI_at {xs : List Int} {i : Nat} (h : i < xs.length) : itI xs i = xs[i] := by
  unfold itI
  rw [List.getD_eq_getElem?_getD, Int.toNat_natCast, List.getElem?_eq_getElem h]; rfl
theorem itI_mem {xs : List Int} {i : Int} (h0 : 0 ≤ i) (h : i < xs.length) : itI xs i ∈ xs := by
  have e : itI xs i = itI xs (i.toNat : Nat) := by unfold itI; rw [Int.toNat_natCast]
  rw [e, itI_at (by omega)]
  exact List.getElem_mem _
/-- how many are greater -/
def cnt (x : Int) (xs : List Int) : Nat := xs.countP (fun t => decide (t > x))
/-- how many are less -/
def cntL (x : Int) (xs : List Int) : Nat := xs.countP (fun t => decide (x > t))
/-- turned pairs -/
def inv : List Int → Nat
  | [] => 0
  | x :: xs => cntL x xs + inv xs
/-- turned pairs across -/
def cross (xs ys : List Int) : Nat := (ys.map (fun y => cnt y xs)).sum
theorem cross_cons_l (x : Int) (xs ys : List Int) : cross (x :: xs) ys = cross xs ys + cntL x ys := by
  induction ys with
  | nil => rfl
  | cons y ys ih =>
    have e1 : cross (x :: xs) (y :: ys) = cnt y (x :: xs) + cross (x :: xs) ys := by simp [cross]
    have e2 : cross xs (y :: ys) = cnt y xs + cross xs ys := by simp [cross]
    have e3 : cnt y (x :: xs) = cnt y xs + if x > y then 1 else 0 := by simp [cnt, List.countP_cons]
    have e4 : cntL x (y :: ys) = cntL x ys + if x > y then 1 else 0 := by simp [cntL, List.countP_cons]
    rw [e1, e2, e3, e4, ih]; omega
theorem cross_nil_l (ys : List Int) : cross [] ys = 0 := by
  induction ys with
  | nil => rfl
  | cons y ys ih => simpa [cross, cnt] using ih
theorem cross_app_l (a b ys : List Int) : cross (a ++ b) ys = cross a ys + cross b ys := by
  induction a with
  | nil => simp [cross_nil_l]
  | cons x a ih => rw [List.cons_append, cross_cons_l, cross_cons_l, ih]; omega
theorem cross_app_r (xs a b : List Int) : cross xs (a ++ b) = cross xs a + cross xs b := by simp [cross]
theorem inv_app (xs ys : List Int) : inv (xs ++ ys) = inv xs + inv ys + cross xs ys := by
  induction xs with
  | nil => simp [inv, cross_nil_l]
  | cons x xs ih =>
    have e : cntL x (xs ++ ys) = cntL x xs + cntL x ys := by simp [cntL]
    simp only [List.cons_append, inv]
    rw [cross_cons_l, ih, e]; omega
theorem cross_perm_l {xs xs' : List Int} (h : List.Perm xs xs') (ys : List Int) : cross xs ys = cross xs' ys := by
  unfold cross
  congr 1
  apply List.map_congr_left
  intro y _
  exact h.countP_eq _
theorem cross_perm_r (xs : List Int) {ys ys' : List Int} (h : List.Perm ys ys') : cross xs ys = cross xs ys' := by
  unfold cross
  exact (h.map _).sum_nat
theorem split_two {xs : List Int} {i : Nat} (h : i + 1 < xs.length) : ∃ a u v b, xs = a ++ u :: v :: b ∧ a.length = i := by
  refine ⟨xs.take i, xs[i], xs[i + 1], xs.drop (i + 2), ?_, by rw [List.length_take]; omega⟩
  have e1 : xs.drop i = xs[i] :: xs.drop (i + 1) := List.drop_eq_getElem_cons (by omega)
  have e2 : xs.drop (i + 1) = xs[i + 1] :: xs.drop (i + 2) := List.drop_eq_getElem_cons (by omega)
  rw [← e2, ← e1, List.take_append_drop]
theorem itI_split (a : List Int) (u v : Int) (b : List Int) : itI (a ++ u :: v :: b) a.length = u ∧ itI (a ++ u :: v :: b) (a.length + 1) = v := by
  constructor
  · rw [itI_at (by simp)]; simp
  · have : ((a.length : Int) + 1) = ((a.length + 1 : Nat) : Int) := by omega
    rw [this, itI_at (by simp)]; simp
theorem swp_split (a : List Int) (u v : Int) (b : List Int) : swp (a ++ u :: v :: b) a.length (a.length + 1) = a ++ v :: u :: b := by
  obtain ⟨e1, e2⟩ := itI_split a u v b
  have e3 : ((a.length : Int) + 1).toNat = a.length + 1 := by omega
  unfold swp
  rw [e1, e2, Int.toNat_natCast, e3]
  simp [List.set_append]
theorem inv_two (a : List Int) (u v : Int) (b : List Int) : inv (a ++ v :: u :: b) + (if u > v then 1 else 0) = inv (a ++ u :: v :: b) + (if v > u then 1 else 0) := by
  have p : List.Perm (a ++ v :: u :: b) (a ++ u :: v :: b) := (List.Perm.swap u v b).append_left a
  have e1 : a ++ v :: u :: b = (a ++ [v, u]) ++ b := by simp
  have e2 : a ++ u :: v :: b = (a ++ [u, v]) ++ b := by simp
  have p1 : List.Perm (a ++ [v, u]) (a ++ [u, v]) := (List.Perm.swap u v []).append_left a
  have p2 : List.Perm [v, u] [u, v] := List.Perm.swap u v []
  rw [e1, e2, inv_app, inv_app a [v, u], inv_app (a ++ [u, v]) b, inv_app a [u, v], cross_perm_l p1, cross_perm_r a p2]
  have i1 : inv [v, u] = if v > u then 1 else 0 := by simp [inv, cntL, List.countP_cons]
  have i2 : inv [u, v] = if u > v then 1 else 0 := by simp [inv, cntL, List.countP_cons]
  rw [i1, i2]; omega
theorem inv_swp {xs : List Int} {i : Int} (h0 : 0 ≤ i) (h : i + 1 < xs.length) :
    inv (swp xs i (i + 1)) + (if itI xs i > itI xs (i + 1) then 1 else 0) = inv xs + (if itI xs (i + 1) > itI xs i then 1 else 0) := by
  obtain ⟨a, u, v, b, e, hl⟩ := split_two (xs := xs) (i := i.toNat) (by omega)
  have ei : i = (a.length : Int) := by omega
  subst e
  obtain ⟨e1, e2⟩ := itI_split a u v b
  rw [ei, swp_split, e1, e2]
  exact inv_two a u v b
theorem itI_set_ne {xs : List Int} {i j : Int} (y : Int) (hi : 0 ≤ i) (hj : 0 ≤ j) (h : i ≠ j) : itI (xs.set j.toNat y) i = itI xs i := by
  unfold itI
  rw [List.getD_eq_getElem?_getD, List.getD_eq_getElem?_getD, List.getElem?_set_ne (by omega)]
theorem itI_set_eq {xs : List Int} {i : Int} (y : Int) (hi : 0 ≤ i) (h : i < xs.length) : itI (xs.set i.toNat y) i = y := by
  unfold itI
  rw [List.getD_eq_getElem?_getD, List.getElem?_set_self (by omega)]; rfl
theorem itI_swp_l {xs : List Int} {i j : Int} (hi : 0 ≤ i) (hi2 : i < xs.length) (hj : 0 ≤ j) (hj2 : j < xs.length) : itI (swp xs i j) i = itI xs j := by
  unfold swp
  by_cases h : i = j
  · subst h; rw [itI_set_eq _ hi (by simpa using hi2)]
  · rw [itI_set_ne _ hi hj h, itI_set_eq _ hi hi2]
theorem itI_swp_r {xs : List Int} {i j : Int} (hj : 0 ≤ j) (hj2 : j < xs.length) : itI (swp xs i j) j = itI xs i := by
  unfold swp
  rw [itI_set_eq _ hj (by simpa using hj2)]
theorem itI_swp_o {xs : List Int} {i j k : Int} (hi : 0 ≤ i) (hj : 0 ≤ j) (hk : 0 ≤ k) (h1 : k ≠ i) (h2 : k ≠ j) : itI (swp xs i j) k = itI xs k := by
  unfold swp
  rw [itI_set_ne _ hk hj h2, itI_set_ne _ hk hi h1]
theorem ext_itI {xs ys : List Int} (hl : xs.length = ys.length) (h : ∀ k : Int, 0 ≤ k → k < xs.length → itI xs k = itI ys k) : xs = ys := by
  apply List.ext_getElem hl
  intro k h1 h2
  have := h k (by omega) (by omega)
  rw [itI_at h1, itI_at h2] at this
  exact this
theorem swp_swp {xs : List Int} {i j : Int} (hi : 0 ≤ i) (hi2 : i < xs.length) (hj : 0 ≤ j) (hj2 : j < xs.length) : swp (swp xs i j) i j = xs := by
  apply ext_itI (by simp)
  intro k hk hk2
  simp only [swp_len] at hk2
  by_cases h1 : k = j
  · subst h1; rw [itI_swp_r hk (by simpa using hk2), itI_swp_l hi hi2 hk hk2]
  · by_cases h2 : k = i
    · subst h2; rw [itI_swp_l hk (by simpa using hk2) hj (by simpa using hj2), itI_swp_r hj hj2]
    · rw [itI_swp_o hi hj hk h2 h1, itI_swp_o hi hj hk h2 h1]
theorem set_perm {xs : List Int} {i : Nat} (h : i < xs.length) (y : Int) : List.Perm (xs[i] :: xs.set i y) (y :: xs) := by
  induction xs generalizing i with
  | nil => simp at h
  | cons x xs ih =>
    cases i with
    | zero => exact List.Perm.swap y x xs
    | succ i =>
      have := ih (i := i) (by simpa using h)
      simp only [List.getElem_cons_succ, List.set_cons_succ]
      exact (List.Perm.swap x _ _).trans ((this.cons x).trans (List.Perm.swap y x xs))
theorem swp_perm {xs : List Int} {i j : Int} (hi : 0 ≤ i) (hi2 : i < xs.length) (hj : 0 ≤ j) (hj2 : j < xs.length) : List.Perm (swp xs i j) xs := by
  have a1 := set_perm (xs := xs) (i := i.toNat) (by omega) (itI xs j)
  have a2 := set_perm (xs := xs.set i.toNat (itI xs j)) (i := j.toNat) (by simp; omega) (itI xs i)
  have ei : xs[i.toNat]'(by omega) = itI xs i := by rw [← itI_at]; unfold itI; rw [Int.toNat_natCast]
  have ej : (xs.set i.toNat (itI xs j))[j.toNat]'(by simp; omega) = itI xs j := by
    rw [← itI_at (by simp; omega)]
    have : ((j.toNat : Nat) : Int) = j := by omega
    rw [this]
    by_cases h : j = i
    · subst h; exact itI_set_eq _ hj hj2
    · exact itI_set_ne _ hj hi h
  rw [ei] at a1
  rw [ej] at a2
  change List.Perm (itI xs j :: swp xs i j) _ at a2
  exact (a2.trans a1).cons_inv
theorem cnt_le (x : Int) (xs : List Int) : cnt x xs ≤ xs.length := List.countP_le_length
theorem cntL_le (x : Int) (xs : List Int) : cntL x xs ≤ xs.length := List.countP_le_length
theorem inv_le : ∀ xs : List Int, inv xs ≤ xs.length * xs.length
  | [] => Nat.le_refl _
  | x :: xs => by
    have := inv_le xs
    have := cntL_le x xs
    have e : (x :: xs).length * (x :: xs).length = xs.length * xs.length + xs.length + xs.length + 1 := by
      simp only [List.length_cons]; rw [Nat.add_mul, Nat.mul_add]; omega
    rw [e]; simp only [inv]; omega
theorem nofall_inv : ∀ xs : List Int, (∀ i : Nat, (h : i + 1 < xs.length) → xs[i] ≤ xs[i + 1]) → inv xs = 0 ∧ ∀ x r, xs = x :: r → ∀ y ∈ r, x ≤ y
  | [], _ => ⟨rfl, fun x r h => by cases h⟩
  | [x], _ => ⟨rfl, fun x r h => by injection h with _ h; subst h; intro y hy; cases hy⟩
  | x :: y :: r, h => by
    obtain ⟨i1, i2⟩ := nofall_inv (y :: r) (fun i hi => by
      have := h (i + 1) (by simp at hi ⊢; omega)
      simpa using this)
    have h0 : x ≤ y := by simpa using h 0 (by simp)
    have all : ∀ z ∈ y :: r, x ≤ z := fun z hz => by
      rcases List.mem_cons.mp hz with e | e
      · rw [e]; exact h0
      · have := i2 y r rfl z e; omega
    refine ⟨?_, fun x' r' e => by injection e with e1 e2; subst e1; subst e2; exact all⟩
    have : cntL x (y :: r) = 0 := by
      unfold cntL
      rw [List.countP_eq_zero]
      intro z hz
      have := all z hz
      simp; omega
    simp only [inv] at i1 ⊢
    omega
theorem falls_some {xs : List Int} (h : 0 < inv xs) : ∃ i : Int, 0 ≤ i ∧ i + 1 < xs.length ∧ itI xs i > itI xs (i + 1) := by
  apply Classical.byContradiction
  intro hn
  have := (nofall_inv xs (fun i hi => by
    apply Classical.byContradiction
    intro hc
    apply hn
    refine ⟨i, by omega, by omega, ?_⟩
    have e : ((i : Int) + 1) = ((i + 1 : Nat) : Int) := by omega
    rw [e, itI_at hi, itI_at (by omega)]
    omega)).1
  omega
/-- the order that a row leads to from another one -/
def ledF (xs : List Int) (row : List Int) : List Int := row.foldl (fun o i => swp o i (i + 1)) xs
def led (n : Int) (row : List Int) : List Int := ledF (upto n) row
/-- numbers of a row for n things -/
def RowOk (n : Int) (row : List Int) : Prop := ∀ i ∈ row, 0 ≤ i ∧ i + 1 < n
theorem fold_len : ∀ (row xs : List Int), (ledF xs row).length = xs.length
  | [], xs => rfl
  | i :: row, xs => by
    have := fold_len row (swp xs i (i + 1))
    simpa [ledF] using this
theorem led_len {n : Int} (row : List Int) : (led n row).length = n.toNat := by rw [led, fold_len, upto_len]
theorem ledF_app (xs a b : List Int) : ledF xs (a ++ b) = ledF (ledF xs a) b := by simp [ledF]
theorem fold_back {n : Int} : ∀ (row xs : List Int), RowOk n row → (xs.length : Int) = n → ledF xs (row ++ row.reverse) = xs
  | [], xs, _, _ => rfl
  | i :: row, xs, h, hl => by
    have h0 := h i (by simp)
    have := fold_back row (swp xs i (i + 1)) (fun k hk => h k (by simp [hk])) (by simpa using hl)
    have e : (i :: row) ++ (i :: row).reverse = i :: ((row ++ row.reverse) ++ [i]) := by simp
    rw [e]
    change ledF (swp xs i (i + 1)) ((row ++ row.reverse) ++ [i]) = xs
    rw [ledF_app, this]
    exact swp_swp h0.1 (by omega) (by omega) (by omega)
theorem led_back {n : Int} (hn : 0 ≤ n) {row : List Int} (h : RowOk n row) : led n (row ++ row.reverse) = upto n :=
  fold_back row (upto n) h (by rw [upto_len]; omega)
theorem fold_perm {n : Int} : ∀ (row xs : List Int), RowOk n row → (xs.length : Int) = n → List.Perm (ledF xs row) xs
  | [], xs, _, _ => List.Perm.refl _
  | i :: row, xs, h, hl => by
    have h0 := h i (by simp)
    have := fold_perm row (swp xs i (i + 1)) (fun k hk => h k (by simp [hk])) (by simpa using hl)
    exact this.trans (swp_perm h0.1 (by omega) (by omega) (by omega))
theorem led_perm {n : Int} (hn : 0 ≤ n) {row : List Int} (h : RowOk n row) : List.Perm (led n row) (upto n) :=
  fold_perm row (upto n) h (by rw [upto_len]; omega)
theorem upto_succ {n : Int} (h : 0 ≤ n) : upto (n + 1) = upto n ++ [n] := by
  unfold upto
  have e : (n + 1).toNat = n.toNat + 1 := by omega
  rw [e, List.range_succ, List.map_append]
  congr 1
  simp; omega
/-- turned pairs, place by place -/
theorem inv_take (xs : List Int) : ∀ k : Nat, k ≤ xs.length → inv (xs.take k) = ((List.range k).map (fun p : Nat => cnt (itI xs p) (xs.take p))).sum
  | 0, _ => rfl
  | k + 1, h => by
    have ih := inv_take xs k (by omega)
    have e : xs.take (k + 1) = xs.take k ++ [itI xs k] := by
      rw [itI_at (by omega), List.take_succ, List.getElem?_eq_getElem (by omega)]; rfl
    rw [e, inv_app, ih, List.range_succ, List.map_append, List.sum_append]
    simp [cross, inv, cntL]
theorem inv_sum (xs : List Int) : inv xs = ((List.range xs.length).map (fun p : Nat => cnt (itI xs p) (xs.take p))).sum := by
  have := inv_take xs xs.length (Nat.le_refl _)
  rwa [List.take_length] at this
end Sp
end

section
set_option Elab.async false
set_option linter.all false
set_option maxRecDepth 100000
set_option maxHeartbeats 4000000
/-! Orders: the program's and the laws' functions. -/
namespace Sp
open Sw
open PySem (PyData Str)
section
variable {Γ : Cal} {σ : S}
theorem runF_of {F : Fn} {ds : List PyData} {s : S} {o : Own} {d : PyData} (h1 : ds.length = F.np) (h2 : ds.map (fun d => some (.fz, d)) ++ List.replicate (F.names.length - ds.length) none = s) (h3 : execs Γ F.body s = some (.rt o d)) : runF Γ F ds = some (o, d) := by
  unfold runF
  rw [if_pos h1, h2, h3]
/-- a comprehension of ints from ints -/
theorem comp_ints {j : Nat} {it c e : Ex} {o : Own} (ys : List Int) (p : Int → Bool) (g : Int → Int) (hit : ev Γ it σ = some ⟨LI ys, o, []⟩) (hl : ys.length ≤ 16777216)
    (hc : ∀ y ∈ ys, ev Γ c (σ.set j (some (.fz, .int y))) = FI (.bool (p y))) (he : ∀ y ∈ ys, p y = true → ev Γ e (σ.set j (some (.fz, .int y))) = FI (.int (g y))) :
    ev Γ (.comp (.nm j) it c e) σ = some ⟨LI ((ys.filter p).map g), .dp, []⟩ := by
  rw [comp_pl (fun y => .int y) ys (fun y => σ.set j (some (.fz, .int y))) p (fun y => .int (g y)) hit rfl hl (fun y _ => rfl) hc he (fun y _ _ => rfl)]
  show some _ = some _
  simp [LI]
theorem cut_to (xs : List Int) {k : Int} (h : 0 ≤ k) : cutI xs none (some k) = xs.take k.toNat := by
  unfold cutI
  have e1 : clip xs.length 0 none = 0 := rfl
  have e2 : clip xs.length xs.length (some k) = min k.toNat xs.length := if_neg (by omega)
  rw [e1, e2, List.drop_zero, Nat.sub_zero]
  rcases Nat.le_total k.toNat xs.length with z | z
  · rw [Nat.min_eq_left z]
  · rw [Nat.min_eq_right z, List.take_of_length_le (Nat.le_refl _), List.take_of_length_le z]
theorem cut_from (xs : List Int) {k : Int} (h : 0 ≤ k) : cutI xs (some k) none = xs.drop k.toNat := by
  unfold cutI
  have e1 : clip xs.length 0 (some k) = min k.toNat xs.length := if_neg (by omega)
  have e2 : clip xs.length xs.length none = xs.length := rfl
  rw [e1, e2]
  rcases Nat.le_total k.toNat xs.length with z | z
  · rw [Nat.min_eq_left z, List.take_of_length_le (by rw [List.length_drop]; omega)]
  · rw [Nat.min_eq_right z, Nat.sub_self, List.take_zero, List.drop_eq_nil_of_le z]
theorem cut_toN (xs : List Int) {k : Int} (h : k < 0) : cutI xs none (some k) = xs.take (xs.length - k.natAbs) := by
  unfold cutI
  have e1 : clip xs.length 0 none = 0 := rfl
  have e2 : clip xs.length xs.length (some k) = xs.length - k.natAbs := by
    rw [clip, if_pos h]; omega
  rw [e1, e2, List.drop_zero, Nat.sub_zero]
theorem cut_fromN (xs : List Int) {k : Int} (h : k < 0) : cutI xs (some k) none = xs.drop (xs.length - k.natAbs) := by
  unfold cutI
  have e1 : clip xs.length 0 (some k) = xs.length - k.natAbs := by
    rw [clip, if_pos h]; omega
  have e2 : clip xs.length xs.length none = xs.length := rfl
  rw [e1, e2, List.take_of_length_le (by rw [List.length_drop]; omega)]
/-! ### exchanged, swapped, rest -/
def w_exchanged : Fn := ⟨"exchanged", 3, ["order", "i", "j", "found"],
    (.cons (.asg (.nm 3) (.blt .list (.var 0)))
      (.cons (.asg (.sub 3 .nil (.var 1)) (.idx (.var 0) (.var 2)))
      (.cons (.asg (.sub 3 .nil (.var 2)) (.idx (.var 0) (.var 1)))
      (.cons (.ret (.mv 3))
      .nil))))⟩
theorem exchanged_ok {xs : List Int} {i j : Int} (hi : 0 ≤ i) (hi2 : i < xs.length) (hj : 0 ≤ j) (hj2 : j < xs.length) : runF Γ w_exchanged [LI xs, .int i, .int j] = some (.dp, LI (swp xs i j)) := by
  simp (disch := first | omega | (simp; done) | (simp; omega)) [runF, w_exchanged, swp]
def w_swapped : Fn := ⟨"_law_swapped", 3, ["order", "i", "j", "found"],
    (.cons (.asg (.nm 3) (.blt .list (.var 0)))
      (.cons (.unp [(.sub 3 .nil (.var 1)), (.sub 3 .nil (.var 2))] (.tup (.cons (.idx (.var 0) (.var 2)) (.cons (.idx (.var 0) (.var 1)) .nil))))
      (.cons (.ret (.mv 3))
      .nil)))⟩
theorem tupOf_ii (i j : Int) (o p : Own) (al bl : List Nat) : tupOf [⟨.int i, o, al⟩, ⟨.int j, p, bl⟩] = ⟨.tuple [.int i, .int j], .fz, []⟩ := by
  rw [tupOf_pl rfl]; rfl
theorem swapped_ok {xs : List Int} {i j : Int} (hi : 0 ≤ i) (hi2 : i < xs.length) (hj : 0 ≤ j) (hj2 : j < xs.length) : runF Γ w_swapped [LI xs, .int i, .int j] = some (.dp, LI (swp xs i j)) := by
  simp (disch := first | omega | (simp; done) | (simp; omega)) [runF, w_swapped, swp, tupOf_ii]
def w_rest : Fn := ⟨"rest", 1, ["n"],
    (.cons (.ret (.blt .list (.rng (.int 0) (.var 0) (.int 1))))
      .nil)⟩
theorem rest_ok {n : Int} (h : -4611686018427387904 ≤ n) (h2 : n ≤ 16777216) : runF Γ w_rest [.int n] = some (.dp, LI (upto n)) := by
  simp (disch := omega) [runF, w_rest]
/-! ### lengths -/
def w_greater_before : Fn := ⟨"greater_before", 2, ["order", "place", "thing"],
    (.cons (.ret (.comp (.nm 2) (.slc (.var 0) .non (.var 1)) (.cmp .gt (.var 2) (.idx (.var 0) (.var 1))) (.var 2)))
      .nil)⟩
/-- the greater things before a place -/
def grt (xs : List Int) (p : Int) : List Int := (xs.take p.toNat).filter (fun t => decide (t > itI xs p))
theorem grt_len (xs : List Int) (p : Int) : (grt xs p).length = cnt (itI xs p) (xs.take p.toNat) := by
  unfold grt cnt; rw [List.countP_eq_length_filter]
theorem grt_le (xs : List Int) (p : Int) : (grt xs p).length ≤ xs.length := by
  rw [grt_len]
  exact Nat.le_trans (cnt_le _ _) (by rw [List.length_take]; omega)
theorem greater_ok {xs : List Int} {p : Int} (h : 0 ≤ p) (h2 : p < xs.length) (hl : xs.length ≤ 16777216) : runF Γ w_greater_before [LI xs, .int p] = some (.dp, LI (grt xs p)) := by
  have e := comp_ints (Γ := Γ) (σ := [some (.fz, LI xs), some (.fz, .int p), none]) (j := 2) (it := .slc (.var 0) .non (.var 1)) (c := .cmp .gt (.var 2) (.idx (.var 0) (.var 1))) (e := .var 2) (o := .dp)
    (xs.take p.toNat) (fun t => decide (t > itI xs p)) id (by simp [cut_to xs h]) (by rw [List.length_take]; omega) (fun y _ => by simp (disch := omega)) (fun y _ _ => by simp)
  rw [List.map_id] at e
  simp [runF, w_greater_before, e, grt]
def w_length_of (g : Nat) : Fn := ⟨"length_of", 1, ["order", "place"],
    (.cons (.ret (.blt .sum (.comp (.nm 1) (.rng (.int 0) (.blt .len (.var 0)) (.int 1)) (.bl true) (.blt .len (.call g (.cons (.var 0) (.cons (.var 1) .nil)))))))
      .nil)⟩
theorem inv_upto (xs : List Int) : ((upto xs.length).map (fun p => ((grt xs p).length : Int))).sum = inv xs := by
  have e : ∀ l : List Nat, ((l.map (fun i : Nat => (i : Int))).map (fun p => ((grt xs p).length : Int))).sum = ((l.map (fun p : Nat => cnt (itI xs p) (xs.take p))).sum : Nat) := by
    intro l
    induction l with
    | nil => rfl
    | cons x l ih => rw [List.map_cons, List.map_cons, List.sum_cons, ih, List.map_cons, List.sum_cons, grt_len, Int.toNat_natCast]; omega
  unfold upto
  rw [e, inv_sum]
  simp
theorem length_of_ok {g : Nat} (hg : ∀ xs : List Int, ∀ p : Int, 0 ≤ p → p < xs.length → xs.length ≤ 16777216 → Γ g [LI xs, .int p] = some (.dp, LI (grt xs p))) {xs : List Int} (hl : xs.length ≤ 16777216) : runF Γ (w_length_of g) [LI xs] = some (.fz, .int (inv xs)) := by
  have e := comp_ints (Γ := Γ) (σ := [some (.fz, LI xs), none]) (j := 1) (it := .rng (.int 0) (.blt .len (.var 0)) (.int 1)) (c := .bl true) (e := .blt .len (.call g (.cons (.var 0) (.cons (.var 1) .nil)))) (o := .dp)
    (upto xs.length) (fun _ => true) (fun p => ((grt xs p).length : Int)) (by simp (disch := omega)) (by simp; omega) (fun y _ => by simp) (fun y hy _ => by
      have := mem_upto.mp hy
      simp [hg xs y this.1 this.2 hl])
  rw [List.filter_eq_self.mpr (by simp)] at e
  have hz := inv_upto xs
  revert e hz
  generalize (upto xs.length).map (fun p => ((grt xs p).length : Int)) = zs
  intro e hz
  refine runF_of rfl rfl ?_
  simp [w_length_of, e, hz]
def w_length : Fn := ⟨"_law_length", 1, ["order", "total", "j", "thing"],
    (.cons (.asg (.nm 1) (.int 0))
      (.cons (.for_ (.nm 2) (.rng (.int 0) (.blt .len (.var 0)) (.int 1)) (.cons (.asg (.nm 1) (.bin .add (.var 1) (.blt .len (.comp (.nm 3) (.slc (.var 0) .non (.var 2)) (.cmp .gt (.var 3) (.idx (.var 0) (.var 2))) (.var 3)))))
      .nil))
      (.cons (.ret (.mv 1))
      .nil)))⟩
theorem length_ok {xs : List Int} (hl : xs.length ≤ 16777216) : runF Γ w_length [LI xs] = some (.fz, .int (inv xs)) := by
  obtain ⟨s', h, j', t', e⟩ := forI_run (Γ := Γ) (j := 2) (body := (.cons (.asg (.nm 1) (.bin .add (.var 1) (.blt .len (.comp (.nm 3) (.slc (.var 0) .non (.var 2)) (.cmp .gt (.var 3) (.idx (.var 0) (.var 2))) (.var 3))))) .nil)) (it := .rng (.int 0) (.blt .len (.var 0)) (.int 1)) (o := .dp) (ys := upto xs.length) (σ := [some (.fz, LI xs), some (.fz, .int 0), none, none]) (by simp (disch := omega))
    (fun i s => ∃ j' t', s = [some (.fz, LI xs), some (.fz, .int (inv (xs.take i))), j', t']) (fun i hi s ⟨j1, t1, e⟩ => by
      subst e
      have hi' : i < xs.length := by simpa using hi
      have eu : (upto xs.length)[i] = (i : Int) := upto_get hi
      have ec := comp_ints (Γ := Γ) (σ := [some (.fz, LI xs), some (.fz, .int (inv (xs.take i))), some (.fz, .int i), t1]) (j := 3) (it := .slc (.var 0) .non (.var 2)) (c := .cmp .gt (.var 3) (.idx (.var 0) (.var 2))) (e := .var 3) (o := .dp)
        (xs.take (i : Int).toNat) (fun t => decide (t > itI xs i)) id (by simp [cut_to xs (show 0 ≤ (i : Int) by omega)]) (by rw [List.length_take]; omega) (fun y _ => by simp (disch := omega)) (fun y _ _ => by simp)
      rw [List.map_id] at ec
      have ei : inv (xs.take (i + 1)) = inv (xs.take i) + (grt xs i).length := by
        rw [inv_take xs (i + 1) (by omega), inv_take xs i (by omega), List.range_succ, List.map_append, List.sum_append, grt_len]
        simp
      refine ⟨_, .inl ?_, some (.fz, .int i), t1, rfl⟩
      rw [eu, ei]
      simp [ec, grt]) ⟨none, none, by simp [inv]⟩
  rw [upto_len, Int.toNat_natCast, List.take_length] at e
  subst e
  refine runF_of rfl rfl ?_
  simp [w_length, h]
/-! ### rows -/
def w_led (s : Nat) : Fn := ⟨"_law_led", 2, ["n", "row", "order", "i"],
    (.cons (.asg (.nm 2) (.blt .list (.rng (.int 0) (.var 0) (.int 1))))
      (.cons (.for_ (.nm 3) (.var 1) (.cons (.asg (.nm 2) (.call s (.cons (.var 2) (.cons (.var 3) (.cons (.bin .add (.var 3) (.int 1)) .nil)))))
      .nil))
      (.cons (.ret (.mv 2))
      .nil)))⟩
def Swaps (Γ : Cal) (s : Nat) : Prop := ∀ (xs : List Int) (i j : Int), 0 ≤ i → i < xs.length → 0 ≤ j → j < xs.length → Γ s [LI xs, .int i, .int j] = some (.dp, LI (swp xs i j))
theorem led_loop {s : Nat} (hs : Swaps Γ s) {n : Int} {row : List Int} (hr : RowOk n row) (hn : 0 ≤ n) : ∃ i', exec Γ (.for_ (.nm 3) (.var 1) (.cons (.asg (.nm 2) (.call s (.cons (.var 2) (.cons (.var 3) (.cons (.bin .add (.var 3) (.int 1)) .nil)))))
      .nil)) [some (.fz, .int n), some (.fz, LI row), some (.dp, LI (upto n)), none] = some (.nx [some (.fz, .int n), some (.fz, LI row), some (.dp, LI (led n row)), i']) := by
  obtain ⟨s', h, i', e⟩ := forI_run (Γ := Γ) (j := 3) (body := (.cons (.asg (.nm 2) (.call s (.cons (.var 2) (.cons (.var 3) (.cons (.bin .add (.var 3) (.int 1)) .nil))))) .nil)) (it := .var 1) (o := .fz) (ys := row) (σ := [some (.fz, .int n), some (.fz, LI row), some (.dp, LI (upto n)), none]) (by simp)
    (fun i s => ∃ i', s = [some (.fz, .int n), some (.fz, LI row), some (.dp, LI (led n (row.take i))), i']) (fun i hi s ⟨j1, e⟩ => by
      subst e
      have h0 := hr row[i] (List.getElem_mem _)
      have hl := led_len (n := n) (row.take i)
      refine ⟨_, .inl ?_, some (.fz, .int row[i]), rfl⟩
      have et : led n (row.take (i + 1)) = swp (led n (row.take i)) row[i] (row[i] + 1) := by
        have : row.take (i + 1) = row.take i ++ [row[i]] := by rw [List.take_succ, List.getElem?_eq_getElem hi]; rfl
        rw [this, led, ledF_app]; rfl
      rw [et]
      simp [hs (led n (row.take i)) row[i] (row[i] + 1) (by omega) (by omega) (by omega) (by omega)]) ⟨none, by simp [led, ledF]⟩
  rw [List.take_length] at e
  subst e
  exact ⟨i', h⟩
theorem led_ok {s : Nat} (hs : Swaps Γ s) {n : Int} {row : List Int} (hr : RowOk n row) (hn : 0 ≤ n) (hn2 : n ≤ 16777216) : runF Γ (w_led s) [.int n, LI row] = some (.dp, LI (led n row)) := by
  obtain ⟨i', h⟩ := led_loop hs hr hn
  simp (disch := omega) [runF, w_led, h]
def w_order_of_row (r s : Nat) : Fn := ⟨"order_of_row", 2, ["n", "row", "order", "i"],
    (.cons (.asg (.nm 2) (.call r (.cons (.var 0) .nil)))
      (.cons (.for_ (.nm 3) (.var 1) (.cons (.asg (.nm 2) (.call s (.cons (.var 2) (.cons (.var 3) (.cons (.bin .add (.var 3) (.int 1)) .nil)))))
      .nil))
      (.cons (.ret (.mv 2))
      .nil)))⟩
theorem order_of_row_ok {r s : Nat} (hs : Swaps Γ s) (hr0 : ∀ n : Int, 0 ≤ n → n ≤ 16777216 → Γ r [.int n] = some (.dp, LI (upto n))) {n : Int} {row : List Int} (hr : RowOk n row) (hn : 0 ≤ n) (hn2 : n ≤ 16777216) : runF Γ (w_order_of_row r s) [.int n, LI row] = some (.dp, LI (led n row)) := by
  obtain ⟨i', h⟩ := led_loop hs hr hn
  simp (disch := omega) [runF, w_order_of_row, hr0 n hn hn2, h]
/-! ### drawn orders -/
def w_order : Fn := ⟨"_law_order", 3, ["draws", "at", "n", "found", "k"],
    (.cons (.asg (.nm 3) (.lst .nil))
      (.cons (.for_ (.nm 4) (.rng (.int 0) (.var 2) (.int 1)) (.cons (.ins 3 (.bin .mod (.bin .div (.idx (.var 0) (.bin .mod (.bin .add (.var 1) (.var 4)) (.blt .len (.var 0)))) (.int 7)) (.bin .add (.var 4) (.int 1))) (.var 4))
      .nil))
      (.cons (.ret (.mv 3))
      .nil)))⟩
theorem small_it {ds : List Int} (h : Small ds) {i : Int} (h0 : 0 ≤ i) (h1 : i < ds.length) : 0 ≤ itI ds i ∧ itI ds i < 1000003 := h _ (itI_mem h0 h1)
theorem emod_bd (a : Int) {b : Int} (h : 0 < b) : 0 ≤ a % b ∧ a % b < b := ⟨Int.emod_nonneg _ (by omega), Int.emod_lt_of_pos _ h⟩
theorem order_ok {ds : List Int} {at' n : Int} (hd : Small ds) (hl : 0 < ds.length) (hl2 : ds.length ≤ 1000) (ha : 0 ≤ at') (hn : 0 ≤ n) (hn2 : n ≤ 100000) : ∃ xs, runF Γ w_order [LI ds, .int at', .int n] = some (.dp, LI xs) ∧ List.Perm xs (upto n) := by
  obtain ⟨s', h, xs, k', e, p⟩ := forI_run (Γ := Γ) (j := 4) (body := (.cons (.ins 3 (.bin .mod (.bin .div (.idx (.var 0) (.bin .mod (.bin .add (.var 1) (.var 4)) (.blt .len (.var 0)))) (.int 7)) (.bin .add (.var 4) (.int 1))) (.var 4)) .nil)) (it := .rng (.int 0) (.var 2) (.int 1)) (o := .dp) (ys := upto n) (σ := [some (.fz, LI ds), some (.fz, .int at'), some (.fz, .int n), some (.dp, .list []), none]) (by simp (disch := omega))
    (fun i s => ∃ xs k', s = [some (.fz, LI ds), some (.fz, .int at'), some (.fz, .int n), some (.dp, LI xs), k'] ∧ List.Perm xs (upto i)) (fun i hi s ⟨xs, k1, e, p⟩ => by
      subst e
      have hi' : i < n.toNat := by simpa using hi
      have eu : (upto n)[i] = (i : Int) := upto_get hi
      rw [eu]
      have hx : xs.length = i := by rw [p.length_eq, upto_len]; omega
      have m1 := emod_bd (at' + i) (b := ds.length) (by omega)
      have m2 := small_it hd m1.1 m1.2
      have m3 := emod_bd (itI ds ((at' + i) % ds.length) / 7) (b := (i : Int) + 1) (by omega)
      refine ⟨_, .inl (by simp (disch := omega)), xs.take (itI ds ((at' + i) % ds.length) / 7 % ((i : Int) + 1)).toNat ++ (i : Int) :: xs.drop (itI ds ((at' + i) % ds.length) / 7 % ((i : Int) + 1)).toNat, some (.fz, .int i), rfl, ?_⟩
      rw [Int.natCast_add, Int.natCast_one, upto_succ (by omega)]
      generalize (itI ds ((at' + i) % ds.length) / 7 % ((i : Int) + 1)).toNat = q
      have p2 : List.Perm (List.take q xs ++ (i : Int) :: List.drop q xs) ((i : Int) :: (List.take q xs ++ List.drop q xs)) := List.perm_middle
      rw [List.take_append_drop] at p2
      exact p2.trans ((p.cons _).trans (List.perm_append_singleton _ _).symm)) ⟨[], none, rfl, List.Perm.refl _⟩
  subst e
  rw [upto_len, Int.toNat_of_nonneg hn] at p
  exact ⟨xs, by simp (disch := first | omega | (simp; done) | (simp; omega)) [runF, w_order, h], p⟩
def w_some_n : Fn := ⟨"_law_some_n", 4, ["draws", "at", "most", "great"],
    (.cons (.ite (.cmp .eq (.bin .mod (.bin .div (.idx (.var 0) (.bin .mod (.bin .add (.var 1) (.int 1)) (.blt .len (.var 0)))) (.int 3)) (.int 8)) (.int 5)) (.cons (.ret (.bin .add (.int 1) (.bin .mod (.bin .div (.idx (.var 0) (.bin .mod (.var 1) (.blt .len (.var 0)))) (.int 5)) (.var 3))))
      .nil) .nil)
      (.cons (.ret (.bin .add (.int 1) (.bin .mod (.bin .div (.idx (.var 0) (.bin .mod (.var 1) (.blt .len (.var 0)))) (.int 5)) (.var 2))))
      .nil))⟩
theorem some_n_ok {ds : List Int} {at' most great : Int} (hd : Small ds) (hl : 0 < ds.length) (ha : 0 ≤ at') (h1 : 0 < most) (h2 : most ≤ great) : ∃ n, runF Γ w_some_n [LI ds, .int at', .int most, .int great] = some (.fz, .int n) ∧ 1 ≤ n ∧ n ≤ great := by
  have m1 := emod_bd (at' + 1) (b := ds.length) (by omega)
  have m2 := emod_bd at' (b := ds.length) (by omega)
  have a1 := emod_bd (itI ds (at' % ds.length) / 5) (b := great) (by omega)
  have a2 := emod_bd (itI ds (at' % ds.length) / 5) (b := most) (by omega)
  by_cases h : itI ds ((at' + 1) % ds.length) / 3 % 8 = 5
  · exact ⟨1 + itI ds (at' % ds.length) / 5 % great, by simp (disch := omega) [runF, w_some_n, h], by omega, by omega⟩
  · exact ⟨1 + itI ds (at' % ds.length) / 5 % most, by simp (disch := omega) [runF, w_some_n, h], by omega, by omega⟩
end
end Sp
end

section
set_option Elab.async false
set_option linter.all false
set_option maxRecDepth 100000
set_option maxHeartbeats 4000000
/-! Equality of data; the laws' _law_same; loops over rows. -/
namespace Sp
open Sw
open PySem (PyData Str)
/-- the statements behind the first k -/
def tailS : Nat → Stms → Stms
  | 0, b => b
  | _ + 1, .nil => .nil
  | k + 1, .cons _ b => tailS k b
theorem gam_s {P : List Fn} {f n : Nat} {F : Fn} {ds : List PyData} (h : P[f]? = some F) : Gam P (n + 1) f ds = runF (Gam P n) F ds := by
  show (P[f]?).bind (fun F => runF (Gam P n) F ds) = _
  rw [h]; rfl
/-- what a function answers -/
theorem gam_o {P : List Fn} {f n : Nat} {F : Fn} {ds : List PyData} {out : Option (Own × PyData)} (h : P[f]? = some F) (h2 : runF (Gam P n) F ds = out) : Gam P (n + 1) f ds = out := (gam_s h).trans h2
def frA (σ : S) (i : Nat) : Option Slot → S
  | some s => σ.set i (fzSlot s)
  | none => σ
@[simp] theorem fr_cons (σ : S) (i : Nat) (is : List Nat) : freezeL σ (i :: is) = freezeL (frA σ i σ[i]?) is := by
  rw [freezeL]
  unfold frA
  cases σ[i]? <;> rfl
@[simp] theorem frA_s (σ : S) (i : Nat) (s : Slot) : frA σ i (some s) = σ.set i (fzSlot s) := rfl
@[simp] theorem fz_s (o : Own) (d : PyData) : fzSlot (some (o, d)) = some (.fz, d) := rfl
@[simp] theorem fz_n : fzSlot none = none := rfl
/-! ### equality -/
theorem canAll_int (xs : List Int) : PyData.canLayAll0 (xs.map .int) = true := by
  induction xs with
  | nil => rfl
  | cons x xs ih => simp only [List.map_cons, PyData.canLayAll0, ih, PyData.canLay0, Bool.and_self]
theorem depthAll_int (xs : List Int) : PyData.depthAll (xs.map .int) ≤ 1 := by
  induction xs with
  | nil => exact Nat.zero_le _
  | cons x xs ih => simp only [List.map_cons, PyData.depthAll, PyData.depth]; omega
theorem shp_iff {d : PyData} : shp d = (d.canLay0 && decide (d.depth ≤ 64)) := rfl
@[simp] theorem shp_i (i : Int) : shp (.int i) = true := rfl
@[simp] theorem shp_b (i : Bool) : shp (.bool i) = true := rfl
@[simp] theorem shp_n : shp .none = true := rfl
@[simp] theorem shp_LI (xs : List Int) : shp (.list (xs.map .int)) = true := by
  have := depthAll_int xs
  rw [shp_iff, PyData.canLay0, canAll_int, PyData.depth]
  simp; omega
@[simp] theorem shp_nil : shp (.list []) = true := rfl
@[simp] theorem eqvAll_int (xs ys : List Int) : PyData.eqvAll (xs.map .int) (ys.map .int) = decide (xs = ys) := by
  induction xs generalizing ys with
  | nil => cases ys <;> simp [PyData.eqvAll]
  | cons x xs ih => cases ys with
    | nil => simp [PyData.eqvAll]
    | cons y ys =>
      simp only [List.map_cons, PyData.eqvAll, PyData.eqv, ih]
      by_cases h1 : x = y <;> by_cases h2 : xs = ys <;> simp [h1, h2]
theorem eqv_LI (xs ys : List Int) : PyData.eqv (LI xs) (LI ys) = decide (xs = ys) := by
  rw [PyData.eqv, eqvAll_int]
@[simp] theorem c_eqL (xs ys : List Int) : cmpD .eq (.list (xs.map .int)) (.list (ys.map .int)) = some (decide (xs = ys)) := by
  rw [cm_eq (shp_LI xs) (shp_LI ys), eqv_LI]
@[simp] theorem c_neL (xs ys : List Int) : cmpD .ne (.list (xs.map .int)) (.list (ys.map .int)) = some (!decide (xs = ys)) := by
  rw [cm_ne (shp_LI xs) (shp_LI ys), eqv_LI]
@[simp] theorem c_eqB (x y : Bool) : cmpD .eq (.bool x) (.bool y) = some (x == y) := by
  rw [cm_eq rfl rfl]; rfl
@[simp] theorem c_neB (x y : Bool) : cmpD .ne (.bool x) (.bool y) = some (!(x == y)) := by
  rw [cm_ne rfl rfl]; rfl
mutual
theorem eqv_self : ∀ d : PyData, d.canLay0 = true → PyData.eqv d d = true
  | .none, _ => rfl
  | .bool b, _ => by simp [PyData.eqv]
  | .int i, _ => by simp [PyData.eqv]
  | .str x, _ => by simp [PyData.eqv]
  | .list xs, h => by rw [PyData.canLay0] at h; rw [PyData.eqv]; exact eqvAll_self xs h
  | .tuple xs, h => by rw [PyData.canLay0] at h; rw [PyData.eqv]; exact eqvAll_self xs h
  | .dict _, h => by simp [PyData.canLay0] at h
theorem eqvAll_self : ∀ ds : List PyData, PyData.canLayAll0 ds = true → PyData.eqvAll ds ds = true
  | [], _ => by simp [PyData.eqvAll]
  | x :: xs, h => by
    rw [PyData.canLayAll0, Bool.and_eq_true] at h
    rw [PyData.eqvAll, eqv_self x h.1, eqvAll_self xs h.2]; rfl
end
theorem c_self {d : PyData} (h : shp d = true) : cmpD .eq d d = some true := by
  rw [cm_eq h h, eqv_self d (by rw [shp_iff, Bool.and_eq_true] at h; exact h.1)]
theorem c_selfN {d : PyData} (h : shp d = true) : cmpD .ne d d = some false := by
  rw [cm_ne h h, eqv_self d (by rw [shp_iff, Bool.and_eq_true] at h; exact h.1)]; rfl
@[simp] theorem mk_d (d : PyData) (o : Own) (al : List Nat) : (mk d o al).d = d := by unfold mk; split <;> rfl
@[simp] theorem newL_rev (xs : List Int) (al : List Nat) : newL (xs.map .int).reverse al = ⟨LI xs.reverse, .dp, []⟩ := by
  rw [← List.map_reverse]; exact newL_int _ _
theorem newL_np {xs : List PyData} {al : List Nat} (h : plains xs = false) : newL xs al = ⟨.list xs, .sh, al⟩ := if_neg (by rw [h]; simp)
theorem listOf_np {rs : List R} {al : List Nat} (h : rs.all R.ok = false) : listOf rs al = ⟨.list (rs.map R.d), .sh, al ++ rs.flatMap R.al⟩ := by unfold listOf; rw [if_neg (by rw [h]; simp)]
@[simp] theorem b_cat0 (xs : List Int) (h : xs.length ≤ 16777216) (o p : Own) (al bl : List Nat) : binD .add ⟨LI xs, o, al⟩ ⟨.list [], p, bl⟩ = some ⟨LI xs, .dp, []⟩ := by
  have := b_cat xs [] (by simpa using h) o p al bl
  rw [List.append_nil] at this
  exact this
@[simp] theorem b_cat1 (xs : List Int) (y : Int) (h : xs.length < 16777216) (o p : Own) (al bl : List Nat) : binD .add ⟨LI xs, o, al⟩ ⟨.list [.int y], p, bl⟩ = some ⟨LI (xs ++ [y]), .dp, []⟩ :=
  b_cat xs [y] (by simp; omega) o p al bl
theorem c_cat (xs ys : List PyData) (h : xs.length + ys.length ≤ 16777216) (o p : Own) (al bl : List Nat) : binD .add ⟨.list xs, o, al⟩ ⟨.list ys, p, bl⟩ = some (newL (xs ++ ys) (al ++ bl)) := if_pos h
theorem c_catN (xs ys : List PyData) (hx : plains xs = false) (h : xs.length + ys.length ≤ 16777216) (o p : Own) (al bl : List Nat) : binD .add ⟨.list xs, o, al⟩ ⟨.list ys, p, bl⟩ = some ⟨.list (xs ++ ys), .sh, al ++ bl⟩ := by
  rw [c_cat xs ys h, newL_np (by rw [plains_append, hx]; rfl)]
section
variable {Γ : Cal} {σ : S}
def isBO (b : Bool) : Option R → Option R
  | some ⟨.bool k, _, _⟩ => FI (.bool (decide (k = b)))
  | _ => none
@[simp] theorem e_isB (a : Ex) (b : Bool) : ev Γ (.isB a b) σ = isBO b (ev Γ a σ) := by
  simp only [ev]
  rcases ev Γ a σ with _ | ⟨d, o, al⟩
  · rfl
  · cases d <;> rfl
@[simp] theorem isBO_s (b k : Bool) (o : Own) (al : List Nat) : isBO b (some ⟨.bool k, o, al⟩) = FI (.bool (decide (k = b))) := rfl
def notBO (b : Bool) : Option R → Option R
  | some ⟨.bool k, _, _⟩ => FI (.bool (!decide (k = b)))
  | _ => none
@[simp] theorem e_notB (a : Ex) (b : Bool) : ev Γ (.notB a b) σ = notBO b (ev Γ a σ) := by
  simp only [ev]
  rcases ev Γ a σ with _ | ⟨d, o, al⟩
  · rfl
  · cases d <;> rfl
@[simp] theorem notBO_s (b k : Bool) (o : Own) (al : List Nat) : notBO b (some ⟨.bool k, o, al⟩) = FI (.bool (!decide (k = b))) := rfl
theorem for_np {tg : Tg} {it : Ex} {body : Stms} {d : PyData} {xs : List PyData} {o : Own} {al : List Nat} (h : ev Γ it σ = some ⟨d, o, al⟩) (hi : items d = some xs) (hp : plains xs = false) : exec Γ (.for_ tg it body) σ = forL (stepF Γ tg body) xs (freezeL σ al) := by
  simp only [exec, h, Option.bind_some, hi]
  rw [if_neg (by rw [hp]; simp)]
  rfl
theorem for_lk {tg : Tg} {it : Ex} {body : Stms} {d : PyData} {xs : List PyData} {o : Own} {al : List Nat} (h : ev Γ it σ = some ⟨d, o, al⟩) (hi : items d = some xs) (hp : plains xs = true) : exec Γ (.for_ tg it body) σ = (forL (stepF Γ tg body) xs ((al.filter fun i => isOpen σ[i]?).foldl lockAt σ)).map fun o => o.map ((al.filter fun i => isOpen σ[i]?).foldl unlockAt) := by
  simp only [exec, h, Option.bind_some, hi]
  rw [if_pos hp]
  rfl
/-- a loop over data that are no plain ones -/
theorem forA_run {α : Type} (enc : α → PyData) {j : Nat} {body : Stms} {it : Ex} {o : Own} {al : List Nat} {ys : List α} (hit : ev Γ it σ = some ⟨.list (ys.map enc), o, al⟩) (hnp : plains (ys.map enc) = false) (P : Nat → S → Prop)
    (hs : ∀ (i : Nat) (h : i < ys.length) (s : S), P i s → ∃ s', (execs Γ body (s.set j (some (.fz, enc ys[i]))) = some (.nx s') ∨ execs Γ body (s.set j (some (.fz, enc ys[i]))) = some (.ct s')) ∧ P (i + 1) s') (h0 : P 0 (freezeL σ al)) :
    ∃ s', exec Γ (.for_ (.nm j) it body) σ = some (.nx s') ∧ P ys.length s' := by
  obtain ⟨s', h, p⟩ := forL_inv (step := stepF Γ (.nm j) body) (xs := ys.map enc) P (fun i hi s p => by
    have hi' : i < ys.length := by simpa using hi
    obtain ⟨s', h, p'⟩ := hs i hi' s p
    refine ⟨s', ?_, p'⟩
    rw [List.getElem_map]
    exact h) _ h0
  exact ⟨s', by rw [for_np hit rfl hnp, h], by simpa using p⟩
/-- a loop over plain data that no slot keeps -/
theorem forP_run {α : Type} (enc : α → PyData) {j : Nat} {body : Stms} {it : Ex} {o : Own} {ys : List α} (hit : ev Γ it σ = some ⟨.list (ys.map enc), o, []⟩) (P : Nat → S → Prop)
    (hs : ∀ (i : Nat) (h : i < ys.length) (s : S), P i s → ∃ s', (execs Γ body (s.set j (some (.fz, enc ys[i]))) = some (.nx s') ∨ execs Γ body (s.set j (some (.fz, enc ys[i]))) = some (.ct s')) ∧ P (i + 1) s') (h0 : P 0 σ) :
    ∃ s', exec Γ (.for_ (.nm j) it body) σ = some (.nx s') ∧ P ys.length s' := by
  obtain ⟨s', h, p⟩ := forL_inv (step := stepF Γ (.nm j) body) (xs := ys.map enc) P (fun i hi s p => by
    have hi' : i < ys.length := by simpa using hi
    obtain ⟨s', h, p'⟩ := hs i hi' s p
    refine ⟨s', ?_, p'⟩
    rw [List.getElem_map]
    exact h) _ h0
  exact ⟨s', by rw [for_plain hit rfl, h], by simpa using p⟩
/-! ### _law_same -/
def w_is_number : Fn := ⟨"_law_is_number", 1, ["value"],
    (.cons (.ret (.and (.isi (.var 0) .int) (.not (.isi (.var 0) .bool))))
      .nil)⟩
theorem is_number_int (i : Int) : runF Γ w_is_number [.int i] = some (.fz, .bool true) := by
  simp [runF, w_is_number, isiD]
def w_same (nu s : Nat) : Fn := ⟨"_law_same", 2, ["told", "due", "k"],
    (.cons (.ite (.tru (.isi (.var 1) .bool)) (.cons (.ret (.and (.isi (.var 0) .bool) (.cmp .eq (.var 0) (.var 1))))
      .nil) .nil)
      (.cons (.ite (.tru (.isi (.var 1) .int)) (.cons (.ret (.and (.call nu (.cons (.var 0) .nil)) (.cmp .eq (.var 0) (.var 1))))
      .nil) .nil)
      (.cons (.ite (.tru (.isi (.var 1) .str)) (.cons (.ret (.and (.isi (.var 0) .str) (.cmp .eq (.var 0) (.var 1))))
      .nil) .nil)
      (.cons (.ite (.isN (.var 1)) (.cons (.ret (.isN (.var 0)))
      .nil) .nil)
      (.cons (.ite (.and (.tru (.isi (.var 1) .tuple)) (.not (.tru (.isi (.var 0) .tuple)))) (.cons (.ret (.bl false))
      .nil) .nil)
      (.cons (.ite (.and (.tru (.isi (.var 1) .list)) (.not (.tru (.isi (.var 0) .list)))) (.cons (.ret (.bl false))
      .nil) .nil)
      (.cons (.ite (.cmp .ne (.blt .len (.var 0)) (.blt .len (.var 1))) (.cons (.ret (.bl false))
      .nil) .nil)
      (.cons (.for_ (.nm 2) (.rng (.int 0) (.blt .len (.var 1)) (.int 1)) (.cons (.ite (.not (.tru (.call s (.cons (.idx (.var 0) (.var 2)) (.cons (.idx (.var 1) (.var 2)) .nil))))) (.cons (.ret (.bl false))
      .nil) .nil)
      .nil))
      (.cons (.ret (.bl true))
      .nil)))))))))⟩
def Sm (Γ : Cal) (s : Nat) (d : PyData) : Prop := Γ s [d, d] = some (.fz, .bool true)
theorem same_int {nu s : Nat} (hn : ∀ i : Int, Γ nu [.int i] = some (.fz, .bool true)) (i : Int) : runF Γ (w_same nu s) [.int i, .int i] = some (.fz, .bool true) := by
  simp [runF, w_same, isiD, hn]
theorem same_bool {nu s : Nat} (b : Bool) : runF Γ (w_same nu s) [.bool b, .bool b] = some (.fz, .bool true) := by
  simp [runF, w_same, isiD]
theorem same_none {nu s : Nat} : runF Γ (w_same nu s) [.none, .none] = some (.fz, .bool true) := by
  simp [runF, w_same, isiD, isNone]
theorem mk_lf (xs : List PyData) (al : List Nat) : mk (.list xs) .fz al = ⟨.list xs, .fz, al⟩ := rfl
theorem idx_L {xs : List PyData} {i : Nat} (h : i < xs.length) : idxD (.list xs) (.int i) = some xs[i] := by
  show (ix xs.length i).bind (fun j => xs[j]?) = some xs[i]
  rw [ix_in (by omega) (by omega)]
  simp [List.getElem?_eq_getElem h]
theorem idx_T {xs : List PyData} {i : Nat} (h : i < xs.length) : idxD (.tuple xs) (.int i) = some xs[i] := by
  show (ix xs.length i).bind (fun j => xs[j]?) = some xs[i]
  rw [ix_in (by omega) (by omega)]
  simp [List.getElem?_eq_getElem h]
theorem same_list {nu s : Nat} {xs : List PyData} (h : ∀ x ∈ xs, Sm Γ s x) (hl : xs.length ≤ 16777216) : runF Γ (w_same nu s) [.list xs, .list xs] = some (.fz, .bool true) := by
  obtain ⟨s', h', k', e⟩ := forI_run (Γ := Γ) (j := 2) (body := (.cons (.ite (.not (.tru (.call s (.cons (.idx (.var 0) (.var 2)) (.cons (.idx (.var 1) (.var 2)) .nil))))) (.cons (.ret (.bl false)) .nil) .nil) .nil)) (it := .rng (.int 0) (.blt .len (.var 1)) (.int 1)) (o := .dp) (ys := upto xs.length) (σ := [some (.fz, .list xs), some (.fz, .list xs), none]) (by simp (disch := omega))
    (fun i s => ∃ k', s = [some (.fz, .list xs), some (.fz, .list xs), k']) (fun i hi t ⟨k1, e⟩ => by
      subst e
      have hi' : i < xs.length := by simpa using hi
      have h0 := h xs[i] (List.getElem_mem _)
      unfold Sm at h0
      rw [upto_get hi]
      refine ⟨_, .inl ?_, some (.fz, .int i), rfl⟩
      simp [idx_L hi', h0]) ⟨none, rfl⟩
  subst e
  simp [runF, w_same, isiD, isNone, h']
theorem same_tup {nu s : Nat} {xs : List PyData} (h : ∀ x ∈ xs, Sm Γ s x) (hl : xs.length ≤ 16777216) : runF Γ (w_same nu s) [.tuple xs, .tuple xs] = some (.fz, .bool true) := by
  have em : ∀ al, (mk (.tuple xs) .fz al) = ⟨.tuple xs, .fz, if plains xs then [] else al⟩ := fun al => by
    unfold mk
    cases q : plains xs <;> simp [plain, q]
  obtain ⟨s', h', k', e⟩ := forI_run (Γ := Γ) (j := 2) (body := (.cons (.ite (.not (.tru (.call s (.cons (.idx (.var 0) (.var 2)) (.cons (.idx (.var 1) (.var 2)) .nil))))) (.cons (.ret (.bl false)) .nil) .nil) .nil)) (it := .rng (.int 0) (.blt .len (.var 1)) (.int 1)) (o := .dp) (ys := upto xs.length) (σ := [some (.fz, .tuple xs), some (.fz, .tuple xs), none]) (by simp (disch := omega) [em])
    (fun i s => ∃ k', s = [some (.fz, .tuple xs), some (.fz, .tuple xs), k']) (fun i hi t ⟨k1, e⟩ => by
      subst e
      have hi' : i < xs.length := by simpa using hi
      have h0 := h xs[i] (List.getElem_mem _)
      unfold Sm at h0
      rw [upto_get hi]
      refine ⟨_, .inl ?_, some (.fz, .int i), rfl⟩
      simp [em, idx_T hi', h0]) ⟨none, rfl⟩
  subst e
  simp [runF, w_same, isiD, isNone, h', em]
theorem RowOk.nil {n : Int} : RowOk n [] := fun k hk => by cases hk
theorem RowOk.cons {n x : Int} {a : List Int} (h0 : 0 ≤ x) (h1 : x + 1 < n) (h : RowOk n a) : RowOk n (x :: a) := fun k hk => by
  rcases List.mem_cons.mp hk with z | z
  · omega
  · exact h k z
theorem RowOk.app {n : Int} {a b : List Int} (h : RowOk n a) (h' : RowOk n b) : RowOk n (a ++ b) := fun k hk => by
  rcases List.mem_append.mp hk with z | z
  · exact h k z
  · exact h' k z
theorem RowOk.take {n : Int} {a : List Int} (h : RowOk n a) (k : Nat) : RowOk n (a.take k) := fun x hx => h x (List.mem_of_mem_take hx)
theorem RowOk.drop {n : Int} {a : List Int} (h : RowOk n a) (k : Nat) : RowOk n (a.drop k) := fun x hx => h x (List.mem_of_mem_drop hx)
theorem RowOk.tail {n : Int} {a : List Int} (h : RowOk n a) : RowOk n a.tail := fun x hx => h x (List.mem_of_mem_tail hx)
theorem RowOk.rev {n : Int} {a : List Int} (h : RowOk n a) : RowOk n a.reverse := fun x hx => h x (List.mem_reverse.mp hx)
/-! ### _law_own_row -/
def w_own_row (ln sw : Nat) : Fn := ⟨"_law_own_row", 3, ["draws", "at", "order", "found", "current", "turn", "falls", "i"],
    (.cons (.asg (.nm 3) (.lst .nil))
      (.cons (.asg (.nm 4) (.blt .list (.var 2)))
      (.cons (.for_ (.nm 5) (.rng (.int 0) (.call ln (.cons (.var 2) .nil)) (.int 1)) (.cons (.asg (.nm 6) (.comp (.nm 7) (.rng (.int 0) (.bin .sub (.blt .len (.var 2)) (.int 1)) (.int 1)) (.cmp .gt (.idx (.var 4) (.var 7)) (.idx (.var 4) (.bin .add (.var 7) (.int 1)))) (.var 7)))
      (.cons (.asg (.nm 7) (.idx (.var 6) (.bin .mod (.bin .div (.idx (.var 0) (.bin .mod (.bin .add (.var 1) (.var 5)) (.blt .len (.var 0)))) (.int 11)) (.blt .len (.var 6)))))
      (.cons (.app 3 .nil (.var 7))
      (.cons (.asg (.nm 4) (.call sw (.cons (.var 4) (.cons (.var 7) (.cons (.bin .add (.var 7) (.int 1)) .nil)))))
      .nil)))))
      (.cons (.ret (.rev (.var 3)))
      .nil))))⟩
/-- the places where an order falls -/
def fallsOf (xs : List Int) : List Int := (upto ((xs.length : Int) - 1)).filter (fun i => decide (itI xs i > itI xs (i + 1)))
theorem mem_falls {xs : List Int} {i : Int} : i ∈ fallsOf xs ↔ 0 ≤ i ∧ i + 1 < xs.length ∧ itI xs i > itI xs (i + 1) := by
  unfold fallsOf
  rw [List.mem_filter, mem_upto]
  simp only [decide_eq_true_eq]
  omega
theorem falls_len (xs : List Int) : (fallsOf xs).length ≤ xs.length := by
  unfold fallsOf
  refine Nat.le_trans (List.length_filter_le _ _) ?_
  rw [upto_len]; omega
theorem falls_pos {xs : List Int} (h : 0 < inv xs) : 0 < (fallsOf xs).length := by
  obtain ⟨i, h1, h2, h3⟩ := falls_some h
  exact List.length_pos_of_mem (mem_falls.mpr ⟨h1, h2, h3⟩)
theorem own_row_step {sw : Nat} (hs : Swaps Γ sw) {ds : List Int} {at' t : Int} (hd : Small ds) (hl : 0 < ds.length) (ha : 0 ≤ at') (ht : 0 ≤ t) {xs cur fd : List Int} (hx : xs.length ≤ 1000) (hc : cur.length = xs.length) (hi : 0 < inv cur) (hf : fd.length ≤ 1000000) (a b : Slot) :
    ∃ i, i ∈ fallsOf cur ∧ execs Γ (.cons (.asg (.nm 6) (.comp (.nm 7) (.rng (.int 0) (.bin .sub (.blt .len (.var 2)) (.int 1)) (.int 1)) (.cmp .gt (.idx (.var 4) (.var 7)) (.idx (.var 4) (.bin .add (.var 7) (.int 1)))) (.var 7)))
      (.cons (.asg (.nm 7) (.idx (.var 6) (.bin .mod (.bin .div (.idx (.var 0) (.bin .mod (.bin .add (.var 1) (.var 5)) (.blt .len (.var 0)))) (.int 11)) (.blt .len (.var 6)))))
      (.cons (.app 3 .nil (.var 7))
      (.cons (.asg (.nm 4) (.call sw (.cons (.var 4) (.cons (.var 7) (.cons (.bin .add (.var 7) (.int 1)) .nil)))))
      .nil)))) [some (.fz, LI ds), some (.fz, .int at'), some (.fz, LI xs), some (.dp, LI fd), some (.dp, LI cur), some (.fz, .int t), a, b] =
    some (.nx [some (.fz, LI ds), some (.fz, .int at'), some (.fz, LI xs), some (.dp, LI (fd ++ [i])), some (.dp, LI (swp cur i (i + 1))), some (.fz, .int t), some (.dp, LI (fallsOf cur)), some (.fz, .int i)]) := by
  have ef := comp_ints (Γ := Γ) (σ := [some (.fz, LI ds), some (.fz, .int at'), some (.fz, LI xs), some (.dp, LI fd), some (.dp, LI cur), some (.fz, .int t), a, b]) (j := 7) (it := .rng (.int 0) (.bin .sub (.blt .len (.var 2)) (.int 1)) (.int 1)) (c := .cmp .gt (.idx (.var 4) (.var 7)) (.idx (.var 4) (.bin .add (.var 7) (.int 1)))) (e := .var 7) (o := .dp)
    (upto ((cur.length : Int) - 1)) (fun i => decide (itI cur i > itI cur (i + 1))) id (by rw [hc]; simp (disch := omega)) (by rw [upto_len]; omega) (fun y hy => by
      have := mem_upto.mp hy
      simp (disch := omega)) (fun y _ _ => by simp)
  rw [List.map_id] at ef
  have ef' : ev Γ (.comp (.nm 7) (.rng (.int 0) (.bin .sub (.blt .len (.var 2)) (.int 1)) (.int 1)) (.cmp .gt (.idx (.var 4) (.var 7)) (.idx (.var 4) (.bin .add (.var 7) (.int 1)))) (.var 7)) [some (.fz, LI ds), some (.fz, .int at'), some (.fz, LI xs), some (.dp, LI fd), some (.dp, LI cur), some (.fz, .int t), a, b] = some ⟨LI (fallsOf cur), .dp, []⟩ := ef
  have hp := falls_pos hi
  have m1 := emod_bd (at' + t) (b := ds.length) (by omega)
  have m2 := small_it hd m1.1 m1.2
  have m3 := emod_bd (itI ds ((at' + t) % ds.length) / 11) (b := (fallsOf cur).length) (by omega)
  refine ⟨itI (fallsOf cur) (itI ds ((at' + t) % ds.length) / 11 % (fallsOf cur).length), itI_mem m3.1 m3.2, ?_⟩
  have mi := mem_falls.mp (itI_mem m3.1 m3.2)
  generalize ei : itI (fallsOf cur) (itI ds ((at' + t) % ds.length) / 11 % (fallsOf cur).length) = i at mi
  have e2 := hs cur i (i + 1) mi.1 (by omega) (by omega) mi.2.1
  simp (disch := omega) [ef', ei, e2]
theorem own_row_ok {ln sw : Nat} (hs : Swaps Γ sw) (hln : ∀ xs : List Int, xs.length ≤ 16777216 → Γ ln [LI xs] = some (.fz, .int (inv xs))) {ds xs : List Int} {at' : Int} (hd : Small ds) (hl : 0 < ds.length) (ha : 0 ≤ at') (hx : xs.length ≤ 1000) :
    ∃ row, runF Γ (w_own_row ln sw) [LI ds, .int at', LI xs] = some (.dp, LI row) ∧ RowOk xs.length row ∧ row.length = inv xs := by
  have hb := inv_le xs
  have hb2 : xs.length * xs.length ≤ 1000 * 1000 := Nat.mul_le_mul hx hx
  obtain ⟨s', h, fd, cur, t', a', b', e, p1, p2, p3, p4⟩ := forI_run (Γ := Γ) (j := 5) (body := (.cons (.asg (.nm 6) (.comp (.nm 7) (.rng (.int 0) (.bin .sub (.blt .len (.var 2)) (.int 1)) (.int 1)) (.cmp .gt (.idx (.var 4) (.var 7)) (.idx (.var 4) (.bin .add (.var 7) (.int 1)))) (.var 7)))
      (.cons (.asg (.nm 7) (.idx (.var 6) (.bin .mod (.bin .div (.idx (.var 0) (.bin .mod (.bin .add (.var 1) (.var 5)) (.blt .len (.var 0)))) (.int 11)) (.blt .len (.var 6)))))
      (.cons (.app 3 .nil (.var 7))
      (.cons (.asg (.nm 4) (.call sw (.cons (.var 4) (.cons (.var 7) (.cons (.bin .add (.var 7) (.int 1)) .nil)))))
      .nil))))) (it := .rng (.int 0) (.call ln (.cons (.var 2) .nil)) (.int 1)) (o := .dp) (ys := upto (inv xs)) (σ := [some (.fz, LI ds), some (.fz, .int at'), some (.fz, LI xs), some (.dp, .list []), some (.dp, LI xs), none, none, none]) (by simp (disch := omega) [hln xs (by omega)])
    (fun i s => ∃ fd cur t' a' b', s = [some (.fz, LI ds), some (.fz, .int at'), some (.fz, LI xs), some (.dp, LI fd), some (.dp, LI cur), t', a', b'] ∧ RowOk xs.length fd ∧ fd.length = i ∧ cur.length = xs.length ∧ inv cur + i = inv xs) (fun i hi s ⟨fd, cur, t1, a1, b1, e, q1, q2, q3, q4⟩ => by
      subst e
      have hi' : i < inv xs := by simpa using hi
      rw [upto_get hi]
      obtain ⟨j, m, r⟩ := own_row_step hs hd hl ha (t := (i : Int)) (by omega) hx q3 (show 0 < inv cur by omega) (fd := fd) (by omega) a1 b1
      have mj := mem_falls.mp m
      have sw := inv_swp (xs := cur) (i := j) mj.1 mj.2.1
      rw [if_pos mj.2.2, if_neg (by omega)] at sw
      refine ⟨_, .inl r, fd ++ [j], swp cur j (j + 1), some (.fz, .int i), _, _, rfl, ?_, by simp [q2], by simp [q3], by omega⟩
      intro k hk
      rcases List.mem_append.mp hk with z | z
      · exact q1 k z
      · rw [List.mem_singleton.mp z]; omega) ⟨[], xs, none, none, none, rfl, (fun k hk => by cases hk), rfl, rfl, by omega⟩
  subst e
  refine ⟨fd.reverse, by simp (disch := first | omega | (simp; done) | (simp; omega)) [runF, w_own_row, h], fun k hk => p1 k (List.mem_reverse.mp hk), by rw [List.length_reverse, p2, upto_len]; omega⟩
end
end Sp
end

section
set_option Elab.async false
set_option linter.all false
set_option maxRecDepth 100000
set_option maxHeartbeats 4000000
/-! Falls and shortest rows. -/
namespace Sp
open Sw
open PySem (PyData Str)
/-! ### sorted lists -/
theorem sorted_eq : ∀ {xs ys : List Int}, xs.Pairwise (· ≤ ·) → ys.Pairwise (· ≤ ·) → List.Perm xs ys → xs = ys
  | [], ys, _, _, p => (List.Perm.nil_eq p)
  | x :: xs, [], _, _, p => by simpa using p.length_eq
  | x :: xs, y :: ys, h1, h2, p => by
    rw [List.pairwise_cons] at h1 h2
    have e : x = y := by
      have m1 : x ∈ y :: ys := p.mem_iff.mp (by simp)
      have m2 : y ∈ x :: xs := p.mem_iff.mpr (by simp)
      have a : y ≤ x := by
        rcases List.mem_cons.mp m1 with z | z
        · omega
        · exact h2.1 x z
      have b : x ≤ y := by
        rcases List.mem_cons.mp m2 with z | z
        · omega
        · exact h1.1 y z
      omega
    subst e
    rw [sorted_eq h1.2 h2.2 p.cons_inv]
theorem inv_zero : ∀ {xs : List Int}, inv xs = 0 ↔ xs.Pairwise (· ≤ ·)
  | [] => by simp [inv]
  | x :: xs => by
    rw [inv, List.pairwise_cons, ← inv_zero, Nat.add_eq_zero_iff, cntL, List.countP_eq_zero]
    constructor
    · rintro ⟨h, h'⟩
      exact ⟨fun y hy => by have := h y hy; simp at this; omega, h'⟩
    · rintro ⟨h, h'⟩
      exact ⟨fun y hy => by have := h y hy; simp; omega, h'⟩
theorem upto_lt (n : Int) : (upto n).Pairwise (· < ·) := by
  unfold upto
  rw [List.pairwise_map]
  exact List.pairwise_lt_range.imp (fun h => by omega)
theorem upto_le (n : Int) : (upto n).Pairwise (· ≤ ·) := (upto_lt n).imp (fun h => by omega)
theorem upto_nodup (n : Int) : (upto n).Nodup := (upto_lt n).imp (fun h => by omega)
theorem inv_upto0 (n : Int) : inv (upto n) = 0 := inv_zero.mpr (upto_le n)
theorem rest_of_inv {n : Int} {xs : List Int} (h : inv xs = 0) (p : List.Perm xs (upto n)) : xs = upto n := sorted_eq (inv_zero.mp h) (upto_le n) p
theorem nodup_ne {xs : List Int} (h : xs.Nodup) {i j : Int} (hi : 0 ≤ i) (hi2 : i < xs.length) (hj : 0 ≤ j) (hj2 : j < xs.length) (hne : i ≠ j) : itI xs i ≠ itI xs j := by
  have key : ∀ a b : Nat, (ha : a < xs.length) → (hb : b < xs.length) → a < b → itI xs a ≠ itI xs b := fun a b ha hb hab => by
    rw [itI_at ha, itI_at hb]
    exact (List.pairwise_iff_getElem.mp h) a b ha hb hab
  have e1 : i = (i.toNat : Int) := by omega
  have e2 : j = (j.toNat : Int) := by omega
  rw [e1, e2]
  rcases Nat.lt_or_ge i.toNat j.toNat with z | z
  · exact key _ _ (by omega) (by omega) z
  · exact fun e => key j.toNat i.toNat (by omega) (by omega) (by omega) e.symm
/-- each exchange of neighbours changes the length by one -/
theorem inv_fold {n : Int} : ∀ (row xs : List Int), RowOk n row → (xs.length : Int) = n → xs.Nodup → ∃ k : Nat, inv (ledF xs row) + 2 * k = inv xs + row.length
  | [], xs, _, _, _ => ⟨0, by simp [ledF]⟩
  | i :: row, xs, h, hl, hd => by
    have h0 := h i (by simp)
    obtain ⟨k, e⟩ := inv_fold row (swp xs i (i + 1)) (fun k hk => h k (by simp [hk])) (by simpa using hl) ((swp_perm h0.1 (by omega) (by omega) (by omega)).nodup_iff.mpr hd)
    have e2 := inv_swp (xs := xs) (i := i) h0.1 (by omega)
    have hne := nodup_ne hd (i := i) (j := i + 1) h0.1 (by omega) (by omega) (by omega) (by omega)
    have e3 : ledF xs (i :: row) = ledF (swp xs i (i + 1)) row := rfl
    rw [e3, List.length_cons]
    by_cases z : itI xs i > itI xs (i + 1)
    · rw [if_pos z, if_neg (by omega)] at e2
      exact ⟨k + 1, by omega⟩
    · rw [if_neg z, if_pos (by omega)] at e2
      exact ⟨k, by omega⟩
theorem inv_led {n : Int} (hn : 0 ≤ n) {row : List Int} (h : RowOk n row) : ∃ k : Nat, inv (led n row) + 2 * k = row.length := by
  obtain ⟨k, e⟩ := inv_fold row (upto n) h (by rw [upto_len]; omega) (upto_nodup n)
  rw [inv_upto0] at e
  exact ⟨k, by rw [led]; omega⟩
/-- the way back from a row -/
theorem ledF_back {n : Int} : ∀ (row xs : List Int), RowOk n row → (xs.length : Int) = n → ledF (ledF xs row) row.reverse = xs := fun row xs h hl => by
  rw [← ledF_app]; exact fold_back row xs h hl
section
variable {Γ : Cal} {σ : S}
theorem while_run {c : S → Option R} {body : S → Option Out} (P : Nat → S → Prop) (hend : ∀ s, P 0 s → c s = FI (.bool false)) (hstep : ∀ k s, P (k + 1) s → c s = FI (.bool true) ∧ ∃ s', (body s = some (.nx s') ∨ body s = some (.ct s')) ∧ P k s') :
    ∀ (k f : Nat) (s : S), k < f → P k s → ∃ s', whileL c body f s = some (.nx s') ∧ P 0 s'
  | _, 0, _, h, _ => by omega
  | 0, f + 1, s, _, p => ⟨s, by rw [whileL, hend s p]; rfl, p⟩
  | k + 1, f + 1, s, h, p => by
    obtain ⟨h1, s', h2, p'⟩ := hstep k s p
    obtain ⟨s2, h3, p2⟩ := while_run P hend hstep k f s' (by omega) p'
    refine ⟨s2, ?_, p2⟩
    rw [whileL, h1]
    rcases h2 with h2 | h2
    · show (body s).bind _ = _
      rw [h2]; exact h3
    · show (body s).bind _ = _
      rw [h2]; exact h3
theorem whileS_run {c : Ex} {body : Stms} (P : Nat → S → Prop) {k : Nat} (hk : k < 1000000) (hend : ∀ s, P 0 s → ev Γ c s = FI (.bool false)) (hstep : ∀ k s, P (k + 1) s → ev Γ c s = FI (.bool true) ∧ ∃ s', (execs Γ body s = some (.nx s') ∨ execs Γ body s = some (.ct s')) ∧ P k s') (h0 : P k σ) :
    ∃ s', exec Γ (.while_ c body) σ = some (.nx s') ∧ P 0 s' := by
  obtain ⟨s', h, p⟩ := while_run (c := ev Γ c) (body := execs Γ body) P hend hstep k WF σ (by unfold WF; omega) h0
  exact ⟨s', by simp only [exec]; exact h, p⟩
theorem comp_intsA {j : Nat} {it c e : Ex} {o : Own} {al : List Nat} (ys : List Int) (p : Int → Bool) (g : Int → Int) (hit : ev Γ it σ = some ⟨LI ys, o, al⟩) (hl : ys.length ≤ 16777216)
    (hc : ∀ y ∈ ys, ev Γ c ((freezeL σ al).set j (some (.fz, .int y))) = FI (.bool (p y))) (he : ∀ y ∈ ys, p y = true → ev Γ e ((freezeL σ al).set j (some (.fz, .int y))) = FI (.int (g y))) :
    ev Γ (.comp (.nm j) it c e) σ = some ⟨LI ((ys.filter p).map g), .dp, []⟩ := by
  rw [comp_pl (fun y => .int y) ys (fun y => (freezeL σ al).set j (some (.fz, .int y))) p (fun y => .int (g y)) hit rfl hl (fun y _ => rfl) hc he (fun y _ _ => rfl)]
  show some _ = some _
  simp [LI]
@[simp] theorem LI_nil : LI [] = .list [] := rfl
@[simp] theorem c_eq0 (xs : List Int) : cmpD .eq (.list (xs.map .int)) (.list []) = some (decide (xs = [])) := c_eqL xs []
@[simp] theorem c_ne0 (xs : List Int) : cmpD .ne (.list (xs.map .int)) (.list []) = some (!decide (xs = [])) := c_neL xs []
@[simp] theorem c_eq00 : cmpD .eq (.list []) (.list []) = some true := c_self rfl
@[simp] theorem c_ne00 : cmpD .ne (.list []) (.list []) = some false := c_selfN rfl
def w_falls : Fn := ⟨"falls", 1, ["order", "place"],
    (.cons (.ret (.comp (.nm 1) (.rng (.int 0) (.bin .sub (.blt .len (.var 0)) (.int 1)) (.int 1)) (.cmp .gt (.idx (.var 0) (.var 1)) (.idx (.var 0) (.bin .add (.var 1) (.int 1)))) (.var 1)))
      .nil)⟩
theorem falls_ok {xs : List Int} (hl : xs.length ≤ 16777216) : runF Γ w_falls [LI xs] = some (.dp, LI (fallsOf xs)) := by
  have ef := comp_ints (Γ := Γ) (σ := [some (.fz, LI xs), none]) (j := 1) (it := .rng (.int 0) (.bin .sub (.blt .len (.var 0)) (.int 1)) (.int 1)) (c := .cmp .gt (.idx (.var 0) (.var 1)) (.idx (.var 0) (.bin .add (.var 1) (.int 1)))) (e := .var 1) (o := .dp)
    (upto ((xs.length : Int) - 1)) (fun i => decide (itI xs i > itI xs (i + 1))) id (by simp (disch := omega)) (by rw [upto_len]; omega) (fun y hy => by
      have := mem_upto.mp hy
      simp (disch := omega)) (fun y _ _ => by simp)
  rw [List.map_id] at ef
  refine runF_of rfl rfl ?_
  simp [w_falls, ef, fallsOf]
def w_without_fall (ex : Nat) : Fn := ⟨"without_fall", 2, ["order", "i"],
    (.cons (.ret (.call ex (.cons (.var 0) (.cons (.var 1) (.cons (.bin .add (.var 1) (.int 1)) .nil)))))
      .nil)⟩
theorem without_ok {ex : Nat} (hs : Swaps Γ ex) {xs : List Int} {i : Int} (h0 : 0 ≤ i) (h1 : i + 1 < xs.length) : runF Γ (w_without_fall ex) [LI xs, .int i] = some (.dp, LI (swp xs i (i + 1))) := by
  have e := hs xs i (i + 1) h0 (by omega) (by omega) h1
  refine runF_of rfl rfl ?_
  simp [w_without_fall, e]
def Falls (Γ : Cal) (f : Nat) : Prop := ∀ xs : List Int, xs.length ≤ 16777216 → Γ f [LI xs] = some (.dp, LI (fallsOf xs))
def Without (Γ : Cal) (f : Nat) : Prop := ∀ (xs : List Int) (i : Int), 0 ≤ i → i + 1 < xs.length → Γ f [LI xs, .int i] = some (.dp, LI (swp xs i (i + 1)))
def w_shortest_row (fa wo : Nat) : Fn := ⟨"shortest_row", 1, ["order", "found", "current", "i"],
    (.cons (.asg (.nm 1) (.lst .nil))
      (.cons (.asg (.nm 2) (.blt .list (.var 0)))
      (.cons (.while_ (.cmp .gt (.blt .len (.call fa (.cons (.var 2) .nil))) (.int 0)) (.cons (.asg (.nm 3) (.idx (.call fa (.cons (.var 2) .nil)) (.int 0)))
      (.cons (.app 1 .nil (.var 3))
      (.cons (.asg (.nm 2) (.call wo (.cons (.var 2) (.cons (.var 3) .nil))))
      .nil))))
      (.cons (.ret (.rev (.var 1)))
      .nil))))⟩
theorem falls_nil {xs : List Int} (h : inv xs = 0) : fallsOf xs = [] := by
  apply List.eq_nil_iff_forall_not_mem.mpr
  intro i hi
  have m := mem_falls.mp hi
  have := inv_swp (xs := xs) (i := i) m.1 m.2.1
  rw [if_pos m.2.2, if_neg (by omega)] at this
  omega
theorem shortest_ok {fa wo : Nat} (hf : Falls Γ fa) (hw : Without Γ wo) {n : Int} {xs : List Int} (p : List.Perm xs (upto n)) (hn : 0 ≤ n) (hn2 : n ≤ 500) :
    ∃ row, runF Γ (w_shortest_row fa wo) [LI xs] = some (.dp, LI row) ∧ RowOk n row ∧ row.length = inv xs ∧ led n row = xs := by
  have hlen : (xs.length : Int) = n := by rw [p.length_eq, upto_len]; omega
  have hb : inv xs ≤ 500 * 500 := Nat.le_trans (inv_le xs) (Nat.mul_le_mul (show xs.length ≤ 500 by omega) (show xs.length ≤ 500 by omega))
  obtain ⟨s', h, fd, cur, i', e, q1, q2, q3, q4⟩ := whileS_run (Γ := Γ) (σ := [some (.fz, LI xs), some (.dp, .list []), some (.dp, LI xs), none]) (c := .cmp .gt (.blt .len (.call fa (.cons (.var 2) .nil))) (.int 0))
    (body := (.cons (.asg (.nm 3) (.idx (.call fa (.cons (.var 2) .nil)) (.int 0))) (.cons (.app 1 .nil (.var 3)) (.cons (.asg (.nm 2) (.call wo (.cons (.var 2) (.cons (.var 3) .nil)))) .nil))))
    (fun k s => ∃ fd cur i', s = [some (.fz, LI xs), some (.dp, LI fd), some (.dp, LI cur), i'] ∧ RowOk n fd ∧ cur = ledF xs fd ∧ inv cur = k ∧ fd.length + k = inv xs) (k := inv xs) (by omega)
    (fun s ⟨fd, cur, i', e, q1, q2, q3, q4⟩ => by
      subst e
      have hcl : cur.length = xs.length := by rw [q2, fold_len]
      have e1 := hf cur (by omega)
      rw [falls_nil q3] at e1
      simp [e1])
    (fun k s ⟨fd, cur, i', e, q1, q2, q3, q4⟩ => by
      subst e
      have hcl : cur.length = xs.length := by rw [q2, fold_len]
      have e1 := hf cur (by omega)
      have hp := falls_pos (xs := cur) (by omega)
      have m := mem_falls.mp (itI_mem (xs := fallsOf cur) (i := 0) (by omega) (by omega))
      have e2 := hw cur (itI (fallsOf cur) 0) m.1 m.2.1
      have e3 := inv_swp (xs := cur) (i := itI (fallsOf cur) 0) m.1 m.2.1
      rw [if_pos m.2.2, if_neg (by omega)] at e3
      refine ⟨by simp [e1, hp], _, .inl ?_, fd ++ [itI (fallsOf cur) 0], swp cur (itI (fallsOf cur) 0) (itI (fallsOf cur) 0 + 1), some (.fz, .int (itI (fallsOf cur) 0)), rfl, q1.app (.cons m.1 (by omega) .nil), by rw [ledF_app, ← q2]; rfl, by omega, by simp; omega⟩
      simp (disch := omega) [e1, e2]) ⟨[], xs, none, rfl, .nil, rfl, rfl, by simp⟩
  subst e
  have hc : cur = upto n := rest_of_inv q3 (by rw [q2]; exact (fold_perm fd xs q1 hlen).trans p)
  refine ⟨fd.reverse, ?_, q1.rev, by rw [List.length_reverse]; omega, ?_⟩
  · refine runF_of rfl rfl ?_
    simp (disch := first | omega | (simp; done) | fail) [w_shortest_row, h]
  · rw [led, ← hc, q2]
    exact ledF_back fd xs q1 hlen
/-! ### lists of numbers -/
def w_is_numbers (nu : Nat) : Fn := ⟨"_law_is_numbers", 1, ["value", "item"],
    (.cons (.ite (.not (.tru (.isi (.var 0) .list))) (.cons (.ret (.bl false))
      .nil) .nil)
      (.cons (.for_ (.nm 1) (.var 0) (.cons (.ite (.not (.tru (.call nu (.cons (.var 1) .nil)))) (.cons (.ret (.bl false))
      .nil) .nil)
      .nil))
      (.cons (.ret (.bl true))
      .nil)))⟩
theorem is_numbers_ok {nu : Nat} (hn : ∀ i : Int, Γ nu [.int i] = some (.fz, .bool true)) (xs : List Int) : runF Γ (w_is_numbers nu) [LI xs] = some (.fz, .bool true) := by
  obtain ⟨s', h, x', e⟩ := forI_run (Γ := Γ) (σ := [some (.fz, LI xs), none]) (j := 1) (it := .var 0) (o := .fz) (ys := xs) (body := (.cons (.ite (.not (.tru (.call nu (.cons (.var 1) .nil)))) (.cons (.ret (.bl false)) .nil) .nil) .nil)) (by simp)
    (fun i s => ∃ x', s = [some (.fz, LI xs), x']) (fun i hi s ⟨x', e⟩ => by
      subst e
      refine ⟨_, .inl ?_, some (.fz, .int xs[i]), rfl⟩
      simp [hn]) ⟨none, rfl⟩
  subst e
  refine runF_of rfl rfl ?_
  simp [w_is_numbers, isiD, h]
end
end Sp
end

section
set_option Elab.async false
set_option linter.all false
set_option maxRecDepth 100000
set_option maxHeartbeats 4000000
/-! Rows heaped. -/
namespace Sp
open Sw
open PySem (PyData Str)
theorem take_it {row : List Int} {k : Nat} (h : k < row.length) : row.take (k + 1) = row.take k ++ [itI row k] := by
  rw [itI_at h, List.take_succ, List.getElem?_eq_getElem h]; rfl
theorem upto_it {xs : List Int} {k : Nat} (h : k ≤ xs.length) : (upto k).map (itI xs) = xs.take k := by
  apply List.ext_getElem
  · simp; omega
  · intro i h1 h2
    rw [List.getElem_map, upto_get, itI_at (by simp at h1; omega), List.getElem_take]
theorem upto_S (k : Nat) : upto ((k + 1 : Nat) : Int) = upto k ++ [(k : Int)] := by
  rw [Int.natCast_add, Int.natCast_one, upto_succ (by omega)]
/-- an exchange that is made only if it makes the order longer -/
def hp (xs : List Int) (i : Int) : List Int := if itI xs i < itI xs (i + 1) then swp xs i (i + 1) else xs
def hpF (xs row : List Int) : List Int := row.foldl hp xs
@[simp] theorem hp_len (xs : List Int) (i : Int) : (hp xs i).length = xs.length := by unfold hp; split <;> simp
theorem hpF_len : ∀ (row xs : List Int), (hpF xs row).length = xs.length
  | [], _ => rfl
  | i :: row, xs => by
    have := hpF_len row (hp xs i)
    simpa [hpF] using this
theorem hpF_app (xs a b : List Int) : hpF xs (a ++ b) = hpF (hpF xs a) b := by simp [hpF]
theorem hpF_take {xs row : List Int} {k : Nat} (h : k < row.length) : hpF xs (row.take (k + 1)) = hp (hpF xs (row.take k)) (itI row k) := by
  rw [take_it h, hpF_app]; rfl
theorem hp_perm {xs : List Int} {i : Int} (h : 0 ≤ i) (h2 : i + 1 < xs.length) : List.Perm (hp xs i) xs := by
  unfold hp
  split
  · exact swp_perm h (by omega) (by omega) h2
  · exact .refl _
theorem hpF_perm {n : Int} : ∀ (row xs : List Int), RowOk n row → (xs.length : Int) = n → List.Perm (hpF xs row) xs
  | [], xs, _, _ => .refl _
  | i :: row, xs, h, hl => by
    have h0 := h i (by simp)
    exact (hpF_perm row (hp xs i) (fun k hk => h k (by simp [hk])) (by simpa using hl)).trans (hp_perm h0.1 (by omega))
theorem inv_hp {xs : List Int} {i : Int} (h : 0 ≤ i) (h2 : i + 1 < xs.length) : inv (hp xs i) = inv xs + if itI xs i < itI xs (i + 1) then 1 else 0 := by
  have := inv_swp (xs := xs) h h2
  unfold hp
  by_cases z : itI xs i < itI xs (i + 1)
  · rw [if_pos z, if_pos z]
    rw [if_neg (by omega), if_pos (by omega)] at this
    omega
  · rw [if_neg z, if_neg z]; rfl
theorem inv_mono {n : Int} : ∀ (row xs : List Int), RowOk n row → (xs.length : Int) = n → inv xs ≤ inv (hpF xs row)
  | [], xs, _, _ => Nat.le_refl _
  | i :: row, xs, h, hl => by
    have h0 := h i (by simp)
    have a := inv_mono row (hp xs i) (fun k hk => h k (by simp [hk])) (by simpa using hl)
    have b := inv_hp (xs := xs) h0.1 (by omega)
    exact Nat.le_trans (by omega) a
/-- the positions at which the exchange is made -/
def hpt (xs row : List Int) : Nat → List Int
  | 0 => []
  | k + 1 => if itI (hpF xs (row.take k)) (itI row k) < itI (hpF xs (row.take k)) (itI row k + 1) then hpt xs row k ++ [(k : Int)] else hpt xs row k
theorem hpt_le (xs row : List Int) : ∀ k : Nat, (hpt xs row k).length ≤ k
  | 0 => Nat.le_refl _
  | k + 1 => by
    have := hpt_le xs row k
    rw [hpt]; split <;> simp <;> omega
theorem hpt_mem (xs row : List Int) : ∀ k : Nat, ∀ x ∈ hpt xs row k, 0 ≤ x ∧ x < k
  | 0, x, h => by cases h
  | k + 1, x, h => by
    have ih := hpt_mem xs row k
    rw [hpt] at h
    split at h
    · rcases List.mem_append.mp h with z | z
      · have := ih x z; omega
      · rw [List.mem_singleton.mp z]; omega
    · have := ih x h; omega
theorem hpt_inv {n : Int} {xs row : List Int} (hr : RowOk n row) (hl : (xs.length : Int) = n) : ∀ k : Nat, k ≤ row.length → inv (hpF xs (row.take k)) = inv xs + (hpt xs row k).length
  | 0, _ => by simp [hpF, hpt]
  | k + 1, h => by
    have ih := hpt_inv hr hl k (by omega)
    have h0 := hr _ (itI_mem (xs := row) (i := k) (by omega) (by omega))
    have e := inv_hp (xs := hpF xs (row.take k)) h0.1 (by rw [hpF_len]; omega)
    rw [hpF_take (by omega), e, ih, hpt]
    split <;> simp <;> omega
theorem hpt_led {n : Int} {xs row : List Int} : ∀ k : Nat, k ≤ row.length → ledF xs ((hpt xs row k).map (itI row)) = hpF xs (row.take k)
  | 0, _ => by simp [hpF, hpt, ledF]
  | k + 1, h => by
    have ih := hpt_led (n := n) (xs := xs) (row := row) k (by omega)
    rw [hpF_take (by omega), hpt, hp]
    split
    · rw [List.map_append, ledF_app, ih]; rfl
    · exact ih
theorem hpt_all {n : Int} (hn : 0 ≤ n) {row : List Int} (hr : RowOk n row) : ∀ k : Nat, k ≤ row.length → (hpt (upto n) row k = upto k ↔ inv (led n (row.take k)) = k)
  | 0, _ => by
    have : inv (led n (row.take 0)) = 0 := inv_upto0 n
    simp only [this, hpt]
    simp [upto]
  | k + 1, h => by
    have ul : ((upto n).length : Int) = n := by rw [upto_len]; omega
    have fwd : ∀ j : Nat, j ≤ row.length → hpt (upto n) row j = upto j → hpF (upto n) (row.take j) = led n (row.take j) ∧ inv (led n (row.take j)) = j := by
      intro j hj e
      have a := hpt_led (n := n) (xs := upto n) (row := row) j hj
      have b := hpt_inv hr ul j hj
      rw [e, upto_it hj] at a
      rw [e, ← a, inv_upto0, upto_len] at b
      exact ⟨a.symm, by rw [led]; omega⟩
    constructor
    · intro e; exact (fwd (k + 1) h e).2
    · intro e
      have ih := hpt_all hn hr k (by omega)
      have h0 := hr _ (itI_mem (xs := row) (i := k) (by omega) (by omega))
      have et : led n (row.take (k + 1)) = swp (led n (row.take k)) (itI row k) (itI row k + 1) := by
        rw [take_it (by omega), led, ledF_app]; rfl
      have e1 := inv_swp (xs := led n (row.take k)) h0.1 (by rw [led_len]; omega)
      obtain ⟨q, hq⟩ := inv_led hn (hr.take k)
      rw [List.length_take] at hq
      rw [et] at e
      have e2 : inv (led n (row.take k)) = k := by split at e1 <;> split at e1 <;> omega
      have e3 := ih.mpr e2
      have e4 := (fwd k (by omega) e3).1
      have rise : itI (led n (row.take k)) (itI row k) < itI (led n (row.take k)) (itI row k + 1) := by
        apply Classical.byContradiction
        intro z
        rw [if_neg (show ¬ itI (led n (row.take k)) (itI row k + 1) > itI (led n (row.take k)) (itI row k) by omega)] at e1
        omega
      rw [hpt, e4, if_pos rise, e3, upto_S]
section
variable {Γ : Cal} {σ : S}
theorem tupOf_dp {rs : List R} (h : rs.all R.ok = true) (hp : plains (rs.map R.d) = false) : tupOf rs = ⟨.tuple (rs.map R.d), .dp, []⟩ := by
  unfold tupOf
  rw [if_pos h, if_pos h]
  unfold mk
  have : plain (.tuple (rs.map R.d)) = plains (rs.map R.d) := rfl
  rw [this, hp]; rfl
@[simp] theorem mk_tp {ds : List PyData} (h : plains ds = true) (o : Own) (al : List Nat) : mk (.tuple ds) o al = ⟨.tuple ds, .fz, []⟩ := if_pos h
@[simp] theorem mk_tn {ds : List PyData} (h : plains ds = false) (o : Own) (al : List Nat) : mk (.tuple ds) o al = ⟨.tuple ds, o, al⟩ := if_neg (by
  show ¬ plains ds = true
  rw [h]; simp)
def app1O (Γ : Cal) (i : Nat) : Option R → Option (R × S) → Option Out
  | some q, m => appO Γ i [q.d] m
  | none, _ => none
@[simp] theorem x_app1 (i : Nat) (p e : Ex) : exec Γ (.app i (.cons p .nil) e) σ = app1O Γ i (ev Γ p σ) (evM Γ e σ) := by
  simp only [exec, evs]
  cases ev Γ p σ with
  | none => rfl
  | some q =>
    simp only [Option.bind_some, Option.map_some]
    cases evM Γ e σ with
    | none => rfl
    | some m =>
      obtain ⟨r, s⟩ := m
      simp only [Option.bind_some]
      rw [ch_eq]
      show _ = outO _
      have er : (List.map R.d [q]).reverse = [q.d] := rfl
      rw [er]
      cases chO i r.ok (appD r.d) (freezeL s r.al) ([q.d]) (freezeL s r.al)[i]? <;> rfl
@[simp] theorem app1O_s (i : Nat) (q : R) (m : Option (R × S)) : app1O Γ i (some q) m = appO Γ i [q.d] m := rfl
@[simp] theorem chO_p (i : Nat) (f : PyData → Option PyData) (k : PyData) (ks : List PyData) (d : PyData) : chO i true f σ (k :: ks) (some (some (.dp, d))) = put1 i .dp σ (modAt (k :: ks) f d) := by
  show ((some Own.dp).bind fun o' => (modAt (k :: ks) f d).map fun d' => σ.set i (some (o', d'))) = _
  cases modAt (k :: ks) f d <;> rfl
def lstM1 (f : PyData → PyData) : Option PyData → Option PyData
  | some d => some (f d)
  | none => none
@[simp] theorem lstM1_s (f : PyData → PyData) (d : PyData) : lstM1 f (some d) = some (f d) := rfl
@[simp] theorem mod_0 (f : PyData → Option PyData) (x : PyData) (xs : List PyData) : modAt [.int 0] f (.list (x :: xs)) = lstM1 (fun y => .list (y :: xs)) (f x) := by
  show ((ix (x :: xs).length 0).bind fun j => ((x :: xs)[j]?).bind fun z => (modAt [] f z).map fun y => PyData.list ((x :: xs).set j y)) = _
  rw [ix_in (by omega) (by simp)]
  show (f x).map _ = _
  cases f x <;> rfl
@[simp] theorem mod_1 (f : PyData → Option PyData) (a x : PyData) (xs : List PyData) : modAt [.int 1] f (.list (a :: x :: xs)) = lstM1 (fun y => .list (a :: y :: xs)) (f x) := by
  show ((ix (a :: x :: xs).length 1).bind fun j => ((a :: x :: xs)[j]?).bind fun z => (modAt [] f z).map fun y => PyData.list ((a :: x :: xs).set j y)) = _
  rw [ix_in (by omega) (by simp; omega)]
  show (f x).map _ = _
  cases f x <;> rfl
def w_heaped_on (ex : Nat) : Fn := ⟨"heaped_on", 2, ["order", "row", "current", "i"],
    (.cons (.asg (.nm 2) (.blt .list (.var 0)))
      (.cons (.for_ (.nm 3) (.var 1) (.cons (.ite (.cmp .lt (.idx (.var 2) (.var 3)) (.idx (.var 2) (.bin .add (.var 3) (.int 1)))) (.cons (.asg (.nm 2) (.call ex (.cons (.var 2) (.cons (.var 3) (.cons (.bin .add (.var 3) (.int 1)) .nil)))))
      .nil) .nil)
      .nil))
      (.cons (.ret (.mv 2))
      .nil)))⟩
theorem heaped_on_ok {ex : Nat} (hs : Swaps Γ ex) {n : Int} {xs row : List Int} (hr : RowOk n row) (hl : (xs.length : Int) = n) : runF Γ (w_heaped_on ex) [LI xs, LI row] = some (.dp, LI (hpF xs row)) := by
  obtain ⟨s', h, i', e⟩ := forI_run (Γ := Γ) (j := 3) (body := (.cons (.ite (.cmp .lt (.idx (.var 2) (.var 3)) (.idx (.var 2) (.bin .add (.var 3) (.int 1)))) (.cons (.asg (.nm 2) (.call ex (.cons (.var 2) (.cons (.var 3) (.cons (.bin .add (.var 3) (.int 1)) .nil))))) .nil) .nil) .nil)) (it := .var 1) (o := .fz) (ys := row) (σ := [some (.fz, LI xs), some (.fz, LI row), some (.dp, LI xs), none]) (by simp)
    (fun i s => ∃ i', s = [some (.fz, LI xs), some (.fz, LI row), some (.dp, LI (hpF xs (row.take i))), i']) (fun i hi s ⟨j1, e⟩ => by
      subst e
      have h0 := hr row[i] (List.getElem_mem _)
      have hl2 := hpF_len (row.take i) xs
      refine ⟨_, .inl ?_, some (.fz, .int row[i]), rfl⟩
      rw [hpF_take hi, itI_at hi, hp]
      have e2 := hs (hpF xs (row.take i)) row[i] (row[i] + 1) (by omega) (by omega) (by omega) (by omega)
      by_cases z : itI (hpF xs (row.take i)) row[i] < itI (hpF xs (row.take i)) (row[i] + 1)
      · rw [if_pos z]
        simp (disch := omega) [z, e2]
      · rw [if_neg z]
        simp (disch := omega) [z]) ⟨none, by simp [hpF]⟩
  rw [List.take_length] at e
  subst e
  refine runF_of rfl rfl ?_
  simp [w_heaped_on, h]
def w_heaped (r on : Nat) : Fn := ⟨"heaped", 2, ["n", "row"],
    (.cons (.ret (.call on (.cons (.call r (.cons (.var 0) .nil)) (.cons (.var 1) .nil))))
      .nil)⟩
def Rests (Γ : Cal) (r : Nat) : Prop := ∀ n : Int, 0 ≤ n → n ≤ 16777216 → Γ r [.int n] = some (.dp, LI (upto n))
def HeapsOn (Γ : Cal) (f : Nat) : Prop := ∀ (n : Int) (xs row : List Int), RowOk n row → (xs.length : Int) = n → Γ f [LI xs, LI row] = some (.dp, LI (hpF xs row))
theorem heaped_ok {r on : Nat} (h1 : Rests Γ r) (h2 : HeapsOn Γ on) {n : Int} {row : List Int} (hr : RowOk n row) (hn : 0 ≤ n) (hn2 : n ≤ 16777216) : runF Γ (w_heaped r on) [.int n, LI row] = some (.dp, LI (hpF (upto n) row)) := by
  have e1 := h1 n hn hn2
  have e2 := h2 n (upto n) row hr (by rw [upto_len]; omega)
  refine runF_of rfl rfl ?_
  simp [w_heaped, e1, e2]
def w_heaped_part (r ex : Nat) : Fn := ⟨"heaped_part", 2, ["n", "row", "found", "current", "at"],
    (.cons (.asg (.nm 2) (.lst .nil))
      (.cons (.asg (.nm 3) (.call r (.cons (.var 0) .nil)))
      (.cons (.for_ (.nm 4) (.rng (.int 0) (.blt .len (.var 1)) (.int 1)) (.cons (.ite (.cmp .lt (.idx (.var 3) (.idx (.var 1) (.var 4))) (.idx (.var 3) (.bin .add (.idx (.var 1) (.var 4)) (.int 1)))) (.cons (.app 2 .nil (.var 4))
      (.cons (.asg (.nm 3) (.call ex (.cons (.var 3) (.cons (.idx (.var 1) (.var 4)) (.cons (.bin .add (.idx (.var 1) (.var 4)) (.int 1)) .nil)))))
      .nil)) .nil)
      .nil))
      (.cons (.ret (.mv 2))
      .nil))))⟩
theorem heaped_part_ok {r ex : Nat} (h1 : Rests Γ r) (hs : Swaps Γ ex) {n : Int} {row : List Int} (hr : RowOk n row) (hn : 0 ≤ n) (hn2 : n ≤ 16777216) (hl : row.length ≤ 1000000) : runF Γ (w_heaped_part r ex) [.int n, LI row] = some (.dp, LI (hpt (upto n) row row.length)) := by
  have e1 := h1 n hn hn2
  obtain ⟨s', h, i', e⟩ := forI_run (Γ := Γ) (j := 4) (body := (.cons (.ite (.cmp .lt (.idx (.var 3) (.idx (.var 1) (.var 4))) (.idx (.var 3) (.bin .add (.idx (.var 1) (.var 4)) (.int 1)))) (.cons (.app 2 .nil (.var 4)) (.cons (.asg (.nm 3) (.call ex (.cons (.var 3) (.cons (.idx (.var 1) (.var 4)) (.cons (.bin .add (.idx (.var 1) (.var 4)) (.int 1)) .nil))))) .nil)) .nil) .nil)) (it := .rng (.int 0) (.blt .len (.var 1)) (.int 1)) (o := .dp) (ys := upto row.length) (σ := [some (.fz, .int n), some (.fz, LI row), some (.dp, .list []), some (.dp, LI (upto n)), none]) (by simp (disch := omega))
    (fun i s => ∃ i', s = [some (.fz, .int n), some (.fz, LI row), some (.dp, LI (hpt (upto n) row i)), some (.dp, LI (hpF (upto n) (row.take i))), i']) (fun i hi s ⟨j1, e⟩ => by
      subst e
      have hi' : i < row.length := by simpa using hi
      rw [upto_get hi]
      have h0 := hr _ (itI_mem (xs := row) (i := i) (by omega) (by omega))
      have hl2 := hpF_len (row.take i) (upto n)
      rw [upto_len] at hl2
      have hl3 := hpt_le (upto n) row i
      refine ⟨_, .inl ?_, some (.fz, .int i), rfl⟩
      rw [hpF_take hi', hp, hpt]
      have e2 := hs (hpF (upto n) (row.take i)) (itI row i) (itI row i + 1) (by omega) (by omega) (by omega) (by omega)
      by_cases z : itI (hpF (upto n) (row.take i)) (itI row i) < itI (hpF (upto n) (row.take i)) (itI row i + 1)
      · rw [if_pos z, if_pos z]
        simp (disch := omega) [z, e2]
      · rw [if_neg z, if_neg z]
        simp (disch := omega) [z]) ⟨none, by simp [hpF, hpt]⟩
  rw [upto_len, Int.toNat_natCast, List.take_length] at e
  subst e
  refine runF_of rfl rfl ?_
  simp (disch := first | omega | (simp; done) | fail) [w_heaped_part, e1, h]
def w_lheaped (sw : Nat) : Fn := ⟨"_law_heaped", 2, ["n", "row", "order", "part", "at", "i"],
    (.cons (.asg (.nm 2) (.blt .list (.rng (.int 0) (.var 0) (.int 1))))
      (.cons (.asg (.nm 3) (.lst .nil))
      (.cons (.for_ (.nm 4) (.rng (.int 0) (.blt .len (.var 1)) (.int 1)) (.cons (.asg (.nm 5) (.idx (.var 1) (.var 4)))
      (.cons (.ite (.cmp .lt (.idx (.var 2) (.var 5)) (.idx (.var 2) (.bin .add (.var 5) (.int 1)))) (.cons (.asg (.nm 2) (.call sw (.cons (.var 2) (.cons (.var 5) (.cons (.bin .add (.var 5) (.int 1)) .nil)))))
      (.cons (.app 3 .nil (.mv 4))
      .nil)) .nil)
      .nil)))
      (.cons (.ret (.tup (.cons (.mv 2) (.cons (.mv 3) .nil))))
      .nil))))⟩
theorem tupOf_LL (xs ys : List Int) : tupOf [⟨LI xs, .dp, []⟩, ⟨LI ys, .dp, []⟩] = ⟨.tuple [LI xs, LI ys], .dp, []⟩ := tupOf_dp rfl rfl
theorem lheaped_ok {sw : Nat} (hs : Swaps Γ sw) {n : Int} {row : List Int} (hr : RowOk n row) (hn : 0 ≤ n) (hn2 : n ≤ 16777216) (hl : row.length ≤ 1000000) : runF Γ (w_lheaped sw) [.int n, LI row] = some (.dp, .tuple [LI (hpF (upto n) row), LI (hpt (upto n) row row.length)]) := by
  obtain ⟨s', h, a', i', e⟩ := forI_run (Γ := Γ) (j := 4) (body := (.cons (.asg (.nm 5) (.idx (.var 1) (.var 4))) (.cons (.ite (.cmp .lt (.idx (.var 2) (.var 5)) (.idx (.var 2) (.bin .add (.var 5) (.int 1)))) (.cons (.asg (.nm 2) (.call sw (.cons (.var 2) (.cons (.var 5) (.cons (.bin .add (.var 5) (.int 1)) .nil))))) (.cons (.app 3 .nil (.mv 4)) .nil)) .nil) .nil))) (it := .rng (.int 0) (.blt .len (.var 1)) (.int 1)) (o := .dp) (ys := upto row.length) (σ := [some (.fz, .int n), some (.fz, LI row), some (.dp, LI (upto n)), some (.dp, .list []), none, none]) (by simp (disch := omega))
    (fun i s => ∃ a' i', s = [some (.fz, .int n), some (.fz, LI row), some (.dp, LI (hpF (upto n) (row.take i))), some (.dp, LI (hpt (upto n) row i)), a', i']) (fun i hi s ⟨a1, j1, e⟩ => by
      subst e
      have hi' : i < row.length := by simpa using hi
      rw [upto_get hi]
      have h0 := hr _ (itI_mem (xs := row) (i := i) (by omega) (by omega))
      have hl2 := hpF_len (row.take i) (upto n)
      rw [upto_len] at hl2
      have hl3 := hpt_le (upto n) row i
      refine ⟨_, .inl ?_, some (.fz, .int i), some (.fz, .int (itI row i)), rfl⟩
      rw [hpF_take hi', hp, hpt]
      have e2 := hs (hpF (upto n) (row.take i)) (itI row i) (itI row i + 1) (by omega) (by omega) (by omega) (by omega)
      by_cases z : itI (hpF (upto n) (row.take i)) (itI row i) < itI (hpF (upto n) (row.take i)) (itI row i + 1)
      · rw [if_pos z, if_pos z]
        simp (disch := omega) [z, e2]
      · rw [if_neg z, if_neg z]
        simp (disch := omega) [z]) ⟨none, none, by simp [hpF, hpt]⟩
  rw [upto_len, Int.toNat_natCast, List.take_length] at e
  subst e
  refine runF_of rfl rfl ?_
  simp (disch := first | omega | (simp; done) | fail) [w_lheaped, h, tupOf_LL]
end
end Sp
end

section
set_option Elab.async false
set_option linter.all false
set_option maxRecDepth 100000
set_option maxHeartbeats 4000000
/-! Ways back, orders turned about, turned pairs. -/
namespace Sp
open Sw
open PySem (PyData Str)
/-! ### turned about -/
theorem cnt_both {x : Int} : ∀ {xs : List Int}, x ∉ xs → cnt x xs + cntL x xs = xs.length
  | [], _ => rfl
  | y :: xs, h => by
    rw [List.mem_cons, not_or] at h
    have ih := cnt_both h.2
    have e1 : cnt x (y :: xs) = cnt x xs + if y > x then 1 else 0 := by simp [cnt, List.countP_cons]
    have e2 : cntL x (y :: xs) = cntL x xs + if x > y then 1 else 0 := by simp [cntL, List.countP_cons]
    rw [e1, e2, List.length_cons]
    have := h.1
    split <;> split <;> omega
theorem inv_rev : ∀ {xs : List Int}, xs.Nodup → 2 * (inv xs.reverse + inv xs) + xs.length = xs.length * xs.length
  | [], _ => rfl
  | x :: xs, h => by
    rw [List.nodup_cons] at h
    have ih := inv_rev h.2
    have e1 : inv (x :: xs).reverse = inv xs.reverse + cnt x xs := by
      rw [List.reverse_cons, inv_app]
      have : cross xs.reverse [x] = cnt x xs := by
        rw [cross_perm_l (List.reverse_perm xs)]; simp [cross]
      rw [this]; simp [inv, cntL]
    have e2 : inv (x :: xs) = cntL x xs + inv xs := rfl
    have e3 := cnt_both h.1
    have e4 : (xs.length + 1) * (xs.length + 1) = xs.length * xs.length + 2 * xs.length + 1 := by rw [Nat.add_mul, Nat.mul_add]; omega
    rw [e1, e2, List.length_cons, e4]
    omega
/-! ### counting pairs -/
def cntP (L : List Int) (r : Int → Int → Bool) : Nat := (L.map (fun c => L.countP (fun d => r c d))).sum
theorem cntP_perm {L M : List Int} (h : List.Perm L M) (r : Int → Int → Bool) : cntP L r = cntP M r := by
  unfold cntP
  have : (L.map (fun c => L.countP (fun d => r c d))) = L.map (fun c => M.countP (fun d => r c d)) := List.map_congr_left (fun c _ => h.countP_eq _)
  rw [this]
  exact (h.map _).sum_nat
theorem sum_add : ∀ (L : List Int) (f g : Int → Nat), (L.map (fun c => f c + g c)).sum = (L.map f).sum + (L.map g).sum
  | [], _, _ => rfl
  | c :: L, f, g => by
    simp only [List.map_cons, List.sum_cons, sum_add L f g]; omega
theorem cntP2_swap (r : Int → Int → Bool) : ∀ L M : List Int, (L.map (fun c => M.countP (fun d => r c d))).sum = (M.map (fun d => L.countP (fun c => r c d))).sum
  | L, [] => by
    simp only [List.countP_nil, List.map_nil, List.sum_nil]
    induction L with
    | nil => rfl
    | cons c L ih => simpa using ih
  | L, m :: M => by
    have ih := cntP2_swap r L M
    have e : (L.map (fun c => (m :: M).countP (fun d => r c d))) = L.map (fun c => M.countP (fun d => r c d) + if r c m then 1 else 0) := List.map_congr_left (fun c _ => by rw [List.countP_cons])
    rw [e, sum_add, ih, List.map_cons, List.sum_cons]
    have e2 : (L.map (fun c => if r c m = true then 1 else 0)).sum = L.countP (fun c => r c m) := by
      clear ih e
      induction L with
      | nil => rfl
      | cons c L ih => rw [List.map_cons, List.sum_cons, ih, List.countP_cons]; omega
    rw [e2]; omega
theorem cntP_swap (L : List Int) (r : Int → Int → Bool) : cntP L r = cntP L (fun c d => r d c) := cntP2_swap r L L
theorem cntP_map (f : Int → Int) (L : List Int) (r : Int → Int → Bool) : cntP (L.map f) r = cntP L (fun c d => r (f c) (f d)) := by
  unfold cntP
  rw [List.map_map]
  congr 1
  apply List.map_congr_left
  intro c _
  simp only [Function.comp, List.countP_map]
  rfl
theorem cntP_congr {L : List Int} {r s : Int → Int → Bool} (h : ∀ c ∈ L, ∀ d ∈ L, r c d = s c d) : cntP L r = cntP L s := by
  unfold cntP
  congr 1
  apply List.map_congr_left
  intro c hc
  apply List.countP_congr
  intro d hd
  rw [h c hc d hd]
theorem upto_count (q : Int → Bool) : ∀ (k p : Nat), p ≤ k → (upto k).countP (fun c : Int => decide (c < p) && q c) = (upto p).countP q
  | 0, p, h => by
    have : p = 0 := by omega
    subst this; rfl
  | k + 1, p, h => by
    rw [upto_S, List.countP_append]
    by_cases z : p = k + 1
    · subst z
      rw [upto_S, List.countP_append]
      congr 1
      · apply List.countP_congr
        intro c hc
        have := mem_upto.mp hc
        have e : decide (c < ((k + 1 : Nat) : Int)) = true := by simp; omega
        rw [e]; simp
      · have e : decide ((k : Int) < ((k + 1 : Nat) : Int)) = true := by simp; omega
        rw [List.countP_cons, List.countP_cons, e]; rfl
    · rw [upto_count q k p (by omega)]
      have e : decide ((k : Int) < (p : Int)) = false := by simp; omega
      rw [List.countP_cons, e]; rfl
/-- turned pairs, counted by places -/
theorem inv_places (xs : List Int) : inv xs = cntP (upto xs.length) (fun c d => decide (c < d) && decide (itI xs c > itI xs d)) := by
  rw [cntP_swap, inv_sum]
  unfold cntP
  have e : upto xs.length = (List.range xs.length).map (fun i : Nat => (i : Int)) := by unfold upto; simp
  have e2 : ∀ p : Nat, p ≤ xs.length → cnt (itI xs p) (xs.take p) = (upto xs.length).countP (fun c : Int => decide (c < p) && decide (itI xs c > itI xs p)) := by
    intro p hp
    rw [upto_count (fun c => decide (itI xs c > itI xs p)) xs.length p hp, ← upto_it hp, cnt, List.countP_map]
    rfl
  conv => rhs; arg 1; arg 2; rw [e]
  rw [List.map_map]
  congr 1
  apply List.map_congr_left
  intro p hp
  rw [List.mem_range] at hp
  exact e2 p (by omega)
/-! ### the way back -/
/-- the place of a thing -/
def pos (xs : List Int) (t : Int) : Int := (xs.findIdx (fun y => decide (y = t)) : Nat)
def wayL (xs : List Int) : List Int := (upto xs.length).map (pos xs)
theorem pos_lt {xs : List Int} {t : Int} (h : t ∈ xs) : 0 ≤ pos xs t ∧ pos xs t < xs.length := by
  have : xs.findIdx (fun y => decide (y = t)) < xs.length := List.findIdx_lt_length_of_exists ⟨t, h, by simp⟩
  unfold pos; omega
theorem pos_it {xs : List Int} {t : Int} (h : t ∈ xs) : itI xs (pos xs t) = t := by
  have hl := pos_lt h
  have := List.findIdx_getElem (p := fun y => decide (y = t)) (xs := xs) (w := by unfold pos at hl; omega)
  unfold pos
  rw [itI_at (by unfold pos at hl; omega)]
  exact of_decide_eq_true this
theorem it_inj {xs : List Int} (h : xs.Nodup) {i j : Int} (hi : 0 ≤ i) (hi2 : i < xs.length) (hj : 0 ≤ j) (hj2 : j < xs.length) (e : itI xs i = itI xs j) : i = j := by
  apply Classical.byContradiction
  intro z
  exact nodup_ne h hi hi2 hj hj2 z e
theorem it_pos {xs : List Int} (h : xs.Nodup) {i : Int} (hi : 0 ≤ i) (hi2 : i < xs.length) : pos xs (itI xs i) = i := by
  have m := itI_mem hi hi2
  have l := pos_lt m
  exact it_inj h l.1 l.2 hi hi2 (pos_it m)
theorem map_it (xs : List Int) : (upto xs.length).map (itI xs) = xs := by
  rw [upto_it (Nat.le_refl _), List.take_length]
theorem it_map {n : Int} (f : Int → Int) {i : Int} (h : 0 ≤ i) (h2 : i < n) : itI ((upto n).map f) i = f i := by
  have e : i = (i.toNat : Int) := by omega
  rw [e, itI_at (by simp; omega), List.getElem_map, upto_get]
theorem inv_way {n : Nat} {xs : List Int} (p : List.Perm xs (upto n)) : inv (wayL xs) = inv xs := by
  have hl : xs.length = n := by rw [p.length_eq, upto_len]; omega
  have nd : xs.Nodup := p.nodup_iff.mpr (upto_nodup n)
  have hw : (wayL xs).length = n := by simp [wayL, hl]
  rw [inv_places (wayL xs), inv_places xs, hw, hl, cntP_swap _ (fun c d => decide (c < d) && decide (itI xs c > itI xs d))]
  have e1 : cntP (upto n) (fun c d => decide (c < d) && decide (itI (wayL xs) c > itI (wayL xs) d)) = cntP (upto n) (fun c d => decide (c < d) && decide (pos xs c > pos xs d)) := cntP_congr (fun c hc d hd => by
    have a := mem_upto.mp hc
    have b := mem_upto.mp hd
    unfold wayL
    rw [it_map _ a.1 (by omega), it_map _ b.1 (by omega)])
  rw [e1, ← cntP_perm p]
  conv => lhs; arg 1; rw [← map_it xs]
  rw [cntP_map, hl]
  apply cntP_congr
  intro c hc d hd
  have a := mem_upto.mp hc
  have b := mem_upto.mp hd
  simp only [it_pos nd a.1 (by omega), it_pos nd b.1 (by omega)]
  rw [Bool.and_comm]
theorem filter_ne {t : Int} : ∀ {l : List Int}, l.Nodup → t ∈ l → List.Perm (t :: l.filter (fun k => decide (k ≠ t))) l
  | [], _, h => by cases h
  | x :: l, nd, h => by
    rw [List.nodup_cons] at nd
    by_cases z : x = t
    · subst z
      have e : l.filter (fun k => decide (k ≠ x)) = l := by
        apply List.filter_eq_self.mpr
        intro y hy
        simp
        intro e; subst e; exact nd.1 hy
      rw [List.filter_cons_of_neg (by simp), e]
    · have m : t ∈ l := by
        rcases List.mem_cons.mp h with q | q
        · exact absurd q.symm z
        · exact q
      rw [List.filter_cons_of_pos (by simp [z])]
      exact (List.Perm.swap x t _).trans ((filter_ne nd.2 m).cons x)
/-! ### lists of pairs -/
def prI (p : Int × Int) : PyData := .tuple [.int p.1, .int p.2]
theorem plain_pr (p : Int × Int) : plain (prI p) = true := rfl
theorem plains_pr (l : List (Int × Int)) : plains (l.map prI) = true := plains_all (fun x hx => by
  obtain ⟨p, _, rfl⟩ := List.mem_map.mp hx
  rfl)
theorem sortable_pr (l : List (Int × Int)) : sortable (l.map prI) = true := by
  unfold sortable
  rw [Bool.and_eq_true, Bool.and_eq_true, Bool.or_eq_true]
  refine ⟨⟨?_, .inl ?_⟩, ?_⟩
  · unfold allAlike
    rw [List.all_eq_true]
    intro x hx
    rw [List.all_eq_true]
    intro y hy
    obtain ⟨p, _, rfl⟩ := List.mem_map.mp hx
    obtain ⟨q, _, rfl⟩ := List.mem_map.mp hy
    rfl
  · rw [List.all_eq_true]
    intro x hx
    obtain ⟨p, _, rfl⟩ := List.mem_map.mp hx
    rfl
  · rw [List.all_eq_true]
    intro x hx
    obtain ⟨p, _, rfl⟩ := List.mem_map.mp hx
    rfl
theorem sortD_mem {xs : List PyData} {x : PyData} : x ∈ sortD xs ↔ x ∈ xs := (List.mergeSort_perm xs _).mem_iff
theorem sortD_len (xs : List PyData) : (sortD xs).length = xs.length := (List.mergeSort_perm xs _).length_eq
theorem sortD_plains {xs : List PyData} (h : plains xs = true) : plains (sortD xs) = true := plains_iff.mpr (fun x hx => plains_iff.mp h x (sortD_mem.mp hx))
section
variable {Γ : Cal} {σ : S}
theorem blt_sort {xs : List PyData} {o : Own} {al : List Nat} (h : sortable xs = true) (hp : plains xs = true) : bltR .sorted ⟨.list xs, o, al⟩ = some ⟨.list (sortD xs), .dp, []⟩ := by
  show (if sortable xs then some (newL (sortD xs) al) else none) = _
  rw [if_pos h, newL_p (sortD_plains hp)]
def srtM : Option (R × S) → Option (R × S)
  | some (r, s) => (srtD r).map fun r' => (r', s)
  | none => none
@[simp] theorem m_srt (a : Ex) : evM Γ (.srt a) σ = srtM (evM Γ a σ) := by
  simp only [evM]
  cases evM Γ a σ <;> rfl
theorem srtM_dp {xs : List PyData} {al : List Nat} {s : S} (h : sortable xs = true) : srtM (some (⟨.list xs, .dp, al⟩, s)) = some (⟨.list (sortD xs), .dp, []⟩, s) := by
  show (srtD _).map _ = _
  unfold srtD
  dsimp only
  rw [if_pos h]; rfl
theorem ext_l (ys xs : List PyData) (h : xs.length + ys.length ≤ 16777216) : extD ys (.list xs) = some (.list (xs ++ ys)) := if_pos h
def indO : Option R → Option R → Option R
  | some x, some y => match x.d with
    | .list xs => if inOk y.d xs then (placeD xs y.d).map fun (k : Nat) => Rp (.int (k : Int)) else none
    | _ => none
  | _, _ => none
@[simp] theorem e_index (a b : Ex) : ev Γ (.index a b) σ = indO (ev Γ a σ) (ev Γ b σ) := by
  simp only [ev]
  cases ev Γ a σ with
  | none => rfl
  | some x =>
    cases ev Γ b σ with
    | none => rfl
    | some y => rfl
theorem place_int {xs : List Int} {t : Int} (h : t ∈ xs) : placeD (xs.map .int) (.int t) = some (pos xs t).toNat := by
  unfold placeD pos
  rw [List.findIdx?_map]
  have e : ((fun y => PyData.eqv y (.int t)) ∘ PyData.int) = (fun y : Int => decide (y = t)) := by
    funext y; exact eqv_int y t
  rw [e, Int.toNat_natCast]
  exact List.findIdx?_eq_some_of_exists ⟨t, h, by simp⟩
@[simp] theorem indO_s {xs : List Int} {t : Int} (h : t ∈ xs) (o p : Own) (al bl : List Nat) : indO (some ⟨.list (xs.map .int), o, al⟩) (some ⟨.int t, p, bl⟩) = FI (.int (pos xs t)) := by
  show (if inOk (.int t) (xs.map .int) then (placeD (xs.map .int) (.int t)).map fun (k : Nat) => Rp (.int (k : Int)) else none) = _
  have e : inOk (.int t) (xs.map .int) = true := by simp [inOk]
  rw [if_pos e, place_int h]
  have := (pos_lt h).1
  show some (Rp (.int ((pos xs t).toNat : Int))) = _
  rw [Int.toNat_of_nonneg this]; rfl
@[simp] theorem idx_l0 (x : PyData) (xs : List PyData) : idxD (.list (x :: xs)) (.int 0) = some x := by
  have := idx_L (xs := x :: xs) (i := 0) (by simp)
  exact this
@[simp] theorem idx_l1 (x y : PyData) (xs : List PyData) : idxD (.list (x :: y :: xs)) (.int 1) = some y := by
  have := idx_L (xs := x :: y :: xs) (i := 1) (by simp)
  exact this
/-! ### turned pairs -/
/-- the pairs of a place -/
def prsAt (xs : List Int) (p : Int) : List (Int × Int) := (grt xs p).map (fun t => (itI xs p, t))
def prs (xs : List Int) (k : Nat) : List (Int × Int) := (upto k).flatMap (prsAt xs)
theorem prs_S (xs : List Int) (k : Nat) : prs xs (k + 1) = prs xs k ++ prsAt xs k := by
  unfold prs; rw [upto_S, List.flatMap_append]; simp
theorem prs_len (xs : List Int) : ∀ k : Nat, k ≤ xs.length → (prs xs k).length = inv (xs.take k)
  | 0, _ => rfl
  | k + 1, h => by
    rw [prs_S, List.length_append, prs_len xs k (by omega), inv_take xs (k + 1) h, inv_take xs k (by omega), List.range_succ, List.map_append, List.sum_append]
    simp [prsAt, grt_len]
theorem prs_le (xs : List Int) (k : Nat) (h : k ≤ xs.length) : (prs xs k).length ≤ xs.length * xs.length := by
  rw [prs_len xs k h]
  refine Nat.le_trans (inv_le _) ?_
  have : (xs.take k).length ≤ xs.length := by rw [List.length_take]; omega
  exact Nat.mul_le_mul this this
def w_turned_pairs (g : Nat) : Fn := ⟨"turned_pairs", 1, ["order", "found", "place", "thing"],
    (.cons (.asg (.nm 1) (.lst .nil))
      (.cons (.for_ (.nm 2) (.rng (.int 0) (.blt .len (.var 0)) (.int 1)) (.cons (.ext 1 .nil (.comp (.nm 3) (.call g (.cons (.var 0) (.cons (.var 2) .nil))) (.bl true) (.tup (.cons (.idx (.var 0) (.var 2)) (.cons (.var 3) .nil)))))
      .nil))
      (.cons (.ret (.blt .sorted (.var 1)))
      .nil)))⟩
theorem turned_pairs_ok {g : Nat} (hg : ∀ xs : List Int, ∀ p : Int, 0 ≤ p → p < xs.length → xs.length ≤ 16777216 → Γ g [LI xs, .int p] = some (.dp, LI (grt xs p))) {xs : List Int} (hl : xs.length ≤ 1000) : runF Γ (w_turned_pairs g) [LI xs] = some (.dp, .list (sortD ((prs xs xs.length).map prI))) := by
  obtain ⟨s', h, j', t', e⟩ := forI_run (Γ := Γ) (j := 2) (body := (.cons (.ext 1 .nil (.comp (.nm 3) (.call g (.cons (.var 0) (.cons (.var 2) .nil))) (.bl true) (.tup (.cons (.idx (.var 0) (.var 2)) (.cons (.var 3) .nil))))) .nil)) (it := .rng (.int 0) (.blt .len (.var 0)) (.int 1)) (o := .dp) (ys := upto xs.length) (σ := [some (.fz, LI xs), some (.dp, .list []), none, none]) (by simp (disch := omega))
    (fun i s => ∃ j' t', s = [some (.fz, LI xs), some (.dp, .list ((prs xs i).map prI)), j', t']) (fun i hi s ⟨j1, t1, e⟩ => by
      subst e
      have hi' : i < xs.length := by simpa using hi
      rw [upto_get hi]
      have e1 := hg xs i (by omega) (by omega) (by omega)
      have hb := prs_le xs i (by omega)
      have hb2 : xs.length * xs.length ≤ 1000 * 1000 := Nat.mul_le_mul hl hl
      have hgl := grt_le xs i
      have ec := comp_pl (Γ := Γ) (σ := [some (.fz, LI xs), some (.dp, .list ((prs xs i).map prI)), some (.fz, .int i), t1]) (tg := .nm 3) (it := .call g (.cons (.var 0) (.cons (.var 2) .nil))) (c := .bl true) (e := .tup (.cons (.idx (.var 0) (.var 2)) (.cons (.var 3) .nil))) (d := LI (grt xs i)) (o := .dp) (al := []) (fun y => .int y) (grt xs i) (fun y => [some (.fz, LI xs), some (.dp, .list ((prs xs i).map prI)), some (.fz, .int i), some (.fz, .int y)]) (fun _ => true) (fun t => prI (itI xs i, t)) (by simp [e1]) rfl (by show _ ≤ 16777216; omega) (fun y _ => rfl) (fun y _ => by simp) (fun y _ _ => by
          simp (disch := first | omega | (simp; done) | fail) [tupOf_ii, prI]) (fun y _ _ => rfl)
      rw [List.filter_eq_self.mpr (by simp)] at ec
      have ep : (grt xs i).map (fun t => prI (itI xs i, t)) = (prsAt xs i).map prI := by simp [prsAt, List.map_map, Function.comp_def]
      rw [ep] at ec
      refine ⟨_, .inl ?_, some (.fz, .int i), t1, rfl⟩
      rw [prs_S, List.map_append]
      have hx := ext_l ((prsAt xs i).map prI) ((prs xs i).map prI) (by simp [prsAt]; omega)
      simp [ec, plains_pr, -List.map_append, hx]) ⟨none, none, rfl⟩
  subst e
  rw [upto_len, Int.toNat_natCast] at h
  have es := blt_sort (o := .fz) (al := [1]) (sortable_pr (prs xs xs.length)) (plains_pr _)
  refine runF_of rfl rfl ?_
  simp (disch := first | omega | (simp; done) | fail) [w_turned_pairs, h, es]
def w_pairs_of : Fn := ⟨"_law_pairs_of", 1, ["order", "found", "j", "thing"],
    (.cons (.asg (.nm 1) (.lst .nil))
      (.cons (.for_ (.nm 2) (.rng (.int 0) (.blt .len (.var 0)) (.int 1)) (.cons (.asg (.nm 1) (.bin .add (.var 1) (.comp (.nm 3) (.slc (.var 0) .non (.var 2)) (.cmp .gt (.var 3) (.idx (.var 0) (.var 2))) (.tup (.cons (.idx (.var 0) (.var 2)) (.cons (.var 3) .nil))))))
      .nil))
      (.cons (.ret (.blt .sorted (.var 1)))
      .nil)))⟩
theorem pairs_of_ok {xs : List Int} (hl : xs.length ≤ 1000) : runF Γ w_pairs_of [LI xs] = some (.dp, .list (sortD ((prs xs xs.length).map prI))) := by
  obtain ⟨s', h, j', t', e⟩ := forI_run (Γ := Γ) (j := 2) (body := (.cons (.asg (.nm 1) (.bin .add (.var 1) (.comp (.nm 3) (.slc (.var 0) .non (.var 2)) (.cmp .gt (.var 3) (.idx (.var 0) (.var 2))) (.tup (.cons (.idx (.var 0) (.var 2)) (.cons (.var 3) .nil)))))) .nil)) (it := .rng (.int 0) (.blt .len (.var 0)) (.int 1)) (o := .dp) (ys := upto xs.length) (σ := [some (.fz, LI xs), some (.dp, .list []), none, none]) (by simp (disch := omega))
    (fun i s => ∃ j' t', s = [some (.fz, LI xs), some (.dp, .list ((prs xs i).map prI)), j', t']) (fun i hi s ⟨j1, t1, e⟩ => by
      subst e
      have hi' : i < xs.length := by simpa using hi
      rw [upto_get hi]
      have hb := prs_le xs i (by omega)
      have hb2 : xs.length * xs.length ≤ 1000 * 1000 := Nat.mul_le_mul hl hl
      have hgl := grt_le xs i
      have c1 := cut_to xs (k := (i : Int)) (by omega)
      have ec := comp_pl (Γ := Γ) (σ := [some (.fz, LI xs), some (.dp, .list ((prs xs i).map prI)), some (.fz, .int i), t1]) (tg := .nm 3) (it := .slc (.var 0) .non (.var 2)) (c := .cmp .gt (.var 3) (.idx (.var 0) (.var 2))) (e := .tup (.cons (.idx (.var 0) (.var 2)) (.cons (.var 3) .nil))) (d := LI (xs.take (i : Int).toNat)) (o := .dp) (al := []) (fun y => .int y) (xs.take (i : Int).toNat) (fun y => [some (.fz, LI xs), some (.dp, .list ((prs xs i).map prI)), some (.fz, .int i), some (.fz, .int y)]) (fun t => decide (t > itI xs i)) (fun t => prI (itI xs i, t)) (by simp [c1]) rfl (by show _ ≤ 16777216; rw [List.length_take]; omega) (fun y _ => rfl) (fun y _ => by simp (disch := omega)) (fun y _ _ => by
          simp (disch := first | omega | (simp; done) | fail) [tupOf_ii, prI]) (fun y _ _ => rfl)
      have ep : ((xs.take (i : Int).toNat).filter (fun t => decide (t > itI xs i))).map (fun t => prI (itI xs i, t)) = (prsAt xs i).map prI := by simp [prsAt, grt, List.map_map, Function.comp_def]
      rw [ep] at ec
      refine ⟨_, .inl ?_, some (.fz, .int i), t1, rfl⟩
      rw [prs_S, List.map_append]
      have hx := c_catP ((prs xs i).map prI) ((prsAt xs i).map prI) (by simp [prsAt]; omega) (plains_pr _) (plains_pr _) .fz .dp [1] []
      simp [ec, -List.map_append, hx]) ⟨none, none, rfl⟩
  subst e
  rw [upto_len, Int.toNat_natCast] at h
  have es := blt_sort (o := .fz) (al := [1]) (sortable_pr (prs xs xs.length)) (plains_pr _)
  refine runF_of rfl rfl ?_
  simp (disch := first | omega | (simp; done) | fail) [w_pairs_of, h, es]
end
end Sp
end

section
set_option Elab.async false
set_option linter.all false
set_option maxRecDepth 100000
set_option maxHeartbeats 4000000
/-! Numbers of great things at first places; heaped products. -/
namespace Sp
open Sw
open PySem (PyData Str)
/-- how many things at the first i places are at least j -/
def rk (xs : List Int) (i j : Nat) : Nat := (xs.take i).countP (fun t => decide ((j : Int) ≤ t))
theorem rk_zero (xs : List Int) (j : Nat) : rk xs 0 j = 0 := rfl
theorem rk_cons (u : Int) (xs : List Int) (i j : Nat) : rk (u :: xs) (i + 1) j = rk xs i j + if (j : Int) ≤ u then 1 else 0 := by
  unfold rk
  rw [List.take_succ_cons, List.countP_cons]
  simp
theorem rk_app (a b : List Int) (i j : Nat) : rk (a ++ b) i j = rk a i j + rk b (i - a.length) j := by
  unfold rk
  rw [List.take_append, List.countP_append]
theorem rk_big {xs : List Int} {i : Nat} (h : xs.length ≤ i) (j : Nat) : rk xs i j = rk xs xs.length j := by
  unfold rk
  rw [List.take_of_length_le h, List.take_length]
theorem rk_step {xs : List Int} {i : Nat} (h : i < xs.length) (j : Nat) : rk xs (i + 1) j = rk xs i j + if (j : Int) ≤ itI xs i then 1 else 0 := by
  unfold rk
  rw [take_it h, List.countP_append, List.countP_cons, List.countP_nil]
  simp
/-- one exchange, made if it makes longer, for such numbers -/
def tk (k : Nat) (f : Nat → Nat) : Nat → Nat := fun i => if i = k + 1 then min (f k + 1) (f (k + 2)) else f i
def tR (row : List Int) (f : Nat → Nat) : Nat → Nat := row.foldl (fun f i => tk i.toNat f) f
theorem rk_hp {xs : List Int} {i : Int} (h0 : 0 ≤ i) (h : i + 1 < xs.length) (j : Nat) : (fun p => rk (hp xs i) p j) = tk i.toNat (fun p => rk xs p j) := by
  obtain ⟨a, u, v, b, e, hl⟩ := split_two (xs := xs) (i := i.toNat) (by omega)
  have ei : i = (a.length : Int) := by omega
  subst e
  obtain ⟨e1, e2⟩ := itI_split a u v b
  rw [ei, hp, e1, e2, swp_split, Int.toNat_natCast]
  funext p
  have key : ∀ (x y : Int), rk (a ++ x :: y :: b) p j = rk a p j + rk (x :: y :: b) (p - a.length) j := fun x y => rk_app _ _ _ _
  have k0 : ∀ (x y : Int), rk (a ++ x :: y :: b) a.length j = rk a a.length j := fun x y => by rw [rk_app, Nat.sub_self, rk_zero]; rfl
  have k2 : ∀ (x y : Int), rk (a ++ x :: y :: b) (a.length + 2) j = rk a a.length j + ((if (j : Int) ≤ y then 1 else 0) + if (j : Int) ≤ x then 1 else 0) := fun x y => by
    rw [rk_app, show a.length + 2 - a.length = 1 + 1 by omega, rk_cons, rk_cons, rk_zero, rk_big (by omega)]
    omega
  unfold tk
  dsimp only
  by_cases hp1 : p = a.length + 1
  · rw [if_pos hp1, k0, k2]
    have e3 : ∀ (x y : Int), rk (a ++ x :: y :: b) p j = rk a a.length j + if (j : Int) ≤ x then 1 else 0 := fun x y => by
      rw [key, hp1, show a.length + 1 - a.length = 0 + 1 by omega, rk_cons, rk_zero, rk_big (by omega)]
      omega
    split
    · rw [e3]; split <;> split <;> omega
    · rw [e3]; split <;> split <;> omega
  · rw [if_neg hp1]
    split
    · rw [key, key]
      congr 1
      by_cases hp2 : p ≤ a.length
      · rw [show p - a.length = 0 by omega, rk_zero, rk_zero]
      · obtain ⟨q, hq⟩ : ∃ q, p - a.length = q + 1 + 1 := ⟨p - a.length - 2, by omega⟩
        rw [hq, rk_cons, rk_cons, rk_cons, rk_cons]; omega
    · rfl
theorem rk_hpF {n : Int} : ∀ (row xs : List Int), RowOk n row → (xs.length : Int) = n → ∀ j, (fun p => rk (hpF xs row) p j) = tR row (fun p => rk xs p j)
  | [], _, _, _, _ => rfl
  | i :: row, xs, h, hl, j => by
    have h0 := h i (by simp)
    have := rk_hpF row (hp xs i) (fun k hk => h k (by simp [hk])) (by simpa using hl) j
    rw [rk_hp h0.1 (by omega)] at this
    exact this
/-! ### least values -/
def Mn (n : Nat) (x : Nat) (g : Nat → Nat) : Prop := (∀ l, l ≤ n → x ≤ g l) ∧ ∃ l, l ≤ n ∧ x = g l
theorem Mn.uniq {n x y : Nat} {g : Nat → Nat} (h : Mn n x g) (h' : Mn n y g) : x = y := by
  obtain ⟨a, l, hl, e⟩ := h
  obtain ⟨b, m, hm, e'⟩ := h'
  have := a m hm
  have := b l hl
  omega
/-- F is the least of f l + R l -/
def Lst (n : Nat) (F f : Nat → Nat) (R : Nat → Nat → Nat) : Prop := ∀ i, Mn n (F i) (fun l => f l + R l i)
theorem Lst.tk {n : Nat} {F f : Nat → Nat} {R : Nat → Nat → Nat} (h : Lst n F f R) (k : Nat) : Lst n (tk k F) f (fun l => tk k (R l)) := by
  intro i
  unfold Sp.tk
  by_cases hi : i = k + 1
  · simp only [if_pos hi]
    obtain ⟨a, l, hl, e⟩ := h k
    obtain ⟨b, m, hm, e'⟩ := h (k + 2)
    dsimp only at a e b e'
    refine ⟨fun q hq => ?_, ?_⟩
    · have := a q hq; have := b q hq; dsimp only; omega
    · by_cases z : F k + 1 ≤ F (k + 2)
      · exact ⟨l, hl, by have := b l hl; dsimp only; omega⟩
      · exact ⟨m, hm, by have := a m hm; dsimp only; omega⟩
  · simp only [if_neg hi]
    exact h i
theorem Lst.tR {n : Nat} : ∀ (row : List Int) {F f : Nat → Nat} {R : Nat → Nat → Nat}, Lst n F f R → Lst n (tR row F) f (fun l => tR row (R l))
  | [], _, _, _, h => h
  | i :: row, _, _, _, h => Lst.tR row (h.tk i.toNat)
theorem rk_up {n : Nat} (l : Nat) : ∀ i, rk (upto n) i l = min i n - l
  | 0 => by simp [rk_zero]
  | i + 1 => by
    have ih := rk_up (n := n) l i
    by_cases z : i < n
    · rw [rk_step (by simpa using z), ih]
      have : itI (upto n) i = i := by
        rw [itI_at (by simpa using z), upto_get]
      rw [this]
      split <;> omega
    · rw [rk_big (by simp; omega), upto_len]
      rw [rk_big (by simp; omega), upto_len] at ih
      omega
theorem rk_inc (xs : List Int) (j : Nat) : ∀ i, rk xs i j ≤ rk xs (i + 1) j ∧ rk xs (i + 1) j ≤ rk xs i j + 1 := fun i => by
  by_cases z : i < xs.length
  · rw [rk_step z]; split <;> omega
  · rw [rk_big (xs := xs) (i := i) (by omega), rk_big (xs := xs) (i := i + 1) (by omega)]; omega
theorem rk_gap (xs : List Int) (j : Nat) (a : Nat) : ∀ d, rk xs a j ≤ rk xs (a + d) j ∧ rk xs (a + d) j ≤ rk xs a j + d
  | 0 => ⟨Nat.le_refl _, Nat.le_refl _⟩
  | d + 1 => by
    have ih := rk_gap xs j a d
    have := rk_inc xs j (a + d)
    rw [← Nat.add_assoc]; omega
theorem rk_base {n : Nat} {xs : List Int} (hl : xs.length = n) (j : Nat) : Lst n (fun p => rk xs p j) (fun l => rk xs l j) (fun l p => rk (upto n) p l) := by
  intro i
  have e : rk xs i j = rk xs (min i n) j := by
    rcases Nat.le_total i n with z | z
    · rw [Nat.min_eq_left z]
    · rw [Nat.min_eq_right z, rk_big (by omega), hl]
  refine ⟨fun l hl' => ?_, min i n, by omega, ?_⟩
  · show rk xs i j ≤ rk xs l j + rk (upto n) i l
    rw [rk_up, e]
    rcases Nat.le_total l (min i n) with z | z
    · have := rk_gap xs j l (min i n - l)
      rw [show l + (min i n - l) = min i n by omega] at this
      omega
    · have := rk_gap xs j (min i n) (l - min i n)
      rw [show min i n + (l - min i n) = l by omega] at this
      omega
  · show rk xs i j = rk xs (min i n) j + rk (upto n) i (min i n)
    rw [rk_up, e]; omega
/-- p is the heaped product of w and v -/
def Star (n : Nat) (w v p : List Int) : Prop := ∀ i, i ≤ n → ∀ j, j ≤ n → Mn n (rk p i j) (fun l => rk w l j + rk v i l)
theorem star_hp {n : Nat} {w v row : List Int} (hr : RowOk n row) (hw : w.length = n) (hv : hpF (upto n) row = v) : Star n w v (hpF w row) := by
  intro i _ j _
  have h := (rk_base hw j).tR row i
  rw [← rk_hpF row w hr (by omega) j] at h
  have e : (fun l => tR row (fun p => rk (upto n) p l)) = fun l p => rk v p l := by
    funext l
    rw [← rk_hpF row (upto n) hr (by rw [upto_len]; omega) l, hv]
  have h2 : Mn n (rk (hpF w row) i j) (fun l => rk w l j + (fun l => tR row (fun p => rk (upto n) p l)) l i) := h
  rw [e] at h2
  exact h2
theorem rk_inj {n : Nat} {p q : List Int} (hp : List.Perm p (upto n)) (hq : List.Perm q (upto n)) (h : ∀ i, i ≤ n → ∀ j, j ≤ n → rk p i j = rk q i j) : p = q := by
  have lp : p.length = n := by rw [hp.length_eq, upto_len]; omega
  have lq : q.length = n := by rw [hq.length_eq, upto_len]; omega
  apply ext_itI (by omega)
  intro k hk hk2
  have mp := mem_upto.mp (hp.mem_iff.mp (itI_mem (xs := p) hk hk2))
  have mq := mem_upto.mp (hq.mem_iff.mp (itI_mem (xs := q) hk (by omega)))
  have key : ∀ j : Nat, j ≤ n → ((j : Int) ≤ itI p k ↔ (j : Int) ≤ itI q k) := by
    intro j hj
    have a := rk_step (xs := p) (i := k.toNat) (by omega) j
    have b := rk_step (xs := q) (i := k.toNat) (by omega) j
    rw [h _ (by omega) j hj, h k.toNat (by omega) j hj] at a
    rw [Int.toNat_of_nonneg hk] at a b
    split at a <;> split at b <;> constructor <;> intro <;> omega
  have a := (key (itI p k).toNat (by omega)).mp (by omega)
  have b := (key (itI q k).toNat (by omega)).mpr (by omega)
  omega
theorem Star.uniq {n : Nat} {w v p q : List Int} (hp : List.Perm p (upto n)) (hq : List.Perm q (upto n)) (h : Star n w v p) (h' : Star n w v q) : p = q :=
  rk_inj hp hq (fun i hi j hj => (h i hi j hj).uniq (h' i hi j hj))
theorem Star.assoc {n : Nat} {a b c ab bc x y : List Int} (hx : List.Perm x (upto n)) (hy : List.Perm y (upto n)) (h1 : Star n a b ab) (h2 : Star n ab c x) (h3 : Star n b c bc) (h4 : Star n a bc y) : x = y := by
  apply rk_inj hx hy
  intro i hi j hj
  obtain ⟨p1, l, hl, e1⟩ := h2 i hi j hj
  obtain ⟨p2, m, hm, e2⟩ := h4 i hi j hj
  obtain ⟨p3, q, hq, e3⟩ := h1 l hl j hj
  obtain ⟨p4, r, hr, e4⟩ := h3 i hi m hm
  have a1 := (h4 i hi j hj).1 q hq
  have a2 := (h3 i hi q hq).1 l hl
  have b1 := (h2 i hi j hj).1 r hr
  have b2 := (h1 r hr j hj).1 m hm
  simp only at *
  omega
/-! ### ways back -/
theorem rk_le (xs : List Int) (i j : Nat) : rk xs i j ≤ i := by
  unfold rk
  exact Nat.le_trans List.countP_le_length (by rw [List.length_take]; omega)
theorem count_not (l : List Int) (q : Int → Bool) : l.countP q + l.countP (fun x => !q x) = l.length := by
  induction l with
  | nil => rfl
  | cons x l ih =>
    rw [List.countP_cons, List.countP_cons, List.length_cons]
    cases q x <;> simp <;> omega
theorem rk_way {n : Nat} {w : List Int} (p : List.Perm w (upto n)) {i j : Nat} (hi : i ≤ n) (hj : j ≤ n) : rk (wayL w) i j + j = i + rk w j i := by
  have hl : w.length = n := by rw [p.length_eq, upto_len]; omega
  have nd : w.Nodup := p.nodup_iff.mpr (upto_nodup n)
  have e1 : rk (wayL w) i j = (upto i).countP (fun t => decide ((j : Int) ≤ pos w t)) := by
    unfold rk
    rw [← upto_it (by simp [wayL, hl]; omega), List.countP_map]
    apply List.countP_congr
    intro t ht
    have := mem_upto.mp ht
    have e : itI (wayL w) t = pos w t := it_map _ this.1 (by omega)
    simp only [Function.comp, e]
  have e2 : rk w j i = (upto j).countP (fun a => decide ((i : Int) ≤ itI w a)) := by
    unfold rk
    rw [← upto_it (by omega), List.countP_map]
    rfl
  have c1 := count_not (upto i) (fun t => decide ((j : Int) ≤ pos w t))
  have c2 := count_not (upto j) (fun a => decide ((i : Int) ≤ itI w a))
  rw [upto_len] at c1 c2
  have d1 : (upto i).countP (fun t => !decide ((j : Int) ≤ pos w t)) = (upto n).countP (fun t => decide (t < (i : Int)) && !decide ((j : Int) ≤ pos w t)) := (upto_count _ n i hi).symm
  have d2 : (upto j).countP (fun a => !decide ((i : Int) ≤ itI w a)) = (upto n).countP (fun a => decide (a < (j : Int)) && !decide ((i : Int) ≤ itI w a)) := (upto_count _ n j hj).symm
  have d3 : (upto n).countP (fun t => decide (t < (i : Int)) && !decide ((j : Int) ≤ pos w t)) = (upto n).countP (fun a => decide (a < (j : Int)) && !decide ((i : Int) ≤ itI w a)) := by
    rw [← p.countP_eq]
    conv => lhs; arg 2; rw [← map_it w]
    rw [List.countP_map, hl]
    apply List.countP_congr
    intro a ha
    have m := mem_upto.mp ha
    simp only [Function.comp]
    rw [it_pos nd m.1 (by omega)]
    simp
    omega
  rw [e1, e2]
  omega
theorem way_perm {n : Nat} {w : List Int} (p : List.Perm w (upto n)) : List.Perm (wayL w) (upto n) := by
  have hl : w.length = n := by rw [p.length_eq, upto_len]; omega
  have nd : w.Nodup := p.nodup_iff.mpr (upto_nodup n)
  unfold wayL
  rw [hl]
  have a := (p.map (pos w)).symm
  have e : w.map (pos w) = upto n := by
    conv => lhs; arg 2; rw [← map_it w]
    rw [List.map_map, hl]
    have : (upto n).map (pos w ∘ itI w) = (upto n).map id := List.map_congr_left (fun x hx => by
      have := mem_upto.mp hx
      exact it_pos nd this.1 (by omega))
    rw [this, List.map_id]
  rw [e] at a
  exact a
theorem way_way {n : Nat} {w : List Int} (p : List.Perm w (upto n)) : wayL (wayL w) = w := by
  apply rk_inj (way_perm (way_perm p)) p
  intro i hi j hj
  have a := rk_way (way_perm p) hi hj
  have b := rk_way p hj hi
  omega
theorem Star.way {n : Nat} {a b p : List Int} (ha : List.Perm a (upto n)) (hb : List.Perm b (upto n)) (hp : List.Perm p (upto n)) (h : Star n a b p) : Star n (wayL b) (wayL a) (wayL p) := by
  intro i hi j hj
  obtain ⟨q, l, hl, e⟩ := h j hj i hi
  have a0 := rk_way hp hi hj
  refine ⟨fun m hm => ?_, l, hl, ?_⟩
  · have := q m hm
    have a1 := rk_way hb hm hj
    have a2 := rk_way ha hi hm
    simp only at *
    omega
  · have a1 := rk_way hb hl hj
    have a2 := rk_way ha hi hl
    simp only at *
    omega
/-! ### heaping shortest rows -/
theorem hpF_red {n : Int} (hn : 0 ≤ n) {row : List Int} (hr : RowOk n row) (h : inv (led n row) = row.length) : hpF (upto n) row = led n row := by
  have a := (hpt_all hn hr row.length (Nat.le_refl _)).mpr (by rw [List.take_length]; exact h)
  have b := hpt_led (n := n) (xs := upto n) (row := row) row.length (Nat.le_refl _)
  rw [a, upto_it (Nat.le_refl _), List.take_length] at b
  exact b.symm
theorem hpF_still {n : Int} : ∀ (row xs : List Int), RowOk n row → (xs.length : Int) = n → (hpF xs row = xs ↔ ∀ i ∈ row, ¬ itI xs i < itI xs (i + 1))
  | [], xs, _, _ => by simp [hpF]
  | i :: row, xs, h, hl => by
    have h0 := h i (by simp)
    have hr' : RowOk n row := fun k hk => h k (by simp [hk])
    have ih := hpF_still row xs hr' hl
    have e : hpF xs (i :: row) = hpF (hp xs i) row := rfl
    by_cases z : itI xs i < itI xs (i + 1)
    · constructor
      · intro q
        rw [e] at q
        have a := inv_mono row (hp xs i) hr' (by simpa using hl)
        have b := inv_hp (xs := xs) h0.1 (by omega)
        rw [q, b, if_pos z] at a
        omega
      · intro q
        exact absurd z (q i (by simp))
    · have e2 : hp xs i = xs := by unfold hp; rw [if_neg z]
      rw [e, e2, ih]
      constructor
      · intro q k hk
        rcases List.mem_cons.mp hk with y | y
        · rw [y]; exact z
        · exact q k y
      · intro q k hk
        exact q k (by simp [hk])
theorem down_fix {n : Nat} {row : List Int} (hr : RowOk n row) : hpF (upto n).reverse row = (upto n).reverse := by
  refine (hpF_still row _ hr (by simp)).mpr (fun i hi => ?_)
  have h0 := hr i hi
  have it : ∀ k : Int, 0 ≤ k → k < n → itI (upto n).reverse k = n - 1 - k := by
    intro k hk hk2
    have e : k = (k.toNat : Int) := by omega
    rw [e, itI_at (by simp; omega), List.getElem_reverse, upto_get]
    rw [upto_len]; omega
  rw [it i (by omega) (by omega), it (i + 1) (by omega) (by omega)]
  omega
end Sp
end

section
set_option Elab.async false
set_option linter.all false
set_option maxRecDepth 100000
set_option maxHeartbeats 4000000
/-! Heaped products: the functions. -/
namespace Sp
open Sw
open PySem (PyData Str)
/-! ### rows of an order -/
theorem red_exists {n : Nat} : ∀ (k : Nat) (xs : List Int), inv xs = k → List.Perm xs (upto n) → ∃ row, RowOk n row ∧ row.length = inv xs ∧ led n row = xs
  | 0, xs, h, p => ⟨[], .nil, by rw [h]; rfl, (rest_of_inv h p).symm⟩
  | k + 1, xs, h, p => by
    have hl : xs.length = n := by rw [p.length_eq, upto_len]; omega
    obtain ⟨i, h0, h1, h2⟩ := falls_some (xs := xs) (by omega)
    have e := inv_swp (xs := xs) h0 h1
    rw [if_pos h2, if_neg (by omega)] at e
    obtain ⟨row, r1, r2, r3⟩ := red_exists k (swp xs i (i + 1)) (by omega) ((swp_perm h0 (by omega) (by omega) h1).trans p)
    refine ⟨row ++ [i], r1.app (.cons h0 (by omega) .nil), by simp; omega, ?_⟩
    rw [led, ledF_app]
    show ledF (led n row) [i] = xs
    rw [r3]
    exact swp_swp h0 (by omega) (by omega) h1
open Classical in
/-- the heaped product -/
noncomputable def star (n : Nat) (a b : List Int) : List Int := if h : ∃ row, RowOk n row ∧ hpF (upto n) row = b then hpF a h.choose else a
theorem star_eq {n : Nat} {a b row : List Int} (ha : List.Perm a (upto n)) (hr : RowOk n row) (hb : hpF (upto n) row = b) : hpF a row = star n a b := by
  have hl : a.length = n := by rw [ha.length_eq, upto_len]; omega
  have ex : ∃ row, RowOk n row ∧ hpF (upto n) row = b := ⟨row, hr, hb⟩
  unfold star
  rw [dif_pos ex]
  have c := ex.choose_spec
  exact Star.uniq ((hpF_perm row a hr (by omega)).trans ha) ((hpF_perm _ a c.1 (by omega)).trans ha) (star_hp hr hl hb) (star_hp c.1 hl c.2)
theorem hp_row {n : Nat} {b row : List Int} (hr : RowOk n row) (h : led n row = b) (hl : row.length = inv b) : hpF (upto n) row = b := by
  rw [hpF_red (by omega) hr (by rw [h, hl]), h]
theorem star_row {n : Nat} {a b row : List Int} (ha : List.Perm a (upto n)) (hr : RowOk n row) (h : led n row = b) (hl : row.length = inv b) : hpF a row = star n a b := star_eq ha hr (hp_row hr h hl)
theorem star_ok {n : Nat} {a b : List Int} (ha : List.Perm a (upto n)) (hb : List.Perm b (upto n)) : Star n a b (star n a b) ∧ List.Perm (star n a b) (upto n) := by
  obtain ⟨row, r1, r2, r3⟩ := red_exists _ b rfl hb
  have hl : a.length = n := by rw [ha.length_eq, upto_len]; omega
  rw [← star_row ha r1 r3 r2]
  exact ⟨star_hp r1 hl (hp_row r1 r3 r2), (hpF_perm row a r1 (by omega)).trans ha⟩
theorem star_assoc {n : Nat} {a b c : List Int} (ha : List.Perm a (upto n)) (hb : List.Perm b (upto n)) (hc : List.Perm c (upto n)) : star n (star n a b) c = star n a (star n b c) := by
  obtain ⟨h1, p1⟩ := star_ok ha hb
  obtain ⟨h2, p2⟩ := star_ok p1 hc
  obtain ⟨h3, p3⟩ := star_ok hb hc
  obtain ⟨h4, p4⟩ := star_ok ha p3
  exact Star.assoc p2 p4 h1 h2 h3 h4
theorem star_way {n : Nat} {a b : List Int} (ha : List.Perm a (upto n)) (hb : List.Perm b (upto n)) : wayL (star n a b) = star n (wayL b) (wayL a) := by
  obtain ⟨h1, p1⟩ := star_ok ha hb
  obtain ⟨h2, p2⟩ := star_ok (way_perm hb) (way_perm ha)
  exact Star.uniq (way_perm p1) p2 (Star.way ha hb p1 h1) h2
theorem star_one {n : Nat} {a : List Int} (ha : List.Perm a (upto n)) : star n a (upto n) = a := (star_eq ha .nil rfl).symm
theorem one_star {n : Nat} {b : List Int} (hb : List.Perm b (upto n)) : star n (upto n) b = b := by
  obtain ⟨row, r1, r2, r3⟩ := red_exists _ b rfl hb
  rw [← star_row (.refl _) r1 r3 r2, hp_row r1 r3 r2]
theorem down_star {n : Nat} {b : List Int} (hb : List.Perm b (upto n)) : star n (upto n).reverse b = (upto n).reverse := by
  obtain ⟨row, r1, r2, r3⟩ := red_exists _ b rfl hb
  rw [← star_row (List.reverse_perm _) r1 r3 r2, down_fix r1]
theorem it_down {n : Nat} {k : Int} (hk : 0 ≤ k) (hk2 : k < n) : itI (upto n).reverse k = n - 1 - k := by
  have e : k = (k.toNat : Int) := by omega
  rw [e, itI_at (by simp; omega), List.getElem_reverse, upto_get]
  rw [upto_len]; omega
theorem way_down (n : Nat) : wayL (upto n).reverse = (upto n).reverse := by
  have nd : (upto n).reverse.Nodup := (List.reverse_perm _).nodup_iff.mpr (upto_nodup n)
  apply ext_itI (by simp [wayL])
  intro k hk hk2
  have hk3 : k < n := by simpa [wayL] using hk2
  have hl : (((upto n).reverse.length : Nat) : Int) = n := by simp
  have e1 : itI (wayL (upto n).reverse) k = pos (upto n).reverse k := it_map _ hk (by omega)
  have e2 := it_pos nd (i := n - 1 - k) (by omega) (by omega)
  rw [it_down (by omega) (by omega)] at e2
  have e3 : (n : Int) - 1 - (n - 1 - k) = k := by omega
  rw [e3] at e2
  rw [e1, e2, it_down hk hk3]
theorem star_down {n : Nat} {a : List Int} (ha : List.Perm a (upto n)) : star n a (upto n).reverse = (upto n).reverse := by
  have pd : List.Perm (upto n).reverse (upto n) := List.reverse_perm _
  have h := star_way ha pd
  rw [way_down, down_star (way_perm ha)] at h
  rw [← way_way (star_ok ha pd).2, h, way_down]
/-! ### data -/
theorem canAll_rows (rows : List (List Int)) : PyData.canLayAll0 (rows.map LI) = true := by
  induction rows with
  | nil => rfl
  | cons x xs ih => simp only [List.map_cons, PyData.canLayAll0, ih, PyData.canLay0, canAll_int, Bool.and_self]
theorem depthAll_rows (rows : List (List Int)) : PyData.depthAll (rows.map LI) ≤ 2 := by
  induction rows with
  | nil => exact Nat.zero_le _
  | cons x xs ih =>
    have := depthAll_int x
    simp only [List.map_cons, PyData.depthAll, PyData.depth]; omega
theorem shp_rows (rows : List (List Int)) : shp (.list (rows.map LI)) = true := by
  have := depthAll_rows rows
  rw [shp_iff, PyData.canLay0, canAll_rows, PyData.depth]
  simp; omega
theorem c_neR (rows : List (List Int)) : cmpD .ne (.list (rows.map LI)) (.list (rows.map LI)) = some false := c_selfN (shp_rows rows)
section
variable {Γ : Cal} {σ : S}
theorem tupOf_np {rs : List R} (h : rs.all R.ok = false) (hp : plains (rs.map R.d) = false) : tupOf rs = ⟨.tuple (rs.map R.d), .fz, rs.flatMap R.al⟩ := by
  unfold tupOf
  rw [if_neg (by rw [h]; simp), if_neg (by rw [h]; simp)]
  exact mk_tn hp _ _
/-- a loop over pairs that are no plain data -/
theorem forT_run {i1 i2 : Nat} {body : Stms} {it : Ex} {o : Own} {al : List Nat} {ys : List (PyData × PyData)} (hit : ev Γ it σ = some ⟨.list (ys.map (fun p => .tuple [p.1, p.2])), o, al⟩) (hnp : plains (ys.map (fun p => .tuple [p.1, p.2])) = false) (P : Nat → S → Prop)
    (hs : ∀ (i : Nat) (h : i < ys.length) (s : S), P i s → ∃ s', (execs Γ body ((s.set i1 (some (.fz, ys[i].1))).set i2 (some (.fz, ys[i].2))) = some (.nx s') ∨ execs Γ body ((s.set i1 (some (.fz, ys[i].1))).set i2 (some (.fz, ys[i].2))) = some (.ct s')) ∧ P (i + 1) s') (h0 : P 0 (freezeL σ al)) :
    ∃ s', exec Γ (.for_ (.tp [i1, i2]) it body) σ = some (.nx s') ∧ P ys.length s' := by
  obtain ⟨s', h, p⟩ := forL_inv (step := stepF Γ (.tp [i1, i2]) body) (xs := ys.map (fun p => .tuple [p.1, p.2])) P (fun i hi s p => by
    have hi' : i < ys.length := by simpa using hi
    obtain ⟨s', h, p'⟩ := hs i hi' s p
    refine ⟨s', ?_, p'⟩
    rw [List.getElem_map]
    exact h) _ h0
  exact ⟨s', by rw [for_np hit rfl hnp, h], by simpa using p⟩
theorem own_row_all {ln sw : Nat} (hs : Swaps Γ sw) (hln : ∀ xs : List Int, xs.length ≤ 16777216 → Γ ln [LI xs] = some (.fz, .int (inv xs))) {ds xs : List Int} {at' : Int} (hd : Small ds) (hl : 0 < ds.length) (ha : 0 ≤ at') (hx : xs.length ≤ 1000) :
    ∃ row, runF Γ (w_own_row ln sw) [LI ds, .int at', LI xs] = some (.dp, LI row) ∧ RowOk xs.length row ∧ row.length = inv xs ∧ inv (ledF xs row.reverse) = 0 := by
  have hb := inv_le xs
  have hb2 : xs.length * xs.length ≤ 1000 * 1000 := Nat.mul_le_mul hx hx
  obtain ⟨s', h, fd, cur, t', a', b', e, p1, p2, p3, p4, p5⟩ := forI_run (Γ := Γ) (j := 5) (body := (.cons (.asg (.nm 6) (.comp (.nm 7) (.rng (.int 0) (.bin .sub (.blt .len (.var 2)) (.int 1)) (.int 1)) (.cmp .gt (.idx (.var 4) (.var 7)) (.idx (.var 4) (.bin .add (.var 7) (.int 1)))) (.var 7)))
      (.cons (.asg (.nm 7) (.idx (.var 6) (.bin .mod (.bin .div (.idx (.var 0) (.bin .mod (.bin .add (.var 1) (.var 5)) (.blt .len (.var 0)))) (.int 11)) (.blt .len (.var 6)))))
      (.cons (.app 3 .nil (.var 7))
      (.cons (.asg (.nm 4) (.call sw (.cons (.var 4) (.cons (.var 7) (.cons (.bin .add (.var 7) (.int 1)) .nil)))))
      .nil))))) (it := .rng (.int 0) (.call ln (.cons (.var 2) .nil)) (.int 1)) (o := .dp) (ys := upto (inv xs)) (σ := [some (.fz, LI ds), some (.fz, .int at'), some (.fz, LI xs), some (.dp, .list []), some (.dp, LI xs), none, none, none]) (by simp (disch := omega) [hln xs (by omega)])
    (fun i s => ∃ fd cur t' a' b', s = [some (.fz, LI ds), some (.fz, .int at'), some (.fz, LI xs), some (.dp, LI fd), some (.dp, LI cur), t', a', b'] ∧ RowOk xs.length fd ∧ fd.length = i ∧ cur.length = xs.length ∧ inv cur + i = inv xs ∧ cur = ledF xs fd) (fun i hi s ⟨fd, cur, t1, a1, b1, e, q1, q2, q3, q4, q5⟩ => by
      subst e
      have hi' : i < inv xs := by simpa using hi
      rw [upto_get hi]
      obtain ⟨j, m, r⟩ := own_row_step hs hd hl ha (t := (i : Int)) (by omega) hx q3 (show 0 < inv cur by omega) (fd := fd) (by omega) a1 b1
      have mj := mem_falls.mp m
      have sw := inv_swp (xs := cur) (i := j) mj.1 mj.2.1
      rw [if_pos mj.2.2, if_neg (by omega)] at sw
      refine ⟨_, .inl r, fd ++ [j], swp cur j (j + 1), some (.fz, .int i), _, _, rfl, ?_, by simp [q2], by simp [q3], by omega, by rw [ledF_app, ← q5]; rfl⟩
      intro k hk
      rcases List.mem_append.mp hk with z | z
      · exact q1 k z
      · rw [List.mem_singleton.mp z]; omega) ⟨[], xs, none, none, none, rfl, (fun k hk => by cases hk), rfl, rfl, by omega, rfl⟩
  subst e
  refine ⟨fd.reverse, by simp (disch := first | omega | (simp; done) | (simp; omega)) [runF, w_own_row, h], fun k hk => p1 k (List.mem_reverse.mp hk), by rw [List.length_reverse, p2, upto_len]; omega, by rw [List.reverse_reverse, ← p5]; rw [upto_len] at p4; omega⟩

theorem own_row_led {n : Nat} {xs row : List Int} (p : List.Perm xs (upto n)) (hr : RowOk xs.length row) (h : inv (ledF xs row.reverse) = 0) : RowOk n row ∧ led n row = xs := by
  have hl : xs.length = n := by rw [p.length_eq, upto_len]; omega
  rw [hl] at hr
  refine ⟨hr, ?_⟩
  have e := rest_of_inv h ((fold_perm row.reverse xs hr.rev (by omega)).trans p)
  have b := ledF_back row.reverse xs hr.rev (n := n) (by omega)
  rw [e, List.reverse_reverse] at b
  exact b
def w_heaped_product (on sr : Nat) : Fn := ⟨"heaped_product", 2, ["first", "second"],
    (.cons (.ret (.call on (.cons (.var 0) (.cons (.call sr (.cons (.var 1) .nil)) .nil))))
      .nil)⟩
theorem heaped_product_ok {on sr : Nat} (h1 : HeapsOn Γ on) {n : Nat} {a b : List Int} (ha : List.Perm a (upto n)) (h2 : ∃ row, Γ sr [LI b] = some (.dp, LI row) ∧ RowOk n row ∧ row.length = inv b ∧ led n row = b) : runF Γ (w_heaped_product on sr) [LI a, LI b] = some (.dp, LI (star n a b)) := by
  obtain ⟨row, e, hr, hl, hd⟩ := h2
  have e2 := h1 n a row hr (by rw [ha.length_eq, upto_len]; omega)
  rw [star_row ha hr hd hl] at e2
  refine runF_of rfl rfl ?_
  simp [w_heaped_product, e, e2]
def w_way : Fn := ⟨"_law_way", 1, ["order", "thing"],
    (.cons (.ret (.comp (.nm 1) (.rng (.int 0) (.blt .len (.var 0)) (.int 1)) (.bl true) (.index (.var 0) (.var 1))))
      .nil)⟩
theorem way_ok {n : Nat} {a : List Int} (ha : List.Perm a (upto n)) (hn : n ≤ 1000) : runF Γ w_way [LI a] = some (.dp, LI (wayL a)) := by
  have hl : a.length = n := by rw [ha.length_eq, upto_len]; omega
  have e := comp_ints (Γ := Γ) (σ := [some (.fz, LI a), none]) (j := 1) (it := .rng (.int 0) (.blt .len (.var 0)) (.int 1)) (c := .bl true) (e := .index (.var 0) (.var 1)) (o := .dp)
    (upto a.length) (fun _ => true) (pos a) (by simp (disch := omega)) (by rw [upto_len]; omega) (fun y _ => by simp) (fun y hy _ => by
      rw [hl] at hy
      have hm := ha.mem_iff.mpr hy
      simp [hm])
  rw [List.filter_eq_self.mpr (by simp)] at e
  refine runF_of rfl rfl ?_
  simp [w_way, e, wayL]
end
end Sp
end

section
set_option Elab.async false
set_option linter.all false
set_option maxRecDepth 100000
set_option maxHeartbeats 4000000
/-! Orders just above. -/
namespace Sp
open Sw
open PySem (PyData Str)
/-! ### exchanges of far places -/
theorem split_far {xs : List Int} {i j : Nat} (h : i < j) (h2 : j < xs.length) : ∃ a u m v b, xs = a ++ u :: (m ++ v :: b) ∧ a.length = i ∧ a.length + 1 + m.length = j ∧ m = (xs.take j).drop (i + 1) := by
  refine ⟨xs.take i, xs[i], (xs.take j).drop (i + 1), xs[j], xs.drop (j + 1), ?_, by rw [List.length_take]; omega, by simp; omega, rfl⟩
  have e1 : xs.drop j = xs[j] :: xs.drop (j + 1) := List.drop_eq_getElem_cons (by omega)
  have e2 : xs.drop i = xs[i] :: xs.drop (i + 1) := List.drop_eq_getElem_cons (by omega)
  have e3 : xs.drop (i + 1) = (xs.take j).drop (i + 1) ++ xs.drop j := by
    rw [List.drop_take]
    have : xs.drop j = (xs.drop (i + 1)).drop (j - (i + 1)) := by rw [List.drop_drop]; congr 1; omega
    rw [this, List.take_append_drop]
  rw [← e1, ← e3, ← e2, List.take_append_drop]
theorem itI_far (a : List Int) (u : Int) (m : List Int) (v : Int) (b : List Int) : itI (a ++ u :: (m ++ v :: b)) a.length = u ∧ itI (a ++ u :: (m ++ v :: b)) ((a.length + 1 + m.length : Nat) : Int) = v := by
  constructor
  · rw [itI_at (by simp)]; simp
  · rw [itI_at (by simp; omega), List.getElem_append_right (by omega)]
    have : a.length + 1 + m.length - a.length = m.length + 1 := by omega
    simp [this]
theorem swp_far (a : List Int) (u : Int) (m : List Int) (v : Int) (b : List Int) : swp (a ++ u :: (m ++ v :: b)) a.length ((a.length + 1 + m.length : Nat) : Int) = a ++ v :: (m ++ u :: b) := by
  obtain ⟨e1, e2⟩ := itI_far a u m v b
  unfold swp
  rw [e1, e2, Int.toNat_natCast, Int.toNat_natCast]
  have e3 : a.length + 1 + m.length - a.length = m.length + 1 := by omega
  rw [List.set_append_right _ _ (by omega), Nat.sub_self, List.set_cons_zero, List.set_append_right _ _ (by omega), e3, List.set_cons_succ, List.set_append_right _ _ (by omega), Nat.sub_self, List.set_cons_zero]
/-- how many between two in size -/
def mid (u v : Int) (m : List Int) : Nat := m.countP (fun t => decide (u < t ∧ t < v))
theorem mid_sum {u v : Int} (h : u < v) : ∀ m : List Int, u ∉ m → v ∉ m → cntL v m + cnt u m = cntL u m + cnt v m + 2 * mid u v m
  | [], _, _ => rfl
  | t :: m, hu, hv => by
    rw [List.mem_cons, not_or] at hu hv
    have ih := mid_sum h m hu.2 hv.2
    have e1 : ∀ x, cntL x (t :: m) = cntL x m + if x > t then 1 else 0 := fun x => by simp [cntL, List.countP_cons]
    have e2 : ∀ x, cnt x (t :: m) = cnt x m + if t > x then 1 else 0 := fun x => by simp [cnt, List.countP_cons]
    have e3 : mid u v (t :: m) = mid u v m + if u < t ∧ t < v then 1 else 0 := by simp [mid, List.countP_cons]
    rw [e1, e1, e2, e2, e3]
    have := hu.1
    have := hv.1
    by_cases z1 : u < t <;> by_cases z2 : t < v
    · rw [if_pos (show v > t by omega), if_pos (show t > u by omega), if_neg (show ¬ u > t by omega), if_neg (show ¬ t > v by omega), if_pos ⟨z1, z2⟩]; omega
    · rw [if_neg (show ¬ v > t by omega), if_pos (show t > u by omega), if_neg (show ¬ u > t by omega), if_pos (show t > v by omega), if_neg (fun q => z2 q.2)]; omega
    · rw [if_pos (show v > t by omega), if_neg (show ¬ t > u by omega), if_pos (show u > t by omega), if_neg (show ¬ t > v by omega), if_neg (fun q => z1 q.1)]; omega
    · omega
theorem inv_far {xs : List Int} (nd : xs.Nodup) {i j : Int} (hi : 0 ≤ i) (hij : i < j) (hj : j < xs.length) (hlt : itI xs i < itI xs j) :
    inv (swp xs i j) = inv xs + 1 + 2 * mid (itI xs i) (itI xs j) ((xs.take j.toNat).drop (i.toNat + 1)) := by
  obtain ⟨a, u, m, v, b, e, e1, e2, e3⟩ := split_far (xs := xs) (i := i.toNat) (j := j.toNat) (by omega) (by omega)
  rw [← e3]
  have ei : i = (a.length : Int) := by omega
  have ej : j = ((a.length + 1 + m.length : Nat) : Int) := by omega
  clear e3 e1 e2
  subst e
  obtain ⟨f1, f2⟩ := itI_far a u m v b
  rw [ei, ej, f1, f2] at hlt
  rw [ei, ej, f1, f2, swp_far]
  have hu : u ∉ m := fun z => by
    have := (List.nodup_append.mp nd).2.1
    rw [List.nodup_cons] at this
    exact this.1 (List.mem_append_left _ z)
  have hv : v ∉ m := fun z => by
    have := (List.nodup_append.mp nd).2.1
    rw [List.nodup_cons, List.nodup_append] at this
    exact this.2.2.2 v z v (by simp) rfl
  have key := mid_sum hlt m hu hv
  have r1 : a ++ u :: (m ++ v :: b) = (a ++ (u :: m ++ [v])) ++ b := by simp
  have r2 : a ++ v :: (m ++ u :: b) = (a ++ (v :: m ++ [u])) ++ b := by simp
  have pm : List.Perm (v :: m ++ [u]) (u :: m ++ [v]) := by
    have p1 : List.Perm (v :: m ++ [u]) (u :: (v :: m)) := List.perm_append_singleton _ _
    have p2 : List.Perm (u :: m ++ [v]) (v :: (u :: m)) := List.perm_append_singleton _ _
    exact p1.trans ((List.Perm.swap v u m).trans p2.symm)
  have im : ∀ x y : Int, inv (x :: m ++ [y]) = cntL x m + (if x > y then 1 else 0) + inv m + cnt y m := fun x y => by
    have : x :: m ++ [y] = x :: (m ++ [y]) := rfl
    rw [this, inv, inv_app]
    have c1 : cntL x (m ++ [y]) = cntL x m + if x > y then 1 else 0 := by simp [cntL, List.countP_append, List.countP_cons]
    have c2 : cross m [y] = cnt y m := by simp [cross]
    rw [c1, c2]; simp [inv, cntL]; omega
  rw [r1, r2, inv_app, inv_app a, inv_app _ b, inv_app a, cross_perm_l (pm.append_left a), cross_perm_r a pm, im, im, if_pos (show v > u by omega), if_neg (show ¬ u > v by omega)]
  omega
/-! ### great things at first places -/
theorem rk_far {xs : List Int} {i j : Int} (hi : 0 ≤ i) (hij : i < j) (hj : j < xs.length) (hlt : itI xs i < itI xs j) :
    (∀ p q, rk xs p q ≤ rk (swp xs i j) p q) ∧ ∀ q : Nat, (q : Int) = itI xs j → rk xs (i.toNat + 1) q < rk (swp xs i j) (i.toNat + 1) q := by
  obtain ⟨a, u, m, v, b, e, e1, e2, _⟩ := split_far (xs := xs) (i := i.toNat) (j := j.toNat) (by omega) (by omega)
  have ei : i = (a.length : Int) := by omega
  have ej : j = ((a.length + 1 + m.length : Nat) : Int) := by omega
  clear e1 e2
  subst e
  obtain ⟨f1, f2⟩ := itI_far a u m v b
  rw [ei, ej, f1, f2] at hlt
  rw [ei, ej, f2, swp_far, Int.toNat_natCast]
  have st : ∀ x y : Int, ∀ p q, rk (a ++ x :: (m ++ y :: b)) p q = rk a p q + rk (x :: (m ++ y :: b)) (p - a.length) q := fun x y p q => rk_app _ _ _ _
  constructor
  · intro p q
    rw [st, st]
    cases hs : p - a.length with
    | zero => rw [rk_zero, rk_zero]; omega
    | succ s =>
      rw [rk_cons, rk_cons, rk_app, rk_app]
      cases ht : s - m.length with
      | zero =>
        rw [rk_zero, rk_zero]
        split <;> split <;> omega
      | succ t =>
        rw [rk_cons, rk_cons]
        split <;> split <;> omega
  · intro q hq
    rw [st, st, show a.length + 1 - a.length = 0 + 1 by omega, rk_cons, rk_cons, rk_zero, rk_zero, if_neg (by omega), if_pos (by omega)]
    omega
/-! ### exchanges and ways back -/
theorem way_it {n : Nat} {xs : List Int} (p : List.Perm xs (upto n)) {t : Int} (h0 : 0 ≤ t) (h1 : t < n) : itI (wayL xs) t = pos xs t := by
  have hl : xs.length = n := by rw [p.length_eq, upto_len]; omega
  exact it_map _ h0 (by omega)
theorem perm_bd {n : Nat} {xs : List Int} (p : List.Perm xs (upto n)) {i : Int} (h0 : 0 ≤ i) (h1 : i < n) : 0 ≤ itI xs i ∧ itI xs i < n := by
  have hl : xs.length = n := by rw [p.length_eq, upto_len]; omega
  exact mem_upto.mp (p.mem_iff.mp (itI_mem h0 (by omega)))
theorem way_swp {n : Nat} {xs : List Int} (p : List.Perm xs (upto n)) {i j : Int} (hi : 0 ≤ i) (hi2 : i < n) (hj : 0 ≤ j) (hj2 : j < n) : wayL (swp xs i j) = swp (wayL xs) (itI xs i) (itI xs j) := by
  have hl : xs.length = n := by rw [p.length_eq, upto_len]; omega
  have nd : xs.Nodup := p.nodup_iff.mpr (upto_nodup n)
  have ps : List.Perm (swp xs i j) (upto n) := (swp_perm hi (by omega) hj (by omega)).trans p
  have pw := way_perm p
  have lw : (wayL xs).length = n := by rw [pw.length_eq, upto_len]; omega
  have bi := perm_bd p hi hi2
  have bj := perm_bd p hj hj2
  have ls : (wayL (swp xs i j)).length = n := by rw [(way_perm ps).length_eq, upto_len]; omega
  have nds : (swp xs i j).Nodup := ps.nodup_iff.mpr (upto_nodup n)
  apply ext_itI (by rw [ls, swp_len, lw])
  intro t ht ht2
  rw [ls] at ht2
  rw [way_it ps ht ht2]
  -- the place of t in the exchanged order
  have key : ∀ k : Int, 0 ≤ k → k < n → itI (swp xs i j) k = t → pos (swp xs i j) t = k := fun k h0 h1 e => by
    rw [← e]; exact it_pos nds h0 (by rw [swp_len]; omega)
  have wi : itI (wayL xs) (itI xs i) = i := by rw [way_it p bi.1 bi.2, it_pos nd hi (by omega)]
  have wj : itI (wayL xs) (itI xs j) = j := by rw [way_it p bj.1 bj.2, it_pos nd hj (by omega)]
  by_cases z1 : t = itI xs j
  · rw [key i hi hi2 (by rw [itI_swp_l hi (by omega) hj (by omega)]; exact z1.symm), z1, itI_swp_r bj.1 (by omega), wi]
  · by_cases z2 : t = itI xs i
    · rw [key j hj hj2 (by rw [itI_swp_r hj (by omega)]; exact z2.symm), z2, itI_swp_l bi.1 (by omega) bj.1 (by omega), wj]
    · rw [itI_swp_o bi.1 bj.1 ht z2 z1, way_it p ht ht2]
      have m := p.mem_iff.mpr (mem_upto.mpr ⟨ht, ht2⟩)
      have pl := pos_lt m
      have pi := pos_it m
      refine key _ pl.1 (by omega) ?_
      rw [itI_swp_o hi hj pl.1 (fun e => z2 (by rw [← pi, e])) (fun e => z1 (by rw [← pi, e])), pi]
/-! ### the orders just above -/
def clo (xs : List Int) (i j : Int) : Bool := decide (itI xs i < itI xs j) && decide (inv (swp xs i j) = inv xs + 1)
def abvAt (xs : List Int) (j : Int) : List (List Int) := ((upto j).filter (fun i => clo xs i j)).map (fun i => swp xs i j)
def abv (xs : List Int) (k : Nat) : List (List Int) := (upto k).flatMap (abvAt xs)
theorem abv_S (xs : List Int) (k : Nat) : abv xs (k + 1) = abv xs k ++ abvAt xs k := by
  unfold abv; rw [upto_S, List.flatMap_append]; simp
theorem mem_abv {xs : List Int} {k : Nat} {y : List Int} : y ∈ abv xs k ↔ ∃ i j : Int, 0 ≤ i ∧ i < j ∧ j < k ∧ clo xs i j = true ∧ y = swp xs i j := by
  unfold abv abvAt
  rw [List.mem_flatMap]
  constructor
  · rintro ⟨j, hj, hy⟩
    obtain ⟨i, hi, rfl⟩ := List.mem_map.mp hy
    obtain ⟨hi, hc⟩ := List.mem_filter.mp hi
    have a := mem_upto.mp hj
    have b := mem_upto.mp hi
    exact ⟨i, j, b.1, b.2, a.2, hc, rfl⟩
  · rintro ⟨i, j, h0, h1, h2, hc, rfl⟩
    exact ⟨j, mem_upto.mpr ⟨by omega, h2⟩, List.mem_map.mpr ⟨i, List.mem_filter.mpr ⟨mem_upto.mpr ⟨h0, h1⟩, hc⟩, rfl⟩⟩
theorem swp_inj {xs : List Int} (nd : xs.Nodup) {i j k l : Int} (h0 : 0 ≤ i) (h1 : i < j) (h2 : j < xs.length) (g0 : 0 ≤ k) (g1 : k < l) (g2 : l < xs.length) (e : swp xs i j = swp xs k l) : i = k ∧ j = l := by
  have a : ∀ t : Int, 0 ≤ t → t < xs.length → t ≠ i → t ≠ j → t ≠ k ∧ t ≠ l := fun t t0 t1 hi hj => by
    have q : itI (swp xs k l) t = itI xs t := by rw [← e]; exact itI_swp_o h0 (by omega) t0 hi hj
    constructor
    · intro z; subst z
      rw [itI_swp_l t0 t1 (by omega) (by omega)] at q
      have := it_inj nd (by omega) (by omega) t0 t1 q; omega
    · intro z; subst z
      rw [itI_swp_r t0 t1] at q
      have := it_inj nd (by omega) (by omega) t0 t1 q; omega
  have hk : k = i ∨ k = j := by
    apply Classical.byContradiction
    intro z
    exact (a k g0 (by omega) (by omega) (by omega)).1 rfl
  have hl : l = i ∨ l = j := by
    apply Classical.byContradiction
    intro z
    exact (a l (by omega) g2 (by omega) (by omega)).2 rfl
  omega
theorem abv_nodup {xs : List Int} (nd : xs.Nodup) {k : Nat} (hk : k ≤ xs.length) : (abv xs k).Nodup := by
  unfold abv
  show List.Pairwise (· ≠ ·) _
  rw [List.pairwise_flatMap]
  constructor
  · intro j hj
    have a := mem_upto.mp hj
    unfold abvAt
    rw [List.pairwise_map]
    refine List.Pairwise.imp_of_mem (fun {x y} hx hy (h : x < y) => ?_) ((upto_lt j).filter _)
    have b := mem_upto.mp (List.mem_filter.mp hx).1
    have c := mem_upto.mp (List.mem_filter.mp hy).1
    intro e
    have := swp_inj nd b.1 b.2 (by omega) c.1 c.2 (by omega) e
    omega
  · refine List.Pairwise.imp_of_mem (fun {x y} hx hy (h : x < y) => ?_) (upto_lt k)
    have b := mem_upto.mp hx
    have c := mem_upto.mp hy
    intro u hu v hv e
    subst e
    unfold abvAt at hu hv
    obtain ⟨i, hi, rfl⟩ := List.mem_map.mp hu
    obtain ⟨l, hl, e⟩ := List.mem_map.mp hv
    have p := mem_upto.mp (List.mem_filter.mp hi).1
    have q := mem_upto.mp (List.mem_filter.mp hl).1
    have := swp_inj nd p.1 p.2 (by omega) q.1 q.2 (by omega) e.symm
    omega
theorem map_nodup {α β : Type} {f : α → β} : ∀ {l : List α}, l.Nodup → (∀ a ∈ l, ∀ b ∈ l, f a = f b → a = b) → (l.map f).Nodup
  | [], _, _ => List.nodup_nil
  | x :: l, h, k => by
    rw [List.nodup_cons] at h
    rw [List.map_cons, List.nodup_cons]
    refine ⟨fun z => ?_, map_nodup h.2 fun a ha b hb => k a (by simp [ha]) b (by simp [hb])⟩
    obtain ⟨y, hy, e⟩ := List.mem_map.mp z
    have := k x (by simp) y (by simp [hy]) e.symm
    subst this
    exact h.1 hy
theorem abv_perm {n : Nat} {xs y : List Int} (p : List.Perm xs (upto n)) (h : y ∈ abv xs n) : List.Perm y (upto n) := by
  have hl : xs.length = n := by rw [p.length_eq, upto_len]; omega
  obtain ⟨i, j, h0, h1, h2, _, rfl⟩ := mem_abv.mp h
  exact (swp_perm h0 (by omega) (by omega) (by omega)).trans p
theorem clo_way {n : Nat} {xs : List Int} (p : List.Perm xs (upto n)) {i j : Int} (h0 : 0 ≤ i) (h1 : i < j) (h2 : j < n) (hc : clo xs i j = true) : clo (wayL xs) (itI xs i) (itI xs j) = true := by
  have hl : xs.length = n := by rw [p.length_eq, upto_len]; omega
  have nd : xs.Nodup := p.nodup_iff.mpr (upto_nodup n)
  unfold clo at hc ⊢
  rw [Bool.and_eq_true, decide_eq_true_eq, decide_eq_true_eq] at hc ⊢
  have bi := perm_bd p h0 (by omega)
  have bj := perm_bd p (show 0 ≤ j by omega) h2
  rw [way_it p bi.1 bi.2, way_it p bj.1 bj.2, it_pos nd h0 (by omega), it_pos nd (by omega) (by omega), ← way_swp p h0 (by omega) (by omega) h2,
    inv_way ((swp_perm h0 (by omega) (by omega) (by omega)).trans p), inv_way p]
  exact ⟨h1, hc.2⟩
theorem abv_way1 {n : Nat} {xs y : List Int} (p : List.Perm xs (upto n)) (h : y ∈ abv xs n) : wayL y ∈ abv (wayL xs) n := by
  obtain ⟨i, j, h0, h1, h2, hc, rfl⟩ := mem_abv.mp h
  have hc' := hc
  unfold clo at hc'
  rw [Bool.and_eq_true, decide_eq_true_eq] at hc'
  have bi := perm_bd p h0 (by omega)
  have bj := perm_bd p (show 0 ≤ j by omega) h2
  exact mem_abv.mpr ⟨_, _, bi.1, hc'.1, bj.2, clo_way p h0 h1 h2 hc, way_swp p h0 (by omega) (by omega) h2⟩
theorem abv_way {n : Nat} {xs : List Int} (p : List.Perm xs (upto n)) : List.Perm ((abv xs n).map wayL) (abv (wayL xs) n) := by
  have hl : xs.length = n := by rw [p.length_eq, upto_len]; omega
  have nd : xs.Nodup := p.nodup_iff.mpr (upto_nodup n)
  have pw := way_perm p
  have lw : (wayL xs).length = n := by rw [pw.length_eq, upto_len]; omega
  have ndw : (wayL xs).Nodup := pw.nodup_iff.mpr (upto_nodup n)
  refine (List.perm_ext_iff_of_nodup (map_nodup (abv_nodup nd (by omega)) fun a ha b hb e => ?_) (abv_nodup ndw (by omega))).mpr fun y => ⟨fun h => ?_, fun h => ?_⟩
  · rw [← way_way (abv_perm p ha), ← way_way (abv_perm p hb), e]
  · obtain ⟨z, hz, rfl⟩ := List.mem_map.mp h
    exact abv_way1 p hz
  · have := abv_way1 pw h
    rw [way_way p] at this
    exact List.mem_map.mpr ⟨_, this, way_way (abv_perm pw h)⟩
theorem inv_gt {xs : List Int} : (∀ i : Int, 0 ≤ i → i + 1 < xs.length → ¬ itI xs i < itI xs (i + 1)) → xs.Pairwise (· ≥ ·) := by
  induction xs with
  | nil => intro _; exact .nil
  | cons x r ih =>
    intro h
    have hr : r.Pairwise (· ≥ ·) := ih fun i h0 h1 => by
      have := h (i + 1) (by omega) (by simp; omega)
      have e : ∀ k : Int, 0 ≤ k → itI (x :: r) (k + 1) = itI r k := fun k hk => by
        unfold itI
        have : (k + 1).toNat = k.toNat + 1 := by omega
        rw [this]; rfl
      rwa [e i h0, e (i + 1) (by omega)] at this
    refine List.pairwise_cons.mpr ⟨fun y hy => ?_, hr⟩
    cases r with
    | nil => cases hy
    | cons z r =>
      have h0 := h 0 (by omega) (by simp; omega)
      have e0 : itI (x :: z :: r) 0 = x := rfl
      have e1 : itI (x :: z :: r) (0 + 1) = z := rfl
      rw [e0, e1] at h0
      rcases List.mem_cons.mp hy with e | e
      · omega
      · have := (List.pairwise_cons.mp hr).1 y e
        omega
theorem abv_nil {n : Nat} {xs : List Int} (p : List.Perm xs (upto n)) : abv xs n = [] ↔ xs = (upto n).reverse := by
  have hl : xs.length = n := by rw [p.length_eq, upto_len]; omega
  have nd : xs.Nodup := p.nodup_iff.mpr (upto_nodup n)
  constructor
  · intro h
    have q : xs.Pairwise (· ≥ ·) := inv_gt fun i h0 h1 z => by
      have e := inv_swp (xs := xs) h0 h1
      rw [if_neg (by omega), if_pos (by omega)] at e
      have : swp xs i (i + 1) ∈ abv xs n := mem_abv.mpr ⟨i, i + 1, h0, by omega, by omega, by simp [clo, z]; omega, rfl⟩
      rw [h] at this; cases this
    have r1 : xs.reverse.Pairwise (· ≤ ·) := List.pairwise_reverse.mpr (q.imp fun h => by omega)
    have := sorted_eq r1 (upto_le n) ((List.reverse_perm xs).trans p)
    rw [← this, List.reverse_reverse]
  · intro h
    apply List.eq_nil_iff_forall_not_mem.mpr
    intro y hy
    obtain ⟨i, j, h0, h1, h2, hc, _⟩ := mem_abv.mp hy
    unfold clo at hc
    rw [Bool.and_eq_true, decide_eq_true_eq, h, it_down h0 (by omega), it_down (by omega) h2] at hc
    omega
/-! ### sorted rows -/
theorem sortD_rows (X : List (List Int)) : sortD (X.map LI) = (X.mergeSort (fun a b => decide (a ≤ b))).map LI := by
  have := PySem.W.sort_maps (r := fun a b : List Int => decide (a ≤ b)) (s := PySem.W.dataLe false id) (l := X) LI (fun a _ b _ => by
    have := congrFun (congrFun (PySem.W.dataLe_rows (fun b : List Int => b)) a) b
    exact this.symm)
  exact this.symm
theorem rows_trans (a b c : List Int) : decide (a ≤ b) = true → decide (b ≤ c) = true → decide (a ≤ c) = true := by
  simp only [decide_eq_true_eq]; exact fun h k => List.le_trans h k
theorem rows_total (a b : List Int) : (decide (a ≤ b) || decide (b ≤ a)) = true := by
  simp only [Bool.or_eq_true, decide_eq_true_eq]; exact List.le_total a b
theorem sorted_rows_eq : ∀ {X Y : List (List Int)}, X.Pairwise (fun a b => a ≤ b) → Y.Pairwise (fun a b => a ≤ b) → List.Perm X Y → X = Y
  | [], Y, _, _, p => List.Perm.nil_eq p
  | x :: X, [], _, _, p => by simpa using p.length_eq
  | x :: X, y :: Y, h1, h2, p => by
    rw [List.pairwise_cons] at h1 h2
    have e : x = y := by
      have m1 : x ∈ y :: Y := p.mem_iff.mp (by simp)
      have m2 : y ∈ x :: X := p.mem_iff.mpr (by simp)
      have a : y ≤ x := by
        rcases List.mem_cons.mp m1 with z | z
        · rw [z]; exact List.le_refl y
        · exact h2.1 x z
      have b : x ≤ y := by
        rcases List.mem_cons.mp m2 with z | z
        · rw [z]; exact List.le_refl x
        · exact h1.1 y z
      exact List.le_antisymm b a
    subst e
    rw [sorted_rows_eq h1.2 h2.2 p.cons_inv]
def srtR (X : List (List Int)) : List (List Int) := X.mergeSort (fun a b => decide (a ≤ b))
theorem srtR_pw (X : List (List Int)) : (srtR X).Pairwise (fun a b => a ≤ b) :=
  (List.pairwise_mergeSort rows_trans rows_total X).imp fun h => of_decide_eq_true h
theorem srtR_perm (X : List (List Int)) : List.Perm (srtR X) X := List.mergeSort_perm _ _
theorem srtR_eq {X Y : List (List Int)} (p : List.Perm X Y) : srtR X = srtR Y :=
  sorted_rows_eq (srtR_pw X) (srtR_pw Y) ((srtR_perm X).trans (p.trans (srtR_perm Y).symm))
theorem sortable_rows (X : List (List Int)) : sortable (X.map LI) = true := by
  have al : ∀ xs ys : List Int, PySem.W.alikeAll (xs.map .int) (ys.map .int) = true := by
    intro xs
    induction xs with
    | nil => intro ys; cases ys <;> simp [PySem.W.alikeAll]
    | cons x xs ih => intro ys; cases ys with
      | nil => simp [PySem.W.alikeAll]
      | cons y ys => simp [PySem.W.alikeAll, PySem.W.alike, ih]
  unfold sortable
  rw [Bool.and_eq_true, Bool.and_eq_true, Bool.or_eq_true]
  refine ⟨⟨?_, .inr ?_⟩, ?_⟩
  · unfold allAlike
    rw [List.all_eq_true]
    intro x hx
    rw [List.all_eq_true]
    intro y hy
    obtain ⟨p, _, rfl⟩ := List.mem_map.mp hx
    obtain ⟨q, _, rfl⟩ := List.mem_map.mp hy
    simp [PySem.W.alike, al]
  · rw [List.all_eq_true]
    intro x hx
    obtain ⟨p, _, rfl⟩ := List.mem_map.mp hx
    rfl
  · rw [List.all_eq_true]
    intro x hx
    obtain ⟨p, _, rfl⟩ := List.mem_map.mp hx
    have := depthAll_int p
    show decide ((PyData.list (p.map .int)).depth ≤ 50) = true
    rw [PyData.depth, decide_eq_true_eq]; omega
end Sp
end

section
set_option Elab.async false
set_option linter.all false
set_option maxRecDepth 100000
set_option maxHeartbeats 4000000
/-! Orders below, just above: the functions. -/
namespace Sp
open Sw
open PySem (PyData Str)
theorem cut_mid (xs : List Int) {l h : Int} (h0 : 0 ≤ l) (h1 : l ≤ h) (h2 : h ≤ xs.length) : cutI xs (some l) (some h) = (xs.take h.toNat).drop l.toNat := by
  unfold cutI
  have e1 : clip xs.length 0 (some l) = min l.toNat xs.length := if_neg (by omega)
  have e2 : clip xs.length xs.length (some h) = min h.toNat xs.length := if_neg (by omega)
  rw [e1, e2, List.drop_take, Nat.min_eq_left (by omega), Nat.min_eq_left (by omega)]
section
variable {Γ : Cal} {σ : S}
theorem forL_ret {step : PyData → S → Option Out} {xs : List PyData} (P : Nat → S → Prop) (Q : Own → PyData → Prop) (hs : ∀ (i : Nat) (h : i < xs.length) (s : S), P i s → (∃ s', (step xs[i] s = some (.nx s') ∨ step xs[i] s = some (.ct s')) ∧ P (i + 1) s') ∨ ∃ o d, step xs[i] s = some (.rt o d) ∧ Q o d) :
    ∀ (σ : S), P 0 σ → (∃ s', forL step xs σ = some (.nx s') ∧ P xs.length s') ∨ ∃ o d, forL step xs σ = some (.rt o d) ∧ Q o d := by
  have go : ∀ (k i : Nat) (σ : S), i + k = xs.length → P i σ → (∃ s', forL step (xs.drop i) σ = some (.nx s') ∧ P xs.length s') ∨ ∃ o d, forL step (xs.drop i) σ = some (.rt o d) ∧ Q o d := by
    intro k
    induction k with
    | zero =>
      intro i σ hi p
      have : xs.drop i = [] := List.drop_eq_nil_of_le (by omega)
      rw [this]
      have e : i = xs.length := by omega
      exact .inl ⟨σ, rfl, e ▸ p⟩
    | succ k ih =>
      intro i σ hi p
      have hl : i < xs.length := by omega
      rw [List.drop_eq_getElem_cons hl]
      rcases hs i hl σ p with ⟨s', h, p'⟩ | ⟨o, d, h, q⟩
      · rcases ih (i + 1) s' (by omega) p' with ⟨s2, h2, p2⟩ | ⟨o, d, h2, q⟩
        · refine .inl ⟨s2, ?_, p2⟩
          rw [forL]
          rcases h with h | h <;> rw [h] <;> exact h2
        · refine .inr ⟨o, d, ?_, q⟩
          rw [forL]
          rcases h with h | h <;> rw [h] <;> exact h2
      · exact .inr ⟨o, d, by rw [forL, h]; rfl, q⟩
  intro σ p
  exact go xs.length 0 σ (by omega) p
theorem forI_ret {j : Nat} {body : Stms} {it : Ex} {o : Own} {ys : List Int} (hit : ev Γ it σ = some ⟨LI ys, o, []⟩) (P : Nat → S → Prop) (Q : Own → PyData → Prop)
    (hs : ∀ (i : Nat) (h : i < ys.length) (s : S), P i s → (∃ s', (execs Γ body (s.set j (some (.fz, .int ys[i]))) = some (.nx s') ∨ execs Γ body (s.set j (some (.fz, .int ys[i]))) = some (.ct s')) ∧ P (i + 1) s') ∨ ∃ o d, execs Γ body (s.set j (some (.fz, .int ys[i]))) = some (.rt o d) ∧ Q o d) (h0 : P 0 σ) :
    (∃ s', exec Γ (.for_ (.nm j) it body) σ = some (.nx s') ∧ P ys.length s') ∨ ∃ o d, exec Γ (.for_ (.nm j) it body) σ = some (.rt o d) ∧ Q o d := by
  have := forL_ret (step := stepF Γ (.nm j) body) (xs := ys.map .int) P Q (fun i hi s p => by
    have hi' : i < ys.length := by simpa using hi
    rw [List.getElem_map]
    exact hs i hi' s p) σ h0
  rw [for_plain hit rfl]
  simpa using this
/-! ### bars -/
def w_bar : Fn := ⟨"bar_between", 2, ["first", "second", "more", "i", "j"],
    (.cons (.asg (.nm 2) (.bin .mul (.lst (.cons (.int 0) .nil)) (.blt .len (.var 0))))
      (.cons (.for_ (.nm 3) (.rng (.int 0) (.blt .len (.var 0)) (.int 1)) (.cons (.for_ (.nm 4) (.rng (.int 0) (.blt .len (.var 0)) (.int 1)) (.cons (.asg (.sub 2 .nil (.var 4)) (.bin .sub (.bin .add (.idx (.var 2) (.var 4)) (.blt .int (.cmp .ge (.idx (.var 0) (.var 3)) (.var 4)))) (.blt .int (.cmp .ge (.idx (.var 1) (.var 3)) (.var 4)))))
      .nil))
      (.cons (.for_ (.nm 4) (.rng (.int 0) (.blt .len (.var 0)) (.int 1)) (.cons (.ite (.cmp .gt (.idx (.var 2) (.var 4)) (.int 0)) (.cons (.ret (.tup (.cons (.bin .add (.var 3) (.int 1)) (.cons (.mv 4) .nil))))
      .nil) .nil)
      .nil))
      .nil)))
      (.cons (.ret .non)
      .nil)))⟩
/-- how many more great things -/
def dif (xs ys : List Int) (i : Nat) (k : Int) : Int := (rk xs i k.toNat : Int) - rk ys i k.toNat
theorem dif_step {xs ys : List Int} {i : Nat} (h : i < xs.length) (h2 : i < ys.length) {k : Int} (hk : 0 ≤ k) : dif xs ys (i + 1) k = dif xs ys i k + (if itI xs i ≥ k then 1 else 0) - (if itI ys i ≥ k then 1 else 0) := by
  unfold dif
  rw [rk_step h, rk_step h2, Int.toNat_of_nonneg hk]
  split <;> split <;> omega
/-- no bar -/
def Blw (n : Nat) (xs ys : List Int) : Prop := ∀ i, i ≤ n → ∀ q, q < n → rk xs i q ≤ rk ys i q
theorem rep_0 {n : Nat} (h : n ≤ 1000000) (o p : Own) (al bl : List Nat) : binD .mul ⟨.list [.int 0], o, al⟩ ⟨.int n, p, bl⟩ = some ⟨LI (List.replicate n 0), .dp, []⟩ := by
  have hm : maxLen = 16777216 := rfl
  have h1 : (n : Int) < 2 ^ 62 := by omega
  have h2 : [PyData.int 0].length * (n : Int).toNat ≤ maxLen := by rw [hm, List.length_singleton]; omega
  have h3 : 0 ≤ (n : Int) ∧ (n : Int) < 2 ^ 62 ∧ [PyData.int 0].length * (n : Int).toNat ≤ maxLen := ⟨Int.natCast_nonneg n, h1, h2⟩
  have e1 : binD .mul ⟨.list [.int 0], o, al⟩ ⟨.int n, p, bl⟩ = some (newL (List.replicate (n : Int).toNat [PyData.int 0]).flatten al) := by
    unfold binD
    dsimp only
    rw [if_pos h3]
  have e : (List.replicate n [PyData.int 0]).flatten = (List.replicate n 0).map .int := by simp
  rw [e1, Int.toNat_natCast, e, newL_int]
theorem bar_in1 {xs ys more : List Int} {n i : Nat} (hx : xs.length = n) (hy : ys.length = n) (hn : n ≤ 1000) (hi : i < n) (hm : more.length = n) (hd : ∀ k : Int, 0 ≤ k → k < n → itI more k = dif xs ys i k) (a : Slot) :
    ∃ more' a', exec Γ (.for_ (.nm 4) (.rng (.int 0) (.blt .len (.var 0)) (.int 1)) (.cons (.asg (.sub 2 .nil (.var 4)) (.bin .sub (.bin .add (.idx (.var 2) (.var 4)) (.blt .int (.cmp .ge (.idx (.var 0) (.var 3)) (.var 4)))) (.blt .int (.cmp .ge (.idx (.var 1) (.var 3)) (.var 4)))))
      .nil)) [some (.fz, LI xs), some (.fz, LI ys), some (.dp, LI more), some (.fz, .int i), a] = some (.nx [some (.fz, LI xs), some (.fz, LI ys), some (.dp, LI more'), some (.fz, .int i), a']) ∧ more'.length = n ∧ ∀ k : Int, 0 ≤ k → k < n → itI more' k = dif xs ys (i + 1) k := by
  obtain ⟨s', h, more', a', e, q1, q2⟩ := forI_run (Γ := Γ) (σ := [some (.fz, LI xs), some (.fz, LI ys), some (.dp, LI more), some (.fz, .int i), a]) (j := 4) (o := .dp) (ys := upto n) (it := .rng (.int 0) (.blt .len (.var 0)) (.int 1)) (body := .cons (.asg (.sub 2 .nil (.var 4)) (.bin .sub (.bin .add (.idx (.var 2) (.var 4)) (.blt .int (.cmp .ge (.idx (.var 0) (.var 3)) (.var 4)))) (.blt .int (.cmp .ge (.idx (.var 1) (.var 3)) (.var 4))))) .nil) (by simp (disch := omega) [hx])
    (fun j s => ∃ more' a', s = [some (.fz, LI xs), some (.fz, LI ys), some (.dp, LI more'), some (.fz, .int i), a'] ∧ more'.length = n ∧ ∀ k : Int, 0 ≤ k → k < n → itI more' k = if k < j then dif xs ys (i + 1) k else dif xs ys i k)
    (fun j hj s ⟨m1, a1, e, q1, q2⟩ => by
      subst e
      have hj' : j < n := by simpa using hj
      rw [upto_get hj]
      refine ⟨_, .inl ?_, m1.set j (itI m1 j + (if itI xs i ≥ j then 1 else 0) - (if itI ys i ≥ j then 1 else 0)), some (.fz, .int j), rfl, by simp [q1], fun k hk hk2 => ?_⟩
      · simp (disch := omega)
      · have e0 := q2 j (by omega) (by omega)
        rw [if_neg (by omega)] at e0
        by_cases z : k = j
        · subst z
          have := itI_set_eq (xs := m1) (i := (j : Int)) (itI m1 j + (if itI xs i ≥ j then 1 else 0) - (if itI ys i ≥ j then 1 else 0)) (by omega) (by omega)
          rw [Int.toNat_natCast] at this
          have t1 : (j : Int) < ((j + 1 : Nat) : Int) := by omega
          rw [this, if_pos t1, dif_step (by omega) (by omega) (by omega), e0]
        · have := itI_set_ne (xs := m1) (i := k) (j := (j : Int)) (itI m1 j + (if itI xs i ≥ j then 1 else 0) - (if itI ys i ≥ j then 1 else 0)) hk (by omega) z
          rw [Int.toNat_natCast] at this
          rw [this, q2 k hk hk2]
          by_cases y : k < j
          · rw [if_pos y, if_pos (by omega)]
          · rw [if_neg y, if_neg (by omega)]) ⟨more, a, rfl, hm, fun k hk hk2 => by rw [if_neg (by omega)]; exact hd k hk hk2⟩
  subst e
  refine ⟨more', a', h, q1, fun k hk hk2 => ?_⟩
  rw [q2 k hk hk2, if_pos (by rw [upto_len]; omega)]
theorem bar_in2 {xs ys more : List Int} {n i : Nat} (hx : xs.length = n) (hn : n ≤ 1000) (hi : i < n) (hm : more.length = n) (hd : ∀ k : Int, 0 ≤ k → k < n → itI more k = dif xs ys (i + 1) k) (a : Slot) :
    (∃ a', exec Γ (.for_ (.nm 4) (.rng (.int 0) (.blt .len (.var 0)) (.int 1)) (.cons (.ite (.cmp .gt (.idx (.var 2) (.var 4)) (.int 0)) (.cons (.ret (.tup (.cons (.bin .add (.var 3) (.int 1)) (.cons (.mv 4) .nil)))) .nil) .nil) .nil)) [some (.fz, LI xs), some (.fz, LI ys), some (.dp, LI more), some (.fz, .int i), a] = some (.nx [some (.fz, LI xs), some (.fz, LI ys), some (.dp, LI more), some (.fz, .int i), a']) ∧ ∀ k : Int, 0 ≤ k → k < n → dif xs ys (i + 1) k ≤ 0) ∨
    ∃ d, exec Γ (.for_ (.nm 4) (.rng (.int 0) (.blt .len (.var 0)) (.int 1)) (.cons (.ite (.cmp .gt (.idx (.var 2) (.var 4)) (.int 0)) (.cons (.ret (.tup (.cons (.bin .add (.var 3) (.int 1)) (.cons (.mv 4) .nil)))) .nil) .nil) .nil)) [some (.fz, LI xs), some (.fz, LI ys), some (.dp, LI more), some (.fz, .int i), a] = some (.rt .fz d) ∧ isNone d = false ∧ ∃ k : Int, 0 ≤ k ∧ k < n ∧ dif xs ys (i + 1) k > 0 := by
  rcases forI_ret (Γ := Γ) (σ := [some (.fz, LI xs), some (.fz, LI ys), some (.dp, LI more), some (.fz, .int i), a]) (j := 4) (o := .dp) (ys := upto n) (it := .rng (.int 0) (.blt .len (.var 0)) (.int 1)) (body := .cons (.ite (.cmp .gt (.idx (.var 2) (.var 4)) (.int 0)) (.cons (.ret (.tup (.cons (.bin .add (.var 3) (.int 1)) (.cons (.mv 4) .nil)))) .nil) .nil) .nil) (by simp (disch := omega) [hx])
    (fun j s => ∃ a', s = [some (.fz, LI xs), some (.fz, LI ys), some (.dp, LI more), some (.fz, .int i), a'] ∧ ∀ k : Int, 0 ≤ k → k < j → dif xs ys (i + 1) k ≤ 0)
    (fun o d => o = .fz ∧ isNone d = false ∧ ∃ k : Int, 0 ≤ k ∧ k < n ∧ dif xs ys (i + 1) k > 0)
    (fun j hj s ⟨a1, e, q⟩ => by
      subst e
      have hj' : j < n := by simpa using hj
      rw [upto_get hj]
      have e0 := hd j (by omega) (by omega)
      by_cases z : itI more j > 0
      · refine .inr ⟨.fz, .tuple [.int (i + 1), .int j], ?_, rfl, rfl, j, by omega, by omega, by rw [← e0]; exact z⟩
        simp (disch := first | omega | (simp; done) | fail) [z, tupOf_ii]
      · refine .inl ⟨_, .inl ?_, some (.fz, .int j), rfl, fun k hk hk2 => ?_⟩
        · simp (disch := omega) [z]
        · by_cases y : k = j
          · subst y; rw [← e0]; omega
          · exact q k hk (by omega)) ⟨a, rfl, fun k hk hk2 => by omega⟩ with ⟨s', h, a', e, q⟩ | ⟨o, d, h, rfl, q1, q2⟩
  · subst e
    exact .inl ⟨a', h, fun k hk hk2 => q k hk (by rw [upto_len]; omega)⟩
  · exact .inr ⟨d, h, q1, q2⟩
theorem bar_ok {xs ys : List Int} {n : Nat} (hx : xs.length = n) (hy : ys.length = n) (hn : n ≤ 1000) : ∃ d, runF Γ w_bar [LI xs, LI ys] = some (.fz, d) ∧ (isNone d = true ↔ Blw n xs ys) := by
  have e0 := rep_0 (n := xs.length) (by omega) .dp .fz [] []
  rcases forI_ret (Γ := Γ) (σ := [some (.fz, LI xs), some (.fz, LI ys), some (.dp, LI (List.replicate xs.length 0)), none, none]) (j := 3) (o := .dp) (ys := upto n) (it := .rng (.int 0) (.blt .len (.var 0)) (.int 1)) (body := (.cons (.for_ (.nm 4) (.rng (.int 0) (.blt .len (.var 0)) (.int 1)) (.cons (.asg (.sub 2 .nil (.var 4)) (.bin .sub (.bin .add (.idx (.var 2) (.var 4)) (.blt .int (.cmp .ge (.idx (.var 0) (.var 3)) (.var 4)))) (.blt .int (.cmp .ge (.idx (.var 1) (.var 3)) (.var 4)))))
      .nil))
      (.cons (.for_ (.nm 4) (.rng (.int 0) (.blt .len (.var 0)) (.int 1)) (.cons (.ite (.cmp .gt (.idx (.var 2) (.var 4)) (.int 0)) (.cons (.ret (.tup (.cons (.bin .add (.var 3) (.int 1)) (.cons (.mv 4) .nil))))
      .nil) .nil)
      .nil))
      .nil))) (by simp (disch := omega) [hx])
    (fun i s => ∃ more a3 a4, s = [some (.fz, LI xs), some (.fz, LI ys), some (.dp, LI more), a3, a4] ∧ more.length = n ∧ (∀ k : Int, 0 ≤ k → k < n → itI more k = dif xs ys i k) ∧ ∀ p, p ≤ i → ∀ k : Int, 0 ≤ k → k < n → dif xs ys p k ≤ 0)
    (fun o d => o = .fz ∧ isNone d = false ∧ ∃ p, p ≤ n ∧ ∃ k : Int, 0 ≤ k ∧ k < n ∧ dif xs ys p k > 0)
    (fun i hi s ⟨more, a3, a4, e, q1, q2, q3⟩ => by
      subst e
      have hi' : i < n := by simpa using hi
      rw [upto_get hi]
      obtain ⟨m', a', h1, p1, p2⟩ := bar_in1 (Γ := Γ) hx hy hn hi' q1 q2 a4
      rcases bar_in2 (Γ := Γ) (ys := ys) hx hn hi' p1 p2 a' with ⟨a'', h2, p3⟩ | ⟨d, h2, p3, k, hk, hk2, p4⟩
      · refine .inl ⟨_, .inl (by simp [h1, h2]), m', some (.fz, .int i), a'', rfl, p1, p2, fun p hp k hk hk2 => ?_⟩
        by_cases z : p = i + 1
        · subst z; exact p3 k hk hk2
        · exact q3 p (by omega) k hk hk2
      · exact .inr ⟨.fz, d, by simp [h1, h2], rfl, p3, i + 1, by omega, k, hk, hk2, p4⟩)
    ⟨_, none, none, rfl, by simp [hx], fun k hk hk2 => by
      have a : dif xs ys 0 k = 0 := by unfold dif; rw [rk_zero, rk_zero]; rfl
      rw [a]
      unfold itI
      rw [List.getD_eq_getElem?_getD]
      have : (List.replicate xs.length (0 : Int))[k.toNat]? = some 0 := by rw [List.getElem?_replicate, if_pos (by omega)]
      rw [this]; rfl, fun p hp k hk hk2 => by
      have : p = 0 := by omega
      subst this
      unfold dif; rw [rk_zero, rk_zero]; omega⟩ with ⟨s', h, more, a3, a4, e, q1, q2, q3⟩ | ⟨o, d, h, rfl, q1, p, hp, k, hk, hk2, q2⟩
  · subst e
    refine ⟨.none, runF_of rfl rfl (by simp (disch := first | omega | (simp; done) | fail) [w_bar, h, listOf_ok, e0, -List.map_replicate]), ⟨fun _ i hi q hq => ?_, fun _ => rfl⟩⟩
    have := q3 i (by rw [upto_len]; omega) q (by omega) (by omega)
    unfold dif at this
    rw [Int.toNat_natCast] at this
    omega
  · refine ⟨d, runF_of rfl rfl (by simp (disch := first | omega | (simp; done) | fail) [w_bar, h, listOf_ok, e0, -List.map_replicate]), ⟨fun z => (by rw [q1] at z; cases z), fun z => ?_⟩⟩
    have := z p hp k.toNat (by omega)
    unfold dif at q2
    omega
def w_is_below (b : Nat) : Fn := ⟨"is_below", 2, ["first", "second"],
    (.cons (.ret (.isN (.call b (.cons (.var 0) (.cons (.var 1) .nil)))))
      .nil)⟩
theorem is_below_ok {b : Nat} {xs ys : List Int} {n : Nat} {r : Bool} (hb : ∃ d, Γ b [LI xs, LI ys] = some (.fz, d) ∧ (isNone d = true ↔ Blw n xs ys)) (hr : r = true ↔ Blw n xs ys) : runF Γ (w_is_below b) [LI xs, LI ys] = some (.fz, .bool r) := by
  obtain ⟨d, e, h⟩ := hb
  have : isNone d = r := by
    cases q : isNone d <;> cases w : r
    · rfl
    · have := h.mpr (hr.mp w); rw [q] at this; cases this
    · have := hr.mpr (h.mp q); rw [w] at this; cases this
    · rfl
  refine runF_of rfl rfl ?_
  simp [w_is_below, e, this]
theorem blw_far {n : Nat} {xs : List Int} (p : List.Perm xs (upto n)) {i j : Int} (hi : 0 ≤ i) (hij : i < j) (hj : j < n) (hlt : itI xs i < itI xs j) : Blw n xs (swp xs i j) ∧ ¬ Blw n (swp xs i j) xs := by
  have hl : xs.length = n := by rw [p.length_eq, upto_len]; omega
  obtain ⟨a, b⟩ := rk_far (xs := xs) hi hij (by omega) hlt
  refine ⟨fun q _ r _ => a q r, fun z => ?_⟩
  have bj := perm_bd p (show 0 ≤ j by omega) hj
  have := b (itI xs j).toNat (by omega)
  have := z (i.toNat + 1) (by omega) (itI xs j).toNat (by omega)
  omega
/-! ### just above -/
def w_close : Fn := ⟨"is_close_pair", 3, ["order", "i", "j", "thing"],
    (.cons (.ite (.cmp .gt (.idx (.var 0) (.var 1)) (.idx (.var 0) (.var 2))) (.cons (.ret (.bl false))
      .nil) .nil)
      (.cons (.ret (.cmp .eq (.blt .len (.comp (.nm 3) (.slc (.var 0) (.bin .add (.var 1) (.int 1)) (.var 2)) (.chain .lt .lt (.idx (.var 0) (.var 1)) (.var 3) (.idx (.var 0) (.var 2))) (.var 3))) (.int 0)))
      .nil))⟩
theorem close_ok {n : Nat} {xs : List Int} (p : List.Perm xs (upto n)) (hn : n ≤ 1000) {i j : Int} (hi : 0 ≤ i) (hij : i < j) (hj : j < n) : runF Γ w_close [LI xs, .int i, .int j] = some (.fz, .bool (clo xs i j)) := by
  have hl : xs.length = n := by rw [p.length_eq, upto_len]; omega
  have nd : xs.Nodup := p.nodup_iff.mpr (upto_nodup n)
  have hne := nodup_ne nd hi (by omega) (show 0 ≤ j by omega) (by omega) (show i ≠ j by omega)
  refine runF_of rfl rfl ?_
  by_cases z : itI xs i > itI xs j
  · have : clo xs i j = false := by unfold clo; rw [show decide (itI xs i < itI xs j) = false by simp; omega]; rfl
    rw [this]
    simp (disch := omega) [w_close, z]
  · have e := inv_far nd hi hij (by omega) (show itI xs i < itI xs j by omega)
    have c1 := cut_mid xs (l := i + 1) (h := j) (by omega) (by omega) (by omega)
    have ec := comp_ints (Γ := Γ) (σ := [some (.fz, LI xs), some (.fz, .int i), some (.fz, .int j), none]) (j := 3) (it := .slc (.var 0) (.bin .add (.var 1) (.int 1)) (.var 2)) (c := .chain .lt .lt (.idx (.var 0) (.var 1)) (.var 3) (.idx (.var 0) (.var 2))) (e := .var 3) (o := .dp)
      ((xs.take j.toNat).drop (i + 1).toNat) (fun t => decide (itI xs i < t ∧ t < itI xs j)) id (by simp [c1]) (by rw [List.length_drop, List.length_take]; omega) (fun y _ => by
        by_cases y1 : itI xs i < y
        · simp (disch := omega) [y1]
        · simp (disch := omega) [y1]) (fun y _ _ => by simp)
    rw [List.map_id] at ec
    have em : ((xs.take j.toNat).drop (i + 1).toNat).filter (fun t => decide (itI xs i < t ∧ t < itI xs j)) = ((xs.take j.toNat).drop (i.toNat + 1)).filter (fun t => decide (itI xs i < t ∧ t < itI xs j)) := by
      rw [show (i + 1).toNat = i.toNat + 1 by omega]
    rw [em] at ec
    have lm : (((xs.take j.toNat).drop (i.toNat + 1)).filter (fun t => decide (itI xs i < t ∧ t < itI xs j))).length = mid (itI xs i) (itI xs j) ((xs.take j.toNat).drop (i.toNat + 1)) := by
      unfold mid; rw [List.countP_eq_length_filter]
    generalize ((xs.take j.toNat).drop (i.toNat + 1)).filter (fun t => decide (itI xs i < t ∧ t < itI xs j)) = F at ec lm
    rw [← lm] at e
    have hc : clo xs i j = decide ((F.length : Int) = 0) := by
      unfold clo
      rw [show decide (itI xs i < itI xs j) = true by simp; omega, Bool.true_and]
      exact decide_eq_decide.mpr (by omega)
    rw [hc]
    simp (disch := omega) [w_close, z, ec]
def w_just_above (cl ex : Nat) : Fn := ⟨"just_above", 1, ["order", "found", "j", "i"],
    (.cons (.asg (.nm 1) (.lst .nil))
      (.cons (.for_ (.nm 2) (.rng (.int 0) (.blt .len (.var 0)) (.int 1)) (.cons (.ext 1 .nil (.comp (.nm 3) (.rng (.int 0) (.var 2) (.int 1)) (.tru (.call cl (.cons (.var 0) (.cons (.var 3) (.cons (.var 2) .nil))))) (.call ex (.cons (.var 0) (.cons (.var 3) (.cons (.var 2) .nil))))))
      .nil))
      (.cons (.ret (.srt (.mv 1)))
      .nil)))⟩
theorem abvAt_len (xs : List Int) (j : Int) : (abvAt xs j).length ≤ j.toNat := by
  unfold abvAt
  rw [List.length_map]
  refine Nat.le_trans (List.length_filter_le _ _) ?_
  rw [upto_len]; exact Nat.le_refl _
theorem abv_len (xs : List Int) : ∀ k : Nat, (abv xs k).length ≤ k * k
  | 0 => Nat.le_refl _
  | k + 1 => by
    have a := abv_len xs k
    have b := abvAt_len xs k
    have e : (k + 1) * (k + 1) = k * k + 2 * k + 1 := by rw [Nat.add_mul, Nat.mul_add]; omega
    rw [abv_S, List.length_append, e]; omega
theorem just_above_ok {cl ex : Nat} (hs : Swaps Γ ex) {n : Nat} {xs : List Int} (p : List.Perm xs (upto n)) (hn : n ≤ 1000) (hc : ∀ i j : Int, 0 ≤ i → i < j → j < n → Γ cl [LI xs, .int i, .int j] = some (.fz, .bool (clo xs i j))) :
    runF Γ (w_just_above cl ex) [LI xs] = some (.dp, .list ((srtR (abv xs n)).map LI)) := by
  have hl : xs.length = n := by rw [p.length_eq, upto_len]; omega
  have hnn : n * n ≤ 1000 * 1000 := Nat.mul_le_mul hn hn
  obtain ⟨s', h, a2, a3, e⟩ := forI_run (Γ := Γ) (σ := [some (.fz, LI xs), some (.dp, .list []), none, none]) (j := 2) (o := .dp) (ys := upto n) (it := .rng (.int 0) (.blt .len (.var 0)) (.int 1)) (body := .cons (.ext 1 .nil (.comp (.nm 3) (.rng (.int 0) (.var 2) (.int 1)) (.tru (.call cl (.cons (.var 0) (.cons (.var 3) (.cons (.var 2) .nil))))) (.call ex (.cons (.var 0) (.cons (.var 3) (.cons (.var 2) .nil)))))) .nil) (by simp (disch := omega) [hl])
    (fun j s => ∃ a2 a3, s = [some (.fz, LI xs), some (.dp, .list ((abv xs j).map LI)), a2, a3]) (fun j hj s ⟨a2, a3, e⟩ => by
      subst e
      have hj' : j < n := by simpa using hj
      rw [upto_get hj]
      have ec := comp_gen (Γ := Γ) (σ := [some (.fz, LI xs), some (.dp, .list ((abv xs j).map LI)), some (.fz, .int j), a3]) (tg := .nm 3) (it := .rng (.int 0) (.var 2) (.int 1)) (c := .tru (.call cl (.cons (.var 0) (.cons (.var 3) (.cons (.var 2) .nil))))) (e := .call ex (.cons (.var 0) (.cons (.var 3) (.cons (.var 2) .nil)))) (d := LI (upto j)) (o := .dp) (al := []) (fun y => .int y) (upto j) (fun y => [some (.fz, LI xs), some (.dp, .list ((abv xs j).map LI)), some (.fz, .int j), some (.fz, .int y)]) (fun i => clo xs i j) (fun i => ⟨LI (swp xs i j), .dp, []⟩)
        (by simp (disch := omega)) rfl (by show _ ≤ 16777216; rw [upto_len]; omega) (fun y _ => rfl) (fun y hy => by
          have b := mem_upto.mp hy
          have := hc y j b.1 b.2 (by omega)
          simp [this]) (fun y hy _ => by
          have b := mem_upto.mp hy
          have := hs xs y j b.1 (by omega) (by omega) (by omega)
          simp [this])
      have eok : (List.map (fun i => (⟨LI (swp xs i j), .dp, []⟩ : R)) ((upto j).filter (fun i => clo xs i j))).all R.ok = true := by
        rw [List.all_eq_true]
        intro x hx
        obtain ⟨y, _, rfl⟩ := List.mem_map.mp hx
        simp
      rw [listOf_ok eok] at ec
      have ed : (List.map (fun i => (⟨LI (swp xs i j), .dp, []⟩ : R)) ((upto j).filter (fun i => clo xs i j))).map R.d = (abvAt xs j).map LI := by simp [abvAt, List.map_map, Function.comp_def]
      rw [ed] at ec
      have la := abv_len xs j
      have lb := abvAt_len xs j
      have ljj : j * j ≤ n * n := Nat.mul_le_mul (by omega) (by omega)
      have hx := ext_l ((abvAt xs j).map LI) ((abv xs j).map LI) (by rw [List.length_map, List.length_map]; omega)
      refine ⟨_, .inl ?_, some (.fz, .int j), a3, rfl⟩
      rw [abv_S, List.map_append]
      simp [ec, hx, -List.map_append]) ⟨none, none, rfl⟩
  subst e
  rw [upto_len, Int.toNat_natCast] at h
  have es := srtM_dp (al := []) (s := [some (.fz, LI xs), none, a2, a3]) (sortable_rows (abv xs n))
  rw [sortD_rows] at es
  refine runF_of rfl rfl ?_
  simp (disch := first | omega | (simp; done) | fail) [w_just_above, h, es]
  rfl
end
end Sp
end

section
set_option Elab.async false
set_option linter.all false
set_option maxRecDepth 100000
set_option maxHeartbeats 4000000
/-! Still orders. -/
namespace Sp
open Sw
open PySem (PyData Str)
/-! ### numbers of a row -/
theorem take_swp {xs : List Int} {k : Int} {p : Nat} (h0 : 0 ≤ k) (h1 : k + 1 < xs.length) (hne : k + 1 ≠ p) : List.Perm ((swp xs k (k + 1)).take p) (xs.take p) := by
  obtain ⟨a, u, v, b, e, hl⟩ := split_two (xs := xs) (i := k.toNat) (by omega)
  have ek : k = (a.length : Int) := by omega
  clear hl
  subst e
  rw [ek, swp_split, List.take_append, List.take_append]
  refine List.Perm.append_left _ ?_
  rcases Nat.lt_or_ge p (a.length + 1) with z | z
  · rw [show p - a.length = 0 by omega]; exact .refl _
  · obtain ⟨q, hq⟩ : ∃ q, p - a.length = q + 1 + 1 := ⟨p - a.length - 2, by omega⟩
    rw [hq, List.take_succ_cons, List.take_succ_cons, List.take_succ_cons, List.take_succ_cons]
    exact List.Perm.swap u v _
theorem take_fold {n : Int} {p : Nat} : ∀ (row xs : List Int), RowOk n row → (xs.length : Int) = n → (∀ k ∈ row, k + 1 ≠ (p : Int)) → List.Perm ((ledF xs row).take p) (xs.take p)
  | [], xs, _, _, _ => .refl _
  | k :: row, xs, h, hl, hne => by
    have h0 := h k (by simp)
    exact (take_fold row (swp xs k (k + 1)) (fun q hq => h q (by simp [hq])) (by simpa using hl) (fun q hq => hne q (by simp [hq]))).trans (take_swp h0.1 (by omega) (hne k (by simp)))
theorem upto_take {n p : Nat} (h : p ≤ n) : (upto n).take p = upto p := by
  have := upto_it (xs := upto n) (k := p) (by simpa using h)
  rw [← this]
  have e : (upto p).map (itI (upto n)) = (upto p).map id := List.map_congr_left (fun x hx => by
    have m := mem_upto.mp hx
    have e : x = (x.toNat : Int) := by omega
    rw [e, itI_at (by simp; omega), upto_get]; rfl)
  rw [e, List.map_id]
/-- a number that stands in no row: the place behind it cuts -/
theorem cut_out {n : Nat} {row : List Int} (hr : RowOk n row) {i : Nat} (hi : i < n) (h : (i : Int) ∉ row) : List.Perm ((led n row).take (i + 1)) (upto (i + 1 : Nat)) := by
  have := take_fold (p := i + 1) row (upto n) hr (by rw [upto_len]; omega) (fun k hk e => h (by
    have : k = (i : Int) := by omega
    rw [← this]; exact hk))
  rw [upto_take (by omega)] at this
  exact this
theorem rk_mono_hp {xs : List Int} {k : Int} (h0 : 0 ≤ k) (h1 : k + 1 < xs.length) (i j : Nat) : rk xs i j ≤ rk (hp xs k) i j := by
  have e : rk (hp xs k) i j = tk k.toNat (fun p => rk xs p j) i := congrFun (rk_hp h0 h1 j) i
  rw [e]
  unfold tk
  split
  · rename_i z
    have a := rk_inc xs j k.toNat
    have b : rk xs (k.toNat + 1) j ≤ rk xs (k.toNat + 2) j := (rk_inc xs j (k.toNat + 1)).1
    rw [z]; dsimp only; omega
  · exact Nat.le_refl _
theorem rk_mono {n : Int} : ∀ (row xs : List Int), RowOk n row → (xs.length : Int) = n → ∀ i j, rk xs i j ≤ rk (hpF xs row) i j
  | [], _, _, _, _, _ => Nat.le_refl _
  | k :: row, xs, h, hl, i, j => by
    have h0 := h k (by simp)
    exact Nat.le_trans (rk_mono_hp h0.1 (by omega) i j) (rk_mono row (hp xs k) (fun q hq => h q (by simp [hq])) (by simpa using hl) i j)
theorem count_lt {n : Nat} {xs : List Int} (p : List.Perm xs (upto n)) {j : Nat} (hj : j ≤ n) : xs.countP (fun t => !decide ((j : Int) ≤ t)) = j := by
  rw [p.countP_eq]
  have a := upto_count (fun _ => true) n j hj
  have b : (upto j).countP (fun _ : Int => true) = j := by simp
  rw [b] at a
  refine Eq.trans ?_ a
  apply List.countP_congr
  intro t _
  simp
theorem rk_pig {n : Nat} {xs : List Int} (p : List.Perm xs (upto n)) {j : Nat} (hj : j < n) : 1 ≤ rk xs (j + 1) j := by
  have hl : xs.length = n := by rw [p.length_eq, upto_len]; omega
  have a := count_not (xs.take (j + 1)) (fun t => decide ((j : Int) ≤ t))
  have b : (xs.take (j + 1)).countP (fun t => !decide ((j : Int) ≤ t)) ≤ j := by
    have c := count_lt p (j := j) (by omega)
    have d : xs.countP (fun t => !decide ((j : Int) ≤ t)) = (xs.take (j + 1)).countP (fun t => !decide ((j : Int) ≤ t)) + (xs.drop (j + 1)).countP (fun t => !decide ((j : Int) ≤ t)) := by
      rw [← List.countP_append, List.take_append_drop]
    omega
  rw [List.length_take] at a
  unfold rk
  omega
/-- a number of a row: the place behind it does not cut -/
theorem no_cut {n : Nat} : ∀ (row xs : List Int), RowOk n row → List.Perm xs (upto n) → ∀ i : Nat, (i : Int) ∈ row → 1 ≤ rk (hpF xs row) (i + 1) (i + 1)
  | [], _, _, _, _, h => by cases h
  | k :: row, xs, hr, p, i, h => by
    have hl : xs.length = n := by rw [p.length_eq, upto_len]; omega
    have h0 := hr k (by simp)
    have hr' : RowOk n row := fun q hq => hr q (by simp [hq])
    have ph := (hp_perm h0.1 (by omega)).trans p
    rcases List.mem_cons.mp h with z | z
    · subst z
      refine Nat.le_trans ?_ (rk_mono row (hp xs i) hr' (by rw [hp_len]; omega) _ _)
      have e : rk (hp xs i) (i + 1) (i + 1) = tk (i : Int).toNat (fun p => rk xs p (i + 1)) (i + 1) := congrFun (rk_hp (xs := xs) (i := (i : Int)) h0.1 (by omega) (i + 1)) (i + 1)
      rw [e, Int.toNat_natCast]
      unfold tk
      rw [if_pos rfl]
      dsimp only
      have : 1 ≤ rk xs (i + 2) (i + 1) := rk_pig p (j := i + 1) (by omega)
      have := rk_inc xs (i + 1) (i + 1)
      omega
    · exact no_cut row (hp xs k) hr' ph i z
/-! ### blocks turned -/
/-- the numbers from l below h -/
def seg (l h : Nat) : List Int := (upto h).drop l
theorem seg_len (l h : Nat) : (seg l h).length = h - l := by simp [seg]
theorem seg_app {l h : Nat} (hl : l ≤ h) : upto l ++ seg l h = upto h := by
  have := List.take_append_drop l (upto h)
  rw [upto_take hl] at this
  exact this
theorem seg_S {l h : Nat} (hl : l ≤ h) : seg l (h + 1) = seg l h ++ [(h : Int)] := by
  unfold seg
  rw [upto_S, List.drop_append_of_le_length (by simpa using hl)]
/-- what the law has put down, and where its block begins -/
def tbS (K : List Int) (n : Nat) : Nat → List Int × Nat
  | 0 => ([], 0)
  | p + 1 => if p + 1 = n ∨ ¬ (p : Int) ∈ K then ((tbS K n p).1 ++ (seg (tbS K n p).2 (p + 1)).reverse, p + 1) else tbS K n p
def TB (K : List Int) (n : Nat) : List Int := (tbS K n n).1
theorem tbS_le (K : List Int) (n : Nat) : ∀ p, (tbS K n p).2 ≤ p
  | 0 => Nat.le_refl _
  | p + 1 => by
    have := tbS_le K n p
    rw [tbS]; split
    · exact Nat.le_refl _
    · omega
theorem tbS_perm (K : List Int) (n : Nat) : ∀ p, List.Perm (tbS K n p).1 (upto ((tbS K n p).2 : Nat))
  | 0 => .refl _
  | p + 1 => by
    have ih := tbS_perm K n p
    have hl := tbS_le K n p
    rw [tbS]; split
    · have := ih.append (List.reverse_perm (seg (tbS K n p).2 (p + 1)))
      rw [seg_app (by omega)] at this
      exact this
    · exact ih
theorem tbS_pre (K : List Int) (n : Nat) (p : Nat) : ∀ d, (tbS K n p).1 <+: (tbS K n (p + d)).1
  | 0 => List.prefix_refl _
  | d + 1 => by
    have ih := tbS_pre K n p d
    rw [← Nat.add_assoc, tbS]; split
    · exact ih.trans (List.prefix_append _ _)
    · exact ih
theorem TB_len (K : List Int) (n : Nat) : (TB K n).length = n := by
  have a := (tbS_perm K n n).length_eq
  unfold TB
  cases n with
  | zero => rfl
  | succ n =>
    have : (tbS K (n + 1) (n + 1)).2 = n + 1 := by rw [tbS, if_pos (.inl rfl)]
    rw [this, upto_len] at a
    omega
theorem TB_perm (K : List Int) (n : Nat) : List.Perm (TB K n) (upto n) := by
  have a := tbS_perm K n n
  unfold TB
  cases n with
  | zero => exact a
  | succ n =>
    have : (tbS K (n + 1) (n + 1)).2 = n + 1 := by rw [tbS, if_pos (.inl rfl)]
    rw [this] at a
    exact a
/-- a place that is none of the numbers cuts what has turned blocks -/
theorem TB_cut {K : List Int} {n i : Nat} (hi : i < n) (h : (i : Int) ∉ K) : List.Perm ((TB K n).take (i + 1)) (upto (i + 1 : Nat)) := by
  have e : tbS K n (i + 1) = ((tbS K n i).1 ++ (seg (tbS K n i).2 (i + 1)).reverse, i + 1) := by rw [tbS, if_pos (.inr h)]
  have pm := tbS_perm K n (i + 1)
  have s2 : (tbS K n (i + 1)).2 = i + 1 := by rw [e]
  rw [s2] at pm
  have pre := tbS_pre K n (i + 1) (n - (i + 1))
  rw [show i + 1 + (n - (i + 1)) = n by omega] at pre
  obtain ⟨t, ht⟩ := pre
  have hl := pm.length_eq
  rw [upto_len] at hl
  unfold TB
  rw [← ht, List.take_append_of_le_length (by omega), List.take_of_length_le (by omega)]
  exact pm
/-- an order that falls in all places of a block, and is cut at its ends, has it turned -/
theorem block_eq {xs : List Int} {s e : Nat} (hs : s < e) (he : e ≤ xs.length) (c1 : List.Perm (xs.take s) (upto s)) (c2 : List.Perm (xs.take e) (upto e)) (hf : ∀ k : Nat, s ≤ k → k + 1 < e → itI xs (k + 1 : Nat) < itI xs k) : (xs.take e).drop s = (seg s e).reverse := by
  have pm : List.Perm ((xs.take e).drop s) (seg s e) := by
    have a : xs.take e = xs.take s ++ (xs.take e).drop s := by
      have := List.take_append_drop s (xs.take e)
      rw [List.take_take, Nat.min_eq_left (by omega)] at this
      exact this.symm
    have b := c2
    rw [a, ← seg_app (l := s) (h := e) (by omega)] at b
    exact (List.perm_append_left_iff (upto s)).mp ((c1.symm.append_right _).trans b)
  have pw : ((xs.take e).drop s).Pairwise (· ≥ ·) := by
    apply inv_gt
    intro i h0 h1 z
    rw [List.length_drop, List.length_take] at h1
    have it : ∀ k : Int, 0 ≤ k → s + k < e → itI ((xs.take e).drop s) k = itI xs ((s + k.toNat : Nat) : Int) := fun k hk hk2 => by
      have ek : k = (k.toNat : Int) := by omega
      rw [ek, itI_at (by rw [List.length_drop, List.length_take]; omega), itI_at (by omega), List.getElem_drop, List.getElem_take]
      rfl
    have := hf (s + i.toNat) (by omega) (by omega)
    rw [it i h0 (by omega), it (i + 1) (by omega) (by omega), show (i + 1).toNat = i.toNat + 1 by omega] at z
    have e2 : s + (i.toNat + 1) = s + i.toNat + 1 := by omega
    rw [e2] at z
    omega
  have sp : (seg s e).Pairwise (· ≤ ·) := by
    unfold seg
    exact (upto_le e).sublist (List.drop_sublist _ _)
  have := sorted_eq (List.pairwise_reverse.mpr (pw.imp fun h => h)) sp ((List.reverse_perm _).trans pm)
  rw [← this, List.reverse_reverse]
theorem turned_of {n : Nat} {xs : List Int} (p : List.Perm xs (upto n)) (hc : ∀ i : Nat, i < n → (i : Int) ∉ fallsOf xs → List.Perm (xs.take (i + 1)) (upto (i + 1 : Nat))) : ∀ q, q ≤ n → (tbS (fallsOf xs) n q).1 = xs.take (tbS (fallsOf xs) n q).2 ∧ ∀ k : Nat, (tbS (fallsOf xs) n q).2 ≤ k → k < q → k + 1 < n → (k : Int) ∈ fallsOf xs
  | 0, _ => ⟨rfl, fun k _ h => by omega⟩
  | q + 1, hq => by
    obtain ⟨ih1, ih2⟩ := turned_of p hc q (by omega)
    have hl : xs.length = n := by rw [p.length_eq, upto_len]; omega
    have hle := tbS_le (fallsOf xs) n q
    have pm := tbS_perm (fallsOf xs) n q
    rw [ih1] at pm
    rw [tbS]
    split
    · rename_i z
      refine ⟨?_, fun k h1 h2 => by dsimp only at h1; omega⟩
      dsimp only
      have c2 : List.Perm (xs.take (q + 1)) (upto (q + 1 : Nat)) := by
        rcases z with z | z
        · rw [z, List.take_of_length_le (by omega)]; exact p
        · exact hc q (by omega) z
      have := block_eq (xs := xs) (s := (tbS (fallsOf xs) n q).2) (e := q + 1) (by omega) (by omega) pm c2 (fun k h1 h2 => by
        have := (mem_falls.mp (ih2 k h1 (by omega) (by omega))).2.2
        have e : ((k + 1 : Nat) : Int) = (k : Int) + 1 := by omega
        rw [e]; exact this)
      rw [← this, ih1]
      have := List.take_append_drop (tbS (fallsOf xs) n q).2 (xs.take (q + 1))
      rw [List.take_take, Nat.min_eq_left (by omega)] at this
      exact this
    · rename_i z
      refine ⟨ih1, fun k h1 h2 h3 => ?_⟩
      by_cases y : k = q
      · subst y
        apply Classical.byContradiction
        intro w
        exact z (.inr w)
      · exact ih2 k h1 (by omega) h3
/-- an order is still exactly if it has its blocks turned -/
theorem still_iff {n : Nat} {xs row : List Int} (p : List.Perm xs (upto n)) (hr : RowOk n row) (hled : led n row = xs) (hlen : row.length = inv xs) : (∀ i ∈ row, ¬ itI xs i < itI xs (i + 1)) ↔ xs = TB (fallsOf xs) n := by
  have hl : xs.length = n := by rw [p.length_eq, upto_len]; omega
  have nd : xs.Nodup := p.nodup_iff.mpr (upto_nodup n)
  constructor
  · intro h
    have hc : ∀ i : Nat, i < n → (i : Int) ∉ fallsOf xs → List.Perm (xs.take (i + 1)) (upto (i + 1 : Nat)) := fun i hi hf => by
      rw [← hled]
      refine cut_out hr hi fun hm => hf ?_
      have h0 := hr _ hm
      have := h _ hm
      have hne := nodup_ne nd (i := (i : Int)) (j := (i : Int) + 1) h0.1 (by omega) (by omega) (by omega) (by omega)
      exact mem_falls.mpr ⟨h0.1, by omega, by omega⟩
    have a := (turned_of p hc n (Nat.le_refl _)).1
    unfold TB
    rw [a]
    cases n with
    | zero => rw [List.length_eq_zero_iff.mp hl]; rfl
    | succ n =>
      have : (tbS (fallsOf xs) (n + 1) (n + 1)).2 = n + 1 := by rw [tbS, if_pos (.inl rfl)]
      rw [this, List.take_of_length_le (by omega)]
  · intro h i hi z
    have h0 := hr i hi
    have ei : i = (i.toNat : Int) := by omega
    have hf : (i.toNat : Int) ∉ fallsOf xs := fun hm => by
      have := (mem_falls.mp hm).2.2
      rw [← ei] at this; omega
    have c := TB_cut (n := n) (i := i.toNat) (by omega) hf
    rw [← h] at c
    have nc := no_cut row (upto n) hr (.refl _) i.toNat (by rw [← ei]; exact hi)
    rw [hp_row hr hled hlen] at nc
    have : rk xs (i.toNat + 1) (i.toNat + 1) = 0 := by
      unfold rk
      rw [c.countP_eq, List.countP_eq_zero]
      intro t ht
      have := mem_upto.mp ht
      simp; omega
    omega
end Sp
end

section
set_option Elab.async false
set_option linter.all false
set_option maxRecDepth 100000
set_option maxHeartbeats 4000000
/-! Still orders: the functions. -/
namespace Sp
open Sw
open PySem (PyData Str)
theorem seg_range (l h : Nat) : seg l h = (List.range (h - l)).map (fun i => (l : Int) + (i : Nat)) := by
  unfold seg upto
  rw [← List.map_drop, Int.toNat_natCast]
  apply List.ext_getElem
  · simp
  · intro i h1 h2
    simp
@[simp] theorem rng_seg {l h : Nat} (h5 : h ≤ 16777216) (h6 : l ≤ 16777216) : rngD (.int l) (.int h) (.int 1) = some ((seg l h).map .int) := by
  rw [rng_1 (by omega) (by omega) (by omega) (by omega) (by omega), seg_range]
  simp only [List.map_map]
  have : ((h : Int) - l).toNat = h - l := by omega
  rw [this]
  rfl
theorem inD_int (x : Int) (K : List Int) : inD (.int x) (K.map .int) = decide (x ∈ K) := by
  unfold inD
  rw [List.any_map]
  have : ((fun y => PyData.eqv y (.int x)) ∘ PyData.int) = (fun y : Int => decide (y = x)) := by
    funext y; exact eqv_int y x
  rw [this]
  cases h : K.any (fun y => decide (y = x)) with
  | true =>
    obtain ⟨y, hy, e⟩ := List.any_eq_true.mp h
    have := of_decide_eq_true e
    subst this
    simp [hy]
  | false =>
    rw [List.any_eq_false] at h
    have : x ∉ K := fun z => by have := h x z; simp at this
    simp [this]
@[simp] theorem c_in (x : Int) (K : List Int) : cmpD .isin (.int x) (.list (K.map .int)) = some (decide (x ∈ K)) := by
  show (if inOk (.int x) (K.map .int) then some (inD (.int x) (K.map .int)) else none) = _
  rw [if_pos (by simp [inOk]), inD_int]
@[simp] theorem c_notin (x : Int) (K : List Int) : cmpD .notin (.int x) (.list (K.map .int)) = some (!decide (x ∈ K)) := by
  show (if inOk (.int x) (K.map .int) then some (!inD (.int x) (K.map .int)) else none) = _
  rw [if_pos (by simp [inOk]), inD_int]
theorem mod_last (f : PyData → Option PyData) (A : List PyData) (x : PyData) : modAt [.int (-1)] f (.list (A ++ [x])) = lstM1 (fun y => .list (A ++ [y])) (f x) := by
  show ((ix (A ++ [x]).length (-1)).bind fun j => ((A ++ [x])[j]?).bind fun z => (modAt [] f z).map fun y => PyData.list ((A ++ [x]).set j y)) = _
  rw [ix_neg (by omega) (by simp; omega)]
  have e : (-1 + ((A ++ [x]).length : Int)).toNat = A.length := by simp; omega
  rw [e]
  simp only [Option.bind_some]
  have e2 : (A ++ [x])[A.length]? = some x := by simp
  rw [e2]
  show (f x).map _ = _
  have e3 : ∀ y, (A ++ [x]).set A.length y = A ++ [y] := fun y => by simp
  cases f x with
  | none => rfl
  | some y =>
    show some (PyData.list ((A ++ [x]).set A.length y)) = some (PyData.list (A ++ [y]))
    rw [e3]
section
variable {Γ : Cal} {σ : S}
def w_turned_blocks : Fn := ⟨"_law_turned_blocks", 2, ["n", "kept", "found", "start", "place"],
    (.cons (.asg (.nm 2) (.lst .nil))
      (.cons (.asg (.nm 3) (.int 0))
      (.cons (.for_ (.nm 4) (.rng (.int 1) (.bin .add (.var 0) (.int 1)) (.int 1)) (.cons (.ite (.or (.cmp .eq (.var 4) (.var 0)) (.cmp .notin (.bin .sub (.var 4) (.int 1)) (.var 1))) (.cons (.asg (.nm 2) (.bin .add (.var 2) (.rev (.blt .list (.rng (.var 3) (.var 4) (.int 1))))))
      (.cons (.asg (.nm 3) (.mv 4))
      .nil)) .nil)
      .nil))
      (.cons (.ret (.mv 2))
      .nil))))⟩
theorem tbS_len (K : List Int) (n p : Nat) : (tbS K n p).1.length = (tbS K n p).2 := by
  have := (tbS_perm K n p).length_eq
  rw [upto_len] at this; omega
theorem turned_blocks_ok {n : Nat} {K : List Int} (hn : n ≤ 1000) : runF Γ w_turned_blocks [.int n, LI K] = some (.dp, LI (TB K n)) := by
  have hit : ev Γ (.rng (.int 1) (.bin .add (.var 0) (.int 1)) (.int 1)) [some (.fz, .int n), some (.fz, LI K), some (.dp, .list []), some (.fz, .int 0), none] = some ⟨LI (seg 1 (n + 1)), .dp, []⟩ := by
    have := rng_seg (l := 1) (h := n + 1) (by omega) (by omega)
    have e1 : ((1 : Nat) : Int) = 1 := rfl
    have e2 : ((n + 1 : Nat) : Int) = (n : Int) + 1 := by omega
    rw [e1, e2] at this
    simp [this]
  have sg : ∀ i (h : i < (seg 1 (n + 1)).length), (seg 1 (n + 1))[i] = ((i + 1 : Nat) : Int) := fun i h => by
    simp only [seg_range, List.getElem_map, List.getElem_range]; omega
  obtain ⟨s', h, p', e⟩ := forI_run (Γ := Γ) (j := 4) (body := (.cons (.ite (.or (.cmp .eq (.var 4) (.var 0)) (.cmp .notin (.bin .sub (.var 4) (.int 1)) (.var 1))) (.cons (.asg (.nm 2) (.bin .add (.var 2) (.rev (.blt .list (.rng (.var 3) (.var 4) (.int 1))))))
      (.cons (.asg (.nm 3) (.mv 4))
      .nil)) .nil)
      .nil)) hit
    (fun i s => ∃ p', s = [some (.fz, .int n), some (.fz, LI K), some (.dp, LI (tbS K n i).1), some (.fz, .int (tbS K n i).2), p']) (fun i hi s ⟨p1, e⟩ => by
      subst e
      have hi' : i < n := by simpa [seg_len] using hi
      rw [sg i hi]
      have hs := tbS_le K n i
      have hl := tbS_len K n i
      have e1 : ((i + 1 : Nat) : Int) - 1 = i := by omega
      have e2 := rng_seg (l := (tbS K n i).2) (h := i + 1) (by omega) (by omega)
      refine ⟨_, .inl ?_, some (.fz, .int (i + 1 : Nat)), rfl⟩
      rw [tbS]
      have ls := seg_len (tbS K n i).2 (i + 1)
      have bc := b_cat (tbS K n i).1 (seg (tbS K n i).2 (i + 1)).reverse (by rw [List.length_reverse]; omega) .fz .dp [2] []
      by_cases z1 : i + 1 = n
      · rw [if_pos (.inl z1)]
        subst z1
        simp (disch := omega) [e2, bc, -List.map_reverse, -List.map_append, -Int.natCast_add]
      · have z3 : ¬ ((i + 1 : Nat) : Int) = (n : Int) := by omega
        by_cases z2 : (i : Int) ∈ K
        · rw [if_neg (fun q => q.elim z1 (fun w => w z2))]
          simp (disch := omega) [z3, e1, z2, -Int.natCast_add]
        · rw [if_pos (.inr z2)]
          simp (disch := omega) [z3, e1, z2, e2, bc, -List.map_reverse, -List.map_append, -Int.natCast_add]) ⟨none, rfl⟩
  subst e
  rw [seg_len, show n + 1 - 1 = n by omega] at h
  refine runF_of rfl rfl ?_
  simp (disch := first | omega | (simp; done) | fail) [w_turned_blocks, h, TB]
/-! ### blocks -/
def w_blocks_of : Fn := ⟨"blocks_of", 2, ["n", "kept", "found", "place"],
    (.cons (.asg (.nm 2) (.lst .nil))
      (.cons (.for_ (.nm 3) (.rng (.int 0) (.var 0) (.int 1)) (.cons (.ite (.and (.cmp .gt (.var 3) (.int 0)) (.cmp .isin (.bin .sub (.var 3) (.int 1)) (.var 1))) (.cons (.app 2 (.cons (.neg (.int 1)) .nil) (.mv 3))
      .nil) (.cons (.app 2 .nil (.lst (.cons (.mv 3) .nil)))
      .nil))
      .nil))
      (.cons (.ret (.mv 2))
      .nil)))⟩
def BkInv (K : List Int) (n : Nat) : Nat → List (List Int) → Prop
  | 0, rows => rows = []
  | p + 1, rows => ∃ B : List (List Int), rows = B ++ [seg (tbS K n p).2 (p + 1)] ∧ B.flatMap List.reverse = (tbS K n p).1 ∧ B.length ≤ p
theorem blocks_of_ok {n : Nat} {K : List Int} (hn : n ≤ 1000) : ∃ rows, runF Γ w_blocks_of [.int n, LI K] = some (.dp, .list (rows.map LI)) ∧ BkInv K n n rows := by
  obtain ⟨s', h, p', rows, e, q⟩ := forI_run (Γ := Γ) (σ := [some (.fz, .int n), some (.fz, LI K), some (.dp, .list []), none]) (j := 3) (o := .dp) (ys := upto n) (it := .rng (.int 0) (.var 0) (.int 1)) (body := (.cons (.ite (.and (.cmp .gt (.var 3) (.int 0)) (.cmp .isin (.bin .sub (.var 3) (.int 1)) (.var 1))) (.cons (.app 2 (.cons (.neg (.int 1)) .nil) (.mv 3))
      .nil) (.cons (.app 2 .nil (.lst (.cons (.mv 3) .nil)))
      .nil))
      .nil)) (by simp (disch := omega))
    (fun i s => ∃ p' rows, s = [some (.fz, .int n), some (.fz, LI K), some (.dp, .list (rows.map LI)), p'] ∧ BkInv K n i rows) (fun i hi s ⟨p1, rows, e, q⟩ => by
      subst e
      have hi' : i < n := by simpa using hi
      rw [upto_get hi]
      cases i with
      | zero =>
        have q' : rows = [] := q
        subst q'
        refine ⟨_, .inl ?_, some (.fz, .int 0), [[0]], rfl, [], rfl, rfl, Nat.le_refl _⟩
        have ha : appD (.list [.int 0]) (.list []) = some (.list [.list [.int 0]]) := app_l _ _ (by simp)
        simp (disch := first | omega | (simp; done) | fail) [listOf_ok, ha]
      | succ i =>
        obtain ⟨B, rfl, q2, q3⟩ := q
        have hs := tbS_le K n i
        have e1 : ((i + 1 : Nat) : Int) - 1 = i := by omega
        have e0 : ((i + 1 : Nat) : Int) > 0 := by omega
        have ne : ¬ i + 1 = n := by omega
        by_cases z : (i : Int) ∈ K
        · have et : tbS K n (i + 1) = tbS K n i := by rw [tbS, if_neg (fun w => w.elim ne (fun w => w z))]
          have sl := seg_len (tbS K n i).2 (i + 1)
          have hm := mod_last (appD (.int (i + 1 : Nat))) (B.map LI) (LI (seg (tbS K n i).2 (i + 1)))
          rw [app_LI _ _ (by omega), ← seg_S (by omega)] at hm
          refine ⟨_, .inl ?_, some (.fz, .int (i + 1 : Nat)), B ++ [seg (tbS K n i).2 (i + 1 + 1)], rfl, ⟨B, by rw [et], by rw [et]; exact q2, by omega⟩⟩
          simp (disch := first | omega | (simp; done) | fail) only [List.map_append, List.map_cons, List.map_nil]
          simp (disch := first | omega | (simp; done) | fail) [e0, e1, z, hm, -Int.natCast_add]
        · have et : tbS K n (i + 1) = ((tbS K n i).1 ++ (seg (tbS K n i).2 (i + 1)).reverse, i + 1) := by rw [tbS, if_pos (.inr z)]
          have es : seg (i + 1) (i + 1 + 1) = [((i + 1 : Nat) : Int)] := by
            rw [seg_S (Nat.le_refl _)]
            have : seg (i + 1) (i + 1) = [] := List.length_eq_zero_iff.mp (by rw [seg_len]; omega)
            rw [this]; rfl
          have ha : appD (.list [.int (i + 1 : Nat)]) (.list ((B ++ [seg (tbS K n i).2 (i + 1)]).map LI)) = some (.list (((B ++ [seg (tbS K n i).2 (i + 1)]) ++ [[((i + 1 : Nat) : Int)]]).map LI)) := by
            rw [app_l _ _ (by simp; omega), List.map_append (l₂ := [[((i + 1 : Nat) : Int)]])]; rfl
          refine ⟨_, .inl ?_, some (.fz, .int (i + 1 : Nat)), (B ++ [seg (tbS K n i).2 (i + 1)]) ++ [[((i + 1 : Nat) : Int)]], rfl, ⟨B ++ [seg (tbS K n i).2 (i + 1)], by rw [et, es], by rw [et]; simp [q2], by simp; omega⟩⟩
          simp (disch := first | omega | (simp; done) | fail) [e0, e1, z, ha, listOf_ok, -Int.natCast_add, -List.map_append, -List.append_assoc]) ⟨none, [], rfl, rfl⟩
  subst e
  rw [upto_len, Int.toNat_natCast] at q
  refine ⟨rows, runF_of rfl rfl ?_, q⟩
  simp (disch := first | omega | (simp; done) | fail) [w_blocks_of, h]
def w_longest_kept (b : Nat) : Fn := ⟨"longest_kept", 2, ["n", "kept", "found", "block"],
    (.cons (.asg (.nm 2) (.lst .nil))
      (.cons (.for_ (.nm 3) (.call b (.cons (.var 0) (.cons (.var 1) .nil))) (.cons (.ext 2 .nil (.rev (.var 3)))
      .nil))
      (.cons (.ret (.mv 2))
      .nil)))⟩
theorem longest_kept_ok {b n : Nat} {K : List Int} (h1 : 1 ≤ n) (hn : n ≤ 1000) (hb : ∃ rows, Γ b [.int n, LI K] = some (.dp, .list (rows.map LI)) ∧ BkInv K n n rows) : runF Γ (w_longest_kept b) [.int n, LI K] = some (.dp, LI (TB K n)) := by
  obtain ⟨rows, e0, q⟩ := hb
  obtain ⟨n, rfl⟩ : ∃ k, n = k + 1 := ⟨n - 1, by omega⟩
  obtain ⟨B, rfl, q2, q3⟩ := q
  have fin : (B ++ [seg (tbS K (n + 1) n).2 (n + 1)]).flatMap List.reverse = TB K (n + 1) := by
    unfold TB
    rw [tbS, if_pos (.inl rfl), List.flatMap_append, q2]; simp
  have hnp : plains ((B ++ [seg (tbS K (n + 1) n).2 (n + 1)]).map LI) = false := by
    cases B <;> rfl
  have lT := TB_len K (n + 1)
  generalize B ++ [seg (tbS K (n + 1) n).2 (n + 1)] = rows at e0 fin hnp
  have lens : ∀ k, ((rows.take k).flatMap List.reverse).length ≤ n + 1 := fun k => by
    have : (rows.take k).flatMap List.reverse ++ (rows.drop k).flatMap List.reverse = TB K (n + 1) := by rw [← List.flatMap_append, List.take_append_drop, fin]
    have := congrArg List.length this
    rw [List.length_append] at this; omega
  obtain ⟨s', h, b', e⟩ := forA_run (Γ := Γ) (σ := [some (.fz, .int (n + 1 : Nat)), some (.fz, LI K), some (.dp, .list []), none]) (it := .call b (.cons (.var 0) (.cons (.var 1) .nil))) (j := 3) LI (ys := rows) (o := .dp) (al := []) (body := .cons (.ext 2 .nil (.rev (.var 3))) .nil) (by simp [e0, -Int.natCast_add]) hnp
    (fun i s => ∃ b', s = [some (.fz, .int (n + 1 : Nat)), some (.fz, LI K), some (.dp, LI ((rows.take i).flatMap List.reverse)), b']) (fun i hi s ⟨b1, e⟩ => by
      subst e
      have et : (rows.take (i + 1)).flatMap List.reverse = (rows.take i).flatMap List.reverse ++ rows[i].reverse := by
        have : rows.take (i + 1) = rows.take i ++ [rows[i]] := by rw [List.take_succ, List.getElem?_eq_getElem hi]; rfl
        rw [this, List.flatMap_append]; simp
      have la := lens i
      have lb := lens (i + 1)
      rw [et, List.length_append] at lb
      have hx := ext_LI rows[i].reverse ((rows.take i).flatMap List.reverse) (by omega)
      refine ⟨_, .inl ?_, some (.fz, LI rows[i]), rfl⟩
      rw [et]
      simp [hx, -List.map_reverse, -List.map_append, -Int.natCast_add]) ⟨none, by simp⟩
  subst e
  rw [List.take_length, fin] at h
  refine runF_of rfl rfl ?_
  simp (disch := first | omega | (simp; done) | fail) [w_longest_kept, h, -Int.natCast_add]
/-! ### lists of numbers -/
def LS : Nat → List (List Int)
  | 0 => [[]]
  | i + 1 => LS i ++ (LS i).map (fun l => l ++ [(i : Int)])
theorem LS_len : ∀ i, (LS i).length = 2 ^ i
  | 0 => rfl
  | i + 1 => by rw [LS, List.length_append, List.length_map, LS_len i, Nat.pow_succ]; omega
theorem LS_mem : ∀ i, ∀ l ∈ LS i, l.length ≤ i
  | 0, l, h => by rw [List.mem_singleton.mp h]; exact Nat.le_refl _
  | i + 1, l, h => by
    rw [LS] at h
    rcases List.mem_append.mp h with z | z
    · have := LS_mem i l z; omega
    · obtain ⟨m, hm, rfl⟩ := List.mem_map.mp z
      have := LS_mem i m hm
      simp; omega
theorem LS_np (i : Nat) : plains ((LS i).map LI) = false := by
  have := LS_len i
  cases h : LS i with
  | nil =>
    rw [h] at this
    have : 0 < 2 ^ i := Nat.pow_pos (by omega)
    simp at *
    omega
  | cons x X => rfl
def w_number_lists : Fn := ⟨"number_lists", 1, ["n", "found", "i", "line"],
    (.cons (.asg (.nm 1) (.lst (.cons (.lst .nil) .nil)))
      (.cons (.for_ (.nm 2) (.rng (.int 0) (.bin .sub (.var 0) (.int 1)) (.int 1)) (.cons (.asg (.nm 1) (.bin .add (.var 1) (.comp (.nm 3) (.var 1) (.bl true) (.bin .add (.var 3) (.lst (.cons (.var 2) .nil))))))
      .nil))
      (.cons (.ret (.mv 1))
      .nil)))⟩
theorem number_lists_ok {n : Nat} (hn : n ≤ 15) : ∃ o, (o = Own.dp ∨ o = Own.sh) ∧ runF Γ w_number_lists [.int (n + 1 : Nat)] = some (o, .list ((LS n).map LI)) := by
  obtain ⟨s', h, o, i', l', ho, e⟩ := forI_run (Γ := Γ) (σ := [some (.fz, .int (n + 1 : Nat)), some (.dp, .list [.list []]), none, none]) (j := 2) (o := .dp) (ys := upto n) (it := .rng (.int 0) (.bin .sub (.var 0) (.int 1)) (.int 1)) (body := .cons (.asg (.nm 1) (.bin .add (.var 1) (.comp (.nm 3) (.var 1) (.bl true) (.bin .add (.var 3) (.lst (.cons (.var 2) .nil)))))) .nil) (by
      have : ((n + 1 : Nat) : Int) - 1 = n := by omega
      simp (disch := omega) [this, -Int.natCast_add])
    (fun i s => ∃ o i' l', (o = Own.dp ∨ o = Own.sh) ∧ s = [some (.fz, .int (n + 1 : Nat)), some (o, .list ((LS i).map LI)), i', l']) (fun i hi s ⟨o, i1, l1, ho, e⟩ => by
      subst e
      have hi' : i < n := by simpa using hi
      rw [upto_get hi]
      have hL := LS_len i
      have hp : 2 ^ i ≤ 2 ^ 15 := Nat.pow_le_pow_right (by omega) (by omega)
      have hv : varO 1 (some (some (o, PyData.list ((LS i).map LI)))) = some ⟨.list ((LS i).map LI), .fz, [1]⟩ := by rcases ho with rfl | rfl <;> rfl
      have ec := comp_gen (Γ := Γ) (σ := [some (.fz, .int (n + 1 : Nat)), some (o, .list ((LS i).map LI)), some (.fz, .int i), l1]) (tg := .nm 3) (it := .var 1) (c := .bl true) (e := .bin .add (.var 3) (.lst (.cons (.var 2) .nil))) (d := .list ((LS i).map LI)) (o := .fz) (al := [1]) LI (LS i) (fun y => [some (.fz, .int (n + 1 : Nat)), some (.fz, .list ((LS i).map LI)), some (.fz, .int i), some (.fz, LI y)]) (fun _ => true) (fun y => ⟨LI (y ++ [(i : Int)]), .dp, []⟩)
        (by simp [hv]) rfl (by show _ ≤ 16777216; omega) (fun y _ => rfl) (fun y _ => by simp) (fun y hy _ => by
          have := LS_mem i y hy
          have b1 := b_cat1 y i (by omega) .fz .dp [] []
          simp (disch := first | omega | (simp; done) | fail) [listOf_ok, b1, -Int.natCast_add, -List.map_append])
      have eok : (List.map (fun y => (⟨LI (y ++ [(i : Int)]), .dp, []⟩ : R)) ((LS i).filter (fun _ => true))).all R.ok = true := by
        rw [List.all_eq_true]
        intro x hx
        obtain ⟨y, _, rfl⟩ := List.mem_map.mp hx
        simp
      have ed : (List.map (fun y => (⟨LI (y ++ [(i : Int)]), .dp, []⟩ : R)) ((LS i).filter (fun _ => true))).map R.d = ((LS i).map (fun l => l ++ [(i : Int)])).map LI := by
        rw [List.filter_eq_self.mpr (by simp)]
        simp only [List.map_map]; rfl
      rw [listOf_ok eok, ed] at ec
      have cc := c_catN ((LS i).map LI) (((LS i).map (fun l => l ++ [(i : Int)])).map LI) (LS_np i) (by simp; omega) .fz .dp [1] []
      rw [← List.map_append] at cc
      refine ⟨_, .inl ?_, .sh, some (.fz, .int i), l1, .inr rfl, rfl⟩
      rw [LS]
      simp [ec, cc, hv, -List.map_append, -List.map_map, -Int.natCast_add]) ⟨.dp, none, none, .inl rfl, rfl⟩
  subst e
  rw [upto_len, Int.toNat_natCast] at h
  refine ⟨o, ho, runF_of rfl rfl ?_⟩
  rcases ho with rfl | rfl <;> simp (disch := first | omega | (simp; done) | fail) [w_number_lists, h, listOf_ok, -Int.natCast_add]
end
end Sp
end

section
set_option Elab.async false
set_option linter.all false
set_option maxRecDepth 100000
set_option maxHeartbeats 4000000
/-! Papers: values that are shown. -/
namespace Sp
open Sw
open PySem (PyData Str)
/-! ### texts -/
theorem strOk_app (x y : Str) : PyData.strOk (x ++ y) = (PyData.strOk x && PyData.strOk y) := by
  show (x.cps ++ y.cps).all _ = _
  rw [Array.all_append]; rfl
theorem strOk_of (s : String) : PyData.strOk (Str.ofString s) = true := by
  rw [Str.ofString_eq_toList]
  unfold PyData.strOk
  rw [Array.all_eq_true]
  intro i hi
  simp only [List.size_toArray, List.length_map] at hi
  simp only [List.getElem_toArray, List.getElem_map, decide_eq_true_eq]
  have := (s.toList[i]).valid
  unfold Char.toNat
  rcases this with h | h
  · have : (s.toList[i]).val.toNat < 55296 := h
    omega
  · exact h.2
theorem from_ok : ∀ (ts : List Str) (k : Nat) (acc : Str), PyData.strOk acc = true → (∀ t ∈ ts, PyData.strOk t = true) → PyData.strOk (PySem.textFrom k acc ts) = true
  | [], _, _, h, _ => h
  | t :: ts, k, acc, h, ht => by
    rw [PySem.textFrom]
    refine from_ok ts (k + 1) _ ?_ (fun u hu => ht u (by simp [hu]))
    rw [strOk_app, strOk_app, h, ht t (by simp), strOk_of]; rfl
theorem from_len {B : Nat} : ∀ (ts : List Str) (k : Nat) (acc : Str), (∀ t ∈ ts, t.length ≤ B) → (PySem.textFrom k acc ts).length ≤ acc.length + ts.length * (B + 2)
  | [], _, acc, _ => by simp [PySem.textFrom]
  | t :: ts, k, acc, ht => by
    rw [PySem.textFrom]
    have ih := from_len ts (k + 1) (acc ++ (if k > 0 then ", " else "" : String) ++ t) (fun u hu => ht u (by simp [hu]))
    have h0 := ht t (by simp)
    rw [PySem.strLen_append, PySem.strLen_append] at ih
    have h1 : (Str.ofString (if k > 0 then ", " else "" : String)).length ≤ 2 := by
      by_cases z : k > 0
      · rw [if_pos z]; decide
      · rw [if_neg z]; decide
    have e : (ts.length + 1) * (B + 2) = ts.length * (B + 2) + (B + 2) := by rw [Nat.add_mul]; omega
    rw [List.length_cons, e]
    omega
theorem join_ok (sep : Str) (hs : PyData.strOk sep = true) : ∀ ts : List Str, (∀ t ∈ ts, PyData.strOk t = true) → PyData.strOk (Str.join sep ts) = true
  | [], _ => by rw [Str.join]; decide +kernel
  | [x], h => h x (by simp)
  | x :: y :: r, h => by
    rw [Str.join]
    · rw [strOk_app, strOk_app, hs, h x (by simp), join_ok sep hs (y :: r) (fun u hu => h u (by simp at hu ⊢; exact .inr hu))]; rfl
    · simp
theorem join_len {B : Nat} (sep : Str) (hs : sep.length ≤ 2) : ∀ ts : List Str, (∀ t ∈ ts, t.length ≤ B) → (Str.join sep ts).length ≤ ts.length * (B + 2)
  | [], _ => Nat.zero_le _
  | [x], h => by
    have := h x (by simp)
    show x.length ≤ _
    simp; omega
  | x :: y :: r, h => by
    have ih := join_len sep hs (y :: r) (fun u hu => h u (by simp at hu ⊢; exact .inr hu))
    have h0 := h x (by simp)
    have e : (x :: y :: r).length * (B + 2) = (y :: r).length * (B + 2) + (B + 2) := by rw [List.length_cons, Nat.add_mul]; omega
    rw [Str.join]
    · rw [PySem.strLen_append, PySem.strLen_append, e]; omega
    · simp
/-! ### papers -/
inductive At : PyData → Prop
  | non : At .none
  | bl (b : Bool) : At (.bool b)
  | int (i : Int) (h : i.natAbs < 10 ^ 40) : At (.int i)
  | s0 : At (.str "")
  | s1 : At (.str "0")
def Bd : Nat → PyData → Prop
  | 0, d => At d
  | k + 1, d => At d ∨ ∃ ds, (d = .list ds ∨ d = .tuple ds) ∧ ds.length ≤ 100 ∧ ∀ x ∈ ds, Bd k x
def Lb : Nat → Nat
  | 0 => 50
  | k + 1 => 100 * (Lb k + 2) + 60
structure Shw (k : Nat) (d : PyData) : Prop where
  sh : d.showable = true
  nd : d.hasDict = false
  dp : d.depth ≤ k + 1
  ln : d.shown.length ≤ Lb k
  so : PyData.strOk d.shown = true
  cl : d.canLay0 = true
theorem log_of {i : Nat} (h : i < 10 ^ 40) : i.log2 < 1920 := by
  rcases Nat.eq_zero_or_pos i with z | z
  · subst z; decide
  · have h2 : (10 : Nat) ^ 40 ≤ 2 ^ 1920 := by decide +kernel
    exact (Nat.log2_lt (by omega)).mpr (by omega)
theorem at_shw {d : PyData} (h : At d) : Shw 0 d := by
  cases h with
  | non => exact ⟨rfl, rfl, by decide +kernel, by decide +kernel, by decide +kernel, rfl⟩
  | bl b => cases b <;> exact ⟨rfl, rfl, by decide +kernel, by decide +kernel, by decide +kernel, rfl⟩
  | int i h =>
    refine ⟨?_, rfl, ?_, ?_, ?_, rfl⟩
    · show decide (i.natAbs.log2 < 1920) = true
      exact decide_eq_true (log_of h)
    · show (PyData.int i).depth ≤ 1
      rw [PyData.depth]; omega
    · show (Str.ofString (toString i)).length ≤ 50
      rw [PySem.ofString_length]
      have := PySem.int_text_length_le10 (a := i) (k := 40) (by omega) h
      omega
    · show PyData.strOk (Str.ofString (toString i)) = true
      exact strOk_of _
  | s0 => exact ⟨rfl, rfl, by decide +kernel, by decide +kernel, by decide +kernel, by decide +kernel⟩
  | s1 => exact ⟨rfl, rfl, by decide +kernel, by decide +kernel, by decide +kernel, by decide +kernel⟩
theorem Lb_mono (k : Nat) : Lb k ≤ Lb (k + 1) ∧ 50 ≤ Lb k := by
  have : ∀ k, 50 ≤ Lb k := fun k => by cases k <;> simp [Lb] <;> omega
  refine ⟨?_, this k⟩
  show Lb k ≤ 100 * (Lb k + 2) + 60
  omega
theorem at_shw' {d : PyData} (h : At d) : ∀ k, Shw k d
  | 0 => at_shw h
  | k + 1 => by
    have := at_shw' h k
    exact ⟨this.sh, this.nd, by have := this.dp; omega, Nat.le_trans this.ln (Lb_mono k).1, this.so, this.cl⟩
theorem shw_all {k : Nat} : ∀ {ds : List PyData}, (∀ x ∈ ds, Shw k x) → PyData.showableAll ds = true ∧ PyData.hasDictAll ds = false ∧ PyData.depthAll ds ≤ k + 1 ∧ (∀ t ∈ PyData.shownAll ds, t.length ≤ Lb k ∧ PyData.strOk t = true) ∧ (PyData.shownAll ds).length = ds.length ∧ PyData.canLayAll0 ds = true
  | [], _ => ⟨rfl, rfl, Nat.zero_le _, fun t ht => (by cases ht), rfl, rfl⟩
  | x :: xs, h => by
    obtain ⟨a1, a2, a3, a4, a5, a6⟩ := shw_all (ds := xs) (fun y hy => h y (by simp [hy]))
    have h0 := h x (by simp)
    refine ⟨?_, ?_, ?_, ?_, ?_, ?_⟩
    · rw [PyData.showableAll, h0.sh, a1]; rfl
    · rw [PyData.hasDictAll, h0.nd, a2]; rfl
    · have := h0.dp
      rw [PyData.depthAll]; omega
    · intro t ht
      rw [PyData.shownAll] at ht
      rcases List.mem_cons.mp ht with rfl | ht
      · exact ⟨h0.ln, h0.so⟩
      · exact a4 t ht
    · rw [PyData.shownAll, List.length_cons, List.length_cons, a5]
    · rw [PyData.canLayAll0, h0.cl, a6]; rfl
theorem bd_shw : ∀ {k : Nat} {d : PyData}, Bd k d → Shw k d
  | 0, _, h => at_shw h
  | k + 1, d, h => by
    rcases h with h | ⟨ds, he, hl, hx⟩
    · exact at_shw' h (k + 1)
    · obtain ⟨a1, a2, a3, a4, a5, a6⟩ := shw_all (ds := ds) (fun x hx' => bd_shw (hx x hx'))
      have hb : ds.length * (Lb k + 2) ≤ 100 * (Lb k + 2) := Nat.mul_le_mul hl (Nat.le_refl _)
      rcases he with rfl | rfl
      · refine ⟨by rw [PyData.showable]; exact a1, by rw [PyData.hasDict]; exact a2, by rw [PyData.depth]; omega, ?_, ?_, by rw [PyData.canLay0]; exact a6⟩
        · rw [PyData.shown]
          show (PySem.textFrom 0 "[" (PyData.shownAll ds) ++ "]").length ≤ _
          rw [PySem.strLen_append]
          have := from_len (B := Lb k) (PyData.shownAll ds) 0 "[" (fun t ht => (a4 t ht).1)
          rw [a5] at this
          have e1 : (Str.ofString "[").length = 1 := rfl
          have e2 : (Str.ofString "]").length = 1 := rfl
          rw [e1] at this
          rw [e2]
          show _ ≤ 100 * (Lb k + 2) + 60
          omega
        · rw [PyData.shown]
          show PyData.strOk (PySem.textFrom 0 "[" (PyData.shownAll ds) ++ "]") = true
          rw [strOk_app, from_ok _ _ _ (strOk_of _) (fun t ht => (a4 t ht).2), strOk_of]; rfl
      · refine ⟨by rw [PyData.showable]; exact a1, by rw [PyData.hasDict]; exact a2, by rw [PyData.depth]; omega, ?_, ?_, by rw [PyData.canLay0]; exact a6⟩
        · rw [PyData.shown]
          unfold PySem.tupleText
          rw [PySem.strLen_append, PySem.strLen_append]
          have := join_len (B := Lb k) (Str.ofString ", ") (by decide) (PyData.shownAll ds) (fun t ht => (a4 t ht).1)
          rw [a5] at this
          have e1 : (Str.ofString "(").length = 1 := rfl
          have e2 : (Str.ofString (if (PyData.shownAll ds).length == 1 then ",)" else ")" : String)).length ≤ 2 := by split <;> decide
          rw [e1]
          show _ ≤ 100 * (Lb k + 2) + 60
          omega
        · rw [PyData.shown]
          unfold PySem.tupleText
          rw [strOk_app, strOk_app, strOk_of, join_ok _ (strOk_of _) _ (fun t ht => (a4 t ht).2), strOk_of]; rfl
theorem bd_mono : ∀ {k : Nat} {d : PyData}, Bd k d → Bd (k + 1) d
  | 0, _, h => .inl h
  | k + 1, d, h => by
    rcases h with h | ⟨ds, he, hl, hx⟩
    · exact .inl h
    · exact .inr ⟨ds, he, hl, fun x hx' => bd_mono (hx x hx')⟩
theorem bd_rep {d : PyData} (h : Bd 2 d) : reprOk d = true := by
  have s := bd_shw h
  unfold reprOk
  have h1 := s.dp
  have h2 := s.ln
  have e : Lb 2 = 526260 := rfl
  have e2 : maxLen = 16777216 := rfl
  rw [e] at h2
  rw [s.sh, s.nd, decide_eq_true (show d.depth ≤ 40 by omega), decide_eq_true (show d.shown.length ≤ maxLen by rw [e2]; omega)]
  rfl
section
variable {Γ : Cal} {σ : S}
theorem blt_repr {d : PyData} (h : Bd 2 d) (o : Own) (al : List Nat) : bltR .repr ⟨d, o, al⟩ = FI (.str d.shown) := by
  have : bltR .repr ⟨d, o, al⟩ = if reprOk d then some (Rp (.str d.shown)) else none := by cases d <;> rfl
  rw [this, if_pos (bd_rep h)]; rfl
theorem c_shown {d : PyData} (h : Bd 2 d) : cmpD .ne (.str d.shown) (.str d.shown) = some false := by
  refine c_selfN ?_
  rw [shp_iff, PyData.canLay0, (bd_shw h).so, PyData.depth]; rfl
/-! ### _law_fresh -/
def w_fresh (f : Nat) : Fn := ⟨"_law_fresh", 1, ["value", "item"],
    (.cons (.ite (.tru (.isi (.var 0) .list)) (.cons (.ret (.comp (.nm 1) (.var 0) (.bl true) (.call f (.cons (.var 1) .nil))))
      .nil) .nil)
      (.cons (.ite (.tru (.isi (.var 0) .tuple)) (.cons (.ret (.blt .tuple (.comp (.nm 1) (.var 0) (.bl true) (.call f (.cons (.var 1) .nil)))))
      .nil) .nil)
      (.cons (.ret (.mv 0))
      .nil)))⟩
def OwnR (o : Own) : Prop := o = .fz ∨ o = .sh ∨ o = .dp
theorem mk_al (d : PyData) (o : Own) : mk d o [] = ⟨d, if plain d then .fz else o, []⟩ := by
  unfold mk
  split <;> rfl
theorem callO_nil (o : Own) (d : PyData) : callO [] (some (o, d)) = some (mk d o []) := by
  cases o <;> rfl
theorem var_fz' (i : Nat) (d : PyData) : (varO i (some (some (.fz, d)))) = some (mk d .fz []) := rfl
theorem listOf_own (rs : List R) (h : ∀ r ∈ rs, r.al = []) : ∃ o, OwnR o ∧ listOf rs [] = ⟨.list (rs.map R.d), o, []⟩ := by
  unfold listOf
  split
  · exact ⟨.dp, .inr (.inr rfl), rfl⟩
  · refine ⟨.sh, .inr (.inl rfl), ?_⟩
    have : rs.flatMap R.al = [] := List.flatMap_eq_nil_iff.mpr h
    rw [this]; rfl
theorem compL_call {f : Nat} {σ0 : S} {g : PyData → Own} : ∀ (ds : List PyData), (∀ x ∈ ds, ∃ o, OwnR o ∧ Γ f [x] = some (o, x)) → ∃ rs : List R, (∀ r ∈ rs, r.al = []) ∧ rs.map R.d = ds ∧ compL (fun x => setTg (.nm 1) x [σ0.headD none, none]) (fun s => ev Γ (.bl true) s) (fun s => ev Γ (.call f (.cons (.var 1) .nil)) s) ds = some rs
  | [], _ => ⟨[], fun r h => (by cases h), rfl, rfl⟩
  | x :: xs, h => by
    obtain ⟨o, ho, e⟩ := h x (by simp)
    obtain ⟨rs, h1, h2, h3⟩ := compL_call (g := g) (σ0 := σ0) xs (fun y hy => h y (by simp [hy]))
    refine ⟨mk x o [] :: rs, fun r hr => ?_, by simp [h2], ?_⟩
    · rcases List.mem_cons.mp hr with rfl | hr
      · rw [mk_al]
      · exact h1 r hr
    · rw [compL]
      have s1 : setTg (.nm 1) x [σ0.headD none, none] = some [σ0.headD none, some (.fz, x)] := rfl
      rw [s1]
      simp only [Option.bind_some]
      have e1 : ev Γ (.bl true) [σ0.headD none, some (.fz, x)] = FI (.bool true) := by simp
      have e2 : ev Γ (.call f (.cons (.var 1) .nil)) [σ0.headD none, some (.fz, x)] = some (mk x o []) := by
        have va : (mk x Own.fz []).al = [] := by rw [mk_al]
        simp [e, callO_nil, va]
      rw [e1]
      simp only [Option.bind_some]
      rw [e2]
      simp only [Option.bind_some]
      rw [h3]; rfl
theorem fresh_ok {f : Nat} {d : PyData} {k : Nat} (h : Bd (k + 1) d) (hx : ∀ x, Bd k x → ∃ o, OwnR o ∧ Γ f [x] = some (o, x)) : ∃ o, OwnR o ∧ runF Γ (w_fresh f) [d] = some (o, d) := by
  rcases h with h | ⟨ds, he, hl, hd⟩
  · refine ⟨.fz, .inl rfl, runF_of rfl rfl ?_⟩
    cases h <;> simp [w_fresh, isiD]
  · obtain ⟨rs, h1, h2, h3⟩ := compL_call (Γ := Γ) (f := f) (σ0 := [some (.fz, d)]) (g := fun _ => .fz) ds (fun x hx' => hx x (hd x hx'))
    have hm : ds.length ≤ maxLen := by have : maxLen = 16777216 := rfl; omega
    rcases he with rfl | rfl
    · have ec : ev Γ (.comp (.nm 1) (.var 0) (.bl true) (.call f (.cons (.var 1) .nil))) [some (.fz, .list ds), none] = some (listOf rs []) := by
        have e1 : ev Γ (.var 0) [some (.fz, .list ds), none] = some ⟨.list ds, .fz, []⟩ := by simp
        simp only [ev] at e1 ⊢
        rw [e1]
        simp only [Option.bind_some, items]
        rw [if_pos hm]
        have h3' := h3
        simp only [ev, List.headD_cons] at h3'
        rw [show freezeL [some (Own.fz, PyData.list ds), none] [] = [some (Own.fz, PyData.list ds), none] from rfl]
        rw [h3']; rfl
      obtain ⟨o, ho, e⟩ := listOf_own rs h1
      rw [e, h2] at ec
      refine ⟨nOwn o, by rcases ho with rfl | rfl | rfl <;> simp [OwnR], runF_of rfl rfl ?_⟩
      simp [w_fresh, isiD, ec]
    · have em : ∀ al, mk (.tuple ds) .fz al = ⟨.tuple ds, .fz, if plains ds then [] else al⟩ := fun al => by
        unfold mk
        cases q : plains ds <;> simp [plain, q]
      have ec : ev Γ (.comp (.nm 1) (.var 0) (.bl true) (.call f (.cons (.var 1) .nil))) [some (.fz, .tuple ds), none] = some (listOf rs []) := by
        have e1 : ev Γ (.var 0) [some (.fz, .tuple ds), none] = some ⟨.tuple ds, .fz, []⟩ := by simp [em]
        simp only [ev] at e1 ⊢
        rw [e1]
        simp only [Option.bind_some, items]
        rw [if_pos hm]
        have h3' := h3
        simp only [ev, List.headD_cons] at h3'
        rw [show freezeL [some (Own.fz, PyData.tuple ds), none] [] = [some (Own.fz, PyData.tuple ds), none] from rfl]
        rw [h3']; rfl
      obtain ⟨o, ho, e⟩ := listOf_own rs h1
      rw [e, h2] at ec
      have et : bltR .tuple ⟨.list ds, o, []⟩ = some (mk (.tuple ds) .fz []) := rfl
      refine ⟨.fz, .inl rfl, runF_of rfl rfl ?_⟩
      by_cases q : plains ds = true <;> simp [w_fresh, isiD, ec, et, em, q]
end
end Sp
end

section
set_option Elab.async false
set_option linter.all false
set_option maxRecDepth 100000
set_option maxHeartbeats 4000000
/-! Orders judged. -/
namespace Sp
open Sw
open PySem (PyData Str)
def numB : PyData → Bool
  | .int _ => true
  | _ => false
def numsB : PyData → Bool
  | .list ds => ds.all numB
  | _ => false
def msI (xs : List Int) : List Int := xs.mergeSort (fun a b => decide (a ≤ b))
/-- whether a value is an order -/
def IO : PyData → Bool
  | .list ds => match ints? ds with
    | some (x :: xs) => decide (msI (x :: xs) = upto ((x :: xs).length : Nat))
    | _ => false
  | _ => false
theorem ints_all : ∀ {ds : List PyData}, ds.all numB = true → ∃ xs : List Int, ds = xs.map .int
  | [], _ => ⟨[], rfl⟩
  | d :: ds, h => by
    rw [List.all_cons, Bool.and_eq_true] at h
    obtain ⟨xs, rfl⟩ := ints_all h.2
    cases d with
    | int i => exact ⟨i :: xs, rfl⟩
    | _ => simp [numB] at h
theorem ints_no : ∀ {ds : List PyData}, ds.all numB = false → ints? ds = none
  | [], h => by cases h
  | d :: ds, h => by
    cases d with
    | int i =>
      have : ds.all numB = false := by simpa [numB] using h
      rw [ints?, ints_no this]; rfl
    | _ => rfl
theorem IO_no {d : PyData} (h : numsB d = false) : IO d = false := by
  cases d with
  | list ds =>
    have : ints? ds = none := ints_no h
    show (match ints? ds with | some (x :: xs) => decide (msI (x :: xs) = upto ((x :: xs).length : Nat)) | _ => false) = false
    rw [this]
  | _ => rfl
theorem sortD_ints (xs : List Int) : sortD (xs.map .int) = (msI xs).map .int := by
  have := PySem.W.sort_maps (r := fun a b : Int => decide (a ≤ b)) (s := PySem.W.dataLe false id) (l := xs) PyData.int (fun a _ b _ => by
    have := congrFun (congrFun (PySem.W.dataLe_int (fun b : Int => b)) a) b
    exact this.symm)
  exact this.symm
theorem sortable_ints (xs : List Int) : sortable (xs.map .int) = true := by
  unfold sortable
  rw [Bool.and_eq_true, Bool.and_eq_true, Bool.or_eq_true]
  refine ⟨⟨?_, .inr ?_⟩, ?_⟩
  · unfold allAlike
    rw [List.all_eq_true]
    intro x hx
    rw [List.all_eq_true]
    intro y hy
    obtain ⟨p, _, rfl⟩ := List.mem_map.mp hx
    obtain ⟨q, _, rfl⟩ := List.mem_map.mp hy
    rfl
  · rw [List.all_eq_true]
    intro x hx
    obtain ⟨p, _, rfl⟩ := List.mem_map.mp hx
    rfl
  · rw [List.all_eq_true]
    intro x hx
    obtain ⟨p, _, rfl⟩ := List.mem_map.mp hx
    rfl
section
variable {Γ : Cal} {σ : S}
theorem is_number_any (d : PyData) : runF Γ w_is_number [d] = some (.fz, .bool (numB d)) := by
  refine runF_of rfl rfl ?_
  cases d <;> simp [w_is_number, isiD, numB]
theorem blt_sortI (xs : List Int) (o : Own) (al : List Nat) : bltR .sorted ⟨.list (xs.map .int), o, al⟩ = some ⟨LI (msI xs), .dp, []⟩ := by
  rw [blt_sort (sortable_ints xs) (plains_int xs), sortD_ints]
theorem is_numbers_any {nu : Nat} (hn : ∀ d, Γ nu [d] = some (.fz, .bool (numB d))) (d : PyData) : runF Γ (w_is_numbers nu) [d] = some (.fz, .bool (numsB d)) := by
  cases d with
  | list ds =>
    rcases forL_ret (step := stepF Γ (.nm 1) (.cons (.ite (.not (.tru (.call nu (.cons (.var 1) .nil)))) (.cons (.ret (.bl false)) .nil) .nil) .nil)) (xs := ds) (fun i s => ∃ x1, s = [some (.fz, .list ds), x1] ∧ (ds.take i).all numB = true) (fun o d => o = .fz ∧ d = .bool false ∧ ds.all numB = false)
      (fun i hi s ⟨x1, e, q⟩ => by
        subst e
        have st : stepF Γ (.nm 1) (.cons (.ite (.not (.tru (.call nu (.cons (.var 1) .nil)))) (.cons (.ret (.bl false)) .nil) .nil) .nil) ds[i] [some (.fz, .list ds), x1] = execs Γ (.cons (.ite (.not (.tru (.call nu (.cons (.var 1) .nil)))) (.cons (.ret (.bl false)) .nil) .nil) .nil) [some (.fz, .list ds), some (.fz, ds[i])] := rfl
        rw [st]
        have h0 := hn ds[i]
        cases z : numB ds[i] with
        | true =>
          rw [z] at h0
          refine .inl ⟨_, .inl (by simp [h0]), some (.fz, ds[i]), rfl, ?_⟩
          rw [List.take_succ, List.getElem?_eq_getElem hi, List.all_append, q]
          simp [z]
        | false =>
          rw [z] at h0
          refine .inr ⟨.fz, .bool false, by simp [h0], rfl, rfl, ?_⟩
          cases w : ds.all numB with
          | false => rfl
          | true =>
            have := List.all_eq_true.mp w _ (List.getElem_mem hi)
            rw [z] at this; cases this) [some (.fz, .list ds), none] ⟨none, rfl, rfl⟩ with ⟨s', h, x1, e, q⟩ | ⟨o, d, h, rfl, rfl, q⟩
    · subst e
      rw [List.take_length] at q
      have hf : exec Γ (.for_ (.nm 1) (.var 0) (.cons (.ite (.not (.tru (.call nu (.cons (.var 1) .nil)))) (.cons (.ret (.bl false)) .nil) .nil) .nil)) [some (.fz, .list ds), none] = _ := (for_plain (d := .list ds) (xs := ds) (o := .fz) (by simp) rfl).trans h
      refine runF_of rfl rfl ?_
      simp [w_is_numbers, isiD, hf, numsB, q]
    · have hf : exec Γ (.for_ (.nm 1) (.var 0) (.cons (.ite (.not (.tru (.call nu (.cons (.var 1) .nil)))) (.cons (.ret (.bl false)) .nil) .nil) .nil)) [some (.fz, .list ds), none] = _ := (for_plain (d := .list ds) (xs := ds) (o := .fz) (by simp) rfl).trans h
      refine runF_of rfl rfl ?_
      simp [w_is_numbers, isiD, hf, numsB, q]
  | _ =>
    refine runF_of rfl rfl ?_
    simp [w_is_numbers, isiD, numsB]
def w_is_order (ns : Nat) : Fn := ⟨"is_order", 1, ["value"],
    (.cons (.ite (.or (.not (.tru (.call ns (.cons (.var 0) .nil)))) (.cmp .eq (.blt .len (.var 0)) (.int 0))) (.cons (.ret (.bl false))
      .nil) .nil)
      (.cons (.ret (.cmp .eq (.blt .sorted (.var 0)) (.blt .list (.rng (.int 0) (.blt .len (.var 0)) (.int 1)))))
      .nil))⟩
theorem numsB_cases (d : PyData) : numsB d = false ∨ ∃ xs : List Int, d = LI xs := by
  cases h : numsB d with
  | false => exact .inl rfl
  | true =>
    cases d with
    | list ds =>
      obtain ⟨xs, rfl⟩ := ints_all h
      exact .inr ⟨xs, rfl⟩
    | _ => simp [numsB] at h
theorem numsB_LI (xs : List Int) : numsB (LI xs) = true := by
  show (xs.map PyData.int).all numB = true
  rw [List.all_eq_true]
  intro x hx
  obtain ⟨i, _, rfl⟩ := List.mem_map.mp hx
  rfl
theorem IO_LI (xs : List Int) : IO (LI xs) = (!decide (xs = []) && decide (msI xs = upto (xs.length : Nat))) := by
  show (match ints? (xs.map .int) with | some (x :: xs) => decide (msI (x :: xs) = upto ((x :: xs).length : Nat)) | _ => false) = _
  rw [ints_map]
  cases xs <;> simp
theorem is_order_ok {ns : Nat} {d : PyData} (hb : ∀ xs, d = LI xs → xs.length ≤ 1000) (hn : Γ ns [d] = some (.fz, .bool (numsB d))) : runF Γ (w_is_order ns) [d] = some (.fz, .bool (IO d)) := by
  refine runF_of rfl rfl ?_
  rcases numsB_cases d with h | ⟨xs, rfl⟩
  · rw [h] at hn
    rw [IO_no h]
    simp [w_is_order, hn]
  · rw [numsB_LI] at hn
    have hl := hb xs rfl
    rw [IO_LI]
    by_cases z : xs = []
    · subst z
      have hn' : Γ ns [.list []] = some (.fz, .bool true) := hn
      simp [w_is_order, hn']
    · have z2 : ¬ (xs.length : Int) = 0 := fun w => z (List.length_eq_zero_iff.mp (by omega))
      simp (disch := omega) [w_is_order, hn, z, z2, blt_sortI]
def w_lis_order (ns : Nat) : Fn := ⟨"_law_is_order", 1, ["value"],
    (.cons (.ret (.and (.call ns (.cons (.var 0) .nil)) (.and (.cmp .ne (.var 0) (.lst .nil)) (.cmp .eq (.blt .sorted (.var 0)) (.blt .list (.rng (.int 0) (.blt .len (.var 0)) (.int 1)))))))
      .nil)⟩
theorem lis_order_ok {ns : Nat} {d : PyData} (hb : ∀ xs, d = LI xs → xs.length ≤ 1000) (hn : Γ ns [d] = some (.fz, .bool (numsB d))) : runF Γ (w_lis_order ns) [d] = some (.fz, .bool (IO d)) := by
  refine runF_of rfl rfl ?_
  rcases numsB_cases d with h | ⟨xs, rfl⟩
  · rw [h] at hn
    rw [IO_no h]
    simp [w_lis_order, hn]
  · rw [numsB_LI] at hn
    have hl := hb xs rfl
    rw [IO_LI]
    by_cases z : xs = []
    · subst z
      have hn' : Γ ns [.list []] = some (.fz, .bool true) := hn
      simp (disch := first | omega | (simp; done) | fail) [w_lis_order, hn']
    · simp (disch := first | omega | (simp; done) | fail) [w_lis_order, hn, z, blt_sortI]
theorem bd_LI {k : Nat} {xs : List Int} (h : Bd (k + 1) (LI xs)) : xs.length ≤ 1000 := by
  rcases h with h | ⟨ds, he, hl, _⟩
  · cases h
  · rcases he with he | he
    · cases he
      rw [List.length_map] at hl; omega
    · cases he
theorem down_map (n : Nat) : (upto n).map (fun k => (n : Int) - 1 - k) = (upto n).reverse := by
  apply ext_itI (by simp)
  intro k h0 h1
  have h1' : k < n := by simpa using h1
  rw [it_map _ h0 h1', it_down h0 h1']
/-! ### papers: lists -/
theorem at_it {xs : List Int} (h : ∀ x ∈ xs, x.natAbs < 10 ^ 40) : ∀ y ∈ xs.map PyData.int, At y := fun y hy => by
  obtain ⟨i, hi, rfl⟩ := List.mem_map.mp hy
  exact .int i (h i hi)
theorem bd1_l {ds : List PyData} (h : ∀ x ∈ ds, At x) (hl : ds.length ≤ 100) : Bd 1 (.list ds) := .inr ⟨ds, .inl rfl, hl, h⟩
theorem bd1_t {ds : List PyData} (h : ∀ x ∈ ds, At x) (hl : ds.length ≤ 100) : Bd 1 (.tuple ds) := .inr ⟨ds, .inr rfl, hl, h⟩
theorem bd2_l {ds : List PyData} (h : ∀ x ∈ ds, Bd 1 x) (hl : ds.length ≤ 100) : Bd 2 (.list ds) := .inr ⟨ds, .inl rfl, hl, h⟩
theorem bd_at {k : Nat} {d : PyData} (h : At d) : Bd k d := by cases k <;> first | exact h | exact .inl h
theorem bd_LIs {xs : List Int} (h : ∀ x ∈ xs, x.natAbs < 10 ^ 40) (hl : xs.length ≤ 100) : Bd 1 (LI xs) := bd1_l (at_it h) (by simpa using hl)
end
end Sp
end

section
set_option Elab.async false
set_option linter.all false
set_option maxRecDepth 100000
set_option maxHeartbeats 4000000
/-! Omega nets: lanes and ways. -/
namespace Sp
open Sw
open PySem (PyData Str)
/-- the lane behind a stage -/
def lane (k : Nat) (i o : Int) (t : Nat) : Int := i % 2 ^ (k - t) * 2 ^ t + o / 2 ^ (k - t)
def shuf (k : Nat) (x : Int) : Int := 2 * (x % 2 ^ (k - 1)) + x / 2 ^ (k - 1)
/-- the law's walk -/
def walk (k : Nat) (i o : Int) : Nat → Int
  | 0 => i
  | t + 1 => shuf k (walk k i o t) - shuf k (walk k i o t) % 2 + o / 2 ^ (k - 1 - t) % 2
def walkChk : Bool := (List.range 6).all fun k => (List.range (2 ^ k)).all fun i => (List.range (2 ^ k)).all fun o => (List.range k).all fun t => decide (walk k i o (t + 1) = lane k i o (t + 1))
theorem walkChk_ok : walkChk = true := by decide +kernel
theorem walk_lane {k t : Nat} {i o : Int} (hk : k ≤ 5) (hi : 0 ≤ i ∧ i < 2 ^ k) (ho : 0 ≤ o ∧ o < 2 ^ k) (ht : t < k) : walk k i o (t + 1) = lane k i o (t + 1) := by
  have h := walkChk_ok
  unfold walkChk at h
  rw [List.all_eq_true] at h
  have h1 := h k (List.mem_range.mpr (by omega))
  rw [List.all_eq_true] at h1
  have c : ((2 ^ k : Nat) : Int) = 2 ^ k := by simp
  have h2 := h1 i.toNat (List.mem_range.mpr (by omega))
  rw [List.all_eq_true] at h2
  have h3 := h2 o.toNat (List.mem_range.mpr (by omega))
  rw [List.all_eq_true] at h3
  have h4 := h3 t (List.mem_range.mpr ht)
  rw [Int.toNat_of_nonneg hi.1, Int.toNat_of_nonneg ho.1] at h4
  exact of_decide_eq_true h4
def laneChk : Bool := (List.range 6).all fun k => (List.range (2 ^ k)).all fun i => (List.range (2 ^ k)).all fun o => (List.range (k + 1)).all fun t => decide (0 ≤ lane k i o t ∧ lane k i o t < 2 ^ k)
theorem laneChk_ok : laneChk = true := by decide +kernel
theorem lane_bd {k t : Nat} {i o : Int} (hk : k ≤ 5) (hi : 0 ≤ i ∧ i < 2 ^ k) (ho : 0 ≤ o ∧ o < 2 ^ k) (ht : t ≤ k) : 0 ≤ lane k i o t ∧ lane k i o t < 2 ^ k := by
  have h := laneChk_ok
  unfold laneChk at h
  rw [List.all_eq_true] at h
  have h1 := h k (List.mem_range.mpr (by omega))
  rw [List.all_eq_true] at h1
  have c : ((2 ^ k : Nat) : Int) = 2 ^ k := by simp
  have h2 := h1 i.toNat (List.mem_range.mpr (by omega))
  rw [List.all_eq_true] at h2
  have h3 := h2 o.toNat (List.mem_range.mpr (by omega))
  rw [List.all_eq_true] at h3
  have h4 := h3 t (List.mem_range.mpr (by omega))
  rw [Int.toNat_of_nonneg hi.1, Int.toNat_of_nonneg ho.1] at h4
  exact of_decide_eq_true h4
/-- two calls of which the outlets rise at least as fast as the inlets have no common lane -/
theorem lane_ne {k t : Nat} {i o i' o' : Int} (ht : t ≤ k) (hi : 0 ≤ i) (hi' : i < i') (ho : 0 ≤ o) (ho2 : o' < 2 ^ k) (h : o + (i' - i) ≤ o') : lane k i o t ≠ lane k i' o' t := by
  unfold lane
  have hp : (0 : Int) < 2 ^ (k - t) := Int.pow_pos (by omega)
  have hq : (0 : Int) < 2 ^ t := Int.pow_pos (by omega)
  have hk : (2 : Int) ^ k = 2 ^ t * 2 ^ (k - t) := by rw [← Int.pow_add]; congr 1; omega
  rw [hk] at ho2
  generalize (2 : Int) ^ (k - t) = L at hp ho2 ⊢
  generalize (2 : Int) ^ t = M at hq ho2 ⊢
  intro e
  have q1 : 0 ≤ o / L := Int.ediv_nonneg ho (by omega)
  have q3 : o' / L < M := Int.ediv_lt_of_lt_mul hp ho2
  have q4 : o / L ≤ o' / L := Int.ediv_le_ediv hp (by omega)
  have e1 : (i % L * M + o / L) % M = o / L := by
    rw [Int.add_comm, Int.add_mul_emod_self_right, Int.emod_eq_of_lt q1 (by omega)]
  have e2 : (i' % L * M + o' / L) % M = o' / L := by
    rw [Int.add_comm, Int.add_mul_emod_self_right, Int.emod_eq_of_lt (by omega) q3]
  have e3 : o / L = o' / L := by rw [← e1, ← e2, e]
  have e4 : i % L * M = i' % L * M := by omega
  have e5 : i % L = i' % L := Int.eq_of_mul_eq_mul_right (by omega) e4
  have d : L ∣ (i' - i) := Int.dvd_of_emod_eq_zero (Int.emod_eq_emod_iff_emod_sub_eq_zero.mp e5.symm)
  have hL := Int.le_of_dvd (by omega) d
  have := Int.ediv_le_ediv (a := o + 1 * L) (b := o') hp (by omega)
  rw [Int.add_mul_ediv_right _ _ (by omega)] at this
  omega
/-! ### the functions -/
section
variable {Γ : Cal} {σ : S}
theorem b_shl {i j : Int} (h0 : 0 ≤ j) (h1 : j ≤ 1000) (hi : i.natAbs < 2 ^ 64) (o p : Own) (al bl : List Nat) : binD .shl ⟨.int i, o, al⟩ ⟨.int j, p, bl⟩ = FI (.int (i * 2 ^ j.toNat)) := by
  have h3 : powOk i j = true := by
    unfold powOk
    rw [decide_eq_true_eq]
    exact ⟨h0, by omega, hi⟩
  unfold binD
  dsimp only
  rw [if_pos h3]
  rfl
theorem b_shr {i j : Int} (h0 : 0 ≤ j) (o p : Own) (al bl : List Nat) : binD .shr ⟨.int i, o, al⟩ ⟨.int j, p, bl⟩ = FI (.int (i / 2 ^ j.toNat)) := by
  unfold binD
  dsimp only
  rw [if_pos h0]
  rfl
theorem pow_le {k : Nat} (h : k ≤ 5) : (0 : Int) < 2 ^ k ∧ (2 : Int) ^ k ≤ 32 := by
  rcases (show k = 0 ∨ k = 1 ∨ k = 2 ∨ k = 3 ∨ k = 4 ∨ k = 5 by omega) with rfl | rfl | rfl | rfl | rfl | rfl <;> decide
def w_omega_lane : Fn := ⟨"omega_lane", 4, ["k", "inlet", "outlet", "stage", "low"],
    (.cons (.asg (.nm 4) (.bin .shl (.int 1) (.bin .sub (.var 0) (.var 3))))
      (.cons (.ret (.bin .add (.bin .mul (.bin .mod (.var 1) (.var 4)) (.bin .shl (.int 1) (.var 3))) (.bin .div (.var 2) (.var 4))))
      .nil))⟩
theorem omega_lane_ok {k t : Nat} {i o : Int} (hk : k ≤ 5) (ht : t ≤ k) (hi : 0 ≤ i ∧ i < 2 ^ k) (ho : 0 ≤ o ∧ o < 2 ^ k) : runF Γ w_omega_lane [.int k, .int i, .int o, .int t] = some (.fz, .int (lane k i o t)) := by
  have p1 := pow_le (k := k - t) (by omega)
  have p2 := pow_le (k := t) (by omega)
  have e1 : ((k : Int) - t).toNat = k - t := by omega
  have e2 : (t : Int).toNat = t := by omega
  have s1 := b_shl (i := 1) (j := (k : Int) - t) (by omega) (by omega) (by decide) .fz .fz [] []
  have s2 := b_shl (i := 1) (j := (t : Int)) (by omega) (by omega) (by decide) .fz .fz [] []
  rw [e1, Int.one_mul] at s1
  rw [e2, Int.one_mul] at s2
  have m1 := emod_bd i p1.1
  refine runF_of rfl rfl ?_
  simp (disch := omega) [w_omega_lane, s1, s2, lane]
def w_shuffled : Fn := ⟨"shuffled", 2, ["k", "lane", "half"],
    (.cons (.asg (.nm 2) (.bin .shl (.int 1) (.bin .sub (.var 0) (.int 1))))
      (.cons (.ret (.bin .add (.bin .mul (.bin .mod (.var 1) (.var 2)) (.int 2)) (.bin .div (.var 1) (.var 2))))
      .nil))⟩
theorem shuffled_ok {k : Nat} {x : Int} (h1 : 1 ≤ k) (hk : k ≤ 5) : runF Γ w_shuffled [.int k, .int x] = some (.fz, .int (shuf k x)) := by
  have p1 := pow_le (k := k - 1) (by omega)
  have e1 : ((k : Int) - 1).toNat = k - 1 := by omega
  have s1 := b_shl (i := 1) (j := (k : Int) - 1) (by omega) (by omega) (by decide) .fz .fz [] []
  rw [e1, Int.one_mul] at s1
  have m1 := emod_bd x p1.1
  refine runF_of rfl rfl ?_
  simp (disch := omega) [w_shuffled, s1, shuf, Int.mul_comm]
def w_lshuffled : Fn := ⟨"_law_shuffled", 2, ["k", "lane", "half"],
    (.cons (.asg (.nm 2) (.bin .shl (.int 1) (.bin .sub (.var 0) (.int 1))))
      (.cons (.ret (.bin .add (.bin .mul (.int 2) (.bin .mod (.var 1) (.var 2))) (.bin .div (.var 1) (.var 2))))
      .nil))⟩
theorem lshuffled_ok {k : Nat} {x : Int} (h1 : 1 ≤ k) (hk : k ≤ 5) : runF Γ w_lshuffled [.int k, .int x] = some (.fz, .int (shuf k x)) := by
  have p1 := pow_le (k := k - 1) (by omega)
  have e1 : ((k : Int) - 1).toNat = k - 1 := by omega
  have s1 := b_shl (i := 1) (j := (k : Int) - 1) (by omega) (by omega) (by decide) .fz .fz [] []
  rw [e1, Int.one_mul] at s1
  have m1 := emod_bd x p1.1
  refine runF_of rfl rfl ?_
  simp (disch := omega) [w_lshuffled, s1, shuf]
/-- the way of a call -/
def wayO (k : Nat) (i o : Int) : List Int := (List.range k).map fun t => lane k i o (t + 1)
theorem wayO_len (k : Nat) (i o : Int) : (wayO k i o).length = k := by simp [wayO]
theorem wayO_it {k t : Nat} {i o : Int} (h : t < k) : itI (wayO k i o) t = lane k i o (t + 1) := by
  rw [itI_at (by simpa [wayO] using h)]
  simp [wayO]
def w_omega_way (l : Nat) : Fn := ⟨"omega_way", 3, ["k", "inlet", "outlet", "stage"],
    (.cons (.ret (.comp (.nm 3) (.rng (.int 1) (.bin .add (.var 0) (.int 1)) (.int 1)) (.bl true) (.call l (.cons (.var 0) (.cons (.var 1) (.cons (.var 2) (.cons (.var 3) .nil)))))))
      .nil)⟩
theorem omega_way_ok {l k : Nat} {i o : Int} (hk : k ≤ 5) (hl : ∀ t : Nat, t ≤ k → Γ l [.int k, .int i, .int o, .int t] = some (.fz, .int (lane k i o t))) : runF Γ (w_omega_way l) [.int k, .int i, .int o] = some (.dp, LI (wayO k i o)) := by
  have e1 := rng_seg (l := 1) (h := k + 1) (by omega) (by omega)
  rw [show ((1 : Nat) : Int) = 1 from rfl, show ((k + 1 : Nat) : Int) = (k : Int) + 1 by omega] at e1
  have ec := comp_ints (Γ := Γ) (σ := [some (.fz, .int k), some (.fz, .int i), some (.fz, .int o), none]) (j := 3) (it := .rng (.int 1) (.bin .add (.var 0) (.int 1)) (.int 1)) (c := .bl true) (e := .call l (.cons (.var 0) (.cons (.var 1) (.cons (.var 2) (.cons (.var 3) .nil))))) (o := .dp)
    (seg 1 (k + 1)) (fun _ => true) (fun t => lane k i o t.toNat) (by simp [e1]) (by rw [seg_len]; omega) (fun y _ => by simp) (fun y hy _ => by
      have : ∃ t : Nat, t ≤ k ∧ y = t := by
        rw [seg_range] at hy
        obtain ⟨q, hq, rfl⟩ := List.mem_map.mp hy
        rw [List.mem_range] at hq
        exact ⟨1 + q, by omega, by omega⟩
      obtain ⟨t, ht, rfl⟩ := this
      simp [hl t ht])
  rw [List.filter_eq_self.mpr (by simp)] at ec
  have ew : (seg 1 (k + 1)).map (fun t => lane k i o t.toNat) = wayO k i o := by
    rw [seg_range, wayO, List.map_map, show k + 1 - 1 = k by omega]
    apply List.map_congr_left
    intro q _
    have : ((1 : Nat) : Int) + (q : Int) = ((q + 1 : Nat) : Int) := by omega
    simp only [Function.comp, this, Int.toNat_natCast]
  rw [ew] at ec
  refine runF_of rfl rfl ?_
  simp [w_omega_way, ec]
end
end Sp
end

section
set_option Elab.async false
set_option linter.all false
set_option maxRecDepth 100000
set_option maxHeartbeats 4000000
/-! Omega nets: calls, clashes, papers. -/
namespace Sp
open Sw
open PySem (PyData Str)
/-! ### lists of pairs -/
def itP (ps : List (Int × Int)) (j : Int) : Int × Int := ps.getD j.toNat (0, 0)
theorem itP_at {ps : List (Int × Int)} {j : Nat} (h : j < ps.length) : itP ps j = ps[j] := by
  unfold itP
  rw [List.getD_eq_getElem?_getD, Int.toNat_natCast, List.getElem?_eq_getElem h]; rfl
theorem itP_mem {ps : List (Int × Int)} {j : Int} (h0 : 0 ≤ j) (h : j < ps.length) : itP ps j ∈ ps := by
  have e : j = (j.toNat : Int) := by omega
  rw [e, itP_at (by omega)]
  exact List.getElem_mem _
@[simp] theorem idx_P {ps : List (Int × Int)} {j : Int} (h0 : 0 ≤ j) (h : j < ps.length) : idxD (.list (ps.map prI)) (.int j) = some (prI (itP ps j)) := by
  have e : j = (j.toNat : Int) := by omega
  rw [e, idx_L (by rw [List.length_map]; omega), List.getElem_map, itP_at (by omega)]
@[simp] theorem mk_pr (p : Int × Int) (o : Own) (al : List Nat) : mk (prI p) o al = ⟨prI p, .fz, []⟩ := mk_tp rfl o al
@[simp] theorem idx_pr0 (p : Int × Int) : idxD (prI p) (.int 0) = some (.int p.1) := idx_0 _ _
@[simp] theorem idx_pr1 (p : Int × Int) : idxD (prI p) (.int 1) = some (.int p.2) := idx_1 _ _ _
theorem canAll_pr (ps : List (Int × Int)) : PyData.canLayAll0 (ps.map prI) = true := by
  induction ps with
  | nil => rfl
  | cons x xs ih =>
    rw [List.map_cons, PyData.canLayAll0, ih]; rfl
theorem depthAll_pr (ps : List (Int × Int)) : PyData.depthAll (ps.map prI) ≤ 2 := by
  induction ps with
  | nil => exact Nat.zero_le _
  | cons x xs ih =>
    rw [List.map_cons, PyData.depthAll]
    have : (prI x).depth ≤ 2 := by
      show (PyData.tuple [.int x.1, .int x.2]).depth ≤ 2
      simp [PyData.depth, PyData.depthAll]
    omega
theorem shp_pr (ps : List (Int × Int)) : shp (.list (ps.map prI)) = true := by
  have := depthAll_pr ps
  rw [shp_iff, PyData.canLay0, canAll_pr, PyData.depth]
  simp; omega
theorem newL_pr (ps : List (Int × Int)) (al : List Nat) : newL (ps.map prI) al = ⟨.list (ps.map prI), .dp, []⟩ := newL_p (plains_pr ps)
/-- neighbours without a gap, outlets that ascend -/
def good (ps : List (Int × Int)) (j : Int) : Bool := decide ((itP ps j).1 = (itP ps (j - 1)).1 + 1) && decide ((itP ps (j - 1)).2 < (itP ps j).2)
def CR (ps : List (Int × Int)) : Bool := (seg 1 ps.length).all (good ps)
theorem cr_step {ps : List (Int × Int)} (h : CR ps = true) {j : Nat} (h1 : 1 ≤ j) (h2 : j < ps.length) : (itP ps j).1 = (itP ps ((j : Int) - 1)).1 + 1 ∧ (itP ps ((j : Int) - 1)).2 < (itP ps j).2 := by
  unfold CR at h
  rw [List.all_eq_true] at h
  have := h j (by
    rw [seg_range]
    exact List.mem_map.mpr ⟨j - 1, List.mem_range.mpr (by omega), by omega⟩)
  unfold good at this
  rw [Bool.and_eq_true, decide_eq_true_eq, decide_eq_true_eq] at this
  exact this
theorem cr_far {ps : List (Int × Int)} (h : CR ps = true) (a : Nat) : ∀ d : Nat, a + d < ps.length → (itP ps ((a + d : Nat) : Int)).1 = (itP ps a).1 + d ∧ (itP ps a).2 + d ≤ (itP ps ((a + d : Nat) : Int)).2
  | 0, _ => by simp
  | d + 1, hd => by
    have ih := cr_far h a d (by omega)
    have st := cr_step h (j := a + d + 1) (by omega) (by omega)
    have e : ((a + d + 1 : Nat) : Int) - 1 = ((a + d : Nat) : Int) := by omega
    rw [e] at st
    have e2 : a + (d + 1) = a + d + 1 := by omega
    rw [e2]
    omega
section
variable {Γ : Cal} {σ : S}
theorem cr_loop {ps : List (Int × Int)} {σ0 : S} {j : Nat} {body : Stms} {it : Ex} (hit : ev Γ it σ0 = some ⟨LI (seg 1 ps.length), .dp, []⟩) (hj : ∀ x : Slot, (σ0.set j x).set j none = σ0.set j none)
    (hb : ∀ (i : Int) (s : S), 1 ≤ i → i < ps.length → (∃ x, s = σ0.set j x) → execs Γ body (s.set j (some (.fz, .int i))) = if good ps i then some (.nx (σ0.set j (some (.fz, .int i)))) else some (.rt .fz (.bool false))) (hs : ∀ x y : Slot, (σ0.set j x).set j y = σ0.set j y) :
    (CR ps = true ∧ ∃ x, exec Γ (.for_ (.nm j) it body) σ0 = some (.nx (σ0.set j x))) ∨ (CR ps = false ∧ exec Γ (.for_ (.nm j) it body) σ0 = some (.rt .fz (.bool false))) ∨ (∀ x, σ0 ≠ σ0.set j x) := by
  by_cases hx : ∃ x, σ0 = σ0.set j x
  · obtain ⟨x0, hx0⟩ := hx
    rcases forI_ret (Γ := Γ) (σ := σ0) (j := j) (body := body) hit (fun i s => (∃ x, s = σ0.set j x) ∧ ((seg 1 ps.length).take i).all (good ps) = true) (fun o d => o = .fz ∧ d = .bool false ∧ CR ps = false)
      (fun i hi s ⟨hsx, q⟩ => by
        have hm : (seg 1 ps.length)[i] ∈ seg 1 ps.length := List.getElem_mem _
        have hr' : ∀ y ∈ seg 1 ps.length, 1 ≤ y ∧ y < ps.length := fun y hy => by
          rw [seg_range] at hy
          obtain ⟨u, hu, rfl⟩ := List.mem_map.mp hy
          rw [List.mem_range] at hu
          omega
        have hr := hr' _ hm
        have h0 := hb _ s hr.1 hr.2 hsx
        cases z : good ps (seg 1 ps.length)[i] with
        | true =>
          rw [z, if_pos rfl] at h0
          refine .inl ⟨_, .inl h0, ⟨_, rfl⟩, ?_⟩
          rw [List.take_succ, List.getElem?_eq_getElem hi, List.all_append, q]
          simp [z]
        | false =>
          rw [z, if_neg (by simp)] at h0
          refine .inr ⟨_, _, h0, rfl, rfl, ?_⟩
          cases w : CR ps with
          | false => rfl
          | true =>
            have := List.all_eq_true.mp w _ hm
            rw [z] at this; cases this) ⟨⟨x0, hx0⟩, rfl⟩ with ⟨s', h, ⟨x, e⟩, q⟩ | ⟨o, d, h, rfl, rfl, q⟩
    · rw [List.take_length] at q
      exact .inl ⟨q, x, by rw [h, e]⟩
    · exact .inr (.inl ⟨q, h⟩)
  · exact .inr (.inr fun x e => hx ⟨x, e⟩)
theorem rng_seg1 {n : Nat} (h : n ≤ 1000) : rngD (.int 1) (.int n) (.int 1) = some ((seg 1 n).map .int) := by
  have := rng_seg (l := 1) (h := n) (by omega) (by omega)
  exact this
def w_close_rising : Fn := ⟨"is_close_and_rising", 2, ["k", "calls", "at"],
    (.cons (.for_ (.nm 2) (.rng (.int 1) (.blt .len (.var 1)) (.int 1)) (.cons (.ite (.or (.cmp .ne (.idx (.idx (.var 1) (.var 2)) (.int 0)) (.bin .add (.idx (.idx (.var 1) (.bin .sub (.var 2) (.int 1))) (.int 0)) (.int 1))) (.cmp .le (.idx (.idx (.var 1) (.var 2)) (.int 1)) (.idx (.idx (.var 1) (.bin .sub (.var 2) (.int 1))) (.int 1)))) (.cons (.ret (.bl false))
      .nil) .nil)
      .nil))
      (.cons (.ret (.bl true))
      .nil))⟩
theorem close_rising_ok {k : PyData} {ps : List (Int × Int)} (hl : ps.length ≤ 1000) : runF Γ w_close_rising [k, .list (ps.map prI)] = some (.fz, .bool (CR ps)) := by
  rcases cr_loop (Γ := Γ) (ps := ps) (σ0 := [some (.fz, k), some (.fz, .list (ps.map prI)), none]) (j := 2) (it := .rng (.int 1) (.blt .len (.var 1)) (.int 1)) (body := .cons (.ite (.or (.cmp .ne (.idx (.idx (.var 1) (.var 2)) (.int 0)) (.bin .add (.idx (.idx (.var 1) (.bin .sub (.var 2) (.int 1))) (.int 0)) (.int 1))) (.cmp .le (.idx (.idx (.var 1) (.var 2)) (.int 1)) (.idx (.idx (.var 1) (.bin .sub (.var 2) (.int 1))) (.int 1)))) (.cons (.ret (.bl false)) .nil) .nil) .nil)
    (by simp [rng_seg1 hl]) (fun x => rfl) (fun i s h1 h2 ⟨x, e⟩ => by
      subst e
      by_cases z1 : (itP ps i).1 = (itP ps (i - 1)).1 + 1
      · by_cases z2 : (itP ps (i - 1)).2 < (itP ps i).2
        · have g : good ps i = true := by simp [good, z1, z2]
          have z3 : ¬ (itP ps i).2 ≤ (itP ps (i - 1)).2 := by omega
          rw [if_pos g]
          simp (disch := omega) [z1, z3]
        · have g : good ps i = false := by simp [good, z2]
          have z3 : (itP ps i).2 ≤ (itP ps (i - 1)).2 := by omega
          rw [g]
          simp (disch := omega) [z1, z3]
      · have g : good ps i = false := by simp [good, z1]
        rw [g]
        simp (disch := omega) [z1]) (fun x y => rfl) with ⟨c, x, h⟩ | ⟨c, h⟩ | h
  · refine runF_of rfl rfl ?_
    rw [c]
    simp [w_close_rising, h]
  · refine runF_of rfl rfl ?_
    rw [c]
    simp [w_close_rising, h]
  · exact absurd rfl (h none)
def w_law_is : Fn := ⟨"_law_is", 1, ["calls", "j"],
    (.cons (.for_ (.nm 1) (.rng (.int 1) (.blt .len (.var 0)) (.int 1)) (.cons (.ite (.or (.cmp .ne (.bin .sub (.idx (.idx (.var 0) (.var 1)) (.int 0)) (.idx (.idx (.var 0) (.bin .sub (.var 1) (.int 1))) (.int 0))) (.int 1)) (.cmp .lt (.bin .sub (.idx (.idx (.var 0) (.var 1)) (.int 1)) (.idx (.idx (.var 0) (.bin .sub (.var 1) (.int 1))) (.int 1))) (.int 1))) (.cons (.ret (.bl false))
      .nil) .nil)
      .nil))
      (.cons (.ret (.bl true))
      .nil))⟩
theorem law_is_ok {ps : List (Int × Int)} (hl : ps.length ≤ 1000) : runF Γ w_law_is [.list (ps.map prI)] = some (.fz, .bool (CR ps)) := by
  rcases cr_loop (Γ := Γ) (ps := ps) (σ0 := [some (.fz, .list (ps.map prI)), none]) (j := 1) (it := .rng (.int 1) (.blt .len (.var 0)) (.int 1)) (body := .cons (.ite (.or (.cmp .ne (.bin .sub (.idx (.idx (.var 0) (.var 1)) (.int 0)) (.idx (.idx (.var 0) (.bin .sub (.var 1) (.int 1))) (.int 0))) (.int 1)) (.cmp .lt (.bin .sub (.idx (.idx (.var 0) (.var 1)) (.int 1)) (.idx (.idx (.var 0) (.bin .sub (.var 1) (.int 1))) (.int 1))) (.int 1))) (.cons (.ret (.bl false)) .nil) .nil) .nil)
    (by simp [rng_seg1 hl]) (fun x => rfl) (fun i s h1 h2 ⟨x, e⟩ => by
      subst e
      by_cases z1 : (itP ps i).1 = (itP ps (i - 1)).1 + 1
      · have y1 : (itP ps i).1 - (itP ps (i - 1)).1 = 1 := by omega
        by_cases z2 : (itP ps (i - 1)).2 < (itP ps i).2
        · have g : good ps i = true := by simp [good, z1, z2]
          have z3 : ¬ (itP ps i).2 - (itP ps (i - 1)).2 < 1 := by omega
          rw [if_pos g]
          simp (disch := omega) [y1, z3]
        · have g : good ps i = false := by simp [good, z2]
          have z3 : (itP ps i).2 - (itP ps (i - 1)).2 < 1 := by omega
          rw [g]
          simp (disch := omega) [y1, z3]
      · have g : good ps i = false := by simp [good, z1]
        have y1 : ¬ (itP ps i).1 - (itP ps (i - 1)).1 = 1 := by omega
        rw [g]
        simp (disch := omega) [y1]) (fun x y => rfl) with ⟨c, x, h⟩ | ⟨c, h⟩ | h
  · refine runF_of rfl rfl ?_
    rw [c]
    simp [w_law_is, h]
  · refine runF_of rfl rfl ?_
    rw [c]
    simp [w_law_is, h]
  · exact absurd rfl (h none)
end
end Sp
end

section
set_option Elab.async false
set_option linter.all false
set_option maxRecDepth 100000
set_option maxHeartbeats 4000000
/-! Omega nets: clashes, papers. -/
namespace Sp
open Sw
open PySem (PyData Str)
section
variable {Γ : Cal} {σ : S}
@[simp] theorem idx_R {rows : List (List Int)} {j : Nat} (h : j < rows.length) : idxD (.list (rows.map LI)) (.int j) = some (LI rows[j]) := by
  rw [idx_L (by rw [List.length_map]; omega), List.getElem_map]
/-- no two rows have a common item at a place -/
def NoC (k : Nat) (rows : List (List Int)) : Prop := ∀ a b : Nat, (hb : b < rows.length) → (h : a < b) → ∀ t : Nat, t < k → itI rows[a] t ≠ itI rows[b] t
def w_first_common : Fn := ⟨"first_common", 2, ["first", "second", "at"],
    (.cons (.for_ (.nm 2) (.rng (.int 0) (.blt .len (.var 0)) (.int 1)) (.cons (.ite (.cmp .eq (.idx (.var 0) (.var 2)) (.idx (.var 1) (.var 2))) (.cons (.ret (.mv 2))
      .nil) .nil)
      .nil))
      (.cons (.ret .non)
      .nil))⟩
theorem first_common_ok {u v : List Int} {k : Nat} (hu : u.length = k) (hv : v.length = k) (hk : k ≤ 100) (h : ∀ t : Nat, t < k → itI u t ≠ itI v t) : runF Γ w_first_common [LI u, LI v] = some (.fz, .none) := by
  obtain ⟨s', hf, x, e⟩ := forI_run (Γ := Γ) (σ := [some (.fz, LI u), some (.fz, LI v), none]) (j := 2) (o := .dp) (ys := upto k) (it := .rng (.int 0) (.blt .len (.var 0)) (.int 1)) (body := .cons (.ite (.cmp .eq (.idx (.var 0) (.var 2)) (.idx (.var 1) (.var 2))) (.cons (.ret (.mv 2)) .nil) .nil) .nil) (by simp (disch := omega) [hu])
    (fun i s => ∃ x, s = [some (.fz, LI u), some (.fz, LI v), x]) (fun i hi s ⟨x, e⟩ => by
      subst e
      have hi' : i < k := by simpa using hi
      rw [upto_get hi]
      have := h i hi'
      refine ⟨_, .inl ?_, some (.fz, .int i), rfl⟩
      simp (disch := omega) [this]) ⟨none, rfl⟩
  subst e
  refine runF_of rfl rfl ?_
  simp [w_first_common, hf]
def w_first_clash (fc : Nat) : Fn := ⟨"first_clash", 1, ["ways", "a", "b", "at"],
    (.cons (.for_ (.nm 1) (.rng (.int 0) (.blt .len (.var 0)) (.int 1)) (.cons (.for_ (.nm 2) (.rng (.bin .add (.var 1) (.int 1)) (.blt .len (.var 0)) (.int 1)) (.cons (.asg (.nm 3) (.call fc (.cons (.idx (.var 0) (.var 1)) (.cons (.idx (.var 0) (.var 2)) .nil))))
      (.cons (.ite (.notN (.var 3)) (.cons (.ret (.tup (.cons (.mv 1) (.cons (.mv 2) (.cons (.mv 3) .nil)))))
      .nil) .nil)
      .nil)))
      .nil))
      (.cons (.ret .non)
      .nil))⟩
theorem seg_get {l h i : Nat} (hi : i < (seg l h).length) : (seg l h)[i] = ((l + i : Nat) : Int) := by
  simp only [seg_range, List.getElem_map, List.getElem_range]; omega
theorem first_clash_ok {fc k : Nat} {rows : List (List Int)} (hl : rows.length ≤ 1000) (hk : k ≤ 100) (hr : ∀ r ∈ rows, r.length = k) (nc : NoC k rows)
    (hfc : ∀ u v : List Int, u.length = k → v.length = k → (∀ t : Nat, t < k → itI u t ≠ itI v t) → Γ fc [LI u, LI v] = some (.fz, .none)) : runF Γ (w_first_clash fc) [.list (rows.map LI)] = some (.fz, .none) := by
  obtain ⟨s', hf, x1, x2, x3, e⟩ := forI_run (Γ := Γ) (σ := [some (.fz, .list (rows.map LI)), none, none, none]) (j := 1) (o := .dp) (ys := upto rows.length) (it := .rng (.int 0) (.blt .len (.var 0)) (.int 1)) (body := .cons (.for_ (.nm 2) (.rng (.bin .add (.var 1) (.int 1)) (.blt .len (.var 0)) (.int 1)) (.cons (.asg (.nm 3) (.call fc (.cons (.idx (.var 0) (.var 1)) (.cons (.idx (.var 0) (.var 2)) .nil))))
      (.cons (.ite (.notN (.var 3)) (.cons (.ret (.tup (.cons (.mv 1) (.cons (.mv 2) (.cons (.mv 3) .nil))))) .nil) .nil)
      .nil))) .nil) (by simp (disch := omega))
    (fun i s => ∃ x1 x2 x3, s = [some (.fz, .list (rows.map LI)), x1, x2, x3]) (fun a ha s ⟨x1, x2, x3, e⟩ => by
      subst e
      have ha' : a < rows.length := by simpa using ha
      rw [upto_get ha]
      have er := rng_seg (l := a + 1) (h := rows.length) (by omega) (by omega)
      have e1 : ((a + 1 : Nat) : Int) = (a : Int) + 1 := by omega
      rw [e1] at er
      obtain ⟨s', hf, y2, y3, e⟩ := forI_run (Γ := Γ) (σ := [some (.fz, .list (rows.map LI)), some (.fz, .int a), x2, x3]) (j := 2) (o := .dp) (ys := seg (a + 1) rows.length) (it := .rng (.bin .add (.var 1) (.int 1)) (.blt .len (.var 0)) (.int 1)) (body := .cons (.asg (.nm 3) (.call fc (.cons (.idx (.var 0) (.var 1)) (.cons (.idx (.var 0) (.var 2)) .nil))))
        (.cons (.ite (.notN (.var 3)) (.cons (.ret (.tup (.cons (.mv 1) (.cons (.mv 2) (.cons (.mv 3) .nil))))) .nil) .nil) .nil)) (by simp (disch := omega) [er])
        (fun i s => ∃ y2 y3, s = [some (.fz, .list (rows.map LI)), some (.fz, .int a), y2, y3]) (fun i hi s ⟨y2, y3, e⟩ => by
          subst e
          rw [seg_get hi]
          have hi' : i < rows.length - (a + 1) := by rw [seg_len] at hi; exact hi
          have hfc' := hfc rows[a] (rows[a + 1 + i]'(by omega)) (hr _ (List.getElem_mem _)) (hr _ (List.getElem_mem _)) (nc a (a + 1 + i) (by omega) (by omega))
          refine ⟨_, .inl ?_, some (.fz, .int (a + 1 + i : Nat)), some (.fz, .none), rfl⟩
          simp (disch := omega) [hfc', isNone, -Int.natCast_add]) ⟨x2, x3, rfl⟩
      subst e
      refine ⟨_, .inl ?_, some (.fz, .int a), y2, y3, rfl⟩
      simp [hf]) ⟨none, none, none, rfl⟩
  subst e
  refine runF_of rfl rfl ?_
  simp [w_first_clash, hf]
/-! ### tables -/
def TabOk (k : Nat) (tb : List PyData) : Prop := tb.length = k ∧ ∀ r ∈ tb, ∃ row : List PyData, r = .list row ∧ row.length = 2 ^ (k - 1)
theorem mod_at {tb : List PyData} {t : Nat} (h : t < tb.length) {f : PyData → Option PyData} {y : PyData} (hy : f tb[t] = some y) : modAt [.int t] f (.list tb) = some (.list (tb.set t y)) := by
  show ((ix tb.length t).bind fun j => (tb[j]?).bind fun z => (modAt [] f z).map fun y => PyData.list (tb.set j y)) = _
  rw [ix_in (by omega) (by omega), Int.toNat_natCast]
  simp only [Option.bind_some]
  rw [List.getElem?_eq_getElem h]
  simp only [Option.bind_some]
  show (f tb[t]).map _ = _
  rw [hy]; rfl
theorem set_row {row : List PyData} {x : Int} (h0 : 0 ≤ x) (h1 : x < row.length) (v : PyData) : setD (.int x) v (.list row) = some (.list (row.set x.toNat v)) := by
  show (ix row.length x).map _ = _
  rw [ix_in h0 h1]; rfl
def w_lanes_before (sh l : Nat) : Fn := ⟨"lanes_before", 2, ["k", "call", "stage"],
    (.cons (.ret (.comp (.nm 2) (.rng (.int 0) (.var 0) (.int 1)) (.bl true) (.call sh (.cons (.var 0) (.cons (.call l (.cons (.var 0) (.cons (.idx (.var 1) (.int 0)) (.cons (.idx (.var 1) (.int 1)) (.cons (.var 2) .nil))))) .nil)))))
      .nil)⟩
theorem lanes_before_ok {sh l k : Nat} {p : Int × Int} (hk : k ≤ 5) (hl : ∀ t : Nat, t ≤ k → Γ l [.int k, .int p.1, .int p.2, .int t] = some (.fz, .int (lane k p.1 p.2 t))) (hs : ∀ x : Int, Γ sh [.int k, .int x] = some (.fz, .int (shuf k x))) : ∃ B : List Int, runF Γ (w_lanes_before sh l) [.int k, prI p] = some (.dp, LI B) ∧ B.length = k := by
  have ec := comp_ints (Γ := Γ) (σ := [some (.fz, .int k), some (.fz, prI p), none]) (j := 2) (it := .rng (.int 0) (.var 0) (.int 1)) (c := .bl true) (e := .call sh (.cons (.var 0) (.cons (.call l (.cons (.var 0) (.cons (.idx (.var 1) (.int 0)) (.cons (.idx (.var 1) (.int 1)) (.cons (.var 2) .nil))))) .nil))) (o := .dp)
    (upto k) (fun _ => true) (fun t => shuf k (lane k p.1 p.2 t.toNat)) (by simp (disch := omega)) (by rw [upto_len]; omega) (fun y _ => by simp) (fun y hy _ => by
      have := mem_upto.mp hy
      obtain ⟨t, rfl⟩ : ∃ t : Nat, y = t := ⟨y.toNat, by omega⟩
      have h1 := hl t (by omega)
      simp [h1, hs])
  rw [List.filter_eq_self.mpr (by simp)] at ec
  refine ⟨(upto k).map (fun t => shuf k (lane k p.1 p.2 t.toNat)), runF_of rfl rfl ?_, by simp⟩
  simp [w_lanes_before, ec]
theorem rep_non {h : Nat} (hh : h ≤ 1000) (o p : Own) (al bl : List Nat) : binD .mul ⟨.list [.none], o, al⟩ ⟨.int h, p, bl⟩ = some ⟨.list (List.replicate h .none), .dp, []⟩ := by
  have hm : maxLen = 16777216 := rfl
  have h1 : (h : Int) < 2 ^ 62 := by omega
  have h2 : [PyData.none].length * (h : Int).toNat ≤ maxLen := by rw [hm, List.length_singleton]; omega
  have h3 : 0 ≤ (h : Int) ∧ (h : Int) < 2 ^ 62 ∧ [PyData.none].length * (h : Int).toNat ≤ maxLen := ⟨Int.natCast_nonneg h, h1, h2⟩
  have e1 : binD .mul ⟨.list [.none], o, al⟩ ⟨.int h, p, bl⟩ = some (newL (List.replicate (h : Int).toNat [PyData.none]).flatten al) := by
    unfold binD
    dsimp only
    rw [if_pos h3]
  have e : (List.replicate h [PyData.none]).flatten = List.replicate h .none := by simp
  rw [e1, Int.toNat_natCast, e, newL_p (plains_all (fun x hx => by rw [List.eq_of_mem_replicate hx]; rfl))]
def w_table_of (lb wy : Nat) : Fn := ⟨"table_of", 2, ["k", "calls", "table", "call", "stage", "before", "behind"],
    (.cons (.asg (.nm 2) (.comp (.nm 4) (.rng (.int 0) (.var 0) (.int 1)) (.bl true) (.bin .mul (.lst (.cons .non .nil)) (.bin .shl (.int 1) (.bin .sub (.var 0) (.int 1))))))
      (.cons (.for_ (.nm 3) (.var 1) (.cons (.unp [(.nm 5), (.nm 6)] (.tup (.cons (.call lb (.cons (.var 0) (.cons (.var 3) .nil))) (.cons (.call wy (.cons (.var 0) (.cons (.idx (.var 3) (.int 0)) (.cons (.idx (.var 3) (.int 1)) .nil)))) .nil))))
      (.cons (.for_ (.nm 4) (.rng (.int 0) (.var 0) (.int 1)) (.cons (.asg (.sub 2 (.cons (.var 4) .nil) (.bin .div (.idx (.var 6) (.var 4)) (.int 2))) (.cmp .ne (.bin .mod (.idx (.var 5) (.var 4)) (.int 2)) (.bin .mod (.idx (.var 6) (.var 4)) (.int 2))))
      .nil))
      .nil)))
      (.cons (.ret (.mv 2))
      .nil)))⟩
theorem table_in {k : Nat} (hk : k ≤ 5) (h1 : 1 ≤ k) {p : Int × Int} (hp : (0 ≤ p.1 ∧ p.1 < 2 ^ k) ∧ 0 ≤ p.2 ∧ p.2 < 2 ^ k) {B : List Int} (hB : B.length = k) {tb : List PyData} (ht : TabOk k tb) (s1 s3 s4 : Slot) :
    ∃ tb' x4, exec Γ (.for_ (.nm 4) (.rng (.int 0) (.var 0) (.int 1)) (.cons (.asg (.sub 2 (.cons (.var 4) .nil) (.bin .div (.idx (.var 6) (.var 4)) (.int 2))) (.cmp .ne (.bin .mod (.idx (.var 5) (.var 4)) (.int 2)) (.bin .mod (.idx (.var 6) (.var 4)) (.int 2))))
      .nil)) [some (.fz, .int k), s1, some (.dp, .list tb), s3, s4, some (.dp, LI B), some (.dp, LI (wayO k p.1 p.2))] = some (.nx [some (.fz, .int k), s1, some (.dp, .list tb'), s3, x4, some (.dp, LI B), some (.dp, LI (wayO k p.1 p.2))]) ∧ TabOk k tb' := by
  obtain ⟨s', h, tb', x4, e, q⟩ := forI_run (Γ := Γ) (σ := [some (.fz, .int k), s1, some (.dp, .list tb), s3, s4, some (.dp, LI B), some (.dp, LI (wayO k p.1 p.2))]) (j := 4) (o := .dp) (ys := upto k) (it := .rng (.int 0) (.var 0) (.int 1)) (body := .cons (.asg (.sub 2 (.cons (.var 4) .nil) (.bin .div (.idx (.var 6) (.var 4)) (.int 2))) (.cmp .ne (.bin .mod (.idx (.var 5) (.var 4)) (.int 2)) (.bin .mod (.idx (.var 6) (.var 4)) (.int 2)))) .nil) (by simp (disch := omega))
    (fun i s => ∃ tb' x4, s = [some (.fz, .int k), s1, some (.dp, .list tb'), s3, x4, some (.dp, LI B), some (.dp, LI (wayO k p.1 p.2))] ∧ TabOk k tb') (fun i hi s ⟨tb', x4, e, q⟩ => by
      subst e
      have hi' : i < k := by simpa using hi
      rw [upto_get hi]
      have wl := wayO_len k p.1 p.2
      have wi := wayO_it (i := p.1) (o := p.2) hi'
      have lb := lane_bd (t := i + 1) hk hp.1 hp.2 (by omega)
      generalize lane k p.1 p.2 (i + 1) = x at wi lb
      obtain ⟨row, er, lr⟩ := q.2 _ (List.getElem_mem (l := tb') (n := i) (by rw [q.1]; exact hi'))
      have hpow : (2 : Int) ^ k = 2 * ((2 ^ (k - 1) : Nat) : Int) := by
        obtain ⟨j, rfl⟩ : ∃ j, k = j + 1 := ⟨k - 1, by omega⟩
        rw [Int.pow_succ]; simp; omega
      have hset := set_row (row := row) (x := x / 2) (by omega) (by rw [lr]; omega) (.bool (!decide (itI B i % 2 = x % 2)))
      rw [← er] at hset
      have hm := mod_at (tb := tb') (t := i) (by rw [q.1]; exact hi') (f := setD (.int (x / 2)) (.bool (!decide (itI B i % 2 = x % 2)))) hset
      refine ⟨_, .inl ?_, tb'.set i (.list (row.set (x / 2).toNat (.bool (!decide (itI B i % 2 = x % 2))))), some (.fz, .int i), rfl, by rw [List.length_set]; exact q.1, fun r hr => ?_⟩
      · simp (disch := omega) [wi, hm]
      · rcases List.mem_or_eq_of_mem_set hr with z | z
        · exact q.2 r z
        · exact ⟨_, z, by rw [List.length_set]; exact lr⟩) ⟨tb, s4, rfl, ht⟩
  subst e
  exact ⟨tb', x4, h, q⟩
theorem table_of_ok {lb wy k : Nat} (hk : k ≤ 5) (h1 : 1 ≤ k) {ps : List (Int × Int)} (hps : ∀ p ∈ ps, (0 ≤ p.1 ∧ p.1 < 2 ^ k) ∧ 0 ≤ p.2 ∧ p.2 < 2 ^ k)
    (hlb : ∀ p ∈ ps, ∃ B : List Int, Γ lb [.int k, prI p] = some (.dp, LI B) ∧ B.length = k) (hwy : ∀ p ∈ ps, Γ wy [.int k, .int p.1, .int p.2] = some (.dp, LI (wayO k p.1 p.2))) : ∃ tb, runF Γ (w_table_of lb wy) [.int k, .list (ps.map prI)] = some (.dp, .list tb) := by
  have e1 : ((k : Int) - 1).toNat = k - 1 := by omega
  have sh := b_shl (i := 1) (j := (k : Int) - 1) (by omega) (by omega) (by decide) .fz .fz [] []
  rw [e1, Int.one_mul] at sh
  have pw : (2 : Int) ^ (k - 1) = ((2 ^ (k - 1) : Nat) : Int) := by simp
  have pb : 2 ^ (k - 1) ≤ 2 ^ 4 := Nat.pow_le_pow_right (by omega) (by omega)
  rw [pw] at sh
  have rp := rep_non (h := 2 ^ (k - 1)) (by omega) .dp .fz [] []
  have ec := comp_gen (Γ := Γ) (σ := [some (.fz, .int k), some (.fz, .list (ps.map prI)), none, none, none, none, none]) (tg := .nm 4) (it := .rng (.int 0) (.var 0) (.int 1)) (c := .bl true) (e := .bin .mul (.lst (.cons .non .nil)) (.bin .shl (.int 1) (.bin .sub (.var 0) (.int 1)))) (d := LI (upto k)) (o := .dp) (al := []) (fun y : Int => .int y) (upto k) (fun y => [some (.fz, .int k), some (.fz, .list (ps.map prI)), none, none, some (.fz, .int y), none, none]) (fun _ => true) (fun _ => ⟨.list (List.replicate (2 ^ (k - 1)) .none), .dp, []⟩)
    (by simp (disch := omega)) rfl (by show _ ≤ 16777216; rw [upto_len]; omega) (fun y _ => rfl) (fun y _ => by simp) (fun y _ _ => by
      simp (disch := first | omega | (simp; done) | fail) [listOf_ok, sh, rp, -Int.natCast_pow, -List.map_replicate])
  have eok : (List.map (fun _ : Int => (⟨.list (List.replicate (2 ^ (k - 1)) .none), .dp, []⟩ : R)) ((upto k).filter (fun _ => true))).all R.ok = true := by
    rw [List.all_eq_true]
    intro x hx
    obtain ⟨y, _, rfl⟩ := List.mem_map.mp hx
    simp
  rw [listOf_ok eok, List.filter_eq_self.mpr (by simp)] at ec
  have t0 : TabOk k ((List.map (fun _ : Int => (⟨.list (List.replicate (2 ^ (k - 1)) .none), .dp, []⟩ : R)) (upto k)).map R.d) := by
    refine ⟨by simp, fun r hr => ?_⟩
    rw [List.map_map] at hr
    obtain ⟨y, _, rfl⟩ := List.mem_map.mp hr
    exact ⟨_, rfl, by simp⟩
  generalize (List.map (fun _ : Int => (⟨.list (List.replicate (2 ^ (k - 1)) .none), .dp, []⟩ : R)) (upto k)).map R.d = tb0 at ec t0
  obtain ⟨s', h, tb, x3, x4, x5, x6, e, q⟩ := forP_run (Γ := Γ) (σ := [some (.fz, .int k), some (.fz, .list (ps.map prI)), some (.dp, .list tb0), none, none, none, none]) prI (j := 3) (o := .fz) (ys := ps) (it := .var 1) (body := (.cons (.unp [(.nm 5), (.nm 6)] (.tup (.cons (.call lb (.cons (.var 0) (.cons (.var 3) .nil))) (.cons (.call wy (.cons (.var 0) (.cons (.idx (.var 3) (.int 0)) (.cons (.idx (.var 3) (.int 1)) .nil)))) .nil))))
      (.cons (.for_ (.nm 4) (.rng (.int 0) (.var 0) (.int 1)) (.cons (.asg (.sub 2 (.cons (.var 4) .nil) (.bin .div (.idx (.var 6) (.var 4)) (.int 2))) (.cmp .ne (.bin .mod (.idx (.var 5) (.var 4)) (.int 2)) (.bin .mod (.idx (.var 6) (.var 4)) (.int 2))))
      .nil))
      .nil))) (by simp)
    (fun i s => ∃ tb x3 x4 x5 x6, s = [some (.fz, .int k), some (.fz, .list (ps.map prI)), some (.dp, .list tb), x3, x4, x5, x6] ∧ TabOk k tb) (fun i hi s ⟨tb, x3, x4, x5, x6, e, q⟩ => by
      subst e
      have hm := List.getElem_mem hi
      generalize ps[i] = p at hm
      obtain ⟨B, g1, g2⟩ := hlb p hm
      have g3 := hwy p hm
      obtain ⟨tb', y4, g4, g5⟩ := table_in (Γ := Γ) hk h1 (hps p hm) g2 q (some (.fz, .list (ps.map prI))) (some (.fz, prI p)) x4
      refine ⟨_, .inl ?_, tb', some (.fz, prI p), y4, some (.dp, LI B), some (.dp, LI (wayO k p.1 p.2)), rfl, g5⟩
      simp (disch := first | omega | (simp; done) | fail) [g1, g3, tupOf_dp, g4]) ⟨tb0, none, none, none, none, rfl, t0⟩
  subst e
  refine ⟨tb, runF_of rfl rfl ?_⟩
  simp [w_table_of, ec, h]
end
end Sp
end

section
set_option Elab.async false
set_option linter.all false
set_option maxRecDepth 100000
set_option maxHeartbeats 4000000
/-! Omega nets: papers, the law's walk and clashes. -/
namespace Sp
open Sw
open PySem (PyData Str)
def InR (k : Nat) (ps : List (Int × Int)) : Prop := ∀ p ∈ ps, (0 ≤ p.1 ∧ p.1 < 2 ^ k) ∧ 0 ≤ p.2 ∧ p.2 < 2 ^ k
def waysO (k : Nat) (ps : List (Int × Int)) : List (List Int) := ps.map (fun p => wayO k p.1 p.2)
theorem ways_len {k : Nat} {ps : List (Int × Int)} : ∀ r ∈ waysO k ps, r.length = k := fun r hr => by
  obtain ⟨p, _, rfl⟩ := List.mem_map.mp hr
  exact wayO_len _ _ _
theorem cr_noc {k : Nat} {ps : List (Int × Int)} (hp : InR k ps) (h : CR ps = true) : NoC k (waysO k ps) := by
  intro a b hb hab t ht
  have hb' : b < ps.length := by simpa [waysO] using hb
  have ea : (waysO k ps)[a]'(by omega) = wayO k ps[a].1 ps[a].2 := by simp [waysO]
  have eb : (waysO k ps)[b] = wayO k ps[b].1 ps[b].2 := by simp [waysO]
  rw [ea, eb, wayO_it ht, wayO_it ht]
  have f := cr_far h a (b - a) (by omega)
  rw [show a + (b - a) = b by omega, itP_at (j := a) (by omega), itP_at (j := b) hb'] at f
  have pa := hp _ (List.getElem_mem (l := ps) (n := a) (by omega))
  have pb := hp _ (List.getElem_mem hb')
  exact lane_ne (by omega) pa.1.1 (by omega) pa.2.1 pb.2.2 (by omega)
section
variable {Γ : Cal} {σ : S}
def w_omega_paper (fc wy tb : Nat) : Fn := ⟨"omega_paper", 2, ["k", "calls", "clash", "inlet", "outlet"],
    (.cons (.asg (.nm 2) (.call fc (.cons (.comp (.tp [3, 4]) (.var 1) (.bl true) (.call wy (.cons (.var 0) (.cons (.var 3) (.cons (.var 4) .nil))))) .nil)))
      (.cons (.ite (.notN (.var 2)) (.cons (.ret (.tup (.cons (.str "clash") (.cons (.idx (.var 2) (.int 0)) (.cons (.idx (.var 2) (.int 1)) (.cons (.bin .add (.idx (.var 2) (.int 2)) (.int 1)) .nil))))))
      .nil) .nil)
      (.cons (.ret (.tup (.cons (.str "settings") (.cons (.call tb (.cons (.var 0) (.cons (.var 1) .nil))) .nil))))
      .nil)))⟩
theorem ways_ev {wy i3 i4 : Nat} {σ : S} {k : Nat} {ps : List (Int × Int)} {it : Ex} {c : Ex} (hit : ev Γ it σ = some ⟨.list (ps.map prI), .fz, []⟩) (hl : ps.length ≤ 1000)
    (hc : ∀ p ∈ ps, ev Γ c ((σ.set i3 (some (.fz, .int p.1))).set i4 (some (.fz, .int p.2))) = some ⟨LI (wayO k p.1 p.2), .dp, []⟩) : ev Γ (.comp (.tp [i3, i4]) it (.bl true) c) σ = some ⟨.list ((waysO k ps).map LI), .dp, []⟩ := by
  have ec := comp_gen (Γ := Γ) (σ := σ) (tg := .tp [i3, i4]) (it := it) (c := .bl true) (e := c) (d := .list (ps.map prI)) (o := .fz) (al := []) prI ps (fun p => (σ.set i3 (some (.fz, .int p.1))).set i4 (some (.fz, .int p.2))) (fun _ => true) (fun p => ⟨LI (wayO k p.1 p.2), .dp, []⟩)
    hit rfl (by show _ ≤ 16777216; omega) (fun p _ => rfl) (fun p _ => by simp) (fun p hp _ => hc p hp)
  have eok : (List.map (fun p : Int × Int => (⟨LI (wayO k p.1 p.2), .dp, []⟩ : R)) (ps.filter (fun _ => true))).all R.ok = true := by
    rw [List.all_eq_true]
    intro x hx
    obtain ⟨y, _, rfl⟩ := List.mem_map.mp hx
    simp
  have ed : (List.map (fun p : Int × Int => (⟨LI (wayO k p.1 p.2), .dp, []⟩ : R)) (ps.filter (fun _ => true))).map R.d = (waysO k ps).map LI := by
    rw [List.filter_eq_self.mpr (by simp), waysO]
    simp only [List.map_map]; rfl
  rw [listOf_ok eok, ed] at ec
  exact ec
theorem omega_paper_ok {fc wy tb k : Nat} {ps : List (Int × Int)} (hl : ps.length ≤ 1000) (hwy : ∀ p ∈ ps, Γ wy [.int k, .int p.1, .int p.2] = some (.dp, LI (wayO k p.1 p.2)))
    (hfc : Γ fc [.list ((waysO k ps).map LI)] = some (.fz, .none)) (htb : ∃ t, Γ tb [.int k, .list (ps.map prI)] = some (.dp, .list t)) : ∃ t, runF Γ (w_omega_paper fc wy tb) [.int k, .list (ps.map prI)] = some (.dp, .tuple [.str "settings", .list t]) := by
  obtain ⟨t, ht⟩ := htb
  have ew := ways_ev (Γ := Γ) (wy := wy) (i3 := 3) (i4 := 4) (σ := [some (.fz, .int k), some (.fz, .list (ps.map prI)), none, none, none]) (k := k) (ps := ps) (it := .var 1) (c := .call wy (.cons (.var 0) (.cons (.var 3) (.cons (.var 4) .nil)))) (by simp) hl (fun p hp => by simp [hwy p hp])
  refine ⟨t, runF_of rfl rfl ?_⟩
  simp (disch := first | omega | (simp; done) | fail) [w_omega_paper, ew, hfc, isNone, ht, tupOf_dp]
def w_lomega_way (sh : Nat) : Fn := ⟨"_law_omega_way", 3, ["k", "inlet", "outlet", "stage", "found", "lane"],
    (.cons (.unp [(.nm 4), (.nm 5)] (.tup (.cons (.lst .nil) (.cons (.mv 1) .nil))))
      (.cons (.for_ (.nm 3) (.rng (.int 0) (.var 0) (.int 1)) (.cons (.asg (.nm 5) (.call sh (.cons (.var 0) (.cons (.var 5) .nil))))
      (.cons (.asg (.nm 5) (.bin .add (.bin .sub (.var 5) (.bin .mod (.var 5) (.int 2))) (.bin .mod (.bin .shr (.var 2) (.bin .sub (.bin .sub (.var 0) (.int 1)) (.var 3))) (.int 2))))
      (.cons (.app 4 .nil (.var 5))
      .nil))))
      (.cons (.ret (.mv 4))
      .nil)))⟩
theorem lomega_way_ok {sh k : Nat} {i o : Int} (hk : k ≤ 5) (hi : 0 ≤ i ∧ i < 2 ^ k) (ho : 0 ≤ o ∧ o < 2 ^ k) (hs : ∀ x : Int, Γ sh [.int k, .int x] = some (.fz, .int (shuf k x))) : runF Γ (w_lomega_way sh) [.int k, .int i, .int o] = some (.dp, LI (wayO k i o)) := by
  obtain ⟨s', h, x3, e⟩ := forI_run (Γ := Γ) (σ := [some (.fz, .int k), some (.fz, .int i), some (.fz, .int o), none, some (.dp, .list []), some (.fz, .int i)]) (j := 3) (o := .dp) (ys := upto k) (it := .rng (.int 0) (.var 0) (.int 1)) (body := (.cons (.asg (.nm 5) (.call sh (.cons (.var 0) (.cons (.var 5) .nil))))
      (.cons (.asg (.nm 5) (.bin .add (.bin .sub (.var 5) (.bin .mod (.var 5) (.int 2))) (.bin .mod (.bin .shr (.var 2) (.bin .sub (.bin .sub (.var 0) (.int 1)) (.var 3))) (.int 2))))
      (.cons (.app 4 .nil (.var 5))
      .nil)))) (by simp (disch := omega))
    (fun t s => ∃ x3, s = [some (.fz, .int k), some (.fz, .int i), some (.fz, .int o), x3, some (.dp, LI ((List.range t).map (fun q => walk k i o (q + 1)))), some (.fz, .int (walk k i o t))]) (fun t ht s ⟨x3, e⟩ => by
      subst e
      have ht' : t < k := by simpa using ht
      rw [upto_get ht]
      have sr := b_shr (i := o) (j := (k : Int) - 1 - t) (by omega) .fz .fz [] []
      rw [show ((k : Int) - 1 - t).toNat = k - 1 - t by omega] at sr
      have hap := app_LI (walk k i o (t + 1)) ((List.range t).map (fun q => walk k i o (q + 1))) (by simp; omega)
      refine ⟨_, .inl ?_, some (.fz, .int t), rfl⟩
      have hstep : shuf k (walk k i o t) - shuf k (walk k i o t) % 2 + o / 2 ^ (k - 1 - t) % 2 = walk k i o (t + 1) := rfl
      have hl : ((List.range t).map (fun q => walk k i o (q + 1))).length = t := by simp
      rw [List.range_succ, List.map_append]
      have e1 : [t].map (fun q => walk k i o (q + 1)) = [walk k i o (t + 1)] := rfl
      rw [e1]
      generalize (List.range t).map (fun q => walk k i o (q + 1)) = F at hap hl ⊢
      simp (disch := omega) [hs, sr, hstep, hap, -List.map_append, -List.map_map]) ⟨none, by simp [walk]⟩
  subst e
  rw [upto_len, Int.toNat_natCast] at h
  have ew : (List.range k).map (fun q => walk k i o (q + 1)) = wayO k i o := by
    unfold wayO
    apply List.map_congr_left
    intro q hq
    exact walk_lane hk hi ho (List.mem_range.mp hq)
  rw [ew] at h
  refine runF_of rfl rfl ?_
  simp (disch := first | omega | (simp; done) | fail) [w_lomega_way, tupOf_dp, h]
def w_lclash (wy : Nat) : Fn := ⟨"_law_clash", 2, ["k", "calls", "ways", "a", "b", "stage", "inlet", "outlet"],
    (.cons (.asg (.nm 2) (.comp (.tp [6, 7]) (.var 1) (.bl true) (.call wy (.cons (.var 0) (.cons (.var 6) (.cons (.var 7) .nil))))))
      (.cons (.for_ (.nm 3) (.rng (.int 0) (.blt .len (.var 1)) (.int 1)) (.cons (.for_ (.nm 4) (.rng (.bin .add (.var 3) (.int 1)) (.blt .len (.var 1)) (.int 1)) (.cons (.for_ (.nm 5) (.rng (.int 0) (.var 0) (.int 1)) (.cons (.ite (.cmp .eq (.idx (.idx (.var 2) (.var 3)) (.var 5)) (.idx (.idx (.var 2) (.var 4)) (.var 5))) (.cons (.ret (.tup (.cons (.mv 3) (.cons (.mv 4) (.cons (.bin .add (.var 5) (.int 1)) .nil)))))
      .nil) .nil)
      .nil))
      .nil))
      .nil))
      (.cons (.ret .non)
      .nil)))⟩
theorem lclash_ok {wy k : Nat} {ps : List (Int × Int)} (hk : k ≤ 5) (hl : ps.length ≤ 1000) (nc : NoC k (waysO k ps)) (hwy : ∀ p ∈ ps, Γ wy [.int k, .int p.1, .int p.2] = some (.dp, LI (wayO k p.1 p.2))) : runF Γ (w_lclash wy) [.int k, .list (ps.map prI)] = some (.fz, .none) := by
  have ew := ways_ev (Γ := Γ) (wy := wy) (i3 := 6) (i4 := 7) (σ := [some (.fz, .int k), some (.fz, .list (ps.map prI)), none, none, none, none, none, none]) (k := k) (ps := ps) (it := .var 1) (c := .call wy (.cons (.var 0) (.cons (.var 6) (.cons (.var 7) .nil)))) (by simp) hl (fun p hp => by simp [hwy p hp])
  have wl : (waysO k ps).length = ps.length := by simp [waysO]
  have wr := ways_len (k := k) (ps := ps)
  generalize waysO k ps = W at *
  obtain ⟨s', hf, x3, x4, x5, e⟩ := forI_run (Γ := Γ) (σ := [some (.fz, .int k), some (.fz, .list (ps.map prI)), some (.dp, .list (W.map LI)), none, none, none, none, none]) (j := 3) (o := .dp) (ys := upto ps.length) (it := .rng (.int 0) (.blt .len (.var 1)) (.int 1)) (body := (.cons (.for_ (.nm 4) (.rng (.bin .add (.var 3) (.int 1)) (.blt .len (.var 1)) (.int 1)) (.cons (.for_ (.nm 5) (.rng (.int 0) (.var 0) (.int 1)) (.cons (.ite (.cmp .eq (.idx (.idx (.var 2) (.var 3)) (.var 5)) (.idx (.idx (.var 2) (.var 4)) (.var 5))) (.cons (.ret (.tup (.cons (.mv 3) (.cons (.mv 4) (.cons (.bin .add (.var 5) (.int 1)) .nil)))))
      .nil) .nil)
      .nil))
      .nil))
      .nil)) (by simp (disch := omega))
    (fun i s => ∃ x3 x4 x5, s = [some (.fz, .int k), some (.fz, .list (ps.map prI)), some (.dp, .list (W.map LI)), x3, x4, x5, none, none]) (fun a ha s ⟨x3, x4, x5, e⟩ => by
      subst e
      have ha' : a < ps.length := by simpa using ha
      rw [upto_get ha]
      have er := rng_seg (l := a + 1) (h := ps.length) (by omega) (by omega)
      rw [show ((a + 1 : Nat) : Int) = (a : Int) + 1 by omega] at er
      obtain ⟨s', hf, y4, y5, e⟩ := forI_run (Γ := Γ) (σ := [some (.fz, .int k), some (.fz, .list (ps.map prI)), some (.dp, .list (W.map LI)), some (.fz, .int a), x4, x5, none, none]) (j := 4) (o := .dp) (ys := seg (a + 1) ps.length) (it := .rng (.bin .add (.var 3) (.int 1)) (.blt .len (.var 1)) (.int 1)) (body := (.cons (.for_ (.nm 5) (.rng (.int 0) (.var 0) (.int 1)) (.cons (.ite (.cmp .eq (.idx (.idx (.var 2) (.var 3)) (.var 5)) (.idx (.idx (.var 2) (.var 4)) (.var 5))) (.cons (.ret (.tup (.cons (.mv 3) (.cons (.mv 4) (.cons (.bin .add (.var 5) (.int 1)) .nil)))))
        .nil) .nil)
        .nil))
        .nil)) (by simp (disch := omega) [er])
        (fun i s => ∃ y4 y5, s = [some (.fz, .int k), some (.fz, .list (ps.map prI)), some (.dp, .list (W.map LI)), some (.fz, .int a), y4, y5, none, none]) (fun i hi s ⟨y4, y5, e⟩ => by
          subst e
          rw [seg_get hi]
          have hi' : i < ps.length - (a + 1) := by rw [seg_len] at hi; exact hi
          have hab := nc a (a + 1 + i) (by omega) (by omega)
          have la := wr W[a] (List.getElem_mem _)
          have lb := wr (W[a + 1 + i]'(by omega)) (List.getElem_mem _)
          have ia := idx_R (rows := W) (j := a) (by omega)
          have ib := idx_R (rows := W) (j := a + 1 + i) (by omega)
          generalize W[a + 1 + i]'(by omega) = v at hab lb ib
          generalize W[a] = u at hab la ia
          obtain ⟨s', hf, z5, e⟩ := forI_run (Γ := Γ) (σ := [some (.fz, .int k), some (.fz, .list (ps.map prI)), some (.dp, .list (W.map LI)), some (.fz, .int a), some (.fz, .int (a + 1 + i : Nat)), y5, none, none]) (j := 5) (o := .dp) (ys := upto k) (it := .rng (.int 0) (.var 0) (.int 1)) (body := (.cons (.ite (.cmp .eq (.idx (.idx (.var 2) (.var 3)) (.var 5)) (.idx (.idx (.var 2) (.var 4)) (.var 5))) (.cons (.ret (.tup (.cons (.mv 3) (.cons (.mv 4) (.cons (.bin .add (.var 5) (.int 1)) .nil)))))
            .nil) .nil)
            .nil)) (by simp (disch := omega))
            (fun t s => ∃ z5, s = [some (.fz, .int k), some (.fz, .list (ps.map prI)), some (.dp, .list (W.map LI)), some (.fz, .int a), some (.fz, .int (a + 1 + i : Nat)), z5, none, none]) (fun t ht s ⟨z5, e⟩ => by
              subst e
              have ht' : t < k := by simpa using ht
              rw [upto_get ht]
              have := hab t ht'
              refine ⟨_, .inl ?_, some (.fz, .int t), rfl⟩
              simp (disch := omega) [ia, ib, this, -Int.natCast_add]) ⟨y5, rfl⟩
          subst e
          refine ⟨_, .inl ?_, some (.fz, .int (a + 1 + i : Nat)), z5, rfl⟩
          simp [hf, -Int.natCast_add]) ⟨x4, x5, rfl⟩
      subst e
      refine ⟨_, .inl ?_, some (.fz, .int a), y4, y5, rfl⟩
      simp [hf]) ⟨none, none, none, rfl⟩
  subst e
  refine runF_of rfl rfl ?_
  simp [w_lclash, ew, hf]
end
end Sp
end

section
set_option Elab.async false
set_option linter.all false
set_option maxRecDepth 100000
set_option maxHeartbeats 4000000
/-! Calls drawn by the laws. -/
namespace Sp
open Sw
open PySem (PyData Str)
/-- a cell of the draws -/
def cellV (ds : List Int) (j : Int) : Int := if j < ds.length then itI ds j else (itI ds (j % ds.length) * 31 + itI ds (7 * j % ds.length) * 17 + 101 * j) % 1000003
theorem cell_bd {ds : List Int} (hd : Small ds) (hl : 0 < ds.length) {j : Int} (hj : 0 ≤ j) : 0 ≤ cellV ds j ∧ cellV ds j < 1000003 := by
  unfold cellV
  split
  · exact small_it hd hj (by omega)
  · exact emod_bd _ (by omega)
theorem pairs_of {Q : Int × Int → Prop} : ∀ {l : List PyData}, (∀ x ∈ l, ∃ p, x = prI p ∧ Q p) → ∃ qs : List (Int × Int), l = qs.map prI ∧ ∀ p ∈ qs, Q p
  | [], _ => ⟨[], rfl, fun p h => by cases h⟩
  | x :: l, h => by
    obtain ⟨p, rfl, hp⟩ := h x (by simp)
    obtain ⟨qs, rfl, hq⟩ := pairs_of (l := l) (fun y hy => h y (by simp [hy]))
    refine ⟨p :: qs, rfl, fun q hq' => ?_⟩
    rcases List.mem_cons.mp hq' with rfl | z
    · exact hp
    · exact hq q z
theorem sort_pr {k : Nat} {ps : List (Int × Int)} (h : InR k ps) : ∃ qs : List (Int × Int), sortD (ps.map prI) = qs.map prI ∧ InR k qs ∧ qs.length = ps.length := by
  obtain ⟨qs, e, hq⟩ := pairs_of (Q := fun p => (0 ≤ p.1 ∧ p.1 < 2 ^ k) ∧ 0 ≤ p.2 ∧ p.2 < 2 ^ k) (l := sortD (ps.map prI)) (fun x hx => by
    obtain ⟨p, hp, rfl⟩ := List.mem_map.mp (sortD_mem.mp hx)
    exact ⟨p, rfl, h p hp⟩)
  refine ⟨qs, e, hq, ?_⟩
  have := congrArg List.length e
  rw [sortD_len, List.length_map, List.length_map] at this
  exact this.symm
section
variable {Γ : Cal} {σ : S}
def w_cell : Fn := ⟨"_law_cell", 2, ["draws", "k"],
    (.cons (.ite (.cmp .lt (.var 1) (.blt .len (.var 0))) (.cons (.ret (.idx (.var 0) (.var 1)))
      .nil) .nil)
      (.cons (.ret (.bin .mod (.bin .add (.bin .add (.bin .mul (.idx (.var 0) (.bin .mod (.var 1) (.blt .len (.var 0)))) (.int 31)) (.bin .mul (.idx (.var 0) (.bin .mod (.bin .mul (.int 7) (.var 1)) (.blt .len (.var 0)))) (.int 17))) (.bin .mul (.int 101) (.var 1))) (.int 1000003)))
      .nil))⟩
theorem cell_ok {ds : List Int} (hd : Small ds) (hl : 0 < ds.length) {j : Int} (hj : 0 ≤ j) (hj2 : j ≤ 1000000) : runF Γ w_cell [LI ds, .int j] = some (.fz, .int (cellV ds j)) := by
  refine runF_of rfl rfl ?_
  have m1 := emod_bd j (b := ds.length) (by omega)
  have m2 := emod_bd (7 * j) (b := ds.length) (by omega)
  have s1 := small_it hd m1.1 m1.2
  have s2 := small_it hd m2.1 m2.2
  unfold cellV
  by_cases z : j < ds.length
  · rw [if_pos z]
    simp (disch := omega) [w_cell, z]
  · rw [if_neg z]
    simp (disch := omega) [w_cell, z]
def Cells (Γ : Cal) (c : Nat) (ds : List Int) : Prop := ∀ j : Int, 0 ≤ j → j ≤ 1000000 → Γ c [LI ds, .int j] = some (.fz, .int (cellV ds j))
def w_order2 (c : Nat) : Fn := ⟨"_law_order", 3, ["draws", "at", "n", "line", "thing"],
    (.cons (.asg (.nm 3) (.lst .nil))
      (.cons (.for_ (.nm 4) (.rng (.int 0) (.var 2) (.int 1)) (.cons (.ins 3 (.bin .mod (.bin .div (.call c (.cons (.var 0) (.cons (.bin .add (.var 1) (.var 4)) .nil))) (.int 5)) (.bin .add (.var 4) (.int 1))) (.var 4))
      .nil))
      (.cons (.ret (.mv 3))
      .nil)))⟩
theorem order2_ok {c : Nat} {ds : List Int} {at' n : Int} (hc : Cells Γ c ds) (ha : 0 ≤ at') (ha2 : at' ≤ 1000) (hn : 0 ≤ n) (hn2 : n ≤ 1000) : ∃ xs, runF Γ (w_order2 c) [LI ds, .int at', .int n] = some (.dp, LI xs) ∧ List.Perm xs (upto n) := by
  obtain ⟨s', h, xs, k', e, p⟩ := forI_run (Γ := Γ) (j := 4) (body := (.cons (.ins 3 (.bin .mod (.bin .div (.call c (.cons (.var 0) (.cons (.bin .add (.var 1) (.var 4)) .nil))) (.int 5)) (.bin .add (.var 4) (.int 1))) (.var 4)) .nil)) (it := .rng (.int 0) (.var 2) (.int 1)) (o := .dp) (ys := upto n) (σ := [some (.fz, LI ds), some (.fz, .int at'), some (.fz, .int n), some (.dp, .list []), none]) (by simp (disch := omega))
    (fun i s => ∃ xs k', s = [some (.fz, LI ds), some (.fz, .int at'), some (.fz, .int n), some (.dp, LI xs), k'] ∧ List.Perm xs (upto i)) (fun i hi s ⟨xs, k1, e, p⟩ => by
      subst e
      have hi' : i < n.toNat := by simpa using hi
      have eu : (upto n)[i] = (i : Int) := upto_get hi
      rw [eu]
      have hx : xs.length = i := by rw [p.length_eq, upto_len]; omega
      have e1 := hc (at' + i) (by omega) (by omega)
      generalize cellV ds (at' + i) = cv at e1
      have m3 := emod_bd (cv / 5) (b := (i : Int) + 1) (by omega)
      refine ⟨_, .inl (by simp (disch := omega) [e1]), xs.take (cv / 5 % ((i : Int) + 1)).toNat ++ (i : Int) :: xs.drop (cv / 5 % ((i : Int) + 1)).toNat, some (.fz, .int i), rfl, ?_⟩
      rw [Int.natCast_add, Int.natCast_one, upto_succ (by omega)]
      generalize (cv / 5 % ((i : Int) + 1)).toNat = q
      have p2 : List.Perm (List.take q xs ++ (i : Int) :: List.drop q xs) ((i : Int) :: (List.take q xs ++ List.drop q xs)) := List.perm_middle
      rw [List.take_append_drop] at p2
      exact p2.trans ((p.cons _).trans (List.perm_append_singleton _ _).symm)) ⟨[], none, rfl, List.Perm.refl _⟩
  subst e
  rw [upto_len, Int.toNat_of_nonneg hn] at p
  refine ⟨xs, runF_of rfl rfl ?_, p⟩
  simp (disch := first | omega | (simp; done) | fail) [w_order2, h]
/-- a comprehension of pairs over numbers -/
theorem comp_prs {j : Nat} {it e : Ex} {o : Own} (ys : List Int) (g : Int → Int × Int) (hit : ev Γ it σ = some ⟨LI ys, o, []⟩) (hl : ys.length ≤ 16777216)
    (he : ∀ y ∈ ys, ev Γ e (σ.set j (some (.fz, .int y))) = FI (prI (g y))) : ev Γ (.comp (.nm j) it (.bl true) e) σ = some ⟨.list ((ys.map g).map prI), .dp, []⟩ := by
  have := comp_pl (Γ := Γ) (σ := σ) (tg := .nm j) (it := it) (c := .bl true) (e := e) (d := LI ys) (o := o) (al := []) (fun y : Int => .int y) ys (fun y => σ.set j (some (.fz, .int y))) (fun _ => true) (fun y => prI (g y)) hit rfl hl (fun y _ => rfl) (fun y _ => by simp) (fun y hy _ => he y hy) (fun y _ _ => rfl)
  rw [List.filter_eq_self.mpr (by simp)] at this
  rw [this, List.map_map]; rfl
theorem tup_pr (i j : Int) : tupOf [⟨.int i, .fz, []⟩, ⟨.int j, .fz, []⟩] = ⟨prI (i, j), .fz, []⟩ := tupOf_ii i j .fz .fz [] []
def w_calls (od : Nat) : Fn := ⟨"_law_calls", 4, ["draws", "at", "size", "many", "inlets", "outlets", "k"],
    (.cons (.unp [(.nm 4), (.nm 5)] (.tup (.cons (.call od (.cons (.var 0) (.cons (.var 1) (.cons (.var 2) .nil)))) (.cons (.call od (.cons (.var 0) (.cons (.bin .add (.var 1) (.var 2)) (.cons (.var 2) .nil)))) .nil))))
      (.cons (.ret (.blt .sorted (.comp (.nm 6) (.rng (.int 0) (.min2 (.var 3) (.var 2)) (.int 1)) (.bl true) (.tup (.cons (.idx (.var 4) (.var 6)) (.cons (.idx (.var 5) (.var 6)) .nil))))))
      .nil))⟩
theorem calls_ok {od k : Nat} {ds : List Int} {at' many : Int} (hk : k ≤ 5) (hm : 0 ≤ many) (h1 : ∃ xs, Γ od [LI ds, .int at', .int (2 ^ k)] = some (.dp, LI xs) ∧ List.Perm xs (upto (2 ^ k))) (h2 : ∃ xs, Γ od [LI ds, .int (at' + 2 ^ k), .int (2 ^ k)] = some (.dp, LI xs) ∧ List.Perm xs (upto (2 ^ k))) :
    ∃ qs, runF Γ (w_calls od) [LI ds, .int at', .int (2 ^ k), .int many] = some (.dp, .list (qs.map prI)) ∧ InR k qs ∧ qs.length ≤ 32 := by
  have pk := pow_le hk
  obtain ⟨u, e1, p1⟩ := h1
  obtain ⟨v, e2, p2⟩ := h2
  have lu : (u.length : Int) = 2 ^ k := by rw [p1.length_eq, upto_len]; omega
  have lv : (v.length : Int) = 2 ^ k := by rw [p2.length_eq, upto_len]; omega
  generalize hN : (2 : Int) ^ k = N at *
  have ec := comp_prs (Γ := Γ) (σ := [some (.fz, LI ds), some (.fz, .int at'), some (.fz, .int N), some (.fz, .int many), some (.dp, LI u), some (.dp, LI v), none]) (j := 6) (it := .rng (.int 0) (.min2 (.var 3) (.var 2)) (.int 1)) (e := .tup (.cons (.idx (.var 4) (.var 6)) (.cons (.idx (.var 5) (.var 6)) .nil))) (o := .dp) (upto (min many N)) (fun y => (itI u y, itI v y)) (by simp (disch := omega)) (by rw [upto_len]; omega) (fun y hy => by
    have := mem_upto.mp hy
    simp (disch := first | omega | (simp; done) | fail) [tup_pr])
  have hin : InR k ((upto (min many N)).map (fun y => (itI u y, itI v y))) := fun p hp => by
    obtain ⟨y, hy, rfl⟩ := List.mem_map.mp hp
    have := mem_upto.mp hy
    have a := mem_upto.mp (p1.mem_iff.mp (itI_mem (xs := u) (i := y) (by omega) (by omega)))
    have b := mem_upto.mp (p2.mem_iff.mp (itI_mem (xs := v) (i := y) (by omega) (by omega)))
    rw [hN]
    exact ⟨a, b⟩
  have hlen : ((upto (min many N)).map (fun y => (itI u y, itI v y))).length ≤ 32 := by rw [List.length_map, upto_len]; omega
  generalize (upto (min many N)).map (fun y => (itI u y, itI v y)) = ps at ec hin hlen
  obtain ⟨qs, q1, q2, q3⟩ := sort_pr hin
  have es := blt_sort (o := .dp) (al := []) (sortable_pr ps) (plains_pr ps)
  rw [q1] at es
  refine ⟨qs, runF_of rfl rfl ?_, q2, by omega⟩
  simp (disch := first | omega | (simp; done) | fail) [w_calls, e1, e2, tupOf_dp, ec, es]
def w_rising (c : Nat) : Fn := ⟨"_law_rising", 3, ["draws", "at", "k", "size", "outlets", "begin", "line", "j"],
    (.cons (.asg (.nm 3) (.bin .shl (.int 1) (.var 2)))
      (.cons (.asg (.nm 4) (.comp (.nm 6) (.rng (.int 0) (.var 3) (.int 1)) (.cmp .gt (.bin .mod (.bin .div (.call c (.cons (.var 0) (.cons (.bin .add (.var 1) (.var 6)) .nil))) (.int 3)) (.int 3)) (.int 0)) (.var 6)))
      (.cons (.asg (.nm 5) (.bin .mod (.call c (.cons (.var 0) (.cons (.bin .add (.var 1) (.int 40)) .nil))) (.bin .add (.bin .sub (.var 3) (.blt .len (.var 4))) (.int 1))))
      (.cons (.ret (.comp (.nm 7) (.rng (.int 0) (.blt .len (.var 4)) (.int 1)) (.bl true) (.tup (.cons (.bin .add (.var 5) (.var 7)) (.cons (.idx (.var 4) (.var 7)) .nil)))))
      .nil))))⟩
/-- pairs of neighbours with ascending outlets -/
def risP (b : Int) (O : List Int) : List (Int × Int) := (upto O.length).map (fun j => (b + j, itI O j))
theorem ris_len (b : Int) (O : List Int) : (risP b O).length = O.length := by simp [risP]
theorem ris_it {b : Int} {O : List Int} {j : Int} (h0 : 0 ≤ j) (h : j < O.length) : itP (risP b O) j = (b + j, itI O j) := by
  have e : j = (j.toNat : Int) := by omega
  rw [e, itP_at (by rw [ris_len]; omega)]
  simp only [risP, List.getElem_map]
  rw [upto_get]
theorem ris_cr {b : Int} {O : List Int} (ho : O.Pairwise (· < ·)) : CR (risP b O) = true := by
  unfold CR
  rw [List.all_eq_true]
  intro y hy
  rw [seg_range, ris_len] at hy
  obtain ⟨u, hu, rfl⟩ := List.mem_map.mp hy
  rw [List.mem_range] at hu
  unfold good
  rw [ris_it (by omega) (by omega), ris_it (by omega) (by omega), Bool.and_eq_true, decide_eq_true_eq, decide_eq_true_eq]
  refine ⟨by dsimp only; omega, ?_⟩
  dsimp only
  have e1 : ((1 : Nat) : Int) + (u : Nat) = ((u + 1 : Nat) : Int) := by omega
  have e2 : ((1 : Nat) : Int) + (u : Nat) - 1 = (u : Int) := by omega
  rw [e2, e1, itI_at (by omega), itI_at (by omega)]
  exact (List.pairwise_iff_getElem.mp ho) u (u + 1) (by omega) (by omega) (by omega)
theorem ris_in {k : Nat} {b : Int} {O : List Int} (hb : 0 ≤ b) (hb2 : b + O.length ≤ 2 ^ k) (ho : ∀ x ∈ O, 0 ≤ x ∧ x < 2 ^ k) : InR k (risP b O) := fun p hp => by
  obtain ⟨y, hy, rfl⟩ := List.mem_map.mp hp
  have := mem_upto.mp hy
  have := ho _ (itI_mem (xs := O) (i := y) (by omega) (by omega))
  dsimp only
  omega
theorem rising_ok {c k : Nat} {ds : List Int} {at' : Int} (hk : k ≤ 5) (hd : Small ds) (hdl : 0 < ds.length) (hc : Cells Γ c ds) (ha : 0 ≤ at') (ha2 : at' ≤ 1000) : ∃ ps, runF Γ (w_rising c) [LI ds, .int at', .int k] = some (.dp, .list (ps.map prI)) ∧ InR k ps ∧ CR ps = true ∧ ps.length ≤ 32 := by
  have pk := pow_le hk
  have sh := b_shl (i := 1) (j := (k : Int)) (by omega) (by omega) (by decide) .fz .fz [] []
  rw [Int.toNat_natCast, Int.one_mul] at sh
  generalize hN : (2 : Int) ^ k = N at *
  have eo := comp_ints (Γ := Γ) (σ := [some (.fz, LI ds), some (.fz, .int at'), some (.fz, .int k), some (.fz, .int N), none, none, none, none]) (j := 6) (it := .rng (.int 0) (.var 3) (.int 1)) (c := .cmp .gt (.bin .mod (.bin .div (.call c (.cons (.var 0) (.cons (.bin .add (.var 1) (.var 6)) .nil))) (.int 3)) (.int 3)) (.int 0)) (e := .var 6) (o := .dp)
    (upto N) (fun l => decide (cellV ds (at' + l) / 3 % 3 > 0)) id (by simp (disch := omega)) (by rw [upto_len]; omega) (fun y hy => by
      have := mem_upto.mp hy
      have e1 := hc (at' + y) (by omega) (by omega)
      simp (disch := omega) [e1]) (fun y _ _ => by simp)
  rw [List.map_id] at eo
  have op : ((upto N).filter (fun l => decide (cellV ds (at' + l) / 3 % 3 > 0))).Pairwise (· < ·) := (upto_lt N).filter _
  have om : ∀ x ∈ (upto N).filter (fun l => decide (cellV ds (at' + l) / 3 % 3 > 0)), 0 ≤ x ∧ x < N := fun x hx => mem_upto.mp (List.mem_filter.mp hx).1
  have ol : (((upto N).filter (fun l => decide (cellV ds (at' + l) / 3 % 3 > 0))).length : Int) ≤ N := by
    have := List.length_filter_le (fun l => decide (cellV ds (at' + l) / 3 % 3 > 0)) (upto N)
    rw [upto_len] at this
    omega
  generalize (upto N).filter (fun l => decide (cellV ds (at' + l) / 3 % 3 > 0)) = O at eo op om ol
  have e40 := hc (at' + 40) (by omega) (by omega)
  have mb := emod_bd (cellV ds (at' + 40)) (b := N - O.length + 1) (by omega)
  generalize eb : cellV ds (at' + 40) % (N - O.length + 1) = b at mb
  have ec := comp_prs (Γ := Γ) (σ := [some (.fz, LI ds), some (.fz, .int at'), some (.fz, .int k), some (.fz, .int N), some (.dp, LI O), some (.fz, .int b), none, none]) (j := 7) (it := .rng (.int 0) (.blt .len (.var 4)) (.int 1)) (e := .tup (.cons (.bin .add (.var 5) (.var 7)) (.cons (.idx (.var 4) (.var 7)) .nil))) (o := .dp) (upto O.length) (fun j => (b + j, itI O j)) (by simp (disch := omega)) (by rw [upto_len]; omega) (fun y hy => by
    have := mem_upto.mp hy
    simp (disch := first | omega | (simp; done) | fail) [tup_pr])
  refine ⟨risP b O, runF_of rfl rfl ?_, ris_in mb.1 (by rw [hN]; omega) (fun x hx => by rw [hN]; exact om x hx), ris_cr op, by rw [ris_len]; omega⟩
  have hr : (upto O.length).map (fun j => (b + j, itI O j)) = risP b O := rfl
  rw [hr] at ec
  simp (disch := first | omega | (simp; done) | fail) [w_rising, sh, eo, e40, eb, ec]
end
end Sp
end

section
set_option Elab.async false
set_option linter.all false
set_option maxRecDepth 100000
set_option maxHeartbeats 4000000
/-! Lists of calls, bent ones. -/
namespace Sp
open Sw
open PySem (PyData Str)
/-! ### slices and sums of lists of pairs -/
def cutA {α : Type} (xs : List α) (l h : Option Int) : List α := (xs.drop (clip xs.length 0 l)).take (clip xs.length xs.length h - clip xs.length 0 l)
theorem cutA_mem {α : Type} {xs : List α} {l h : Option Int} {x : α} (hx : x ∈ cutA xs l h) : x ∈ xs := List.mem_of_mem_drop (List.mem_of_mem_take hx)
theorem cutA_len {α : Type} (xs : List α) (l h : Option Int) : (cutA xs l h).length ≤ xs.length := by
  unfold cutA
  rw [List.length_take, List.length_drop]
  omega
theorem slc_P (ps : List (Int × Int)) (o : Own) (al : List Nat) (l h : Option Int) : slcR ⟨.list (ps.map prI), o, al⟩ l h = some ⟨.list ((cutA ps l h).map prI), .dp, []⟩ := by
  show some (newL (cut (ps.map prI) l h) al) = _
  have e : cut (ps.map prI) l h = (cutA ps l h).map prI := by
    unfold cut cutA
    rw [List.length_map, List.map_take, List.map_drop]
  rw [e, newL_pr]
theorem cat_P (ps qs : List (Int × Int)) (h : ps.length + qs.length ≤ 16777216) (o p : Own) (al bl : List Nat) : binD .add ⟨.list (ps.map prI), o, al⟩ ⟨.list (qs.map prI), p, bl⟩ = some ⟨.list ((ps ++ qs).map prI), .dp, []⟩ := by
  rw [c_cat _ _ (by rw [List.length_map, List.length_map]; exact h), ← List.map_append, newL_pr]
theorem cat_P1 (ps : List (Int × Int)) (q : Int × Int) (h : ps.length + 1 ≤ 16777216) (o p : Own) (al bl : List Nat) : binD .add ⟨.list (ps.map prI), o, al⟩ ⟨.list [prI q], p, bl⟩ = some ⟨.list ((ps ++ [q]).map prI), .dp, []⟩ := cat_P ps [q] h o p al bl
theorem lst_P1 (q : Int × Int) (al : List Nat) : listOf [⟨prI q, .fz, al⟩] [] = ⟨.list [prI q], .dp, []⟩ := by
  rw [listOf_ok]
  · rfl
  · rfl
theorem idx_Pl {ps : List (Int × Int)} (h : 0 < ps.length) : idxD (.list (ps.map prI)) (.int (-1)) = some (prI (itP ps (ps.length - 1))) := by
  have e : ix (ps.map prI).length (-1) = some (ps.length - 1) := by
    rw [List.length_map]
    unfold ix
    rw [if_neg (by omega), if_pos (by omega)]
    congr 1
    omega
  show (ix (ps.map prI).length (-1)).bind _ = _
  rw [e]
  show (ps.map prI)[ps.length - 1]? = _
  have e2 : (ps.length : Int) - 1 = ((ps.length - 1 : Nat) : Int) := by omega
  rw [List.getElem?_eq_getElem (by rw [List.length_map]; omega), List.getElem_map, e2, itP_at (by omega)]
section
variable {Γ : Cal} {σ : S}
def w_with : Fn := ⟨"_law_with", 3, ["line", "at", "item"],
    (.cons (.ret (.bin .add (.bin .add (.slc (.var 0) .non (.var 1)) (.lst (.cons (.var 2) .nil))) (.slc (.var 0) (.bin .add (.var 1) (.int 1)) .non)))
      .nil)⟩
def withP (ps : List (Int × Int)) (j : Int) (q : Int × Int) : List (Int × Int) := cutA ps none (some j) ++ [q] ++ cutA ps (some (j + 1)) none
theorem withP_mem {ps : List (Int × Int)} {j : Int} {q x : Int × Int} (h : x ∈ withP ps j q) : x = q ∨ x ∈ ps := by
  unfold withP at h
  rw [List.mem_append, List.mem_append, List.mem_singleton] at h
  rcases h with (h | h) | h
  · exact .inr (cutA_mem h)
  · exact .inl h
  · exact .inr (cutA_mem h)
theorem withP_len {ps : List (Int × Int)} {j : Int} {q : Int × Int} (h0 : 0 ≤ j) (h : j < ps.length) : (withP ps j q).length = ps.length := by
  unfold withP cutA clip
  simp only [List.length_append, List.length_take, List.length_drop, List.length_singleton]
  rw [if_neg (by omega), if_neg (by omega)]
  omega
theorem with_ok {ps : List (Int × Int)} {j : Int} (hl : ps.length ≤ 1000) (q : Int × Int) : runF Γ w_with [.list (ps.map prI), .int j, prI q] = some (.dp, .list ((withP ps j q).map prI)) := by
  have a := cutA_len ps none (some j)
  have b := cutA_len ps (some (j + 1)) none
  have c1 := cat_P1 (cutA ps none (some j)) q (by omega) .dp .dp [] []
  have c2 := cat_P (cutA ps none (some j) ++ [q]) (cutA ps (some (j + 1)) none) (by rw [List.length_append, List.length_singleton]; omega) .dp .dp [] []
  refine runF_of rfl rfl ?_
  simp (disch := first | omega | (simp; done) | fail) [w_with, slc_P, lst_P1, c1, c2, withP, -List.map_append]
end
end Sp
end

section
set_option Elab.async false
set_option linter.all false
set_option maxRecDepth 100000
set_option maxHeartbeats 4000000
/-! Lists of calls, bent and drawn. -/
namespace Sp
open Sw
open PySem (PyData Str)
def E2 (ps : List (Int × Int)) : PyData := .list (ps.map prI)
theorem inR_cut {k : Nat} {ps : List (Int × Int)} (h : InR k ps) (l u : Option Int) : InR k (cutA ps l u) := fun p hp => h p (cutA_mem hp)
theorem inR_app {k : Nat} {ps qs : List (Int × Int)} (h : InR k ps) (h' : InR k qs) : InR k (ps ++ qs) := fun p hp => (List.mem_append.mp hp).elim (h p) (h' p)
theorem inR_one {k : Nat} {p : Int × Int} (h : (0 ≤ p.1 ∧ p.1 < 2 ^ k) ∧ 0 ≤ p.2 ∧ p.2 < 2 ^ k) : InR k [p] := fun q hq => by rw [List.mem_singleton] at hq; subst hq; exact h
theorem inR_with {k : Nat} {ps : List (Int × Int)} {j : Int} {q : Int × Int} (h : InR k ps) (hq : (0 ≤ q.1 ∧ q.1 < 2 ^ k) ∧ 0 ≤ q.2 ∧ q.2 < 2 ^ k) : InR k (withP ps j q) := fun p hp => (withP_mem hp).elim (fun e => by subst e; exact hq) (h p)
section
variable {Γ : Cal} {σ : S}
theorem lst_ii (i j : Int) (al : List Nat) : listOf [⟨.tuple [.int i, .int j], .fz, al⟩] [] = ⟨.list [.tuple [.int i, .int j]], .dp, []⟩ := lst_P1 (i, j) al
theorem sl_pr (p : Int × Int) (o : Own) (al : List Nat) : slotOf ⟨prI p, o, al⟩ = some (.fz, prI p) := rfl
def w_bent (w : Nat) : Fn := ⟨"_law_bent", 3, ["calls", "size", "draws", "found", "at", "other", "one", "two"],
    (.cons (.asg (.nm 3) (.lst (.cons (.var 0) (.cons (.slc (.var 0) (.int 1) .non) (.cons (.slc (.var 0) .non (.neg (.int 1))) (.cons (.slc (.var 0) (.int 1) (.neg (.int 1))) .nil))))))
      (.cons (.ite (.cmp .gt (.blt .len (.var 0)) (.int 2)) (.cons (.unp [(.nm 4), (.nm 5)] (.tup (.cons (.bin .mod (.idx (.var 2) (.int 50)) (.blt .len (.var 0))) (.cons (.bin .mod (.idx (.var 2) (.int 51)) (.blt .len (.var 0))) .nil))))
      (.cons (.app 3 .nil (.bin .add (.slc (.var 0) .non (.var 4)) (.slc (.var 0) (.bin .add (.var 4) (.int 1)) .non)))
      (.cons (.unp [(.nm 6), (.nm 7)] (.tup (.cons (.idx (.var 0) (.var 4)) (.cons (.idx (.var 0) (.var 5)) .nil))))
      (.cons (.app 3 .nil (.blt .sorted (.call w (.cons (.call w (.cons (.var 0) (.cons (.var 4) (.cons (.tup (.cons (.idx (.var 6) (.int 0)) (.cons (.idx (.var 7) (.int 1)) .nil))) .nil)))) (.cons (.var 5) (.cons (.tup (.cons (.idx (.var 7) (.int 0)) (.cons (.idx (.var 6) (.int 1)) .nil))) .nil))))))
      (.cons (.ite (.cmp .lt (.idx (.idx (.var 0) (.neg (.int 1))) (.int 0)) (.bin .sub (.var 1) (.int 1))) (.cons (.app 3 .nil (.bin .add (.slc (.var 0) .non (.neg (.int 1))) (.lst (.cons (.tup (.cons (.bin .add (.idx (.idx (.var 0) (.neg (.int 1))) (.int 0)) (.int 1)) (.cons (.idx (.idx (.var 0) (.neg (.int 1))) (.int 1)) .nil))) .nil))))
      .nil) .nil)
      .nil))))) .nil)
      (.cons (.ret (.mv 3))
      .nil)))⟩
theorem bent_ok {w k : Nat} {ps : List (Int × Int)} {ds : List Int} (hp : InR k ps) (hl : ps.length ≤ 100) (hds : ds.length = 60)
    (hw : ∀ (qs : List (Int × Int)) (j : Int) (q : Int × Int), qs.length ≤ 1000 → Γ w [.list (qs.map prI), .int j, prI q] = some (.dp, .list ((withP qs j q).map prI))) :
    ∃ L : List (List (Int × Int)), runF Γ (w_bent w) [.list (ps.map prI), .int (2 ^ k), LI ds] = some (.sh, .list (L.map E2)) ∧ (∀ qs ∈ L, InR k qs ∧ qs.length ≤ 210) ∧ L.length ≤ 7 ∧ 0 < L.length := by
  have la : ∀ l u, (cutA ps l u).length ≤ 100 := fun l u => Nat.le_trans (cutA_len ps l u) hl
  have hlst : ∀ a b c d : List (Int × Int), listOf [⟨.list (a.map prI), .fz, []⟩, ⟨.list (b.map prI), .dp, []⟩, ⟨.list (c.map prI), .dp, []⟩, ⟨.list (d.map prI), .dp, []⟩] [] = ⟨.list [.list (a.map prI), .list (b.map prI), .list (c.map prI), .list (d.map prI)], .sh, []⟩ := fun a b c d => listOf_np rfl
  by_cases z : (ps.length : Int) > 2
  · have ma := emod_bd (itI ds 50) (b := ps.length) (by omega)
    have mb := emod_bd (itI ds 51) (b := ps.length) (by omega)
    generalize ea : itI ds 50 % (ps.length : Int) = a at ma
    generalize eb : itI ds 51 % (ps.length : Int) = b at mb
    have p1 := hp _ (itP_mem ma.1 ma.2)
    have p2 := hp _ (itP_mem mb.1 mb.2)
    have c1 := cat_P (cutA ps none (some a)) (cutA ps (some (a + 1)) none) (by have := la none (some a); have := la (some (a + 1)) none; omega) .dp .dp [] []
    have l1 : (withP ps a ((itP ps a).1, (itP ps b).2)).length = ps.length := withP_len ma.1 ma.2
    have w1 := hw ps a ((itP ps a).1, (itP ps b).2) (by omega)
    have w2 := hw (withP ps a ((itP ps a).1, (itP ps b).2)) b ((itP ps b).1, (itP ps a).2) (by omega)
    have i2 : InR k (withP (withP ps a ((itP ps a).1, (itP ps b).2)) b ((itP ps b).1, (itP ps a).2)) := inR_with (inR_with hp ⟨p1.1, p2.2⟩) ⟨p2.1, p1.2⟩
    have l2 : (withP (withP ps a ((itP ps a).1, (itP ps b).2)) b ((itP ps b).1, (itP ps a).2)).length = ps.length := by rw [withP_len mb.1 (by rw [l1]; exact mb.2), l1]
    generalize withP (withP ps a ((itP ps a).1, (itP ps b).2)) b ((itP ps b).1, (itP ps a).2) = W at w2 i2 l2
    obtain ⟨q1, q2, q3, q4⟩ := sort_pr i2
    have es := blt_sort (o := .dp) (al := []) (sortable_pr W) (plains_pr W)
    have w1' : Γ w [.list (ps.map prI), .int a, .tuple [.int (itP ps a).1, .int (itP ps b).2]] = _ := w1
    have w2' : Γ w [_, .int b, .tuple [.int (itP ps b).1, .int (itP ps a).2]] = _ := w2
    rw [q2] at es
    have tp : ∀ p q : Int × Int, tupOf [⟨prI p, .fz, []⟩, ⟨prI q, .fz, []⟩] = ⟨.tuple [prI p, prI q], .fz, []⟩ := fun p q => tupOf_pl rfl
    have il := idx_Pl (ps := ps) (by omega)
    have pl := hp _ (itP_mem (ps := ps) (j := (ps.length : Int) - 1) (by omega) (by omega))
    generalize itP ps ((ps.length : Int) - 1) = last at il pl
    have app : ∀ (y : PyData) (xs : List PyData), xs.length < 16777216 → appD y (.list xs) = some (.list (xs ++ [y])) := app_l
    have c3 : binD .add ⟨.list ((cutA ps none (some (-1))).map prI), .dp, []⟩ ⟨.list [.tuple [.int (last.1 + 1), .int last.2]], .dp, []⟩ = _ := cat_P1 (cutA ps none (some (-1))) (last.1 + 1, last.2) (by have := la none (some (-1)); omega) .dp .dp [] []
    by_cases y : last.1 < 2 ^ k - 1
    · refine ⟨[ps, cutA ps (some 1) none, cutA ps none (some (-1)), cutA ps (some 1) (some (-1)), cutA ps none (some a) ++ cutA ps (some (a + 1)) none, q1, cutA ps none (some (-1)) ++ [(last.1 + 1, last.2)]], runF_of rfl rfl ?_, ?_, by simp, by simp⟩
      · simp (disch := first | omega | (simp; done) | (simp; omega) | fail) [w_bent, slc_P, hlst, z, ea, eb, c1, w1', w2', es, tp, il, tupOf_ii, tup_pr, sl_pr, lst_P1, lst_ii, c3, y, app, E2, -List.map_append]
      · intro qs hqs
        simp only [List.mem_cons, List.mem_nil_iff, or_false] at hqs
        rcases hqs with rfl | rfl | rfl | rfl | rfl | rfl | rfl
        · exact ⟨hp, by omega⟩
        · exact ⟨inR_cut hp _ _, Nat.le_trans (la _ _) (by omega)⟩
        · exact ⟨inR_cut hp _ _, Nat.le_trans (la _ _) (by omega)⟩
        · exact ⟨inR_cut hp _ _, Nat.le_trans (la _ _) (by omega)⟩
        · refine ⟨inR_app (inR_cut hp _ _) (inR_cut hp _ _), ?_⟩
          have := la none (some a); have := la (some (a + 1)) none
          rw [List.length_append]; omega
        · exact ⟨q3, by omega⟩
        · refine ⟨inR_app (inR_cut hp _ _) (inR_one ⟨⟨by dsimp only; omega, by dsimp only; omega⟩, pl.2⟩), ?_⟩
          have := la none (some (-1))
          rw [List.length_append, List.length_singleton]; omega
    · refine ⟨[ps, cutA ps (some 1) none, cutA ps none (some (-1)), cutA ps (some 1) (some (-1)), cutA ps none (some a) ++ cutA ps (some (a + 1)) none, q1], runF_of rfl rfl ?_, ?_, by simp, by simp⟩
      · simp (disch := first | omega | (simp; done) | (simp; omega) | fail) [w_bent, slc_P, hlst, z, ea, eb, c1, w1', w2', es, tp, il, tupOf_ii, tup_pr, sl_pr, lst_P1, lst_ii, c3, y, app, E2, -List.map_append]
      · intro qs hqs
        simp only [List.mem_cons, List.mem_nil_iff, or_false] at hqs
        rcases hqs with rfl | rfl | rfl | rfl | rfl | rfl
        · exact ⟨hp, by omega⟩
        · exact ⟨inR_cut hp _ _, Nat.le_trans (la _ _) (by omega)⟩
        · exact ⟨inR_cut hp _ _, Nat.le_trans (la _ _) (by omega)⟩
        · exact ⟨inR_cut hp _ _, Nat.le_trans (la _ _) (by omega)⟩
        · refine ⟨inR_app (inR_cut hp _ _) (inR_cut hp _ _), ?_⟩
          have := la none (some a); have := la (some (a + 1)) none
          rw [List.length_append]; omega
        · exact ⟨q3, by omega⟩
  · refine ⟨[ps, cutA ps (some 1) none, cutA ps none (some (-1)), cutA ps (some 1) (some (-1))], runF_of rfl rfl ?_, ?_, by simp, by simp⟩
    · simp (disch := first | omega | (simp; done) | (simp; omega) | fail) [w_bent, slc_P, hlst, z, E2, -List.map_append]
    · intro qs hqs
      simp only [List.mem_cons, List.mem_nil_iff, or_false] at hqs
      rcases hqs with rfl | rfl | rfl | rfl
      · exact ⟨hp, by omega⟩
      · exact ⟨inR_cut hp _ _, Nat.le_trans (la _ _) (by omega)⟩
      · exact ⟨inR_cut hp _ _, Nat.le_trans (la _ _) (by omega)⟩
      · exact ⟨inR_cut hp _ _, Nat.le_trans (la _ _) (by omega)⟩
/-! ### drawn ones -/
def shufChk : Bool := (List.range 6).all fun k => (List.range (2 ^ k)).all fun x => decide (k = 0 ∨ (0 ≤ shuf k x ∧ shuf k x < 2 ^ k ∧ 0 ≤ PySem.Builtin.bitXor (shuf k x) 1 ∧ PySem.Builtin.bitXor (shuf k x) 1 < 2 ^ k))
theorem shufChk_ok : shufChk = true := by decide +kernel
theorem shuf_bd {k : Nat} {x : Int} (h1 : 1 ≤ k) (hk : k ≤ 5) (hx : 0 ≤ x ∧ x < 2 ^ k) : (0 ≤ shuf k x ∧ shuf k x < 2 ^ k) ∧ 0 ≤ PySem.Builtin.bitXor (shuf k x) 1 ∧ PySem.Builtin.bitXor (shuf k x) 1 < 2 ^ k := by
  have h := shufChk_ok
  unfold shufChk at h
  rw [List.all_eq_true] at h
  have h1 := h k (List.mem_range.mpr (by omega))
  rw [List.all_eq_true] at h1
  have c : ((2 ^ k : Nat) : Int) = 2 ^ k := by simp
  have h2 := h1 x.toNat (List.mem_range.mpr (by omega))
  rw [Int.toNat_of_nonneg hx.1] at h2
  rcases of_decide_eq_true h2 with z | z
  · omega
  · exact ⟨⟨z.1, z.2.1⟩, z.2.2⟩
def w_drawn (c sh sf cl : Nat) : Fn := ⟨"_law_drawn_calls", 3, ["draws", "at", "k", "size", "kind", "cell", "outlets", "begin", "number", "table", "found", "inlet", "lane", "stage", "line", "j"],
    (.cons (.asg (.nm 3) (.bin .shl (.int 1) (.var 2)))
      (.cons (.asg (.nm 4) (.bin .mod (.bin .div (.call c (.cons (.var 0) (.cons (.var 1) .nil))) (.int 3)) (.int 5)))
      (.cons (.asg (.nm 5) (.call c (.cons (.var 0) (.cons (.bin .add (.var 1) (.int 1)) .nil))))
      (.cons (.ite (.cmp .eq (.var 4) (.int 0)) (.cons (.ret (.call sh (.cons (.var 2) (.cons (.bin .add (.int 1) (.bin .mul (.int 2) (.bin .div (.var 5) (.int 5)))) (.cons (.var 5) .nil)))))
      .nil) .nil)
      (.cons (.ite (.cmp .eq (.var 4) (.int 1)) (.cons (.asg (.nm 6) (.comp (.nm 14) (.rng (.int 0) (.var 3) (.int 1)) (.cmp .eq (.bin .mod (.bin .div (.call c (.cons (.var 0) (.cons (.bin .add (.bin .add (.var 1) (.int 2)) (.var 14)) .nil))) (.int 3)) (.int 2)) (.int 0)) (.var 14)))
      (.cons (.asg (.nm 7) (.bin .mod (.var 5) (.bin .add (.bin .sub (.var 3) (.blt .len (.var 6))) (.int 1))))
      (.cons (.ret (.comp (.nm 15) (.rng (.int 0) (.blt .len (.var 6)) (.int 1)) (.bl true) (.tup (.cons (.bin .add (.var 7) (.var 15)) (.cons (.idx (.var 6) (.var 15)) .nil)))))
      .nil))) .nil)
      (.cons (.ite (.cmp .eq (.var 4) (.int 2)) (.cons (.asg (.nm 8) (.bin .mod (.var 5) (.bin .shl (.int 1) (.min2 (.int 20) (.bin .div (.bin .mul (.var 2) (.var 3)) (.int 2))))))
      (.cons (.asg (.nm 9) (.comp (.nm 13) (.rng (.int 0) (.var 2) (.int 1)) (.bl true) (.comp (.nm 15) (.rng (.int 0) (.bin .div (.var 3) (.int 2)) (.int 1)) (.bl true) (.cmp .eq (.bin .mod (.bin .shr (.var 8) (.bin .add (.bin .div (.bin .mul (.var 13) (.var 3)) (.int 2)) (.var 15))) (.int 2)) (.int 1)))))
      (.cons (.asg (.nm 10) (.lst .nil))
      (.cons (.for_ (.nm 11) (.rng (.int 0) (.var 3) (.int 1)) (.cons (.asg (.nm 12) (.var 11))
      (.cons (.for_ (.nm 13) (.var 9) (.cons (.asg (.nm 12) (.call sf (.cons (.var 2) (.cons (.var 12) .nil))))
      (.cons (.ite (.tru (.idx (.var 13) (.bin .div (.var 12) (.int 2)))) (.cons (.asg (.nm 12) (.bin .bxor (.var 12) (.int 1)))
      .nil) .nil)
      .nil)))
      (.cons (.app 10 .nil (.tup (.cons (.mv 11) (.cons (.mv 12) .nil))))
      .nil))))
      (.cons (.ret (.mv 10))
      .nil))))) .nil)
      (.cons (.ret (.call cl (.cons (.var 0) (.cons (.bin .add (.var 1) (.int 2)) (.cons (.var 3) (.cons (.bin .add (.int 1) (.bin .mod (.var 5) (.var 3))) .nil))))))
      .nil)))))))⟩
/-- rows of yes and no -/
def bRow (bs : List Bool) : PyData := .list (bs.map .bool)
theorem idx_B {bs : List Bool} {j : Int} (h0 : 0 ≤ j) (h : j < bs.length) : ∃ b, idxD (.list (bs.map .bool)) (.int j) = some (.bool b) := by
  have e : j = (j.toNat : Int) := by omega
  have q := idx_L (xs := bs.map PyData.bool) (i := j.toNat) (by rw [List.length_map]; omega)
  rw [List.getElem_map, ← e] at q
  exact ⟨_, q⟩
theorem walk_in {sf k : Nat} {N : Int} (hk : k ≤ 5) (h1 : 1 ≤ k) (hN : (2 : Int) ^ k = N) (hs : ∀ x : Int, Γ sf [.int k, .int x] = some (.fz, .int (shuf k x))) {L : List (List Bool)} (hL : L.length = k) (hr : ∀ r ∈ L, (r.length : Int) = N / 2)
    {s0 s1 s3 s4 s5 s6 s7 s8 s10 s11 s13 s14 s15 : Slot} {x : Int} (hx : 0 ≤ x ∧ x < N) (o : Own) (ho : o = .dp ∨ o = .fz) :
    ∃ y x13, exec Γ (.for_ (.nm 13) (.var 9) (.cons (.asg (.nm 12) (.call sf (.cons (.var 2) (.cons (.var 12) .nil))))
      (.cons (.ite (.tru (.idx (.var 13) (.bin .div (.var 12) (.int 2)))) (.cons (.asg (.nm 12) (.bin .bxor (.var 12) (.int 1)))
      .nil) .nil)
      .nil))) [s0, s1, some (.fz, .int k), s3, s4, s5, s6, s7, s8, some (o, .list (L.map bRow)), s10, s11, some (.fz, .int x), s13, s14, s15] = some (.nx [s0, s1, some (.fz, .int k), s3, s4, s5, s6, s7, s8, some (.fz, .list (L.map bRow)), s10, s11, some (.fz, .int y), x13, s14, s15]) ∧ 0 ≤ y ∧ y < N := by
  have np : plains (L.map bRow) = false := by
    cases L with
    | nil => simp at hL; omega
    | cons a r => rfl
  obtain ⟨al, hv, hf⟩ : ∃ al, ev Γ (.var 9) [s0, s1, some (.fz, .int k), s3, s4, s5, s6, s7, s8, some (o, .list (L.map bRow)), s10, s11, some (.fz, .int x), s13, s14, s15] = some ⟨.list (L.map bRow), .fz, al⟩ ∧
      freezeL [s0, s1, some (.fz, .int k), s3, s4, s5, s6, s7, s8, some (o, .list (L.map bRow)), s10, s11, some (.fz, .int x), s13, s14, s15] al = [s0, s1, some (.fz, .int k), s3, s4, s5, s6, s7, s8, some (.fz, .list (L.map bRow)), s10, s11, some (.fz, .int x), s13, s14, s15] := by
    rcases ho with rfl | rfl
    · exact ⟨[9], by simp, by simp⟩
    · exact ⟨[], by simp, by simp⟩
  obtain ⟨s', h, y, x13, e, q⟩ := forA_run (Γ := Γ) bRow (j := 13) (al := al) (ys := L) (it := .var 9) (body := (.cons (.asg (.nm 12) (.call sf (.cons (.var 2) (.cons (.var 12) .nil))))
      (.cons (.ite (.tru (.idx (.var 13) (.bin .div (.var 12) (.int 2)))) (.cons (.asg (.nm 12) (.bin .bxor (.var 12) (.int 1)))
      .nil) .nil)
      .nil))) hv np
    (fun i s => ∃ y x13, s = [s0, s1, some (.fz, .int k), s3, s4, s5, s6, s7, s8, some (.fz, .list (L.map bRow)), s10, s11, some (.fz, .int y), x13, s14, s15] ∧ 0 ≤ y ∧ y < N) (fun i hi s ⟨y, x13, e, q⟩ => by
      subst e
      have hm := hr _ (List.getElem_mem hi)
      generalize L[i] = row at hm
      have sb := shuf_bd (x := y) h1 hk (by rw [hN]; exact q)
      rw [hN] at sb
      have hN2 : N = 2 * (N / 2) := by
        rw [← hN]
        obtain ⟨j, rfl⟩ : ∃ j, k = j + 1 := ⟨k - 1, by omega⟩
        rw [Int.pow_succ]; omega
      obtain ⟨b, hb⟩ := idx_B (bs := row) (j := shuf k y / 2) (by omega) (by omega)
      have hx : binD .bxor ⟨.int (shuf k y), .fz, []⟩ ⟨.int 1, .fz, []⟩ = FI (.int (PySem.Builtin.bitXor (shuf k y) 1)) := rfl
      have hs' := hs y
      generalize shuf k y = z at sb hb hx hs'
      cases b with
      | false => exact ⟨_, .inl (by simp (disch := first | omega | (simp; done) | fail) [hs', bRow, hb]), z, some (.fz, bRow row), rfl, sb.1⟩
      | true => exact ⟨_, .inl (by simp (disch := first | omega | (simp; done) | fail) [hs', bRow, hb, hx]), PySem.Builtin.bitXor z 1, some (.fz, bRow row), rfl, sb.2⟩) ⟨x, s13, hf, hx⟩
  subst e
  exact ⟨y, x13, h, q⟩
theorem comp_rows {σ : S} {j : Nat} {it e : Ex} {o : Own} (ys : List Int) (g : Int → List Bool) (hit : ev Γ it σ = some ⟨LI ys, o, []⟩) (hl : ys.length ≤ 16777216)
    (he : ∀ y ∈ ys, ev Γ e (σ.set j (some (.fz, .int y))) = some ⟨bRow (g y), .dp, []⟩) : ev Γ (.comp (.nm j) it (.bl true) e) σ = some ⟨.list ((ys.map g).map bRow), .dp, []⟩ := by
  have := comp_gen (Γ := Γ) (σ := σ) (tg := .nm j) (it := it) (c := .bl true) (e := e) (d := LI ys) (o := o) (al := []) (fun y : Int => .int y) ys (fun y => σ.set j (some (.fz, .int y))) (fun _ => true) (fun y => ⟨bRow (g y), .dp, []⟩) hit rfl hl (fun y _ => rfl) (fun y _ => by simp) (fun y hy _ => he y hy)
  rw [List.filter_eq_self.mpr (by simp), listOf_ok (by
    rw [List.all_eq_true]
    intro x hx
    obtain ⟨y, _, rfl⟩ := List.mem_map.mp hx
    simp)] at this
  rw [this, List.map_map, List.map_map]; rfl
theorem comp_bools {σ : S} {j : Nat} {it e : Ex} {o : Own} (ys : List Int) (g : Int → Bool) (hit : ev Γ it σ = some ⟨LI ys, o, []⟩) (hl : ys.length ≤ 16777216)
    (he : ∀ y ∈ ys, ev Γ e (σ.set j (some (.fz, .int y))) = FI (.bool (g y))) : ev Γ (.comp (.nm j) it (.bl true) e) σ = some ⟨bRow (ys.map g), .dp, []⟩ := by
  have := comp_pl (Γ := Γ) (σ := σ) (tg := .nm j) (it := it) (c := .bl true) (e := e) (d := LI ys) (o := o) (al := []) (fun y : Int => .int y) ys (fun y => σ.set j (some (.fz, .int y))) (fun _ => true) (fun y => .bool (g y)) hit rfl hl (fun y _ => rfl) (fun y _ => by simp) (fun y hy _ => he y hy) (fun y _ _ => rfl)
  rw [List.filter_eq_self.mpr (by simp)] at this
  rw [this, bRow, List.map_map]; rfl
theorem drawn_ok {c sh sf cl k : Nat} {ds : List Int} {at' : Int} (hk : k ≤ 5) (h1 : 1 ≤ k) (hd : Small ds) (hdl : 0 < ds.length) (hc : Cells Γ c ds) (ha : 0 ≤ at') (ha2 : at' ≤ 800)
    (hsh : ∀ t b : Int, (0 ≤ t ∧ t < 1000000000) → (0 ≤ b ∧ b < 1000000000) → ∃ ps, Γ sh [.int k, .int t, .int b] = some (.dp, .list (ps.map prI)) ∧ InR k ps ∧ ps.length ≤ 32)
    (hsf : ∀ x : Int, Γ sf [.int k, .int x] = some (.fz, .int (shuf k x)))
    (hcl : ∀ a many : Int, 0 ≤ a → a ≤ 900 → 0 ≤ many → ∃ qs, Γ cl [LI ds, .int a, .int (2 ^ k), .int many] = some (.dp, .list (qs.map prI)) ∧ InR k qs ∧ qs.length ≤ 32) :
    ∃ qs, runF Γ (w_drawn c sh sf cl) [LI ds, .int at', .int k] = some (.dp, .list (qs.map prI)) ∧ InR k qs ∧ qs.length ≤ 32 := by
  have pk := pow_le hk
  have sh := b_shl (i := 1) (j := (k : Int)) (by omega) (by omega) (by decide) .fz .fz [] []
  rw [Int.toNat_natCast, Int.one_mul] at sh
  have e0 := hc at' ha (by omega)
  have e1 := hc (at' + 1) (by omega) (by omega)
  have b1 := cell_bd hd hdl (j := at' + 1) (by omega)
  generalize hkd : cellV ds at' / 3 % 5 = kd
  generalize cellV ds (at' + 1) = c1 at e1 b1
  generalize hN : (2 : Int) ^ k = N at *
  by_cases z0 : kd = 0
  · subst z0
    obtain ⟨ps, g1, g2⟩ := hsh (1 + 2 * (c1 / 5)) c1 (by omega) (by omega)
    refine ⟨ps, runF_of rfl rfl ?_, g2⟩
    simp (disch := first | omega | (simp; done) | fail) [w_drawn, sh, e0, e1, hkd, g1]
  by_cases z1 : kd = 1
  · subst z1
    have eo := comp_ints (Γ := Γ) (σ := [some (.fz, LI ds), some (.fz, .int at'), some (.fz, .int k), some (.fz, .int N), some (.fz, .int 1), some (.fz, .int c1), none, none, none, none, none, none, none, none, none, none]) (j := 14) (it := .rng (.int 0) (.var 3) (.int 1)) (c := .cmp .eq (.bin .mod (.bin .div (.call c (.cons (.var 0) (.cons (.bin .add (.bin .add (.var 1) (.int 2)) (.var 14)) .nil))) (.int 3)) (.int 2)) (.int 0)) (e := .var 14) (o := .dp)
      (upto N) (fun l => decide (cellV ds (at' + 2 + l) / 3 % 2 = 0)) id (by simp (disch := omega)) (by rw [upto_len]; omega) (fun y hy => by
        have := mem_upto.mp hy
        have e1 := hc (at' + 2 + y) (by omega) (by omega)
        simp (disch := omega) [e1]) (fun y _ _ => by simp)
    rw [List.map_id] at eo
    have om : ∀ x ∈ (upto N).filter (fun l => decide (cellV ds (at' + 2 + l) / 3 % 2 = 0)), 0 ≤ x ∧ x < N := fun x hx => mem_upto.mp (List.mem_filter.mp hx).1
    have ol : (((upto N).filter (fun l => decide (cellV ds (at' + 2 + l) / 3 % 2 = 0))).length : Int) ≤ N := by
      have := List.length_filter_le (fun l => decide (cellV ds (at' + 2 + l) / 3 % 2 = 0)) (upto N)
      rw [upto_len] at this
      omega
    generalize (upto N).filter (fun l => decide (cellV ds (at' + 2 + l) / 3 % 2 = 0)) = O at eo om ol
    have mb := emod_bd c1 (b := N - O.length + 1) (by omega)
    generalize eb : c1 % (N - O.length + 1) = b at mb
    have ec := comp_prs (Γ := Γ) (σ := [some (.fz, LI ds), some (.fz, .int at'), some (.fz, .int k), some (.fz, .int N), some (.fz, .int 1), some (.fz, .int c1), some (.dp, LI O), some (.fz, .int b), none, none, none, none, none, none, none, none]) (j := 15) (it := .rng (.int 0) (.blt .len (.var 6)) (.int 1)) (e := .tup (.cons (.bin .add (.var 7) (.var 15)) (.cons (.idx (.var 6) (.var 15)) .nil))) (o := .dp) (upto O.length) (fun j => (b + j, itI O j)) (by simp (disch := omega)) (by rw [upto_len]; omega) (fun y hy => by
      have := mem_upto.mp hy
      simp (disch := first | omega | (simp; done) | fail) [tup_pr])
    refine ⟨risP b O, runF_of rfl rfl ?_, ris_in mb.1 (by rw [hN]; omega) (fun x hx => by rw [hN]; exact om x hx), by rw [ris_len]; omega⟩
    have hr : (upto O.length).map (fun j => (b + j, itI O j)) = risP b O := rfl
    rw [hr] at ec
    simp (disch := first | omega | (simp; done) | fail) [w_drawn, sh, e0, e1, hkd, eo, eb, ec]
  by_cases z2 : kd = 2
  · subst z2
    have bk : 0 ≤ (k : Int) * N / 2 := Int.ediv_nonneg (Int.mul_nonneg (by omega) (by omega)) (by omega)
    have sh2 := b_shl (i := 1) (j := min 20 ((k : Int) * N / 2)) (by omega) (by omega) (by decide) .fz .fz [] []
    rw [Int.one_mul] at sh2
    have mp : (0 : Int) < 2 ^ (min 20 ((k : Int) * N / 2)).toNat := Int.pow_pos (by omega)
    generalize hM : (2 : Int) ^ (min 20 ((k : Int) * N / 2)).toNat = M at sh2 mp
    have mn := emod_bd c1 mp
    generalize hnb : c1 % M = nb at mn
    have et := comp_rows (Γ := Γ) (σ := [some (.fz, LI ds), some (.fz, .int at'), some (.fz, .int k), some (.fz, .int N), some (.fz, .int 2), some (.fz, .int c1), none, none, some (.fz, .int nb), none, none, none, none, none, none, none]) (j := 13) (it := .rng (.int 0) (.var 2) (.int 1)) (o := .dp) (e := .comp (.nm 15) (.rng (.int 0) (.bin .div (.var 3) (.int 2)) (.int 1)) (.bl true) (.cmp .eq (.bin .mod (.bin .shr (.var 8) (.bin .add (.bin .div (.bin .mul (.var 13) (.var 3)) (.int 2)) (.var 15))) (.int 2)) (.int 1)))
      (upto k) (fun y => (upto (N / 2)).map (fun j => decide (nb / 2 ^ (y * N / 2 + j).toNat % 2 = 1))) (by simp (disch := omega)) (by rw [upto_len]; omega) (fun y hy => by
        have hy' := mem_upto.mp hy
        have bn : 0 ≤ y * N / 2 := Int.ediv_nonneg (Int.mul_nonneg (by omega) (by omega)) (by omega)
        refine comp_bools (upto (N / 2)) (fun j => decide (nb / 2 ^ (y * N / 2 + j).toNat % 2 = 1)) (o := .dp) (by simp (disch := omega)) (by rw [upto_len]; omega) (fun j hj => ?_)
        have hj' := mem_upto.mp hj
        have es := b_shr (i := nb) (j := y * N / 2 + j) (by omega) .fz .fz [] []
        simp (disch := first | omega | (simp; done) | fail) [es])
    have hL : ((upto k).map (fun y => (upto (N / 2)).map (fun j => decide (nb / 2 ^ (y * N / 2 + j).toNat % 2 = 1)))).length = k := by simp
    have hr : ∀ r ∈ (upto k).map (fun y => (upto (N / 2)).map (fun j => decide (nb / 2 ^ (y * N / 2 + j).toNat % 2 = 1))), (r.length : Int) = N / 2 := fun r hr => by
      obtain ⟨y, _, rfl⟩ := List.mem_map.mp hr
      rw [List.length_map, upto_len]; omega
    generalize (upto k).map (fun y => (upto (N / 2)).map (fun j => decide (nb / 2 ^ (y * N / 2 + j).toNat % 2 = 1))) = L at et hL hr
    obtain ⟨s', hf, ps, o, x11, x12, x13, e, q1, q2, q3⟩ := forI_run (Γ := Γ) (σ := [some (.fz, LI ds), some (.fz, .int at'), some (.fz, .int k), some (.fz, .int N), some (.fz, .int 2), some (.fz, .int c1), none, none, some (.fz, .int nb), some (.dp, .list (L.map bRow)), some (.dp, .list []), none, none, none, none, none]) (j := 11) (o := .dp) (ys := upto N) (it := .rng (.int 0) (.var 3) (.int 1)) (body := (.cons (.asg (.nm 12) (.var 11))
      (.cons (.for_ (.nm 13) (.var 9) (.cons (.asg (.nm 12) (.call sf (.cons (.var 2) (.cons (.var 12) .nil))))
      (.cons (.ite (.tru (.idx (.var 13) (.bin .div (.var 12) (.int 2)))) (.cons (.asg (.nm 12) (.bin .bxor (.var 12) (.int 1)))
      .nil) .nil)
      .nil)))
      (.cons (.app 10 .nil (.tup (.cons (.mv 11) (.cons (.mv 12) .nil))))
      .nil)))) (by simp (disch := omega))
      (fun i s => ∃ (ps : List (Int × Int)) (o : Own) (x11 x12 x13 : Slot), s = [some (.fz, LI ds), some (.fz, .int at'), some (.fz, .int k), some (.fz, .int N), some (.fz, .int 2), some (.fz, .int c1), none, none, some (.fz, .int nb), some (o, .list (L.map bRow)), some (.dp, .list (ps.map prI)), x11, x12, x13, none, none] ∧ (o = .dp ∨ o = .fz) ∧ InR k ps ∧ ps.length = i) (fun i hi s ⟨ps, o, x11, x12, x13, e, q1, q2, q3⟩ => by
        subst e
        have hi' : i < N.toNat := by simpa using hi
        rw [upto_get hi]
        obtain ⟨y, y13, w1, w2⟩ := walk_in (Γ := Γ) (sf := sf) (s0 := some (.fz, LI ds)) (s1 := some (.fz, .int at')) (s3 := some (.fz, .int N)) (s4 := some (.fz, .int 2)) (s5 := some (.fz, .int c1)) (s6 := none) (s7 := none) (s8 := some (.fz, .int nb)) (s10 := some (.dp, .list (ps.map prI))) (s11 := some (.fz, .int i)) (s13 := x13) (s14 := none) (s15 := none) (x := i) hk h1 hN hsf hL hr (by omega) o q1
        have ap := app_l (prI ((i : Int), y)) (ps.map prI) (by rw [List.length_map]; omega)
        have ap' : appD (.tuple [.int (i : Int), .int y]) (.list (ps.map prI)) = _ := ap
        refine ⟨_, .inl ?_, ps ++ [((i : Int), y)], .fz, some (.fz, .int i), some (.fz, .int y), y13, rfl, .inr rfl, inR_app q2 (inR_one ⟨⟨by dsimp only; omega, by dsimp only; omega⟩, by dsimp only; omega⟩), by rw [List.length_append, List.length_singleton, q3]⟩
        have tpl : plain (.tuple [.int (i : Int), .int y]) = true := rfl
        simp (disch := first | omega | (simp; done) | fail) [w1, tupOf_ii, ap', tpl, prI]) ⟨[], .dp, none, none, none, rfl, .inl rfl, fun p hp => (by cases hp), rfl⟩
    subst e
    refine ⟨ps, runF_of rfl rfl ?_, q2, by rw [q3, upto_len]; omega⟩
    simp (disch := first | omega | (simp; done) | fail) [w_drawn, sh, e0, e1, hkd, sh2, hnb, et, hf]
  · have m1 := emod_bd c1 (b := N) (by omega)
    obtain ⟨qs, g1, g2⟩ := hcl (at' + 2) (1 + c1 % N) (by omega) (by omega) (by omega)
    refine ⟨qs, runF_of rfl rfl ?_, g2⟩
    simp (disch := first | omega | (simp; done) | fail) [w_drawn, sh, e0, e1, hkd, z0, z1, z2, g1]
end
end Sp
end

section
set_option Elab.async false
set_option linter.all false
set_option maxRecDepth 100000
set_option maxHeartbeats 4000000
/-! Omega nets: ways that meet; slices with a step; sets. -/
namespace Sp
open Sw
open PySem (PyData Str)
theorem lane_end {k : Nat} {i o : Int} : lane k i o k = o := by
  unfold lane
  rw [Nat.sub_self]
  simp [Int.emod_one]
theorem lane_eq {k t : Nat} {i o i' o' : Int} (ht : t ≤ k) (ho : 0 ≤ o ∧ o < 2 ^ k) (ho' : 0 ≤ o' ∧ o' < 2 ^ k) : lane k i o t = lane k i' o' t ↔ i % 2 ^ (k - t) = i' % 2 ^ (k - t) ∧ o / 2 ^ (k - t) = o' / 2 ^ (k - t) := by
  unfold lane
  have hp : (0 : Int) < 2 ^ (k - t) := Int.pow_pos (by omega)
  have hq : (0 : Int) < 2 ^ t := Int.pow_pos (by omega)
  have hk : (2 : Int) ^ k = 2 ^ t * 2 ^ (k - t) := by rw [← Int.pow_add]; congr 1; omega
  rw [hk] at ho ho'
  generalize (2 : Int) ^ (k - t) = L at hp ho ho' ⊢
  generalize (2 : Int) ^ t = M at hq ho ho' ⊢
  have q1 : 0 ≤ o / L := Int.ediv_nonneg ho.1 (by omega)
  have q2 : o / L < M := Int.ediv_lt_of_lt_mul hp ho.2
  have q3 : 0 ≤ o' / L := Int.ediv_nonneg ho'.1 (by omega)
  have q4 : o' / L < M := Int.ediv_lt_of_lt_mul hp ho'.2
  constructor
  · intro e
    have e1 : (i % L * M + o / L) % M = o / L := by
      rw [Int.add_comm, Int.add_mul_emod_self_right, Int.emod_eq_of_lt q1 q2]
    have e2 : (i' % L * M + o' / L) % M = o' / L := by
      rw [Int.add_comm, Int.add_mul_emod_self_right, Int.emod_eq_of_lt q3 q4]
    have e3 : o / L = o' / L := by rw [← e1, ← e2, e]
    have e4 : i % L * M = i' % L * M := by omega
    exact ⟨Int.eq_of_mul_eq_mul_right (by omega) e4, e3⟩
  · rintro ⟨e1, e2⟩
    rw [e1, e2]
theorem pow_split {k a b : Nat} (h : a ≤ b) (h2 : b ≤ k) : (2 : Int) ^ (k - a) = 2 ^ (b - a) * 2 ^ (k - b) := by
  rw [← Int.pow_add]; congr 1; omega
theorem lane_conv {k a b c : Nat} {i o i' o' : Int} (h1 : a ≤ b) (h2 : b ≤ c) (h3 : c ≤ k) (ho : 0 ≤ o ∧ o < 2 ^ k) (ho' : 0 ≤ o' ∧ o' < 2 ^ k) (ea : lane k i o a = lane k i' o' a) (ec : lane k i o c = lane k i' o' c) : lane k i o b = lane k i' o' b := by
  rw [lane_eq (by omega) ho ho'] at ea ec ⊢
  constructor
  · have e := pow_split h1 (by omega : b ≤ k)
    have d : (2 : Int) ^ (k - b) ∣ 2 ^ (k - a) := ⟨2 ^ (b - a), by rw [e, Int.mul_comm]⟩
    rw [← Int.emod_emod_of_dvd i d, ← Int.emod_emod_of_dvd i' d, ea.1]
  · have e := pow_split h2 h3
    have p1 : (0 : Int) < 2 ^ (k - c) := Int.pow_pos (by omega)
    have dv : ∀ x b : Int, x / (2 ^ (k - c) * b) = x / 2 ^ (k - c) / b := fun x b => by rw [Int.ediv_mul, if_neg (fun z => by omega), Int.add_zero]
    rw [e, Int.mul_comm, dv, dv, ec.2]
/-- what is between two places of a set is of it: then it is a run of places -/
theorem run_of {p : Nat → Bool} : ∀ (n : Nat), (∀ a b c, a < b → b < c → c < n → p a = true → p c = true → p b = true) →
    ((List.range n).filter p = []) ∨ ∃ a b, a < b ∧ b ≤ n ∧ (List.range n).filter p = (List.range (b - a)).map (a + ·) ∧ (b < n → p b = false) ∧ p a = true
  | 0, _ => .inl rfl
  | n + 1, h => by
    have ih := run_of n (fun a b c h1 h2 h3 => h a b c h1 h2 (by omega))
    rw [List.range_succ, List.filter_append]
    cases q : p n with
    | false =>
      have e : [n].filter p = [] := by simp [q]
      rw [e, List.append_nil]
      rcases ih with ih | ⟨a, b, h1, h2, h3, h4, h5⟩
      · exact .inl ih
      · refine .inr ⟨a, b, h1, by omega, h3, fun z => ?_, h5⟩
        by_cases w : b = n
        · rw [w]; exact q
        · exact h4 (by omega)
    | true =>
      have e : [n].filter p = [n] := by simp [q]
      rw [e]
      rcases ih with ih | ⟨a, b, h1, h2, h3, h4, h5⟩
      · rw [ih]
        exact .inr ⟨n, n + 1, by omega, by omega, by simp, by omega, q⟩
      · have w : b = n := by
          apply Decidable.byContradiction
          intro w
          have := h a b n h1 (by omega) (by omega) h5 q
          rw [h4 (by omega)] at this; cases this
        subst w
        refine .inr ⟨a, b + 1, by omega, by omega, ?_, by omega, h5⟩
        rw [h3, show b + 1 - a = b - a + 1 by omega, List.range_succ, List.map_append]
        simp; omega
theorem upto_filter (n : Nat) (p : Int → Bool) : (upto n).filter p = ((List.range n).filter (fun (t : Nat) => p (t : Int))).map (fun (i : Nat) => (i : Int)) := by
  unfold upto
  rw [List.filter_map]
  rfl
section
variable {Γ : Cal} {σ : S}
theorem way_bd {k : Nat} {i o : Int} (hk : k ≤ 5) (hi : 0 ≤ i ∧ i < 2 ^ k) (ho : 0 ≤ o ∧ o < 2 ^ k) : ∀ x ∈ wayO k i o, 0 ≤ x ∧ x < 2 ^ k := fun x hx => by
  obtain ⟨t, ht, rfl⟩ := List.mem_map.mp hx
  rw [List.mem_range] at ht
  exact lane_bd hk hi ho (by omega)
theorem way_rep {k : Nat} {i o : Int} (hk : k ≤ 5) (hi : 0 ≤ i ∧ i < 2 ^ k) (ho : 0 ≤ o ∧ o < 2 ^ k) : Bd 2 (LI (wayO k i o)) :=
  bd_mono (bd_LIs (fun x hx => by
    have := way_bd hk hi ho x hx
    have := pow_le hk
    have : (50 : Nat) < 10 ^ 40 := by decide
    omega) (by rw [wayO_len]; omega))
theorem idx_last {xs : List Int} (h : 0 < xs.length) : idxD (LI xs) (.int (-1)) = some (.int (itI xs (xs.length - 1))) := by
  have e : ix (xs.map PyData.int).length (-1) = some (xs.length - 1) := by
    unfold ix
    rw [List.length_map, if_neg (by omega), if_pos (by omega)]
    congr 1
    omega
  show (ix (xs.map PyData.int).length (-1)).bind _ = _
  rw [e]
  show (xs.map PyData.int)[xs.length - 1]? = _
  rw [List.getElem?_map, List.getElem?_eq_getElem (by omega)]
  have : itI xs ((xs.length : Int) - 1) = xs[xs.length - 1] := by
    have e2 : (xs.length : Int) - 1 = ((xs.length - 1 : Nat) : Int) := by omega
    rw [e2, itI_at (by omega)]
  rw [this]; rfl
def w_told44 (lw wy : Nat) : Fn := ⟨"_law_told", 3, ["k", "inlet", "outlet", "due", "told"],
    (.cons (.asg (.nm 3) (.call lw (.cons (.var 0) (.cons (.var 1) (.cons (.var 2) .nil)))))
      (.cons (.asg (.nm 4) (.call wy (.cons (.var 0) (.cons (.var 1) (.cons (.var 2) .nil)))))
      (.cons (.ite (.or (.cmp .ne (.blt .repr (.var 4)) (.blt .repr (.var 3))) (.or (.cmp .ne (.idx (.var 3) (.neg (.int 1))) (.var 2)) (.cmp .ne (.blt .len (.var 3)) (.var 0)))) (.cons (.ret (.bl false))
      .nil) .nil)
      (.cons (.app 4 .nil (.int 0))
      (.cons (.ret (.cmp .eq (.call wy (.cons (.var 0) (.cons (.var 1) (.cons (.var 2) .nil)))) (.var 3)))
      .nil)))))⟩
theorem told44_ok {lw wy k : Nat} {i o : Int} (h1 : 1 ≤ k) (hk : k ≤ 5) (hi : 0 ≤ i ∧ i < 2 ^ k) (ho : 0 ≤ o ∧ o < 2 ^ k) (e1 : Γ lw [.int k, .int i, .int o] = some (.dp, LI (wayO k i o))) (e2 : Γ wy [.int k, .int i, .int o] = some (.dp, LI (wayO k i o))) :
    runF Γ (w_told44 lw wy) [.int k, .int i, .int o] = some (.fz, .bool true) := by
  have b := way_rep hk hi ho
  have hl := wayO_len k i o
  have il := idx_last (xs := wayO k i o) (by omega)
  have hz : itI (wayO k i o) ((wayO k i o).length - 1) = o := by
    have e : ((wayO k i o).length : Int) - 1 = ((k - 1 : Nat) : Int) := by omega
    rw [e, wayO_it (by omega), show k - 1 + 1 = k by omega, lane_end]
  rw [hz] at il
  have ap := app_LI 0 (wayO k i o) (by omega)
  generalize wayO k i o = w at *
  have r1 := blt_repr b .fz [4]
  have r2 := blt_repr b .fz [3]
  have c := c_shown b
  refine runF_of rfl rfl ?_
  simp (disch := omega) [w_told44, e1, e2, r1, r2, c, il, hl, ap]
def w_once44 (wy : Nat) : Fn := ⟨"_law_once", 3, ["k", "one", "other", "ways", "common", "stage"],
    (.cons (.asg (.nm 3) (.lst (.cons (.call wy (.cons (.var 0) (.cons (.idx (.var 1) (.int 0)) (.cons (.idx (.var 1) (.int 1)) .nil)))) (.cons (.call wy (.cons (.var 0) (.cons (.idx (.var 2) (.int 0)) (.cons (.idx (.var 2) (.int 1)) .nil)))) .nil))))
      (.cons (.asg (.nm 4) (.comp (.nm 5) (.rng (.int 0) (.var 0) (.int 1)) (.cmp .eq (.idx (.idx (.var 3) (.int 0)) (.var 5)) (.idx (.idx (.var 3) (.int 1)) (.var 5))) (.var 5)))
      (.cons (.ret (.or (.cmp .eq (.var 4) (.lst .nil)) (.cmp .eq (.var 4) (.blt .list (.rng (.idx (.var 4) (.int 0)) (.bin .add (.idx (.var 4) (.neg (.int 1))) (.int 1)) (.int 1))))))
      .nil)))⟩
theorem once44_ok {wy k : Nat} {p q : Int × Int} (h1 : 1 ≤ k) (hk : k ≤ 5) (ho : 0 ≤ p.2 ∧ p.2 < 2 ^ k) (ho' : 0 ≤ q.2 ∧ q.2 < 2 ^ k) (e1 : Γ wy [.int k, .int p.1, .int p.2] = some (.dp, LI (wayO k p.1 p.2))) (e2 : Γ wy [.int k, .int q.1, .int q.2] = some (.dp, LI (wayO k q.1 q.2))) :
    runF Γ (w_once44 wy) [.int k, prI p, prI q] = some (.fz, .bool true) := by
  have ll : listOf [⟨LI (wayO k p.1 p.2), .dp, []⟩, ⟨LI (wayO k q.1 q.2), .dp, []⟩] [] = ⟨.list [LI (wayO k p.1 p.2), LI (wayO k q.1 q.2)], .dp, []⟩ := listOf_ok rfl
  have conv := run_of (p := fun t => decide (itI (wayO k p.1 p.2) (t : Int) = itI (wayO k q.1 q.2) (t : Int))) k (fun a b c h1 h2 h3 ha hc => by
    rw [decide_eq_true_eq] at ha hc ⊢
    rw [wayO_it (by omega), wayO_it (by omega)] at ha hc ⊢
    exact lane_conv (a := a + 1) (c := c + 1) (by omega) (by omega) (by omega) ho ho' ha hc)
  have l1 := wayO_len k p.1 p.2
  have l2 := wayO_len k q.1 q.2
  have uf := upto_filter k (fun t => decide (itI (wayO k p.1 p.2) t = itI (wayO k q.1 q.2) t))
  generalize wayO k p.1 p.2 = u at *
  generalize wayO k q.1 q.2 = v at *
  have ec := comp_ints (Γ := Γ) (σ := [some (.fz, .int k), some (.fz, prI p), some (.fz, prI q), some (.dp, .list [LI u, LI v]), none, none]) (j := 5) (it := .rng (.int 0) (.var 0) (.int 1)) (c := .cmp .eq (.idx (.idx (.var 3) (.int 0)) (.var 5)) (.idx (.idx (.var 3) (.int 1)) (.var 5))) (e := .var 5) (o := .dp)
    (upto k) (fun t => decide (itI u t = itI v t)) (fun t => t) (by simp (disch := omega)) (by simp; omega) (fun y hy => by
      have := mem_upto.mp hy
      have z0 : idxD (.list [LI u, LI v]) (.int 0) = some (LI u) := rfl
      have z1 : idxD (.list [LI u, LI v]) (.int 1) = some (LI v) := rfl
      simp (disch := omega) [z0, z1]) (fun y _ _ => by simp)
  rw [uf] at ec
  rcases conv with c | ⟨a, b, h3, h4, c, _, _⟩
  · rw [c] at ec
    refine runF_of rfl rfl ?_
    simp (disch := first | omega | (simp; done) | fail) [w_once44, e1, e2, ll, ec]
  · rw [c] at ec
    have es : ((List.range (b - a)).map (a + ·)).map (fun (i : Nat) => (i : Int)) = seg a b := by
      rw [seg_range, List.map_map]
      apply List.map_congr_left
      intro x _
      simp
    simp only [List.map_id'] at ec
    rw [es] at ec
    have hs : (seg a b).length = b - a := by rw [seg_range]; simp
    have i0 : idxD (LI (seg a b)) (.int 0) = some (.int a) := by
      have := idx_L (xs := (seg a b).map PyData.int) (i := 0) (by rw [List.length_map]; omega)
      rw [show ((0 : Nat) : Int) = 0 from rfl] at this
      rw [this, List.getElem_map, seg_get (by omega)]
      simp
    have i1 : idxD (LI (seg a b)) (.int (-1)) = some (.int (b - 1)) := by
      rw [idx_last (by omega)]
      have e : ((seg a b).length : Int) - 1 = ((b - a - 1 : Nat) : Int) := by omega
      rw [e, itI_at (by omega), seg_get (by omega), show ((a + (b - a - 1) : Nat) : Int) = b - 1 by omega]
    have ne : seg a b ≠ [] := fun z => by rw [z] at hs; simp at hs; omega
    have rg := rng_seg (l := a) (h := b) (by omega) (by omega)
    have bb : (b : Int) - 1 + 1 = b := by omega
    refine runF_of rfl rfl ?_
    generalize seg a b = sg at *
    simp (disch := first | omega | (simp; done) | fail) [w_once44, e1, e2, ll, ec, i0, i1, ne, rg, bb]
/-! ### loops over pairs that a slot keeps -/
theorem forT_lock {i1 i2 a : Nat} {it : Ex} {body : Stms} {o : Own} {ps : List (Int × Int)} (hit : ev Γ it σ = some ⟨.list (ps.map prI), o, [a]⟩) (ha : σ[a]? = some (some (.dp, .list (ps.map prI)))) (P : Nat → S → Prop)
    (hs : ∀ (i : Nat) (h : i < ps.length) (s : S), P i s → ∃ s', (execs Γ body ((s.set i1 (some (.fz, .int ps[i].1))).set i2 (some (.fz, .int ps[i].2))) = some (.nx s') ∨ execs Γ body ((s.set i1 (some (.fz, .int ps[i].1))).set i2 (some (.fz, .int ps[i].2))) = some (.ct s')) ∧ P (i + 1) s')
    (h0 : P 0 (σ.set a (some (.ldp, .list (ps.map prI))))) : ∃ s', exec Γ (.for_ (.tp [i1, i2]) it body) σ = some (.nx (unlockAt s' a)) ∧ P ps.length s' := by
  have hf : ([a].filter fun i => isOpen σ[i]?) = [a] := by simp [ha, isOpen]
  have hl : [a].foldl lockAt σ = σ.set a (some (.ldp, .list (ps.map prI))) := by
    show lockAt σ a = _
    unfold lockAt
    rw [ha]; rfl
  obtain ⟨s', h, p⟩ := forL_inv (step := stepF Γ (.tp [i1, i2]) body) (xs := ps.map prI) P (fun i hi s p => by
    have hi' : i < ps.length := by simpa using hi
    obtain ⟨s', h, p'⟩ := hs i hi' s p
    refine ⟨s', ?_, p'⟩
    rw [List.getElem_map]
    exact h) _ h0
  refine ⟨s', ?_, by simpa using p⟩
  rw [for_lk hit rfl (plains_pr ps), hf, hl, h]
  rfl
/-! ### sets of tuples -/
theorem dd_len {α : Type} [DecidableEq α] : ∀ {xs : List α}, xs.Nodup → (dd xs).length = xs.length
  | [], _ => rfl
  | x :: xs, h => by
    obtain ⟨h1, h2⟩ := List.nodup_cons.mp h
    rw [dd, if_neg h1, List.length_cons, List.length_cons, dd_len h2]
theorem intss_map (ts : List (List Int)) : intss? (ts.map fun t => .tuple (t.map .int)) = some ts := by
  induction ts with
  | nil => rfl
  | cons x xs ih => rw [List.map_cons, intss?, ints_map, ih]; rfl
theorem setSize_tups {ts : List (List Int)} (h : ts.length < 64) : setSize (ts.map fun t => .tuple (t.map .int)) = some (dd ts).length := by
  cases ts with
  | nil => rfl
  | cons t ts =>
    have e : ints? ((t :: ts).map fun t => PyData.tuple (t.map .int)) = none := rfl
    unfold setSize
    rw [e, intss_map]
    show (if _ then _ else _) = _
    rw [if_pos h]
theorem setSize_ints {ns : List Int} (h : ns.length ≤ 4000) : setSize (ns.map .int) = some (dd ns).length := by
  unfold setSize
  rw [ints_map]
  show (if _ then _ else _) = _
  rw [if_pos h]
theorem blt_lenset {xs : List PyData} {n : Nat} (h : setSize xs = some n) (o : Own) (al : List Nat) : bltR .lenset ⟨.list xs, o, al⟩ = FI (.int n) := by
  show (setSize xs).map _ = _
  rw [h]; rfl
theorem sortSet_ints {ns : List Int} (h : ns.length ≤ 4000) (h2 : (srtS ns).length < 64) : sortSet (ns.map .int) = some (srtS ns) := by
  unfold sortSet
  rw [ints_map]
  show (if _ then _ else _) = _
  rw [if_pos ⟨h, h2⟩]
theorem blt_sortset {ns : List Int} (h : ns.length ≤ 4000) (h2 : (srtS ns).length < 64) (o : Own) (al : List Nat) : bltR .sortedset ⟨LI ns, o, al⟩ = some ⟨LI (srtS ns), .dp, []⟩ := by
  show (sortSet _).map _ = _
  rw [sortSet_ints h h2]; rfl
theorem stp_LI {xs : List Int} {l k : Int} (h : 0 ≤ l ∧ l < 1000000) (h2 : 0 < k ∧ k < 1000000) (o : Own) (al : List Nat) : stpR ⟨LI xs, o, al⟩ (.int l) (.int k) = some ⟨LI (everyA k.toNat 0 (xs.drop l.toNat)), .dp, []⟩ := by
  show (if _ then _ else _) = _
  rw [if_pos ⟨h.1, by omega, h2.1, by omega⟩]
  have e : ∀ (st k : Nat) (ys : List Int), everyA st k (ys.map PyData.int) = (everyA st k ys).map .int := by
    intro st k ys
    induction ys generalizing k with
    | nil => cases k <;> rfl
    | cons y ys ih => cases k <;> simp [everyA, ih]
  rw [← List.map_drop, e, newL_int]
end
end Sp
end

section
set_option Elab.async false
set_option linter.all false
set_option maxRecDepth 100000
set_option maxHeartbeats 4000000
/-! Exchanges and plans: triples, wishes, what the law holds for a plan. -/
namespace Sp
open Sw
open PySem (PyData Str)
abbrev Tri := Int × Int × Int
def trI (c : Tri) : PyData := .tuple [.int c.1, .int c.2.1, .int c.2.2]
theorem plain_tr (c : Tri) : Sw.plain (trI c) = true := rfl
theorem plains_tr (l : List Tri) : plains (l.map trI) = true := plains_all (fun x hx => by
  obtain ⟨p, _, rfl⟩ := List.mem_map.mp hx
  rfl)
@[simp] theorem mk_tr (c : Tri) (o : Own) (al : List Nat) : mk (trI c) o al = ⟨trI c, .fz, []⟩ := mk_tp rfl o al
@[simp] theorem idx_tr0 (c : Tri) : idxD (trI c) (.int 0) = some (.int c.1) := rfl
@[simp] theorem idx_tr1 (c : Tri) : idxD (trI c) (.int 1) = some (.int c.2.1) := rfl
@[simp] theorem idx_tr2 (c : Tri) : idxD (trI c) (.int 2) = some (.int c.2.2) := rfl
theorem tup_tr (i j k : Int) (o p q : Own) (al bl cl : List Nat) : tupOf [⟨.int i, o, al⟩, ⟨.int j, p, bl⟩, ⟨.int k, q, cl⟩] = ⟨trI (i, j, k), .fz, []⟩ := by
  unfold tupOf
  exact mk_tp rfl _ _
def itT (cs : List Tri) (j : Int) : Tri := cs.getD j.toNat (0, 0, 0)
theorem itT_at {cs : List Tri} {j : Nat} (h : j < cs.length) : itT cs j = cs[j] := by
  unfold itT
  rw [List.getD_eq_getElem?_getD, Int.toNat_natCast, List.getElem?_eq_getElem h]; rfl
theorem itT_mem {cs : List Tri} {j : Int} (h0 : 0 ≤ j) (h : j < cs.length) : itT cs j ∈ cs := by
  have e : j = (j.toNat : Int) := by omega
  rw [e, itT_at (by omega)]
  exact List.getElem_mem _
@[simp] theorem idx_Tr {cs : List Tri} {j : Int} (h0 : 0 ≤ j) (h : j < cs.length) : idxD (.list (cs.map trI)) (.int j) = some (trI (itT cs j)) := by
  have e : j = (j.toNat : Int) := by omega
  rw [e, idx_L (by rw [List.length_map]; omega), List.getElem_map, itT_at (by omega)]
theorem newL_tr (cs : List Tri) (al : List Nat) : newL (cs.map trI) al = ⟨.list (cs.map trI), .dp, []⟩ := newL_p (plains_tr cs)
theorem canAll_tr (ps : List Tri) : PyData.canLayAll0 (ps.map trI) = true := by
  induction ps with
  | nil => rfl
  | cons x xs ih =>
    rw [List.map_cons, PyData.canLayAll0, ih]; rfl
theorem depthAll_tr (ps : List Tri) : PyData.depthAll (ps.map trI) ≤ 2 := by
  induction ps with
  | nil => exact Nat.zero_le _
  | cons x xs ih =>
    rw [List.map_cons, PyData.depthAll]
    have : (trI x).depth ≤ 2 := by
      show (PyData.tuple [.int x.1, .int x.2.1, .int x.2.2]).depth ≤ 2
      simp [PyData.depth, PyData.depthAll]
    omega
theorem shp_trs (ps : List Tri) : shp (.list (ps.map trI)) = true := by
  have := depthAll_tr ps
  rw [shp_iff, PyData.canLay0, canAll_tr, PyData.depth]
  simp; omega
/-! ### the order of triples -/
def lt3 (a b : Tri) : Bool := if a.1 = b.1 then (if a.2.1 = b.2.1 then decide (a.2.2 < b.2.2) else decide (a.2.1 < b.2.1)) else decide (a.1 < b.1)
theorem lt3_iff {a b : Tri} : lt3 a b = true ↔ a.1 < b.1 ∨ (a.1 = b.1 ∧ (a.2.1 < b.2.1 ∨ (a.2.1 = b.2.1 ∧ a.2.2 < b.2.2))) := by
  unfold lt3
  split
  · split
    · rw [decide_eq_true_eq]; omega
    · rw [decide_eq_true_eq]; omega
  · rw [decide_eq_true_eq]; omega
theorem dlt_tr (a b : Tri) : PySem.W.dataLt (trI a) (trI b) = lt3 a b := by
  have h := PySem.W.DatumOrd.lt_eq (α := PySem.W.Tup Int) ⟨[a.1, a.2.1, a.2.2]⟩ ⟨[b.1, b.2.1, b.2.2]⟩
  refine Eq.trans h ?_
  show PySem.W.listLt [a.1, a.2.1, a.2.2] [b.1, b.2.1, b.2.2] = _
  have dl : ∀ x y : Int, PySem.W.DatumOrd.lt x y = decide (x < y) := fun _ _ => rfl
  unfold lt3
  simp only [PySem.W.listLt, dl]
  by_cases h1 : a.1 = b.1
  · rw [if_pos h1, if_pos h1]
    by_cases h2 : a.2.1 = b.2.1
    · rw [if_pos h2, if_pos h2]
      by_cases h3 : a.2.2 = b.2.2
      · rw [if_pos h3]; exact (decide_eq_false (by omega)).symm
      · rw [if_neg h3]
    · rw [if_neg h2, if_neg h2]
  · rw [if_neg h1, if_neg h1]
theorem ltOk_tr (a b : Tri) : ltOk (trI a) (trI b) = true := rfl
@[simp] theorem c_geT (a b : Tri) : cmpD .ge (trI a) (trI b) = some (!lt3 a b) := by rw [cm_ge (ltOk_tr a b), dlt_tr]
@[simp] theorem c_leT (a b : Tri) : cmpD .le (trI a) (trI b) = some (!lt3 b a) := by rw [cm_le (ltOk_tr a b), dlt_tr]
theorem sortD_enc {α : Type} (enc : α → PyData) (l : List α) : sortD (l.map enc) = (l.mergeSort (fun a b => PySem.W.dataLe false id (enc a) (enc b))).map enc :=
  (PySem.W.sort_maps (r := fun a b => PySem.W.dataLe false id (enc a) (enc b)) (s := PySem.W.dataLe false id) (l := l) enc (fun a _ b _ => rfl)).symm
theorem dle_lt (x y : PyData) : PySem.W.dataLe false id x y = !PySem.W.dataLt y x := rfl
theorem sort_tr (l : List Tri) : ∃ qs : List Tri, sortD (l.map trI) = qs.map trI ∧ List.Perm qs l ∧ qs.Pairwise (fun a b => lt3 b a = false) := by
  refine ⟨_, sortD_enc trI l, List.mergeSort_perm _ _, ?_⟩
  have e : (fun a b : Tri => PySem.W.dataLe false id (trI a) (trI b)) = fun a b => !lt3 b a := by
    funext a b
    rw [dle_lt, dlt_tr]
  rw [e]
  refine (List.pairwise_mergeSort (le := fun a b => !lt3 b a) (fun a b c h1 h2 => ?_) (fun a b => ?_) l).imp fun h => by simpa using h
  · simp only [Bool.not_eq_true', Bool.eq_false_iff, ne_eq, lt3_iff] at h1 h2 ⊢
    omega
  · simp only [Bool.or_eq_true, Bool.not_eq_true', Bool.eq_false_iff, ne_eq, lt3_iff]
    omega
theorem sortable_tr (l : List Tri) : sortable (l.map trI) = true := by
  unfold sortable
  rw [Bool.and_eq_true, Bool.and_eq_true, Bool.or_eq_true]
  refine ⟨⟨?_, .inl ?_⟩, ?_⟩
  · unfold allAlike
    rw [List.all_eq_true]
    intro x hx
    rw [List.all_eq_true]
    intro y hy
    obtain ⟨p, _, rfl⟩ := List.mem_map.mp hx
    obtain ⟨q, _, rfl⟩ := List.mem_map.mp hy
    rfl
  · rw [List.all_eq_true]
    intro x hx
    obtain ⟨p, _, rfl⟩ := List.mem_map.mp hx
    rfl
  · rw [List.all_eq_true]
    intro x hx
    obtain ⟨p, _, rfl⟩ := List.mem_map.mp hx
    rfl
theorem blt_sort_tr (l : List Tri) : ∃ qs : List Tri, (∀ o al, bltR .sorted ⟨.list (l.map trI), o, al⟩ = some ⟨.list (qs.map trI), .dp, []⟩) ∧ List.Perm qs l ∧ qs.Pairwise (fun a b => lt3 b a = false) := by
  obtain ⟨qs, h1, h2, h3⟩ := sort_tr l
  refine ⟨qs, fun o al => ?_, h2, h3⟩
  rw [blt_sort (sortable_tr l) (plains_tr l), h1]
theorem sort_pr2 (l : List (Int × Int)) : ∃ qs : List (Int × Int), (∀ o al, bltR .sorted ⟨.list (l.map prI), o, al⟩ = some ⟨.list (qs.map prI), .dp, []⟩) ∧ List.Perm qs l := by
  refine ⟨l.mergeSort (fun a b => PySem.W.dataLe false id (prI a) (prI b)), fun o al => ?_, List.mergeSort_perm _ _⟩
  rw [blt_sort (sortable_pr l) (plains_pr l), sortD_enc prI l]
/-! ### exchanges -/
section
variable {Γ : Cal} {σ : S}
theorem seq_one {a : Stm} {rest : Stms} {σ' : S} {out : Option Out} (h : execs Γ (.cons a .nil) σ = some (.nx σ')) (k : execs Γ rest σ' = out) : execs Γ (.cons a rest) σ = out := by
  rw [xs_cons] at h ⊢
  cases e : exec Γ a σ with
  | none => rw [e] at h; cases h
  | some o =>
    rw [e] at h
    cases o with
    | nx s =>
      rw [sq_nx, xs_nil] at h
      cases h
      rw [sq_nx, k]
    | _ => cases h
theorem seq_two {a b : Stm} {rest : Stms} {σ' : S} {out : Option Out} (h : execs Γ (.cons a (.cons b .nil)) σ = some (.nx σ')) (k : execs Γ rest σ' = out) : execs Γ (.cons a (.cons b rest)) σ = out := by
  rw [xs_cons] at h ⊢
  cases e : exec Γ a σ with
  | none => rw [e] at h; cases h
  | some o =>
    rw [e] at h
    cases o with
    | nx s =>
      rw [sq_nx] at h ⊢
      exact seq_one h k
    | _ => cases h
def exSteps (most n : Int) : Nat → Nat
  | 0 => 0
  | r + 1 => if n * ((r : Int) + 1) ≤ most then 0 else if r = 0 then 1 else exSteps most n r + 1
theorem exSteps_le (most n : Int) : ∀ r, exSteps most n r ≤ r
  | 0 => Nat.le_refl _
  | r + 1 => by
    have := exSteps_le most n r
    rw [exSteps]
    split
    · omega
    · split <;> omega
def w_lexchange (c : Nat) : Fn := ⟨"_law_exchange", 3, ["draws", "at", "most", "n", "m", "r"],
    (.cons (.unp [(.nm 3), (.nm 4), (.nm 5)] (.tup (.cons (.bin .add (.int 1) (.bin .mod (.call c (.cons (.var 0) (.cons (.var 1) .nil))) (.int 4))) (.cons (.bin .add (.int 1) (.bin .mod (.call c (.cons (.var 0) (.cons (.bin .add (.var 1) (.int 1)) .nil))) (.int 6))) (.cons (.bin .add (.int 1) (.bin .mod (.call c (.cons (.var 0) (.cons (.bin .add (.var 1) (.int 2)) .nil))) (.int 4))) .nil)))))
      (.cons (.ite (.cmp .eq (.bin .mod (.call c (.cons (.var 0) (.cons (.bin .add (.var 1) (.int 3)) .nil))) (.int 8)) (.int 5)) (.cons (.unp [(.nm 3), (.nm 4)] (.tup (.cons (.bin .add (.int 1) (.bin .mod (.call c (.cons (.var 0) (.cons (.var 1) .nil))) (.int 8))) (.cons (.bin .add (.int 1) (.bin .mod (.call c (.cons (.var 0) (.cons (.bin .add (.var 1) (.int 1)) .nil))) (.int 12))) .nil))))
      .nil) .nil)
      (.cons (.while_ (.cmp .gt (.bin .mul (.var 3) (.var 5)) (.var 2)) (.cons (.asg (.nm 5) (.bin .sub (.var 5) (.int 1)))
      (.cons (.ite (.cmp .eq (.var 5) (.int 0)) (.cons (.unp [(.nm 3), (.nm 5)] (.tup (.cons (.var 2) (.cons (.int 1) .nil))))
      .nil) .nil)
      .nil)))
      (.cons (.ret (.tup (.cons (.mv 3) (.cons (.mv 4) (.cons (.mv 5) .nil)))))
      .nil))))⟩
/-- a fit exchange -/
structure ExOk (most : Int) (n m r : Int) : Prop where
  n1 : 1 ≤ n
  nb : n ≤ 1000
  m1 : 1 ≤ m
  mb : m ≤ 12
  r1 : 1 ≤ r
  rb : r ≤ 4
  le : n * r ≤ most
  ge : 1 ≤ n * r
theorem tup_ii' (i j : Int) (o p : Own) (al bl : List Nat) : tupOf [⟨.int i, o, al⟩, ⟨.int j, p, bl⟩] = ⟨.tuple [.int i, .int j], .fz, []⟩ := tupOf_ii i j o p al bl
theorem tup_iii (i j k : Int) (o p q : Own) (al bl cl : List Nat) : tupOf [⟨.int i, o, al⟩, ⟨.int j, p, bl⟩, ⟨.int k, q, cl⟩] = ⟨.tuple [.int i, .int j, .int k], .fz, []⟩ := tup_tr i j k o p q al bl cl
theorem lexchange_ok {c : Nat} {ds : List Int} {at' most : Int} (hc : Cells Γ c ds) (ha : 0 ≤ at') (ha2 : at' ≤ 1000) (h1 : 1 ≤ most) (h2 : most ≤ 1000) :
    ∃ n m r, runF Γ (w_lexchange c) [LI ds, .int at', .int most] = some (.fz, trI (n, m, r)) ∧ ExOk most n m r := by
  have e0 := hc at' (by omega) (by omega)
  have e1 := hc (at' + 1) (by omega) (by omega)
  have e2 := hc (at' + 2) (by omega) (by omega)
  have e3 := hc (at' + 3) (by omega) (by omega)
  have st : ∃ n m r : Int, (1 ≤ n ∧ n ≤ 8) ∧ (1 ≤ m ∧ m ≤ 12) ∧ (1 ≤ r ∧ r ≤ 4) ∧ execs Γ (.cons (.unp [(.nm 3), (.nm 4), (.nm 5)] (.tup (.cons (.bin .add (.int 1) (.bin .mod (.call c (.cons (.var 0) (.cons (.var 1) .nil))) (.int 4))) (.cons (.bin .add (.int 1) (.bin .mod (.call c (.cons (.var 0) (.cons (.bin .add (.var 1) (.int 1)) .nil))) (.int 6))) (.cons (.bin .add (.int 1) (.bin .mod (.call c (.cons (.var 0) (.cons (.bin .add (.var 1) (.int 2)) .nil))) (.int 4))) .nil)))))
      (.cons (.ite (.cmp .eq (.bin .mod (.call c (.cons (.var 0) (.cons (.bin .add (.var 1) (.int 3)) .nil))) (.int 8)) (.int 5)) (.cons (.unp [(.nm 3), (.nm 4)] (.tup (.cons (.bin .add (.int 1) (.bin .mod (.call c (.cons (.var 0) (.cons (.var 1) .nil))) (.int 8))) (.cons (.bin .add (.int 1) (.bin .mod (.call c (.cons (.var 0) (.cons (.bin .add (.var 1) (.int 1)) .nil))) (.int 12))) .nil))))
      .nil) .nil) .nil)) [some (.fz, LI ds), some (.fz, .int at'), some (.fz, .int most), none, none, none] = some (.nx [some (.fz, LI ds), some (.fz, .int at'), some (.fz, .int most), some (.fz, .int n), some (.fz, .int m), some (.fz, .int r)]) := by
    by_cases z : cellV ds (at' + 3) % 8 = 5
    · refine ⟨1 + cellV ds at' % 8, 1 + cellV ds (at' + 1) % 12, 1 + cellV ds (at' + 2) % 4, by omega, by omega, by omega, ?_⟩
      simp (disch := first | omega | (simp; done) | fail) [e0, e1, e2, e3, z, tup_ii', tup_iii]
    · refine ⟨1 + cellV ds at' % 4, 1 + cellV ds (at' + 1) % 6, 1 + cellV ds (at' + 2) % 4, by omega, by omega, by omega, ?_⟩
      simp (disch := first | omega | (simp; done) | fail) [e0, e1, e2, e3, z, tup_ii', tup_iii]
  obtain ⟨n, m, r, hn, hm, hr, st⟩ := st
  have hrn : ((r.toNat : Nat) : Int) = r := by omega
  obtain ⟨s', hw, n', r', q1, q2, q3, q4, q5, e⟩ := whileS_run (Γ := Γ) (σ := [some (.fz, LI ds), some (.fz, .int at'), some (.fz, .int most), some (.fz, .int n), some (.fz, .int m), some (.fz, .int r)]) (c := .cmp .gt (.bin .mul (.var 3) (.var 5)) (.var 2))
    (body := (.cons (.asg (.nm 5) (.bin .sub (.var 5) (.int 1)))
      (.cons (.ite (.cmp .eq (.var 5) (.int 0)) (.cons (.unp [(.nm 3), (.nm 5)] (.tup (.cons (.var 2) (.cons (.int 1) .nil))))
      .nil) .nil)
      .nil)))
    (fun k s => ∃ (n : Int) (r : Nat), 1 ≤ n ∧ n ≤ 1000 ∧ 1 ≤ r ∧ r ≤ 4 ∧ exSteps most n r = k ∧ s = [some (.fz, LI ds), some (.fz, .int at'), some (.fz, .int most), some (.fz, .int n), some (.fz, .int m), some (.fz, .int r)]) (k := exSteps most n r.toNat) (by have := exSteps_le most n r.toNat; omega)
    (fun s ⟨n, r, q1, q2, q3, q4, q5, e⟩ => by
      subst e
      obtain ⟨r, rfl⟩ : ∃ t, r = t + 1 := ⟨r - 1, by omega⟩
      have h : n * (((r + 1 : Nat)) : Int) ≤ most := by
        rw [exSteps] at q5
        split at q5
        · rename_i z; push_cast; exact z
        · split at q5 <;> cases q5
      have hR : 1 ≤ (((r + 1 : Nat)) : Int) ∧ (((r + 1 : Nat)) : Int) ≤ 4 := by omega
      generalize (((r + 1 : Nat)) : Int) = R at h hR
      have h' : ¬ most < n * R := by omega
      simp (disch := omega) [h'])
    (fun k s ⟨n, r, q1, q2, q3, q4, q5, e⟩ => by
      subst e
      obtain ⟨r, rfl⟩ : ∃ t, r = t + 1 := ⟨r - 1, by omega⟩
      rw [exSteps] at q5
      split at q5
      · cases q5
      · rename_i z
        have h' : most < n * (((r + 1 : Nat)) : Int) := by push_cast; omega
        split at q5
        · rename_i z2
          subst z2
          have hk : k = 0 := by omega
          subst hk
          have h2 : most < n * 1 := h'
          refine ⟨by simp (disch := omega); omega, _, .inl ?_, most, 1, by omega, by omega, by omega, by omega, ?_, rfl⟩
          · simp (disch := first | omega | (simp; done) | fail) [tup_ii']
          · rw [exSteps, if_pos (by omega)]
        · rename_i z2
          have hR : 2 ≤ (((r + 1 : Nat)) : Int) ∧ (((r + 1 : Nat)) : Int) ≤ 4 ∧ (((r + 1 : Nat)) : Int) - 1 = r := by omega
          generalize (((r + 1 : Nat)) : Int) = R at h' hR
          have hr0 : ¬ (r : Int) = 0 := by omega
          refine ⟨by simp (disch := omega) [h'], [some (.fz, LI ds), some (.fz, .int at'), some (.fz, .int most), some (.fz, .int n), some (.fz, .int m), some (.fz, .int r)], .inl ?_, n, r, by omega, by omega, by omega, by omega, by omega, rfl⟩
          simp (disch := first | omega | (simp; done) | fail) [hR.2.2, hr0, z2])
    ⟨n, r.toNat, by omega, by omega, by omega, by omega, rfl, by rw [hrn]⟩
  subst e
  obtain ⟨t, rfl⟩ : ∃ t, r' = t + 1 := ⟨r' - 1, by omega⟩
  have h : n' * (((t + 1 : Nat)) : Int) ≤ most := by
    rw [exSteps] at q5
    split at q5
    · rename_i z; push_cast; exact z
    · split at q5 <;> cases q5
  have hg : 1 ≤ n' * (((t + 1 : Nat)) : Int) := Int.mul_pos (by omega) (by omega)
  refine ⟨n', m, (((t + 1 : Nat)) : Int), runF_of rfl rfl ?_, ⟨q1, q2, hm.1, hm.2, by omega, by omega, h, hg⟩⟩
  refine seq_two st (seq_nx hw ?_)
  simp (disch := first | omega | (simp; done) | fail) [tup_tr]
end
end Sp
end

section
set_option Elab.async false
set_option linter.all false
set_option maxRecDepth 100000
set_option maxHeartbeats 4000000
/-! Plans: wishes, what the law holds for a plan, free middles, drawn plans. -/
namespace Sp
open Sw
open PySem (PyData Str)
section
variable {Γ : Cal} {σ : S}
/-! ### wished calls -/
def w_wished (od : Nat) : Fn := ⟨"_law_wished", 4, ["draws", "at", "exchange", "many", "lines", "inlets", "outlets", "j"],
    (.cons (.asg (.nm 4) (.bin .mul (.idx (.var 2) (.int 0)) (.idx (.var 2) (.int 2))))
      (.cons (.unp [(.nm 5), (.nm 6)] (.tup (.cons (.call od (.cons (.var 0) (.cons (.var 1) (.cons (.var 4) .nil)))) (.cons (.call od (.cons (.var 0) (.cons (.bin .add (.var 1) (.int 13)) (.cons (.var 4) .nil)))) .nil))))
      (.cons (.ret (.blt .sorted (.comp (.nm 7) (.rng (.int 0) (.min2 (.var 3) (.var 4)) (.int 1)) (.bl true) (.tup (.cons (.idx (.var 5) (.var 7)) (.cons (.idx (.var 6) (.var 7)) .nil))))))
      .nil)))⟩
/-- pairs of unlike inlets and unlike outlets below L -/
structure WOk (L : Int) (qs : List (Int × Int)) : Prop where
  i : ∀ p ∈ qs, 0 ≤ p.1 ∧ p.1 < L
  o : ∀ p ∈ qs, 0 ≤ p.2 ∧ p.2 < L
  ni : (qs.map (·.1)).Nodup
  no : (qs.map (·.2)).Nodup
  ln : (qs.length : Int) ≤ L
theorem nodup_its {u : List Int} (hu : u.Nodup) {k : Int} (hk : k ≤ u.length) : ((upto k).map (fun y => itI u y)).Nodup := by
  have nd : (upto k).Pairwise (fun a b => a ≠ b) := by
    unfold upto
    exact List.Pairwise.map _ (fun a b h z => h (by omega)) (List.nodup_range (n := k.toNat))
  refine List.Pairwise.map _ (fun a b h => h) (nd.imp_of_mem fun {a b} ha hb h => ?_)
  have ha := mem_upto.mp ha
  have hb := mem_upto.mp hb
  intro z
  have ea : a = (a.toNat : Int) := by omega
  have eb : b = (b.toNat : Int) := by omega
  rw [ea, eb, itI_at (by omega), itI_at (by omega)] at z
  have := (List.getElem_inj hu).mp z
  omega
theorem wished_ok {od : Nat} {ds : List Int} {at' n m r many L : Int} (hL : n * r = L) (hn : 1 ≤ n ∧ n ≤ 1000) (hr : 1 ≤ r ∧ r ≤ 4) (h0 : 1 ≤ L) (hL2 : L ≤ 1000) (hm : 0 ≤ many)
    (h1 : ∃ xs, Γ od [LI ds, .int at', .int L] = some (.dp, LI xs) ∧ List.Perm xs (upto L)) (h2 : ∃ xs, Γ od [LI ds, .int (at' + 13), .int L] = some (.dp, LI xs) ∧ List.Perm xs (upto L)) :
    ∃ qs, runF Γ (w_wished od) [LI ds, .int at', trI (n, m, r), .int many] = some (.dp, .list (qs.map prI)) ∧ WOk L qs := by
  obtain ⟨u, e1, p1⟩ := h1
  obtain ⟨v, e2, p2⟩ := h2
  have lu : (u.length : Int) = L := by rw [p1.length_eq, upto_len]; omega
  have lv : (v.length : Int) = L := by rw [p2.length_eq, upto_len]; omega
  have nu : u.Nodup := p1.nodup_iff.mpr (by
    unfold upto
    exact List.Pairwise.map _ (fun a b h z => h (by omega)) (List.nodup_range (n := L.toNat)))
  have nv : v.Nodup := p2.nodup_iff.mpr (by
    unfold upto
    exact List.Pairwise.map _ (fun a b h z => h (by omega)) (List.nodup_range (n := L.toNat)))
  have ec := comp_prs (Γ := Γ) (σ := [some (.fz, LI ds), some (.fz, .int at'), some (.fz, trI (n, m, r)), some (.fz, .int many), some (.fz, .int L), some (.dp, LI u), some (.dp, LI v), none]) (j := 7) (it := .rng (.int 0) (.min2 (.var 3) (.var 4)) (.int 1)) (e := .tup (.cons (.idx (.var 5) (.var 7)) (.cons (.idx (.var 6) (.var 7)) .nil))) (o := .dp) (upto (min many L)) (fun y => (itI u y, itI v y)) (by simp (disch := omega)) (by rw [upto_len]; omega) (fun y hy => by
    have := mem_upto.mp hy
    simp (disch := first | omega | (simp; done) | fail) [tup_pr])
  have hw : WOk L ((upto (min many L)).map (fun y => (itI u y, itI v y))) := by
    refine ⟨fun p hp => ?_, fun p hp => ?_, ?_, ?_, ?_⟩
    · obtain ⟨y, hy, rfl⟩ := List.mem_map.mp hp
      have := mem_upto.mp hy
      exact mem_upto.mp (p1.mem_iff.mp (itI_mem (xs := u) (i := y) (by omega) (by omega)))
    · obtain ⟨y, hy, rfl⟩ := List.mem_map.mp hp
      have := mem_upto.mp hy
      exact mem_upto.mp (p2.mem_iff.mp (itI_mem (xs := v) (i := y) (by omega) (by omega)))
    · rw [List.map_map]; exact nodup_its nu (by omega)
    · rw [List.map_map]; exact nodup_its nv (by omega)
    · rw [List.length_map, upto_len]; omega
  generalize (upto (min many L)).map (fun y => (itI u y, itI v y)) = ps at ec hw
  obtain ⟨qs, es, pm⟩ := sort_pr2 ps
  refine ⟨qs, runF_of rfl rfl ?_, ⟨fun p hp => hw.i p (pm.mem_iff.mp hp), fun p hp => hw.o p (pm.mem_iff.mp hp), (pm.map _).nodup_iff.mpr hw.ni, (pm.map _).nodup_iff.mpr hw.no, by rw [pm.length_eq]; exact hw.ln⟩⟩
  simp (disch := first | omega | (simp; done) | fail) [w_wished, hL, e1, e2, tupOf_dp, ec, es]
/-! ### what the law holds for a plan -/
def okB (n : Int) (a b : Tri) : Bool := lt3 a b && !decide (a.1 = b.1) && !decide (a.2.1 = b.2.1) && !(decide (a.2.2 = b.2.2) && (decide (a.1 / n = b.1 / n) || decide (a.2.1 / n = b.2.1 / n)))
def planB (n : Int) (cs : List Tri) : Bool := (upto cs.length).all fun k => (upto k).all fun j => okB n (itT cs j) (itT cs k)
theorem planB_iff {n : Int} {cs : List Tri} : planB n cs = true ↔ cs.Pairwise (fun a b => okB n a b = true) := by
  unfold planB
  rw [List.pairwise_iff_getElem, List.all_eq_true]
  constructor
  · intro h i j hi hj hij
    have := List.all_eq_true.mp (h j (mem_upto.mpr (by omega))) i (mem_upto.mpr (by omega))
    rw [itT_at hi, itT_at hj] at this
    exact this
  · intro h k hk
    rw [List.all_eq_true]
    intro j hj
    have hk := mem_upto.mp hk
    have hj := mem_upto.mp hj
    have := h j.toNat k.toNat (by omega) (by omega) (by omega)
    have ea : j = (j.toNat : Int) := by omega
    have eb : k = (k.toNat : Int) := by omega
    rw [ea, eb, itT_at (by omega), itT_at (by omega)]
    exact this
def goodT (n m r : Int) (c : Tri) : Bool := decide (0 ≤ c.1) && decide (0 ≤ c.2.1) && decide (0 ≤ c.2.2) && decide (c.1 < n * r) && decide (c.2.1 < n * r) && decide (c.2.2 < m)
def triOf : PyData → Option Tri
  | .tuple [.int a, .int b, .int c] => some (a, b, c)
  | _ => none
def goodC (n m r : Int) (d : PyData) : Bool := match triOf d with
  | some c => goodT n m r c
  | none => false
theorem triOf_some {d : PyData} {c : Tri} (h : triOf d = some c) : d = trI c := by
  unfold triOf at h
  split at h
  · cases h; rfl
  · cases h
theorem good_some {n m r : Int} {d : PyData} (h : goodC n m r d = true) : ∃ c, d = trI c ∧ goodT n m r c = true := by
  unfold goodC at h
  split at h
  · rename_i c e
    exact ⟨c, triOf_some e, h⟩
  · cases h
theorem good_tr (n m r : Int) (c : Tri) : goodC n m r (trI c) = goodT n m r c := rfl
theorem good_all {n m r : Int} : ∀ {ds : List PyData}, ds.all (goodC n m r) = true → ∃ cs : List Tri, ds = cs.map trI ∧ ∀ c ∈ cs, goodT n m r c = true
  | [], _ => ⟨[], rfl, fun c h => by cases h⟩
  | d :: ds, h => by
    rw [List.all_cons, Bool.and_eq_true] at h
    obtain ⟨c, rfl, hc⟩ := good_some h.1
    obtain ⟨cs, rfl, hcs⟩ := good_all h.2
    refine ⟨c :: cs, rfl, fun x hx => ?_⟩
    rcases List.mem_cons.mp hx with rfl | z
    · exact hc
    · exact hcs x z
/-- whether a value is a plan -/
def isPl (n m r : Int) : PyData → Bool
  | .list ds => ds.all (goodC n m r) && planB n (ds.filterMap triOf)
  | _ => false
theorem filterMap_tr (cs : List Tri) : (cs.map trI).filterMap triOf = cs := by
  induction cs with
  | nil => rfl
  | cons c cs ih =>
    rw [List.map_cons, List.filterMap_cons]
    show c :: _ = _
    rw [ih]
theorem isPl_tr {n m r : Int} {cs : List Tri} (h : ∀ c ∈ cs, goodT n m r c = true) : isPl n m r (.list (cs.map trI)) = planB n cs := by
  show ((cs.map trI).all (goodC n m r) && planB n ((cs.map trI).filterMap triOf)) = _
  rw [filterMap_tr, List.all_eq_true.mpr, Bool.true_and]
  intro x hx
  obtain ⟨c, hc, rfl⟩ := List.mem_map.mp hx
  exact h c hc
def lp1 (nu : Nat) : Stms := (.cons (.ite (.or (.not (.tru (.isi (.var 2) .tuple))) (.or (.cmp .ne (.blt .len (.var 2)) (.int 3)) (.not (.tru (.call nu (.cons (.blt .list (.var 2)) .nil)))))) (.cons (.ret (.bl false))
      .nil) .nil)
      (.cons (.ite (.or (.cmp .lt (.blt .minL (.var 2)) (.int 0)) (.or (.cmp .ge (.max2 (.idx (.var 2) (.int 0)) (.idx (.var 2) (.int 1))) (.bin .mul (.var 4) (.var 6))) (.cmp .ge (.idx (.var 2) (.int 2)) (.var 5)))) (.cons (.ret (.bl false))
      .nil) .nil)
      .nil))
def lp2 : Stms := (.cons (.unp [(.nm 8), (.nm 9)] (.tup (.cons (.idx (.var 1) (.var 7)) (.cons (.idx (.var 1) (.var 3)) .nil))))
      (.cons (.ite (.or (.cmp .ge (.var 8) (.var 9)) (.or (.cmp .eq (.idx (.var 8) (.int 0)) (.idx (.var 9) (.int 0))) (.cmp .eq (.idx (.var 8) (.int 1)) (.idx (.var 9) (.int 1))))) (.cons (.ret (.bl false))
      .nil) .nil)
      (.cons (.ite (.and (.cmp .eq (.idx (.var 8) (.int 2)) (.idx (.var 9) (.int 2))) (.or (.cmp .eq (.bin .div (.idx (.var 8) (.int 0)) (.var 4)) (.bin .div (.idx (.var 9) (.int 0)) (.var 4))) (.cmp .eq (.bin .div (.idx (.var 8) (.int 1)) (.var 4)) (.bin .div (.idx (.var 9) (.int 1)) (.var 4))))) (.cons (.ret (.bl false))
      .nil) .nil)
      .nil)))
def w_lis_plan (nu : Nat) : Fn := ⟨"_law_is_plan", 2, ["exchange", "value", "call", "k", "n", "m", "r", "j", "one", "other"],
    (.cons (.unp [(.nm 4), (.nm 5), (.nm 6)] (.mv 0))
      (.cons (.ite (.not (.tru (.isi (.var 1) .list))) (.cons (.ret (.bl false))
      .nil) .nil)
      (.cons (.for_ (.nm 2) (.var 1) (lp1 nu))
      (.cons (.for_ (.nm 3) (.rng (.int 0) (.blt .len (.var 1)) (.int 1)) (.cons (.for_ (.nm 7) (.rng (.int 0) (.var 3) (.int 1)) lp2)
      .nil))
      (.cons (.ret (.bl true))
      .nil)))))⟩
theorem mk_fz0 (d : PyData) : mk d .fz [] = ⟨d, .fz, []⟩ := by
  unfold mk
  split <;> rfl
theorem numsB_l (ds : List PyData) : numsB (.list ds) = ds.all numB := rfl
theorem lp1_ok {nu : Nat} {n m r : Int} (hn : ∀ ds : List PyData, Γ nu [.list ds] = some (.fz, .bool (ds.all numB))) (hnb : 1 ≤ n ∧ n ≤ 1000) (hrb : 1 ≤ r ∧ r ≤ 4) (d : PyData) (s0 s1 s3 s7 s8 s9 : Slot) :
    execs Γ (lp1 nu) [s0, s1, some (.fz, d), s3, some (.fz, .int n), some (.fz, .int m), some (.fz, .int r), s7, s8, s9] = if goodC n m r d then some (.nx [s0, s1, some (.fz, d), s3, some (.fz, .int n), some (.fz, .int m), some (.fz, .int r), s7, s8, s9]) else some (.rt .fz (.bool false)) := by
  have no : ∀ d, triOf d = none → goodC n m r d = false := fun d h => by unfold goodC; rw [h]
  cases d with
  | tuple xs =>
    by_cases z3 : (xs.length : Int) = 3
    · obtain ⟨a, b, c, rfl⟩ : ∃ a b c, xs = [a, b, c] := by
        match xs, z3 with
        | [a, b, c], _ => exact ⟨a, b, c, rfl⟩
        | [], h => simp at h
        | [a], h => simp at h
        | [a, b], h => simp at h
        | a :: b :: c :: d :: r, h => simp at h; omega
      have bl : ∀ (o : Own) (al : List Nat), bltR .list ⟨.tuple [a, b, c], o, al⟩ = some (newL [a, b, c] al) := fun o al => rfl
      have nd : ∀ al, (newL [a, b, c] al).d = .list [a, b, c] := fun al => newL_list _ _
      have h0 := hn [a, b, c]
      have ix0 : idxD (.tuple [a, b, c]) (.int 0) = some a := rfl
      have ix1 : idxD (.tuple [a, b, c]) (.int 1) = some b := rfl
      have ix2 : idxD (.tuple [a, b, c]) (.int 2) = some c := rfl
      cases hb : [a, b, c].all numB with
      | false =>
        rw [hb] at h0
        have hg : goodC n m r (.tuple [a, b, c]) = false := by
          refine no _ ?_
          cases a <;> cases b <;> cases c <;> first | rfl | simp [numB] at hb
        rw [hg]
        simp [lp1, isiD, bl, nd, h0, mk_fz0]
      | true =>
        rw [hb] at h0
        obtain ⟨xs, e⟩ := ints_all hb
        obtain ⟨i, j, k, rfl⟩ : ∃ i j k, xs = [i, j, k] := by
          have := congrArg List.length e
          match xs, this with
          | [a, b, c], _ => exact ⟨a, b, c, rfl⟩
          | [], h => simp at h
          | [a], h => simp at h
          | [a, b], h => simp at h
          | a :: b :: c :: d :: r, h => simp at h
        cases e
        have mn : ∀ (o : Own) (al : List Nat), bltR .minL ⟨.tuple [.int i, .int j, .int k], o, al⟩ = FI (.int (min i (min j k))) := fun o al => by
          rw [← Int.min_assoc]; rfl
        have hgd : goodC n m r (.tuple [.int i, .int j, .int k]) = goodT n m r (i, j, k) := rfl
        rw [hgd]
        have bm : ∀ (o p : Own) (al bl : List Nat), binD .mul ⟨.int n, o, al⟩ ⟨.int r, p, bl⟩ = FI (.int (n * r)) := fun o p al bl => b_mulS (by omega) (by omega) (by omega) (by omega) o p al bl
        unfold goodT
        generalize n * r = L at *
        by_cases z1 : min i (min j k) < 0
        · have : (decide (0 ≤ i) && decide (0 ≤ j) && decide (0 ≤ k) && decide (i < L) && decide (j < L) && decide (k < m)) = false := by
            rw [Bool.eq_false_iff]
            intro w
            simp only [Bool.and_eq_true, decide_eq_true_eq] at w
            omega
          dsimp only
          rw [this]
          have dz : decide (min i (min j k) < 0) = true := decide_eq_true z1
          generalize min i (min j k) = M at *
          simp [lp1, isiD, bl, nd, h0, mn, z1, mk_fz0]
        · have g0 : 0 ≤ i ∧ 0 ≤ j ∧ 0 ≤ k := by omega
          generalize min i (min j k) = M at *
          by_cases z2 : L ≤ max i j
          · have : (decide (0 ≤ i) && decide (0 ≤ j) && decide (0 ≤ k) && decide (i < L) && decide (j < L) && decide (k < m)) = false := by
              rw [Bool.eq_false_iff]
              intro w
              simp only [Bool.and_eq_true, decide_eq_true_eq] at w
              omega
            dsimp only
            rw [this]
            simp [lp1, isiD, bl, nd, h0, mn, z1, mk_fz0, ix0, ix1, ix2, bm, z2]
          · have z4 : i < L ∧ j < L := by omega
            by_cases z5 : m ≤ k
            · have : (decide (0 ≤ i) && decide (0 ≤ j) && decide (0 ≤ k) && decide (i < L) && decide (j < L) && decide (k < m)) = false := by
                rw [Bool.eq_false_iff]
                intro w
                simp only [Bool.and_eq_true, decide_eq_true_eq] at w
                omega
              dsimp only
              rw [this]
              simp [lp1, isiD, bl, nd, h0, mn, z1, mk_fz0, ix0, ix1, ix2, bm, z2, z5]
            · have : (decide (0 ≤ i) && decide (0 ≤ j) && decide (0 ≤ k) && decide (i < L) && decide (j < L) && decide (k < m)) = true := by
                simp only [Bool.and_eq_true, decide_eq_true_eq]
                omega
              dsimp only
              rw [this]
              simp [lp1, isiD, bl, nd, h0, mn, z1, mk_fz0, ix0, ix1, ix2, bm, z2, z5]
    · rw [show goodC n m r (.tuple xs) = false from no _ (by
        unfold triOf
        split
        · rename_i e; cases e; simp at z3
        · rfl)]
      have h3 : ¬ xs.length = 3 := by omega
      simp [lp1, isiD, z3, h3, mk_fz0]
  | _ =>
    rw [no _ rfl]
    simp [lp1, isiD]
end
end Sp
end

section
set_option Elab.async false
set_option linter.all false
set_option maxRecDepth 100000
set_option maxHeartbeats 4000000
/-! Plans: what the law holds for a plan, free middles, drawn plans. -/
namespace Sp
open Sw
open PySem (PyData Str)
section
variable {Γ : Cal} {σ : S}
theorem sl_tr (c : Tri) (o : Own) (al : List Nat) : slotOf ⟨trI c, o, al⟩ = some (.fz, trI c) := rfl
theorem tup_2tr (a b : Tri) (o p : Own) (al bl : List Nat) : tupOf [⟨trI a, o, al⟩, ⟨trI b, p, bl⟩] = ⟨.tuple [trI a, trI b], .fz, []⟩ := by
  unfold tupOf
  exact mk_tp rfl _ _
theorem lp2_ok {n : Int} {cs : List Tri} (hn : 1 ≤ n ∧ n ≤ 1000) {j k : Nat} (hj : j < cs.length) (hk : k < cs.length) (s0 s2 s5 s6 s8 s9 : Slot) :
    execs Γ lp2 [s0, some (.fz, .list (cs.map trI)), s2, some (.fz, .int k), some (.fz, .int n), s5, s6, some (.fz, .int j), s8, s9] = if okB n (itT cs j) (itT cs k) then some (.nx [s0, some (.fz, .list (cs.map trI)), s2, some (.fz, .int k), some (.fz, .int n), s5, s6, some (.fz, .int j), some (.fz, trI (itT cs j)), some (.fz, trI (itT cs k))]) else some (.rt .fz (.bool false)) := by
  have ia := idx_Tr (cs := cs) (j := (j : Int)) (by omega) (by omega)
  have ib := idx_Tr (cs := cs) (j := (k : Int)) (by omega) (by omega)
  generalize itT cs j = a at *
  generalize itT cs k = b at *
  unfold okB
  cases h1 : lt3 a b with
  | false => simp (disch := first | omega | (simp; done) | fail) [lp2, ia, ib, h1, tup_2tr, sl_tr]
  | true =>
    by_cases h2 : a.1 = b.1
    · simp (disch := first | omega | (simp; done) | fail) [lp2, ia, ib, h1, h2, tup_2tr, sl_tr]
    · by_cases h3 : a.2.1 = b.2.1
      · simp (disch := first | omega | (simp; done) | fail) [lp2, ia, ib, h1, h2, h3, tup_2tr, sl_tr]
      · by_cases h4 : a.2.2 = b.2.2
        · by_cases h5 : a.1 / n = b.1 / n
          · simp (disch := first | omega | (simp; done) | fail) [lp2, ia, ib, h1, h2, h3, h4, h5, tup_2tr, sl_tr]
          · by_cases h6 : a.2.1 / n = b.2.1 / n
            · simp (disch := first | omega | (simp; done) | fail) [lp2, ia, ib, h1, h2, h3, h4, h5, h6, tup_2tr, sl_tr]
            · simp (disch := first | omega | (simp; done) | fail) [lp2, ia, ib, h1, h2, h3, h4, h5, h6, tup_2tr, sl_tr]
        · simp (disch := first | omega | (simp; done) | fail) [lp2, ia, ib, h1, h2, h3, h4, tup_2tr, sl_tr]
theorem all_take {α : Type} {p : α → Bool} {xs : List α} {i : Nat} (hi : i < xs.length) (q : (xs.take i).all p = true) (z : p xs[i] = true) : (xs.take (i + 1)).all p = true := by
  rw [List.take_succ, List.getElem?_eq_getElem hi, List.all_append, q]
  simp [z]
theorem all_no {α : Type} {p : α → Bool} {xs : List α} {x : α} (hx : x ∈ xs) (z : p x = false) : xs.all p = false := by
  cases w : xs.all p with
  | false => rfl
  | true =>
    have := List.all_eq_true.mp w _ hx
    rw [z] at this; cases this
def innerB (n : Int) (cs : List Tri) (k : Int) : Bool := (upto k).all fun j => okB n (itT cs j) (itT cs k)
theorem lp2_loop {n : Int} {cs : List Tri} (hn : 1 ≤ n ∧ n ≤ 1000) {k : Nat} (hk : k < cs.length) (hl : cs.length ≤ 1000) (s0 s2 s5 s6 s7 s8 s9 : Slot) :
    (innerB n cs k = true ∧ ∃ x7 x8 x9, exec Γ (.for_ (.nm 7) (.rng (.int 0) (.var 3) (.int 1)) lp2) [s0, some (.fz, .list (cs.map trI)), s2, some (.fz, .int k), some (.fz, .int n), s5, s6, s7, s8, s9] = some (.nx [s0, some (.fz, .list (cs.map trI)), s2, some (.fz, .int k), some (.fz, .int n), s5, s6, x7, x8, x9])) ∨
    (innerB n cs k = false ∧ exec Γ (.for_ (.nm 7) (.rng (.int 0) (.var 3) (.int 1)) lp2) [s0, some (.fz, .list (cs.map trI)), s2, some (.fz, .int k), some (.fz, .int n), s5, s6, s7, s8, s9] = some (.rt .fz (.bool false))) := by
  rcases forI_ret (Γ := Γ) (σ := [s0, some (.fz, .list (cs.map trI)), s2, some (.fz, .int k), some (.fz, .int n), s5, s6, s7, s8, s9]) (j := 7) (o := .dp) (ys := upto k) (it := .rng (.int 0) (.var 3) (.int 1)) (body := lp2) (by simp (disch := omega))
    (fun i s => ((upto k).take i).all (fun j => okB n (itT cs j) (itT cs k)) = true ∧ ∃ x7 x8 x9, s = [s0, some (.fz, .list (cs.map trI)), s2, some (.fz, .int k), some (.fz, .int n), s5, s6, x7, x8, x9]) (fun o d => o = .fz ∧ d = .bool false ∧ innerB n cs k = false)
    (fun i hi s ⟨q, x7, x8, x9, e⟩ => by
      subst e
      have hik : i < k := by simpa using hi
      have h0 := lp2_ok (Γ := Γ) (cs := cs) hn (j := i) (k := k) (by omega) hk s0 s2 s5 s6 x8 x9
      have hg := upto_get hi
      rw [hg]
      cases z : okB n (itT cs i) (itT cs k) with
      | true =>
        rw [z, if_pos rfl] at h0
        refine .inl ⟨_, .inl h0, all_take hi q (by rw [hg]; exact z), _, _, _, rfl⟩
      | false =>
        rw [z, if_neg (by simp)] at h0
        refine .inr ⟨_, _, h0, rfl, rfl, ?_⟩
        exact all_no (x := (i : Int)) (mem_upto.mpr (by omega)) z) ⟨rfl, _, _, _, rfl⟩ with ⟨s', h, q, x7, x8, x9, e⟩ | ⟨o, d, h, rfl, rfl, q⟩
  · subst e
    rw [List.take_length] at q
    exact .inl ⟨q, x7, x8, x9, h⟩
  · exact .inr ⟨q, h⟩
theorem lis_plan_ok {nu : Nat} {n m r : Int} (hnu : ∀ ds : List PyData, Γ nu [.list ds] = some (.fz, .bool (ds.all numB))) (hn : 1 ≤ n ∧ n ≤ 1000) (hr : 1 ≤ r ∧ r ≤ 4) {d : PyData} (hb : ∀ ds, d = .list ds → ds.length ≤ 1000) :
    runF Γ (w_lis_plan nu) [trI (n, m, r), d] = some (.fz, .bool (isPl n m r d)) := by
  cases d with
  | list ds =>
    have hl := hb ds rfl
    have s1 : execs Γ (.cons (.unp [(.nm 4), (.nm 5), (.nm 6)] (.mv 0)) (.cons (.ite (.not (.tru (.isi (.var 1) .list))) (.cons (.ret (.bl false)) .nil) .nil) .nil)) [some (.fz, trI (n, m, r)), some (.fz, .list ds), none, none, none, none, none, none, none, none] = some (.nx [some (.fz, trI (n, m, r)), some (.fz, .list ds), none, none, some (.fz, .int n), some (.fz, .int m), some (.fz, .int r), none, none, none]) := by
      simp [isiD, trI]
    have f1 : (ds.all (goodC n m r) = true ∧ ∃ x2, exec Γ (.for_ (.nm 2) (.var 1) (lp1 nu)) [some (.fz, trI (n, m, r)), some (.fz, .list ds), none, none, some (.fz, .int n), some (.fz, .int m), some (.fz, .int r), none, none, none] = some (.nx [some (.fz, trI (n, m, r)), some (.fz, .list ds), x2, none, some (.fz, .int n), some (.fz, .int m), some (.fz, .int r), none, none, none])) ∨
        (ds.all (goodC n m r) = false ∧ exec Γ (.for_ (.nm 2) (.var 1) (lp1 nu)) [some (.fz, trI (n, m, r)), some (.fz, .list ds), none, none, some (.fz, .int n), some (.fz, .int m), some (.fz, .int r), none, none, none] = some (.rt .fz (.bool false))) := by
      rcases forL_ret (step := stepF Γ (.nm 2) (lp1 nu)) (xs := ds) (fun i s => (∃ x2, s = [some (.fz, trI (n, m, r)), some (.fz, .list ds), x2, none, some (.fz, .int n), some (.fz, .int m), some (.fz, .int r), none, none, none]) ∧ (ds.take i).all (goodC n m r) = true) (fun o d => o = .fz ∧ d = .bool false ∧ ds.all (goodC n m r) = false)
        (fun i hi s ⟨⟨x2, e⟩, q⟩ => by
          subst e
          have h0 := lp1_ok (Γ := Γ) (m := m) hnu hn hr ds[i] (some (.fz, trI (n, m, r))) (some (.fz, .list ds)) none none none none
          cases z : goodC n m r ds[i] with
          | true =>
            rw [z, if_pos rfl] at h0
            exact .inl ⟨_, .inl h0, ⟨_, rfl⟩, all_take hi q z⟩
          | false =>
            rw [z, if_neg (by simp)] at h0
            exact .inr ⟨_, _, h0, rfl, rfl, all_no (List.getElem_mem hi) z⟩) _ ⟨⟨none, rfl⟩, rfl⟩ with ⟨s', h, ⟨x2, e⟩, q⟩ | ⟨o, d, h, rfl, rfl, q⟩
      · subst e
        rw [List.take_length] at q
        exact .inl ⟨q, x2, (for_plain (d := .list ds) (xs := ds) (o := .fz) (by simp) rfl).trans h⟩
      · exact .inr ⟨q, (for_plain (d := .list ds) (xs := ds) (o := .fz) (by simp) rfl).trans h⟩
    rcases f1 with ⟨q, x2, f1⟩ | ⟨q, f1⟩
    · obtain ⟨cs, rfl, hcs⟩ := good_all q
      rw [isPl_tr hcs]
      have hlc : cs.length ≤ 1000 := by simpa using hl
      rcases forI_ret (Γ := Γ) (σ := [some (.fz, trI (n, m, r)), some (.fz, .list (cs.map trI)), x2, none, some (.fz, .int n), some (.fz, .int m), some (.fz, .int r), none, none, none]) (j := 3) (o := .dp) (ys := upto cs.length) (it := .rng (.int 0) (.blt .len (.var 1)) (.int 1)) (body := .cons (.for_ (.nm 7) (.rng (.int 0) (.var 3) (.int 1)) lp2) .nil) (by simp (disch := omega))
        (fun i s => ((upto cs.length).take i).all (innerB n cs) = true ∧ ∃ x3 x7 x8 x9, s = [some (.fz, trI (n, m, r)), some (.fz, .list (cs.map trI)), x2, x3, some (.fz, .int n), some (.fz, .int m), some (.fz, .int r), x7, x8, x9]) (fun o d => o = .fz ∧ d = .bool false ∧ planB n cs = false)
        (fun i hi s ⟨q, x3, x7, x8, x9, e⟩ => by
          subst e
          have hik : i < cs.length := by simpa using hi
          have hg := upto_get hi
          rw [hg]
          rcases lp2_loop (Γ := Γ) hn hik hlc (some (.fz, trI (n, m, r))) x2 (some (.fz, .int m)) (some (.fz, .int r)) x7 x8 x9 with ⟨z, y7, y8, y9, h0⟩ | ⟨z, h0⟩
          · refine .inl ⟨_, .inl (seq_nx h0 rfl), all_take hi q (by rw [hg]; exact z), _, _, _, _, rfl⟩
          · refine .inr ⟨_, _, ?_, rfl, rfl, all_no (x := (i : Int)) (mem_upto.mpr (by omega)) z⟩
            show execs Γ (.cons _ _) _ = _
            rw [xs_cons]
            have h0' := h0
            refine Eq.trans (congrArg (seqO Γ .nil) h0') rfl) ⟨rfl, _, _, _, _, rfl⟩ with ⟨s', h, q, x3, x7, x8, x9, e⟩ | ⟨o, d, h, rfl, rfl, q⟩
      · subst e
        rw [List.take_length] at q
        have q' : planB n cs = true := q
        rw [q']
        refine runF_of rfl rfl ?_
        refine seq_two s1 (seq_nx f1 (seq_nx h ?_))
        simp
      · rw [q]
        refine runF_of rfl rfl ?_
        refine seq_two s1 (seq_nx f1 ?_)
        rw [xs_cons, h]; rfl
    · have hf : isPl n m r (.list ds) = false := by
        show (ds.all (goodC n m r) && _) = false
        rw [q]; rfl
      rw [hf]
      refine runF_of rfl rfl ?_
      refine seq_two s1 ?_
      rw [xs_cons, f1]; rfl
  | _ =>
    refine runF_of rfl rfl ?_
    simp [w_lis_plan, isiD, trI, isPl, mk_fz0]
end
end Sp
end

section
set_option Elab.async false
set_option linter.all false
set_option maxRecDepth 100000
set_option maxHeartbeats 4000000
/-! Free middles, drawn plans. -/
namespace Sp
open Sw
open PySem (PyData Str)
def metB (n i o : Int) (c : Tri) : Bool := decide (c.1 / n = i / n) || decide (c.2.1 / n = o / n)
def usedL (n : Int) (cs : List Tri) (i o : Int) : List Int := (cs.filter (metB n i o)).map (·.2.2)
def freeL (n m : Int) (cs : List Tri) (i o : Int) : List Int := (upto m).filter fun y => !decide (y ∈ usedL n cs i o)
theorem mem_free {n m : Int} {cs : List Tri} {i o x : Int} : x ∈ freeL n m cs i o ↔ (0 ≤ x ∧ x < m) ∧ ∀ c ∈ cs, c.2.2 = x → c.1 / n ≠ i / n ∧ c.2.1 / n ≠ o / n := by
  unfold freeL usedL
  rw [List.mem_filter, mem_upto]
  refine and_congr_right fun _ => ?_
  rw [Bool.not_eq_true', decide_eq_false_iff_not, List.mem_map]
  constructor
  · intro h c hc e
    constructor
    · intro z
      exact h ⟨c, List.mem_filter.mpr ⟨hc, by unfold metB; rw [decide_eq_true z]; rfl⟩, e⟩
    · intro z
      exact h ⟨c, List.mem_filter.mpr ⟨hc, by unfold metB; rw [decide_eq_true z, Bool.or_true]⟩, e⟩
  · rintro h ⟨c, hc, e⟩
    obtain ⟨h1, h2⟩ := List.mem_filter.mp hc
    have := h c h1 e
    unfold metB at h2
    rw [Bool.or_eq_true, decide_eq_true_eq, decide_eq_true_eq] at h2
    exact h2.elim this.1 this.2
section
variable {Γ : Cal} {σ : S}
theorem comp_tr {σ : S} {j : Nat} {it c e : Ex} {al : List Nat} {o : Own} (cs : List Tri) (p : Tri → Bool) (g : Tri → Int) (hit : ev Γ it σ = some ⟨.list (cs.map trI), o, al⟩) (hl : cs.length ≤ 16777216)
    (hc : ∀ x ∈ cs, ev Γ c ((freezeL σ al).set j (some (.fz, trI x))) = FI (.bool (p x))) (he : ∀ x ∈ cs, p x = true → ev Γ e ((freezeL σ al).set j (some (.fz, trI x))) = FI (.int (g x))) : ev Γ (.comp (.nm j) it c e) σ = some ⟨LI ((cs.filter p).map g), .dp, []⟩ := by
  rw [comp_pl (d := .list (cs.map trI)) trI cs (fun x => (freezeL σ al).set j (some (.fz, trI x))) p (fun x => .int (g x)) hit rfl hl (fun y _ => rfl) hc he (fun _ _ _ => rfl)]
  show some _ = some (⟨.list (((cs.filter p).map g).map .int), .dp, []⟩ : R)
  rw [List.map_map]; rfl
def w_lfree : Fn := ⟨"_law_free", 4, ["exchange", "plan", "inlet", "outlet", "used", "n", "m", "r", "call", "middle"],
    (.cons (.unp [(.nm 5), (.nm 6), (.nm 7)] (.mv 0))
      (.cons (.asg (.nm 4) (.comp (.nm 8) (.var 1) (.or (.cmp .eq (.bin .div (.idx (.var 8) (.int 0)) (.var 5)) (.bin .div (.var 2) (.var 5))) (.cmp .eq (.bin .div (.idx (.var 8) (.int 1)) (.var 5)) (.bin .div (.var 3) (.var 5)))) (.idx (.var 8) (.int 2))))
      (.cons (.ret (.comp (.nm 9) (.rng (.int 0) (.var 6) (.int 1)) (.cmp .notin (.var 9) (.var 4)) (.var 9)))
      .nil)))⟩
theorem lfree_ok {n m r i o : Int} {cs : List Tri} (hn : 1 ≤ n ∧ n ≤ 1000) (hm : 0 ≤ m ∧ m ≤ 1000) (hl : cs.length ≤ 1000) : runF Γ w_lfree [trI (n, m, r), .list (cs.map trI), .int i, .int o] = some (.dp, LI (freeL n m cs i o)) := by
  have e1 := comp_tr (Γ := Γ) (σ := [some (.fz, trI (n, m, r)), some (.fz, .list (cs.map trI)), some (.fz, .int i), some (.fz, .int o), none, some (.fz, .int n), some (.fz, .int m), some (.fz, .int r), none, none]) (j := 8) (it := .var 1) (c := .or (.cmp .eq (.bin .div (.idx (.var 8) (.int 0)) (.var 5)) (.bin .div (.var 2) (.var 5))) (.cmp .eq (.bin .div (.idx (.var 8) (.int 1)) (.var 5)) (.bin .div (.var 3) (.var 5)))) (e := .idx (.var 8) (.int 2)) (al := []) (o := .fz)
    cs (metB n i o) (fun c => c.2.2) (by simp) (by omega) (fun x _ => by
      unfold metB
      by_cases z : x.1 / n = i / n
      · simp (disch := omega) [z, freezeL]
      · simp (disch := omega) [z, freezeL]) (fun x _ _ => by simp [freezeL])
  have e2 := comp_ints (Γ := Γ) (σ := [some (.fz, trI (n, m, r)), some (.fz, .list (cs.map trI)), some (.fz, .int i), some (.fz, .int o), some (.dp, LI (usedL n cs i o)), some (.fz, .int n), some (.fz, .int m), some (.fz, .int r), none, none]) (j := 9) (it := .rng (.int 0) (.var 6) (.int 1)) (c := .cmp .notin (.var 9) (.var 4)) (e := .var 9) (o := .dp)
    (upto m) (fun y => !decide (y ∈ usedL n cs i o)) (fun y => y) (by simp (disch := omega)) (by rw [upto_len]; omega) (fun y _ => by simp) (fun y _ _ => by simp)
  simp only [List.map_id'] at e2
  have e1' : ev Γ _ _ = some ⟨LI (usedL n cs i o), .dp, []⟩ := e1
  have e2' : ev Γ _ _ = some ⟨LI (freeL n m cs i o), .dp, []⟩ := e2
  generalize freeL n m cs i o = fl at *
  generalize usedL n cs i o = us at *
  refine runF_of (s := [some (.fz, trI (n, m, r)), some (.fz, .list (cs.map trI)), some (.fz, .int i), some (.fz, .int o), none, none, none, none, none, none]) rfl rfl (seq_one (σ' := [some (.fz, trI (n, m, r)), some (.fz, .list (cs.map trI)), some (.fz, .int i), some (.fz, .int o), none, some (.fz, .int n), some (.fz, .int m), some (.fz, .int r), none, none]) (by simp [trI]) ?_)
  simp [e1', e2']
/-- two calls of a plan that do not meet -/
def apart (n : Int) (a b : Tri) : Prop := a.1 ≠ b.1 ∧ a.2.1 ≠ b.2.1 ∧ ¬ (a.2.2 = b.2.2 ∧ (a.1 / n = b.1 / n ∨ a.2.1 / n = b.2.1 / n))
theorem apart_symm {n : Int} {a b : Tri} (h : apart n a b) : apart n b a := ⟨fun e => h.1 e.symm, fun e => h.2.1 e.symm, fun e => h.2.2 ⟨e.1.symm, e.2.imp (fun z => z.symm) (fun z => z.symm)⟩⟩
theorem okB_iff {n : Int} {a b : Tri} : okB n a b = true ↔ lt3 a b = true ∧ apart n a b := by
  unfold okB apart
  simp only [Bool.and_eq_true, Bool.not_eq_true', decide_eq_false_iff_not, Bool.and_eq_false_iff, Bool.or_eq_false_iff]
  constructor
  · rintro ⟨⟨⟨h1, h2⟩, h3⟩, h4⟩
    refine ⟨h1, h2, h3, fun ⟨e1, e2⟩ => ?_⟩
    rcases h4 with h4 | h4
    · exact h4 e1
    · exact e2.elim h4.1 h4.2
  · rintro ⟨h1, h2, h3, h4⟩
    refine ⟨⟨⟨h1, h2⟩, h3⟩, ?_⟩
    by_cases e1 : a.2.2 = b.2.2
    · exact .inr ⟨fun z => h4 ⟨e1, .inl z⟩, fun z => h4 ⟨e1, .inr z⟩⟩
    · exact .inl e1
/-- a plan -/
structure PlOk (n m r : Int) (cs : List Tri) : Prop where
  g : ∀ c ∈ cs, goodT n m r c = true
  p : cs.Pairwise (fun a b => lt3 a b = true ∧ apart n a b)
theorem PlOk.is {n m r : Int} {cs : List Tri} (h : PlOk n m r cs) : isPl n m r (.list (cs.map trI)) = true := by
  rw [isPl_tr h.g, planB_iff]
  exact h.p.imp fun h => okB_iff.mpr h
theorem goodT_iff {n m r : Int} {c : Tri} : goodT n m r c = true ↔ (0 ≤ c.1 ∧ c.1 < n * r) ∧ (0 ≤ c.2.1 ∧ c.2.1 < n * r) ∧ (0 ≤ c.2.2 ∧ c.2.2 < m) := by
  unfold goodT
  simp only [Bool.and_eq_true, decide_eq_true_eq]
  constructor
  · rintro ⟨⟨⟨⟨⟨a, b⟩, c⟩, d⟩, e⟩, f⟩; exact ⟨⟨a, d⟩, ⟨b, e⟩, c, f⟩
  · rintro ⟨⟨a, d⟩, ⟨b, e⟩, c, f⟩; exact ⟨⟨⟨⟨⟨a, b⟩, c⟩, d⟩, e⟩, f⟩
/-- sorted by what they are -/
theorem sorted_pl {n m r : Int} {cs qs : List Tri} (g : ∀ c ∈ cs, goodT n m r c = true) (a : cs.Pairwise (apart n)) (pm : List.Perm qs cs) (s : qs.Pairwise (fun a b => lt3 b a = false)) : PlOk n m r qs := by
  refine ⟨fun c hc => g c (pm.mem_iff.mp hc), ?_⟩
  have a' : qs.Pairwise (apart n) := pm.symm.pairwise a apart_symm
  refine (s.and a').imp fun {x y} ⟨h1, h2⟩ => ⟨?_, h2⟩
  rw [lt3_iff]
  rw [Bool.eq_false_iff, ne_eq, lt3_iff] at h1
  have := h2.1
  omega
theorem forT2_run {i1 i2 : Nat} {it : Ex} {body : Stms} {o : Own} {ps : List (Int × Int)} (hit : ev Γ it σ = some ⟨.list (ps.map prI), o, []⟩) (P : Nat → S → Prop)
    (hs : ∀ (i : Nat) (h : i < ps.length) (s : S), P i s → ∃ s', (execs Γ body ((s.set i1 (some (.fz, .int ps[i].1))).set i2 (some (.fz, .int ps[i].2))) = some (.nx s') ∨ execs Γ body ((s.set i1 (some (.fz, .int ps[i].1))).set i2 (some (.fz, .int ps[i].2))) = some (.ct s')) ∧ P (i + 1) s')
    (h0 : P 0 σ) : ∃ s', exec Γ (.for_ (.tp [i1, i2]) it body) σ = some (.nx s') ∧ P ps.length s' := by
  obtain ⟨s', h, p⟩ := forL_inv (step := stepF Γ (.tp [i1, i2]) body) (xs := ps.map prI) P (fun i hi s p => by
    have hi' : i < ps.length := by simpa using hi
    obtain ⟨s', h, p'⟩ := hs i hi' s p
    refine ⟨s', ?_, p'⟩
    rw [List.getElem_map]
    exact h) _ h0
  exact ⟨s', by rw [for_plain hit rfl, h], by simpa using p⟩
def w_ldrawn (c wi fr : Nat) : Fn := ⟨"_law_drawn_plan", 4, ["draws", "at", "exchange", "many", "plan", "inlet", "outlet", "free"],
    (.cons (.asg (.nm 4) (.lst .nil))
      (.cons (.for_ (.tp [5, 6]) (.call wi (.cons (.var 0) (.cons (.var 1) (.cons (.var 2) (.cons (.var 3) .nil))))) (.cons (.asg (.nm 7) (.call fr (.cons (.var 2) (.cons (.var 4) (.cons (.var 5) (.cons (.var 6) .nil))))))
      (.cons (.ite (.cmp .ne (.var 7) (.lst .nil)) (.cons (.app 4 .nil (.tup (.cons (.var 5) (.cons (.mv 6) (.cons (.idx (.var 7) (.bin .mod (.bin .div (.call c (.cons (.var 0) (.cons (.bin .add (.bin .add (.var 1) (.int 29)) (.var 5)) .nil))) (.int 3)) (.blt .len (.var 7)))) .nil)))))
      .nil) .nil)
      .nil)))
      (.cons (.ret (.blt .sorted (.var 4)))
      .nil)))⟩
theorem ldrawn_ok {c wi fr : Nat} {ds : List Int} {at' n m r many L : Int} (hc : Cells Γ c ds) (ha : 0 ≤ at') (ha2 : at' ≤ 1000) (hL : n * r = L) (hL2 : L ≤ 1000) (hwi : ∃ qs, Γ wi [LI ds, .int at', trI (n, m, r), .int many] = some (.dp, .list (qs.map prI)) ∧ WOk L qs)
    (hfr : ∀ (cs : List Tri) (i o : Int), cs.length ≤ 1000 → Γ fr [trI (n, m, r), .list (cs.map trI), .int i, .int o] = some (.dp, LI (freeL n m cs i o))) :
    ∃ cs, runF Γ (w_ldrawn c wi fr) [LI ds, .int at', trI (n, m, r), .int many] = some (.dp, .list (cs.map trI)) ∧ PlOk n m r cs ∧ (cs.length : Int) ≤ L := by
  obtain ⟨qs, e1, hq⟩ := hwi
  have hql := hq.ln
  obtain ⟨s', hf, x5, x6, x7, cs, e, q1, q2, q3, q4⟩ := forT2_run (Γ := Γ) (σ := [some (.fz, LI ds), some (.fz, .int at'), some (.fz, trI (n, m, r)), some (.fz, .int many), some (.dp, .list []), none, none, none]) (i1 := 5) (i2 := 6) (o := .dp) (ps := qs) (it := .call wi (.cons (.var 0) (.cons (.var 1) (.cons (.var 2) (.cons (.var 3) .nil)))))
    (body := (.cons (.asg (.nm 7) (.call fr (.cons (.var 2) (.cons (.var 4) (.cons (.var 5) (.cons (.var 6) .nil))))))
      (.cons (.ite (.cmp .ne (.var 7) (.lst .nil)) (.cons (.app 4 .nil (.tup (.cons (.var 5) (.cons (.mv 6) (.cons (.idx (.var 7) (.bin .mod (.bin .div (.call c (.cons (.var 0) (.cons (.bin .add (.bin .add (.var 1) (.int 29)) (.var 5)) .nil))) (.int 3)) (.blt .len (.var 7)))) .nil)))))
      .nil) .nil)
      .nil))) (by simp [e1])
    (fun i s => ∃ x5 x6 x7, ∃ cs : List Tri, s = [some (.fz, LI ds), some (.fz, .int at'), some (.fz, trI (n, m, r)), some (.fz, .int many), some (.dp, .list (cs.map trI)), x5, x6, x7] ∧ (∀ c ∈ cs, goodT n m r c = true) ∧ cs.Pairwise (apart n) ∧ cs.length ≤ i ∧ ∀ c ∈ cs, ∃ p ∈ qs.take i, p.1 = c.1 ∧ p.2 = c.2.1) (fun i hi s ⟨x5, x6, x7, cs, e, q1, q2, q3, q4⟩ => by
      subst e
      have hp1 := hq.i _ (List.getElem_mem hi)
      have hp2 := hq.o _ (List.getElem_mem hi)
      have nw : ∀ c ∈ cs, c.1 ≠ qs[i].1 ∧ c.2.1 ≠ qs[i].2 := fun c hc' => by
        obtain ⟨p, hp, h1, h2⟩ := q4 c hc'
        obtain ⟨j, hj, rfl⟩ := List.mem_iff_getElem.mp hp
        rw [List.length_take] at hj
        rw [List.getElem_take] at h1 h2
        constructor
        · intro z
          rw [← h1] at z
          have := (List.getElem_inj (xs := qs.map (fun p : Int × Int => p.1)) (i := j) (j := i) (h₀ := by simp; omega) (h₁ := by simp; omega) hq.ni).mp (by simpa using z)
          omega
        · intro z
          rw [← h2] at z
          have := (List.getElem_inj (xs := qs.map (fun p : Int × Int => p.2)) (i := j) (j := i) (h₀ := by simp; omega) (h₁ := by simp; omega) hq.no).mp (by simpa using z)
          omega
      have tk : qs.take (i + 1) = qs.take i ++ [qs[i]] := by rw [List.take_succ, List.getElem?_eq_getElem hi]; rfl
      rw [tk]
      generalize qs[i] = p at *
      have hfl := hfr cs p.1 p.2 (by omega)
      have mf := fun x => mem_free (n := n) (m := m) (cs := cs) (i := p.1) (o := p.2) (x := x)
      generalize freeL n m cs p.1 p.2 = fl at *
      by_cases z : fl = []
      · subst z
        have hfl' : Γ fr [trI (n, m, r), .list (cs.map trI), .int p.1, .int p.2] = some (.dp, .list []) := hfl
        refine ⟨_, .inl ?_, some (.fz, .int p.1), some (.fz, .int p.2), some (.dp, .list []), cs, rfl, q1, q2, by omega, fun c hc' => ?_⟩
        · simp [hfl']
        · obtain ⟨y, hy, h⟩ := q4 c hc'
          exact ⟨y, List.mem_append_left _ hy, h⟩
      · have hpos : 0 < fl.length := List.length_pos_iff.mpr z
        have hcell := hc (at' + 29 + p.1) (by omega) (by omega)
        have hmod := emod_bd (cellV ds (at' + 29 + p.1) / 3) (b := (fl.length : Int)) (by omega)
        have hmem := itI_mem (xs := fl) (i := cellV ds (at' + 29 + p.1) / 3 % (fl.length : Int)) hmod.1 hmod.2
        generalize hv : itI fl (cellV ds (at' + 29 + p.1) / 3 % (fl.length : Int)) = v at *
        have hvv := (mf v).mp hmem
        have ap := app_l (trI (p.1, p.2, v)) (cs.map trI) (by rw [List.length_map]; omega)
        refine ⟨_, .inl ?_, some (.fz, .int p.1), some (.fz, .int p.2), some (.dp, LI fl), cs ++ [(p.1, p.2, v)], rfl, ?_, ?_, by rw [List.length_append, List.length_singleton]; omega, ?_⟩
        · rw [List.map_append]
          simp (disch := first | omega | (simp; done) | fail) [hfl, z, hcell, hv, tup_tr, ap, plain_tr]
        · intro c hc'
          rcases List.mem_append.mp hc' with h | h
          · exact q1 c h
          · rw [List.mem_singleton] at h
            subst h
            rw [goodT_iff]
            exact ⟨⟨hp1.1, by rw [hL]; exact hp1.2⟩, ⟨hp2.1, by rw [hL]; exact hp2.2⟩, hvv.1⟩
        · refine List.pairwise_append.mpr ⟨q2, List.pairwise_singleton _ _, fun a ha' b hb' => ?_⟩
          rw [List.mem_singleton] at hb'
          subst hb'
          refine ⟨(nw a ha').1, (nw a ha').2, fun ⟨e1, e2⟩ => ?_⟩
          have := hvv.2 a ha' e1
          exact e2.elim this.1 this.2
        · intro c hc'
          rcases List.mem_append.mp hc' with h | h
          · obtain ⟨y, hy, hh⟩ := q4 c h
            exact ⟨y, List.mem_append_left _ hy, hh⟩
          · rw [List.mem_singleton] at h
            subst h
            exact ⟨p, by simp, rfl, rfl⟩) ⟨none, none, none, [], rfl, (fun c h => (by cases h)), List.Pairwise.nil, (by simp), (fun c h => (by cases h))⟩
  subst e
  obtain ⟨rs, es, pm, so⟩ := blt_sort_tr cs
  have h7 : ∀ x : Slot, varO 4 (some (some (.dp, .list (cs.map trI)))) = some ⟨.list (cs.map trI), .fz, [4]⟩ := fun _ => rfl
  refine ⟨rs, runF_of rfl rfl ?_, sorted_pl q1 q2 pm so, by rw [pm.length_eq]; omega⟩
  simp [w_ldrawn, hf, es]
end
end Sp
end

section
set_option Elab.async false
set_option linter.all false
set_option maxRecDepth 100000
set_option maxHeartbeats 4000000
/-! Free middles as the program tells them. -/
namespace Sp
open Sw
open PySem (PyData Str)
/-- one more call: a plan exactly if its middle is free -/
theorem plan_more {n m r i o x : Int} {cs qs : List Tri} (h : PlOk n m r cs) (hi : 0 ≤ i ∧ i < n * r) (ho : 0 ≤ o ∧ o < n * r) (hx : 0 ≤ x ∧ x < m) (ni : ∀ c ∈ cs, c.1 ≠ i) (no : ∀ c ∈ cs, c.2.1 ≠ o)
    (pm : List.Perm qs (cs ++ [(i, o, x)])) (so : qs.Pairwise (fun a b => lt3 b a = false)) : isPl n m r (.list (qs.map trI)) = decide (x ∈ freeL n m cs i o) := by
  have g : ∀ c ∈ cs ++ [(i, o, x)], goodT n m r c = true := fun c hc => by
    rcases List.mem_append.mp hc with z | z
    · exact h.g c z
    · rw [List.mem_singleton] at z
      subst z
      exact goodT_iff.mpr ⟨hi, ho, hx⟩
  by_cases z : x ∈ freeL n m cs i o
  · rw [decide_eq_true z]
    refine (sorted_pl g ?_ pm so).is
    refine List.pairwise_append.mpr ⟨h.p.imp fun h => h.2, List.pairwise_singleton _ _, fun a ha b hb => ?_⟩
    rw [List.mem_singleton] at hb
    subst hb
    have := (mem_free.mp z).2 a ha
    exact ⟨ni a ha, no a ha, fun ⟨e1, e2⟩ => e2.elim (this e1).1 (this e1).2⟩
  · rw [decide_eq_false z, isPl_tr (fun c hc => g c (pm.mem_iff.mp hc)), Bool.eq_false_iff]
    intro w
    have w1 := planB_iff.mp w
    have w2 : qs.Pairwise (apart n) := w1.imp fun h => (okB_iff.mp h).2
    have w3 := pm.pairwise w2 apart_symm
    have w4 := (List.pairwise_append.mp w3).2.2
    refine z (mem_free.mpr ⟨hx, fun c hc e => ?_⟩)
    have := (w4 c hc (i, o, x) (by simp)).2.2
    exact ⟨fun t => this ⟨e, .inl t⟩, fun t => this ⟨e, .inr t⟩⟩
section
variable {Γ : Cal} {σ : S}
def w_switch_of : Fn := ⟨"switch_of", 2, ["exchange", "line"],
    (.cons (.ret (.bin .div (.var 1) (.idx (.var 0) (.int 0))))
      .nil)⟩
theorem switch_of_ok {n m r x : Int} (hn : 1 ≤ n ∧ n ≤ 1000) : runF Γ w_switch_of [trI (n, m, r), .int x] = some (.fz, .int (x / n)) := by
  refine runF_of rfl rfl ?_
  simp (disch := omega) [w_switch_of]
def w_middles_at (sw : Nat) : Fn := ⟨"middles_at", 4, ["exchange", "plan", "side", "switch", "call"],
    (.cons (.ret (.comp (.nm 4) (.var 1) (.cmp .eq (.call sw (.cons (.var 0) (.cons (.idx (.var 4) (.var 2)) .nil))) (.var 3)) (.idx (.var 4) (.int 2))))
      .nil)⟩
theorem middles0_ok {sw : Nat} {n m r s : Int} {cs : List Tri} (hl : cs.length ≤ 1000) (hs : ∀ x : Int, Γ sw [trI (n, m, r), .int x] = some (.fz, .int (x / n))) : runF Γ (w_middles_at sw) [trI (n, m, r), .list (cs.map trI), .int 0, .int s] = some (.dp, LI ((cs.filter fun c => decide (c.1 / n = s)).map (·.2.2))) := by
  have e1 := comp_tr (Γ := Γ) (σ := [some (.fz, trI (n, m, r)), some (.fz, .list (cs.map trI)), some (.fz, .int 0), some (.fz, .int s), none]) (j := 4) (it := .var 1) (c := .cmp .eq (.call sw (.cons (.var 0) (.cons (.idx (.var 4) (.var 2)) .nil))) (.var 3)) (e := .idx (.var 4) (.int 2)) (al := []) (o := .fz)
    cs (fun c => decide (c.1 / n = s)) (fun c => c.2.2) (by simp) (by omega) (fun x _ => by simp [freezeL, hs]) (fun x _ _ => by simp [freezeL])
  refine runF_of rfl rfl ?_
  generalize (cs.filter fun c => decide (c.1 / n = s)).map (fun c => c.2.2) = u at *
  simp [w_middles_at, e1]
theorem middles1_ok {sw : Nat} {n m r s : Int} {cs : List Tri} (hl : cs.length ≤ 1000) (hs : ∀ x : Int, Γ sw [trI (n, m, r), .int x] = some (.fz, .int (x / n))) : runF Γ (w_middles_at sw) [trI (n, m, r), .list (cs.map trI), .int 1, .int s] = some (.dp, LI ((cs.filter fun c => decide (c.2.1 / n = s)).map (·.2.2))) := by
  have e1 := comp_tr (Γ := Γ) (σ := [some (.fz, trI (n, m, r)), some (.fz, .list (cs.map trI)), some (.fz, .int 1), some (.fz, .int s), none]) (j := 4) (it := .var 1) (c := .cmp .eq (.call sw (.cons (.var 0) (.cons (.idx (.var 4) (.var 2)) .nil))) (.var 3)) (e := .idx (.var 4) (.int 2)) (al := []) (o := .fz)
    cs (fun c => decide (c.2.1 / n = s)) (fun c => c.2.2) (by simp) (by omega) (fun x _ => by simp [freezeL, hs]) (fun x _ _ => by simp [freezeL])
  refine runF_of rfl rfl ?_
  generalize (cs.filter fun c => decide (c.2.1 / n = s)).map (fun c => c.2.2) = u at *
  simp [w_middles_at, e1]
def w_free_middles (sw mi : Nat) : Fn := ⟨"free_middles", 4, ["exchange", "plan", "inlet", "outlet", "used", "middle"],
    (.cons (.asg (.nm 4) (.call mi (.cons (.var 0) (.cons (.var 1) (.cons (.int 0) (.cons (.call sw (.cons (.var 0) (.cons (.var 2) .nil))) .nil))))))
      (.cons (.asg (.nm 4) (.bin .add (.var 4) (.call mi (.cons (.var 0) (.cons (.var 1) (.cons (.int 1) (.cons (.call sw (.cons (.var 0) (.cons (.var 3) .nil))) .nil)))))))
      (.cons (.ret (.comp (.nm 5) (.rng (.int 0) (.idx (.var 0) (.int 1)) (.int 1)) (.cmp .notin (.var 5) (.var 4)) (.var 5)))
      .nil)))⟩
theorem cat_LI (xs ys : List Int) (h : xs.length + ys.length ≤ 16777216) (o p : Own) (al bl : List Nat) : binD .add ⟨LI xs, o, al⟩ ⟨LI ys, p, bl⟩ = some ⟨LI (xs ++ ys), .dp, []⟩ := by
  have := c_catP (xs.map .int) (ys.map .int) (by simpa using h) (plains_int _) (plains_int _) o p al bl
  rw [this, ← List.map_append]
theorem free_middles_ok {sw mi : Nat} {n m r i o : Int} {cs : List Tri} (hm : 0 ≤ m ∧ m ≤ 1000) (hl : cs.length ≤ 1000) (hs : ∀ x : Int, Γ sw [trI (n, m, r), .int x] = some (.fz, .int (x / n)))
    (h0 : ∀ s : Int, Γ mi [trI (n, m, r), .list (cs.map trI), .int 0, .int s] = some (.dp, LI ((cs.filter fun c => decide (c.1 / n = s)).map (·.2.2)))) (h1 : ∀ s : Int, Γ mi [trI (n, m, r), .list (cs.map trI), .int 1, .int s] = some (.dp, LI ((cs.filter fun c => decide (c.2.1 / n = s)).map (·.2.2)))) :
    runF Γ (w_free_middles sw mi) [trI (n, m, r), .list (cs.map trI), .int i, .int o] = some (.dp, LI (freeL n m cs i o)) := by
  have a0 := h0 (i / n)
  have a1 := h1 (o / n)
  have l0 : ((cs.filter fun c => decide (c.1 / n = i / n)).map (·.2.2)).length ≤ 1000 := by
    rw [List.length_map]; have := List.length_filter_le (fun c : Tri => decide (c.1 / n = i / n)) cs; omega
  have l1 : ((cs.filter fun c => decide (c.2.1 / n = o / n)).map (·.2.2)).length ≤ 1000 := by
    rw [List.length_map]; have := List.length_filter_le (fun c : Tri => decide (c.2.1 / n = o / n)) cs; omega
  have ef : ((upto m).filter fun y => !decide (y ∈ (cs.filter fun c => decide (c.1 / n = i / n)).map (·.2.2) ++ (cs.filter fun c => decide (c.2.1 / n = o / n)).map (·.2.2))) = freeL n m cs i o := by
    unfold freeL
    refine List.filter_congr fun y _ => ?_
    congr 2
    refine propext ?_
    unfold usedL metB
    simp only [List.mem_append, List.mem_map, List.mem_filter, decide_eq_true_eq, Bool.or_eq_true]
    constructor
    · rintro (⟨c, ⟨h1, h2⟩, h3⟩ | ⟨c, ⟨h1, h2⟩, h3⟩)
      · exact ⟨c, ⟨h1, .inl h2⟩, h3⟩
      · exact ⟨c, ⟨h1, .inr h2⟩, h3⟩
    · rintro ⟨c, ⟨h1, h2 | h2⟩, h3⟩
      · exact .inl ⟨c, ⟨h1, h2⟩, h3⟩
      · exact .inr ⟨c, ⟨h1, h2⟩, h3⟩
  generalize (cs.filter fun c => decide (c.1 / n = i / n)).map (fun c => c.2.2) = A at *
  generalize (cs.filter fun c => decide (c.2.1 / n = o / n)).map (fun c => c.2.2) = B at *
  have ct := fun o p al bl => cat_LI A B (by omega) o p al bl
  generalize A ++ B = C at *
  have e2 := comp_ints (Γ := Γ) (σ := [some (.fz, trI (n, m, r)), some (.fz, .list (cs.map trI)), some (.fz, .int i), some (.fz, .int o), some (.dp, LI (C)), none]) (j := 5) (it := .rng (.int 0) (.idx (.var 0) (.int 1)) (.int 1)) (c := .cmp .notin (.var 5) (.var 4)) (e := .var 5) (o := .dp)
    (upto m) (fun y => !decide (y ∈ C)) (fun y => y) (by simp (disch := omega)) (by rw [upto_len]; omega) (fun y _ => by simp) (fun y _ _ => by simp)
  simp only [List.map_id'] at e2
  rw [ef] at e2
  generalize freeL n m cs i o = fl at *
  refine runF_of rfl rfl ?_
  simp [w_free_middles, hs, a0, a1, ct, e2]
/-! ### slices of lists of pairs with a step -/
theorem everyA_mem {α : Type} {st : Nat} : ∀ {k : Nat} {xs : List α} {x : α}, x ∈ everyA st k xs → x ∈ xs
  | _, [], x, h => by simp [everyA] at h
  | 0, y :: ys, x, h => by
    rw [everyA, List.mem_cons] at h
    rcases h with rfl | h
    · simp
    · exact List.mem_cons_of_mem _ (everyA_mem h)
  | k + 1, y :: ys, x, h => by
    rw [everyA] at h
    exact List.mem_cons_of_mem _ (everyA_mem h)
theorem everyA_len {α : Type} {st : Nat} : ∀ {k : Nat} {xs : List α}, (everyA st k xs).length ≤ xs.length
  | _, [] => by simp [everyA]
  | 0, y :: ys => by rw [everyA, List.length_cons, List.length_cons]; have := everyA_len (st := st) (k := st - 1) (xs := ys); omega
  | k + 1, y :: ys => by rw [everyA, List.length_cons]; have := everyA_len (st := st) (k := k) (xs := ys); omega
theorem everyA_map {α : Type} (enc : α → PyData) (st : Nat) : ∀ (k : Nat) (ys : List α), everyA st k (ys.map enc) = (everyA st k ys).map enc
  | _, [] => by simp [everyA]
  | 0, y :: ys => by simp [everyA, everyA_map enc st (st - 1) ys]
  | k + 1, y :: ys => by simp [everyA, everyA_map enc st k ys]
def stpA {α : Type} (l k : Int) (xs : List α) : List α := everyA k.toNat 0 (xs.drop l.toNat)
theorem stpA_mem {α : Type} {l k : Int} {xs : List α} {x : α} (h : x ∈ stpA l k xs) : x ∈ xs := List.mem_of_mem_drop (everyA_mem h)
theorem stpA_len {α : Type} {l k : Int} {xs : List α} : (stpA l k xs).length ≤ xs.length := by
  unfold stpA
  have := everyA_len (st := k.toNat) (k := 0) (xs := xs.drop l.toNat)
  rw [List.length_drop] at this
  omega
theorem stp_P {ps : List (Int × Int)} {l k : Int} (h : 0 ≤ l ∧ l < 1000000) (h2 : 0 < k ∧ k < 1000000) (o : Own) (al : List Nat) : stpR ⟨.list (ps.map prI), o, al⟩ (.int l) (.int k) = some ⟨.list ((stpA l k ps).map prI), .dp, []⟩ := by
  show (if _ then _ else _) = _
  rw [if_pos ⟨h.1, by omega, h2.1, by omega⟩, ← List.map_drop, everyA_map, newL_pr]
  rfl
theorem free_bd {n m : Int} {cs : List Tri} {i o : Int} (hm : m ≤ 12) : Bd 2 (LI (freeL n m cs i o)) :=
  bd_mono (bd_LIs (fun x hx => by
    have := (mem_free.mp hx).1
    have : (50 : Nat) < 10 ^ 40 := by decide
    omega) (by
      unfold freeL
      have := List.length_filter_le (fun y => !decide (y ∈ usedL n cs i o)) (upto m)
      rw [upto_len] at this
      omega))
theorem lst_tr1 (c : Tri) (o : Own) (al : List Nat) : listOf [⟨trI c, o, al⟩] [] = ⟨.list [trI c], .dp, []⟩ := listOf_ok rfl
theorem cat_T (xs ys : List Tri) (h : xs.length + ys.length ≤ 16777216) (o p : Own) (al bl : List Nat) : binD .add ⟨.list (xs.map trI), o, al⟩ ⟨.list (ys.map trI), p, bl⟩ = some ⟨.list ((xs ++ ys).map trI), .dp, []⟩ := by
  rw [c_catP _ _ (by simpa using h) (plains_tr _) (plains_tr _), ← List.map_append]
def w_told64 (fr fm ip : Nat) : Fn := ⟨"_law_told", 4, ["exchange", "plan", "inlet", "outlet", "due", "passed", "told", "middle"],
    (.cons (.asg (.nm 4) (.call fr (.cons (.var 0) (.cons (.var 1) (.cons (.var 2) (.cons (.var 3) .nil))))))
      (.cons (.asg (.nm 5) (.blt .list (.var 1)))
      (.cons (.asg (.nm 6) (.call fm (.cons (.var 0) (.cons (.var 5) (.cons (.var 2) (.cons (.var 3) .nil))))))
      (.cons (.ite (.or (.cmp .ne (.var 5) (.var 1)) (.cmp .ne (.blt .repr (.var 6)) (.blt .repr (.var 4)))) (.cons (.ret (.bl false))
      .nil) .nil)
      (.cons (.for_ (.nm 7) (.rng (.int 0) (.idx (.var 0) (.int 1)) (.int 1)) (.cons (.ite (.cmp .ne (.call ip (.cons (.var 0) (.cons (.blt .sorted (.bin .add (.var 1) (.lst (.cons (.tup (.cons (.var 2) (.cons (.var 3) (.cons (.var 7) .nil)))) .nil)))) .nil))) (.cmp .isin (.var 7) (.var 4))) (.cons (.ret (.bl false))
      .nil) .nil)
      .nil))
      (.cons (.app 6 .nil (.int 0))
      (.cons (.ret (.cmp .eq (.call fm (.cons (.var 0) (.cons (.var 5) (.cons (.var 2) (.cons (.var 3) .nil))))) (.var 4)))
      .nil)))))))⟩
theorem told64_ok {fr fm ip : Nat} {n m r i o : Int} {cs : List Tri} (hm : 1 ≤ m ∧ m ≤ 12) (h : PlOk n m r cs) (hl : cs.length ≤ 900) (hi : 0 ≤ i ∧ i < n * r) (ho : 0 ≤ o ∧ o < n * r) (ni : ∀ c ∈ cs, c.1 ≠ i) (no : ∀ c ∈ cs, c.2.1 ≠ o)
    (h1 : Γ fr [trI (n, m, r), .list (cs.map trI), .int i, .int o] = some (.dp, LI (freeL n m cs i o))) (h2 : Γ fm [trI (n, m, r), .list (cs.map trI), .int i, .int o] = some (.dp, LI (freeL n m cs i o)))
    (h3 : ∀ qs : List Tri, qs.length ≤ 1000 → Γ ip [trI (n, m, r), .list (qs.map trI)] = some (.fz, .bool (isPl n m r (.list (qs.map trI))))) : runF Γ (w_told64 fr fm ip) [trI (n, m, r), .list (cs.map trI), .int i, .int o] = some (.fz, .bool true) := by
  have pmr := fun x qs hx pm so => plan_more (x := x) (qs := qs) h hi ho hx ni no pm so
  have bd := free_bd (n := n) (m := m) (cs := cs) (i := i) (o := o) hm.2
  have fl : (freeL n m cs i o).length ≤ 12 := by
    unfold freeL
    have := List.length_filter_le (fun y => !decide (y ∈ usedL n cs i o)) (upto m)
    rw [upto_len] at this
    omega
  generalize freeL n m cs i o = f at *
  have bl : ∀ (o : Own) (al : List Nat), bltR .list ⟨.list (cs.map trI), o, al⟩ = some ⟨.list (cs.map trI), .dp, []⟩ := fun o al => congrArg some (newL_tr cs al)
  have c1 := c_selfN (shp_trs cs)
  have r1 := blt_repr bd .fz [6]
  have r2 := blt_repr bd .fz [4]
  have c2 := c_shown bd
  have ap := app_LI 0 f (by omega)
  obtain ⟨s', hf, x7, e⟩ := forI_run (Γ := Γ) (σ := [some (.fz, trI (n, m, r)), some (.fz, .list (cs.map trI)), some (.fz, .int i), some (.fz, .int o), some (.dp, LI f), some (.dp, .list (cs.map trI)), some (.dp, LI f), none]) (j := 7) (o := .dp) (ys := upto m) (it := .rng (.int 0) (.idx (.var 0) (.int 1)) (.int 1))
    (body := (.cons (.ite (.cmp .ne (.call ip (.cons (.var 0) (.cons (.blt .sorted (.bin .add (.var 1) (.lst (.cons (.tup (.cons (.var 2) (.cons (.var 3) (.cons (.var 7) .nil)))) .nil)))) .nil))) (.cmp .isin (.var 7) (.var 4))) (.cons (.ret (.bl false)) .nil) .nil) .nil)) (by simp (disch := omega))
    (fun t s => ∃ x7, s = [some (.fz, trI (n, m, r)), some (.fz, .list (cs.map trI)), some (.fz, .int i), some (.fz, .int o), some (.dp, LI f), some (.dp, .list (cs.map trI)), some (.dp, LI f), x7]) (fun t ht s ⟨x7, e⟩ => by
      subst e
      rw [upto_get ht]
      rw [upto_len] at ht
      have ct := cat_T cs [(i, o, (t : Int))] (by simp; omega)
      obtain ⟨qs, es, pm, so⟩ := blt_sort_tr (cs ++ [(i, o, (t : Int))])
      have ql : qs.length ≤ 1000 := by rw [pm.length_eq, List.length_append, List.length_singleton]; omega
      have hp := h3 qs ql
      rw [pmr t qs (by omega) pm so] at hp
      generalize cs ++ [(i, o, (t : Int))] = ds at ct es
      refine ⟨_, .inl ?_, some (.fz, .int t), rfl⟩
      have ct' := fun al => ct .fz .dp al []
      have e1 : [(i, o, (t : Int))].map trI = [trI (i, o, (t : Int))] := rfl
      rw [e1] at ct'
      simp (disch := first | omega | (simp; done) | fail) [tup_tr, lst_tr1, ct', es, hp]) ⟨none, rfl⟩
  subst e
  refine runF_of rfl rfl ?_
  simp (disch := first | omega | (simp; done) | fail) [w_told64, h1, h2, bl, c1, r1, r2, c2, hf, ap]
end
end Sp
end

section
set_option Elab.async false
set_option linter.all false
set_option maxRecDepth 100000
set_option maxHeartbeats 4000000
namespace CW
open PySem PySem.Spec PyProof.Rows L2 Sw
/-! ### the functions -/
def top (i : Nat) : Stmt := PySem.Challenge.pw_switchways_k64_free_middles.main.body.getD i (.Pass ⟨0, 0, 0, 0⟩)
def fns : List Str := ["switch_of", "middles_at", "free_middles", "_law_draws", "_law_cell", "_law_is_number", "_law_is_numbers", "_law_order", "_law_exchange", "_law_wished", "_law_is_plan", "_law_free", "_law_drawn_plan", "_law_told", "law"]
def f_switch_of : Fn := ⟨"switch_of", 2, ["exchange", "line"],
    (.cons (.ret (.bin .div (.var 1) (.idx (.var 0) (.int 0))))
      .nil)⟩
def f_middles_at : Fn := ⟨"middles_at", 4, ["exchange", "plan", "side", "switch", "call"],
    (.cons (.ret (.comp (.nm 4) (.var 1) (.cmp .eq (.call 0 (.cons (.var 0) (.cons (.idx (.var 4) (.var 2)) .nil))) (.var 3)) (.idx (.var 4) (.int 2))))
      .nil)⟩
def f_free_middles : Fn := ⟨"free_middles", 4, ["exchange", "plan", "inlet", "outlet", "used", "middle"],
    (.cons (.asg (.nm 4) (.call 1 (.cons (.var 0) (.cons (.var 1) (.cons (.int 0) (.cons (.call 0 (.cons (.var 0) (.cons (.var 2) .nil))) .nil))))))
      (.cons (.asg (.nm 4) (.bin .add (.var 4) (.call 1 (.cons (.var 0) (.cons (.var 1) (.cons (.int 1) (.cons (.call 0 (.cons (.var 0) (.cons (.var 3) .nil))) .nil)))))))
      (.cons (.ret (.comp (.nm 5) (.rng (.int 0) (.idx (.var 0) (.int 1)) (.int 1)) (.cmp .notin (.var 5) (.var 4)) (.var 5)))
      .nil)))⟩
def f__law_draws : Fn := ⟨"_law_draws", 2, ["script", "many", "found", "cell", "k", "number", "mixed", "base"],
    (.cons (.asg (.nm 2) (.lst .nil))
      (.cons (.for_ (.nm 3) (.slc (.var 0) .non (.int 63)) (.cons (.asg (.nm 5) (.blt .abs (.blt .int (.var 3))))
      (.cons (.ite (.cmp .ge (.var 5) (.bin .pow (.int 10) (.int 18))) (.cons (.for_ (.nm 4) (.rng (.int 0) (.int 60) (.int 1)) (.cons (.ite (.cmp .gt (.var 5) (.int 0)) (.cons (.app 2 .nil (.bin .mod (.var 5) (.int 1000003)))
      (.cons (.asg (.nm 5) (.bin .div (.var 5) (.int 1000003)))
      .nil)) .nil)
      .nil))
      .nil) (.cons (.asg (.nm 6) (.bin .mod (.bin .add (.bin .add (.bin .mul (.var 5) (.int 48271)) (.bin .mul (.int 7) (.blt .len (.var 2)))) (.int 11)) (.int 2147483647)))
      (.cons (.for_ (.nm 4) (.rng (.int 0) (.int 4) (.int 1)) (.cons (.asg (.nm 6) (.bin .mod (.bin .add (.bin .add (.bin .add (.bin .mul (.var 6) (.int 69621)) (.bin .div (.var 6) (.int 65536))) (.bin .mul (.int 13) (.var 4))) (.int 5)) (.int 2147483629)))
      (.cons (.app 2 .nil (.bin .mod (.bin .div (.var 6) (.int 8)) (.int 1000003)))
      .nil)))
      .nil)))
      .nil)))
      (.cons (.for_ (.nm 4) (.rng (.int 0) (.var 1) (.int 1)) (.cons (.ite (.cmp .lt (.blt .len (.var 2)) (.var 1)) (.cons (.asg (.nm 7) (.int 0))
      (.cons (.ite (.cmp .gt (.blt .len (.var 2)) (.int 0)) (.cons (.asg (.nm 7) (.idx (.var 2) (.bin .mod (.var 4) (.blt .len (.var 2)))))
      .nil) .nil)
      (.cons (.app 2 .nil (.bin .mod (.bin .add (.bin .add (.bin .mul (.var 7) (.int 16807)) (.bin .mul (.int 31) (.blt .len (.var 2)))) (.int 17)) (.int 1000003)))
      .nil))) .nil)
      .nil))
      (.cons (.ret (.slc (.var 2) .non (.var 1)))
      .nil))))⟩
def f__law_cell : Fn := ⟨"_law_cell", 2, ["draws", "k"],
    (.cons (.ite (.cmp .lt (.var 1) (.blt .len (.var 0))) (.cons (.ret (.idx (.var 0) (.var 1)))
      .nil) .nil)
      (.cons (.ret (.bin .mod (.bin .add (.bin .add (.bin .mul (.idx (.var 0) (.bin .mod (.var 1) (.blt .len (.var 0)))) (.int 31)) (.bin .mul (.idx (.var 0) (.bin .mod (.bin .mul (.int 7) (.var 1)) (.blt .len (.var 0)))) (.int 17))) (.bin .mul (.int 101) (.var 1))) (.int 1000003)))
      .nil))⟩
def f__law_is_number : Fn := ⟨"_law_is_number", 1, ["value"],
    (.cons (.ret (.and (.isi (.var 0) .int) (.not (.isi (.var 0) .bool))))
      .nil)⟩
def f__law_is_numbers : Fn := ⟨"_law_is_numbers", 1, ["value", "item"],
    (.cons (.ite (.not (.tru (.isi (.var 0) .list))) (.cons (.ret (.bl false))
      .nil) .nil)
      (.cons (.for_ (.nm 1) (.var 0) (.cons (.ite (.not (.tru (.call 5 (.cons (.var 1) .nil)))) (.cons (.ret (.bl false))
      .nil) .nil)
      .nil))
      (.cons (.ret (.bl true))
      .nil)))⟩
def f__law_order : Fn := ⟨"_law_order", 3, ["draws", "at", "n", "line", "thing"],
    (.cons (.asg (.nm 3) (.lst .nil))
      (.cons (.for_ (.nm 4) (.rng (.int 0) (.var 2) (.int 1)) (.cons (.ins 3 (.bin .mod (.bin .div (.call 4 (.cons (.var 0) (.cons (.bin .add (.var 1) (.var 4)) .nil))) (.int 5)) (.bin .add (.var 4) (.int 1))) (.var 4))
      .nil))
      (.cons (.ret (.mv 3))
      .nil)))⟩
def f__law_exchange : Fn := ⟨"_law_exchange", 3, ["draws", "at", "most", "n", "m", "r"],
    (.cons (.unp [(.nm 3), (.nm 4), (.nm 5)] (.tup (.cons (.bin .add (.int 1) (.bin .mod (.call 4 (.cons (.var 0) (.cons (.var 1) .nil))) (.int 4))) (.cons (.bin .add (.int 1) (.bin .mod (.call 4 (.cons (.var 0) (.cons (.bin .add (.var 1) (.int 1)) .nil))) (.int 6))) (.cons (.bin .add (.int 1) (.bin .mod (.call 4 (.cons (.var 0) (.cons (.bin .add (.var 1) (.int 2)) .nil))) (.int 4))) .nil)))))
      (.cons (.ite (.cmp .eq (.bin .mod (.call 4 (.cons (.var 0) (.cons (.bin .add (.var 1) (.int 3)) .nil))) (.int 8)) (.int 5)) (.cons (.unp [(.nm 3), (.nm 4)] (.tup (.cons (.bin .add (.int 1) (.bin .mod (.call 4 (.cons (.var 0) (.cons (.var 1) .nil))) (.int 8))) (.cons (.bin .add (.int 1) (.bin .mod (.call 4 (.cons (.var 0) (.cons (.bin .add (.var 1) (.int 1)) .nil))) (.int 12))) .nil))))
      .nil) .nil)
      (.cons (.while_ (.cmp .gt (.bin .mul (.var 3) (.var 5)) (.var 2)) (.cons (.asg (.nm 5) (.bin .sub (.var 5) (.int 1)))
      (.cons (.ite (.cmp .eq (.var 5) (.int 0)) (.cons (.unp [(.nm 3), (.nm 5)] (.tup (.cons (.var 2) (.cons (.int 1) .nil))))
      .nil) .nil)
      .nil)))
      (.cons (.ret (.tup (.cons (.mv 3) (.cons (.mv 4) (.cons (.mv 5) .nil)))))
      .nil))))⟩
def f__law_wished : Fn := ⟨"_law_wished", 4, ["draws", "at", "exchange", "many", "lines", "inlets", "outlets", "j"],
    (.cons (.asg (.nm 4) (.bin .mul (.idx (.var 2) (.int 0)) (.idx (.var 2) (.int 2))))
      (.cons (.unp [(.nm 5), (.nm 6)] (.tup (.cons (.call 7 (.cons (.var 0) (.cons (.var 1) (.cons (.var 4) .nil)))) (.cons (.call 7 (.cons (.var 0) (.cons (.bin .add (.var 1) (.int 13)) (.cons (.var 4) .nil)))) .nil))))
      (.cons (.ret (.blt .sorted (.comp (.nm 7) (.rng (.int 0) (.min2 (.var 3) (.var 4)) (.int 1)) (.bl true) (.tup (.cons (.idx (.var 5) (.var 7)) (.cons (.idx (.var 6) (.var 7)) .nil))))))
      .nil)))⟩
def f__law_is_plan : Fn := ⟨"_law_is_plan", 2, ["exchange", "value", "call", "k", "n", "m", "r", "j", "one", "other"],
    (.cons (.unp [(.nm 4), (.nm 5), (.nm 6)] (.mv 0))
      (.cons (.ite (.not (.tru (.isi (.var 1) .list))) (.cons (.ret (.bl false))
      .nil) .nil)
      (.cons (.for_ (.nm 2) (.var 1) (.cons (.ite (.or (.not (.tru (.isi (.var 2) .tuple))) (.or (.cmp .ne (.blt .len (.var 2)) (.int 3)) (.not (.tru (.call 6 (.cons (.blt .list (.var 2)) .nil)))))) (.cons (.ret (.bl false))
      .nil) .nil)
      (.cons (.ite (.or (.cmp .lt (.blt .minL (.var 2)) (.int 0)) (.or (.cmp .ge (.max2 (.idx (.var 2) (.int 0)) (.idx (.var 2) (.int 1))) (.bin .mul (.var 4) (.var 6))) (.cmp .ge (.idx (.var 2) (.int 2)) (.var 5)))) (.cons (.ret (.bl false))
      .nil) .nil)
      .nil)))
      (.cons (.for_ (.nm 3) (.rng (.int 0) (.blt .len (.var 1)) (.int 1)) (.cons (.for_ (.nm 7) (.rng (.int 0) (.var 3) (.int 1)) (.cons (.unp [(.nm 8), (.nm 9)] (.tup (.cons (.idx (.var 1) (.var 7)) (.cons (.idx (.var 1) (.var 3)) .nil))))
      (.cons (.ite (.or (.cmp .ge (.var 8) (.var 9)) (.or (.cmp .eq (.idx (.var 8) (.int 0)) (.idx (.var 9) (.int 0))) (.cmp .eq (.idx (.var 8) (.int 1)) (.idx (.var 9) (.int 1))))) (.cons (.ret (.bl false))
      .nil) .nil)
      (.cons (.ite (.and (.cmp .eq (.idx (.var 8) (.int 2)) (.idx (.var 9) (.int 2))) (.or (.cmp .eq (.bin .div (.idx (.var 8) (.int 0)) (.var 4)) (.bin .div (.idx (.var 9) (.int 0)) (.var 4))) (.cmp .eq (.bin .div (.idx (.var 8) (.int 1)) (.var 4)) (.bin .div (.idx (.var 9) (.int 1)) (.var 4))))) (.cons (.ret (.bl false))
      .nil) .nil)
      .nil))))
      .nil))
      (.cons (.ret (.bl true))
      .nil)))))⟩
def f__law_free : Fn := ⟨"_law_free", 4, ["exchange", "plan", "inlet", "outlet", "used", "n", "m", "r", "call", "middle"],
    (.cons (.unp [(.nm 5), (.nm 6), (.nm 7)] (.mv 0))
      (.cons (.asg (.nm 4) (.comp (.nm 8) (.var 1) (.or (.cmp .eq (.bin .div (.idx (.var 8) (.int 0)) (.var 5)) (.bin .div (.var 2) (.var 5))) (.cmp .eq (.bin .div (.idx (.var 8) (.int 1)) (.var 5)) (.bin .div (.var 3) (.var 5)))) (.idx (.var 8) (.int 2))))
      (.cons (.ret (.comp (.nm 9) (.rng (.int 0) (.var 6) (.int 1)) (.cmp .notin (.var 9) (.var 4)) (.var 9)))
      .nil)))⟩
def f__law_drawn_plan : Fn := ⟨"_law_drawn_plan", 4, ["draws", "at", "exchange", "many", "plan", "inlet", "outlet", "free"],
    (.cons (.asg (.nm 4) (.lst .nil))
      (.cons (.for_ (.tp [5, 6]) (.call 9 (.cons (.var 0) (.cons (.var 1) (.cons (.var 2) (.cons (.var 3) .nil))))) (.cons (.asg (.nm 7) (.call 11 (.cons (.var 2) (.cons (.var 4) (.cons (.var 5) (.cons (.var 6) .nil))))))
      (.cons (.ite (.cmp .ne (.var 7) (.lst .nil)) (.cons (.app 4 .nil (.tup (.cons (.var 5) (.cons (.mv 6) (.cons (.idx (.var 7) (.bin .mod (.bin .div (.call 4 (.cons (.var 0) (.cons (.bin .add (.bin .add (.var 1) (.int 29)) (.var 5)) .nil))) (.int 3)) (.blt .len (.var 7)))) .nil)))))
      .nil) .nil)
      .nil)))
      (.cons (.ret (.blt .sorted (.var 4)))
      .nil)))⟩
def f__law_told : Fn := ⟨"_law_told", 4, ["exchange", "plan", "inlet", "outlet", "due", "passed", "told", "middle"],
    (.cons (.asg (.nm 4) (.call 11 (.cons (.var 0) (.cons (.var 1) (.cons (.var 2) (.cons (.var 3) .nil))))))
      (.cons (.asg (.nm 5) (.blt .list (.var 1)))
      (.cons (.asg (.nm 6) (.call 2 (.cons (.var 0) (.cons (.var 5) (.cons (.var 2) (.cons (.var 3) .nil))))))
      (.cons (.ite (.or (.cmp .ne (.var 5) (.var 1)) (.cmp .ne (.blt .repr (.var 6)) (.blt .repr (.var 4)))) (.cons (.ret (.bl false))
      .nil) .nil)
      (.cons (.for_ (.nm 7) (.rng (.int 0) (.idx (.var 0) (.int 1)) (.int 1)) (.cons (.ite (.cmp .ne (.call 10 (.cons (.var 0) (.cons (.blt .sorted (.bin .add (.var 1) (.lst (.cons (.tup (.cons (.var 2) (.cons (.var 3) (.cons (.var 7) .nil)))) .nil)))) .nil))) (.cmp .isin (.var 7) (.var 4))) (.cons (.ret (.bl false))
      .nil) .nil)
      .nil))
      (.cons (.app 6 .nil (.int 0))
      (.cons (.ret (.cmp .eq (.call 2 (.cons (.var 0) (.cons (.var 5) (.cons (.var 2) (.cons (.var 3) .nil))))) (.var 4)))
      .nil)))))))⟩
def f_law : Fn := ⟨"law", 1, ["script", "draws", "exchange", "lines", "many", "plan", "used", "pairs", "inlet", "outlet", "side", "call"],
    (.cons (.asg (.nm 1) (.call 3 (.cons (.var 0) (.cons (.int 80) .nil))))
      (.cons (.asg (.nm 2) (.call 8 (.cons (.var 1) (.cons (.int 0) (.cons (.int 12) .nil)))))
      (.cons (.asg (.nm 3) (.bin .mul (.idx (.var 2) (.int 0)) (.idx (.var 2) (.int 2))))
      (.cons (.for_ (.nm 4) (.lst (.cons (.bin .mod (.idx (.var 1) (.int 60)) (.bin .add (.var 3) (.int 1))) (.cons (.bin .sub (.var 3) (.int 1)) .nil))) (.cons (.asg (.nm 5) (.call 12 (.cons (.var 1) (.cons (.bin .add (.int 4) (.bin .mod (.var 4) (.int 9))) (.cons (.var 2) (.cons (.var 4) .nil))))))
      (.cons (.asg (.nm 6) (.comp (.nm 10) (.rng (.int 0) (.int 2) (.int 1)) (.bl true) (.comp (.nm 11) (.var 5) (.bl true) (.idx (.var 11) (.var 10)))))
      (.cons (.asg (.nm 7) (.lst .nil))
      (.cons (.for_ (.nm 8) (.rng (.int 0) (.var 3) (.int 1)) (.cons (.asg (.nm 7) (.bin .add (.var 7) (.comp (.nm 9) (.rng (.int 0) (.var 3) (.int 1)) (.and (.cmp .notin (.var 8) (.idx (.var 6) (.int 0))) (.cmp .notin (.var 9) (.idx (.var 6) (.int 1)))) (.tup (.cons (.var 8) (.cons (.var 9) .nil))))))
      .nil))
      (.cons (.ite (.cmp .gt (.blt .len (.var 7)) (.int 12)) (.cons (.asg (.nm 7) (.stp (.var 7) (.bin .mod (.idx (.var 1) (.int 61)) (.bin .div (.blt .len (.var 7)) (.int 6))) (.bin .div (.blt .len (.var 7)) (.int 6))))
      .nil) .nil)
      (.cons (.for_ (.tp [8, 9]) (.var 7) (.cons (.ite (.not (.tru (.call 13 (.cons (.var 2) (.cons (.var 5) (.cons (.var 8) (.cons (.var 9) .nil))))))) (.cons (.ret (.bl false))
      .nil) .nil)
      .nil))
      .nil)))))))
      (.cons (.ite (.or (.cmp .ne (.call 2 (.cons (.tup (.cons (.int 2) (.cons (.int 3) (.cons (.int 2) .nil)))) (.cons (.lst (.cons (.tup (.cons (.int 0) (.cons (.int 2) (.cons (.int 0) .nil)))) (.cons (.tup (.cons (.int 2) (.cons (.int 0) (.cons (.int 2) .nil)))) .nil))) (.cons (.int 1) (.cons (.int 1) .nil))))) (.lst (.cons (.int 1) .nil))) (.cmp .ne (.call 2 (.cons (.tup (.cons (.int 2) (.cons (.int 2) (.cons (.int 2) .nil)))) (.cons (.lst (.cons (.tup (.cons (.int 0) (.cons (.int 2) (.cons (.int 0) .nil)))) (.cons (.tup (.cons (.int 2) (.cons (.int 0) (.cons (.int 1) .nil)))) .nil))) (.cons (.int 1) (.cons (.int 1) .nil))))) (.lst .nil))) (.cons (.ret (.bl false))
      .nil) .nil)
      (.cons (.ret (.cmp .eq (.call 2 (.cons (.tup (.cons (.int 1) (.cons (.int 2) (.cons (.int 2) .nil)))) (.cons (.lst .nil) (.cons (.int 0) (.cons (.int 0) .nil))))) (.lst (.cons (.int 0) (.cons (.int 1) .nil)))))
      .nil))))))⟩
def T : List Fn := [f_switch_of, f_middles_at, f_free_middles, f__law_draws, f__law_cell, f__law_is_number, f__law_is_numbers, f__law_order, f__law_exchange, f__law_wished, f__law_is_plan, f__law_free, f__law_drawn_plan, f__law_told, f_law]
theorem ok_switch_of : okF fns f_switch_of (defScope (top 1)) (defBody (top 1)) = true := by decide +kernel
theorem ok_middles_at : okF fns f_middles_at (defScope (top 3)) (defBody (top 3)) = true := by decide +kernel
theorem ok_free_middles : okF fns f_free_middles (defScope (top 4)) (defBody (top 4)) = true := by decide +kernel
theorem ok__law_draws : okF fns f__law_draws (defScope (top 6)) (defBody (top 6)) = true := by decide +kernel
theorem ok__law_cell : okF fns f__law_cell (defScope (top 7)) (defBody (top 7)) = true := by decide +kernel
theorem ok__law_is_number : okF fns f__law_is_number (defScope (top 8)) (defBody (top 8)) = true := by decide +kernel
theorem ok__law_is_numbers : okF fns f__law_is_numbers (defScope (top 9)) (defBody (top 9)) = true := by decide +kernel
theorem ok__law_order : okF fns f__law_order (defScope (top 10)) (defBody (top 10)) = true := by decide +kernel
theorem ok__law_exchange : okF fns f__law_exchange (defScope (top 11)) (defBody (top 11)) = true := by decide +kernel
theorem ok__law_wished : okF fns f__law_wished (defScope (top 12)) (defBody (top 12)) = true := by decide +kernel
theorem ok__law_is_plan : okF fns f__law_is_plan (defScope (top 13)) (defBody (top 13)) = true := by decide +kernel
theorem ok__law_free : okF fns f__law_free (defScope (top 14)) (defBody (top 14)) = true := by decide +kernel
theorem ok__law_drawn_plan : okF fns f__law_drawn_plan (defScope (top 15)) (defBody (top 15)) = true := by decide +kernel
theorem ok__law_told : okF fns f__law_told (defScope (top 16)) (defBody (top 16)) = true := by decide +kernel
theorem ok_law : okF fns f_law (defScope (top 17)) (defBody (top 17)) = true := by decide +kernel
/-! ### the head -/
def d_switch_of : He.DefD := ⟨("switch_of", none), "switch_of", "switch_of", defArgs (top 1), defBody (top 1), defScope (top 1), [], []⟩
def d_middles_at : He.DefD := ⟨("middles_at", none), "middles_at", "middles_at", defArgs (top 3), defBody (top 3), defScope (top 3), [], []⟩
def d_free_middles : He.DefD := ⟨("free_middles", none), "free_middles", "free_middles", defArgs (top 4), defBody (top 4), defScope (top 4), [], []⟩
def d__law_draws : He.DefD := ⟨("_law_draws", none), "_law_draws", "_law_draws", defArgs (top 6), defBody (top 6), defScope (top 6), [], []⟩
def d__law_cell : He.DefD := ⟨("_law_cell", none), "_law_cell", "_law_cell", defArgs (top 7), defBody (top 7), defScope (top 7), [], []⟩
def d__law_is_number : He.DefD := ⟨("_law_is_number", none), "_law_is_number", "_law_is_number", defArgs (top 8), defBody (top 8), defScope (top 8), [], []⟩
def d__law_is_numbers : He.DefD := ⟨("_law_is_numbers", none), "_law_is_numbers", "_law_is_numbers", defArgs (top 9), defBody (top 9), defScope (top 9), [], []⟩
def d__law_order : He.DefD := ⟨("_law_order", none), "_law_order", "_law_order", defArgs (top 10), defBody (top 10), defScope (top 10), [], []⟩
def d__law_exchange : He.DefD := ⟨("_law_exchange", none), "_law_exchange", "_law_exchange", defArgs (top 11), defBody (top 11), defScope (top 11), [], []⟩
def d__law_wished : He.DefD := ⟨("_law_wished", none), "_law_wished", "_law_wished", defArgs (top 12), defBody (top 12), defScope (top 12), [], []⟩
def d__law_is_plan : He.DefD := ⟨("_law_is_plan", none), "_law_is_plan", "_law_is_plan", defArgs (top 13), defBody (top 13), defScope (top 13), [], []⟩
def d__law_free : He.DefD := ⟨("_law_free", none), "_law_free", "_law_free", defArgs (top 14), defBody (top 14), defScope (top 14), [], []⟩
def d__law_drawn_plan : He.DefD := ⟨("_law_drawn_plan", none), "_law_drawn_plan", "_law_drawn_plan", defArgs (top 15), defBody (top 15), defScope (top 15), [], []⟩
def d__law_told : He.DefD := ⟨("_law_told", none), "_law_told", "_law_told", defArgs (top 16), defBody (top 16), defScope (top 16), [], []⟩
def d_law : He.DefD := ⟨("law", none), "law", "law", defArgs (top 17), defBody (top 17), defScope (top 17), [], []⟩
def dn : List He.DefD := [d_switch_of, d_middles_at, d_free_middles, d__law_draws, d__law_cell, d__law_is_number, d__law_is_numbers, d__law_order, d__law_exchange, d__law_wished, d__law_is_plan, d__law_free, d__law_drawn_plan, d__law_told, d_law]
def da : List He.Fa := [.glo "switch_of", .glo "middles_at", .glo "free_middles", .glo "_law_draws", .glo "_law_cell", .glo "_law_is_number", .glo "_law_is_numbers", .glo "_law_order", .glo "_law_exchange", .glo "_law_wished", .glo "_law_is_plan", .glo "_law_free", .glo "_law_drawn_plan", .glo "_law_told", .glo "law", .free "len", .free "abs", .free "min", .free "max", .free "sum", .free "sorted", .free "list", .free "tuple", .free "repr", .free "int", .free "isinstance", .free "bool", .free "str", .free "range", .free "set", .free "dict"]
abbrev R0 : PySem.W.OpenRow := PySem.W.OpenLaw.row PySem.Challenge.rw_switchways_k64_free_middles
abbrev hk : PySem.W.Hook := He.hookD 4 da dn
def ob (s : PySem.W.SharedT) : He.AlD := He.obsDG 4 da dn (HandSHeadRun.getT s)
theorem ob_eq (s : PySem.W.SharedT) : ob s = hk.obs s.abs := He.obsDG_eq (HandSHeadRun.getT_eq s)
def loose : List Str := ["switch_of", "middles_at", "free_middles", "_law_draws", "_law_cell", "_law_is_number", "_law_is_numbers", "_law_order", "_law_exchange", "_law_wished", "_law_is_plan", "_law_free", "_law_drawn_plan", "_law_told"]
theorem run (w : World) : HandSHeadRun.RunEq R0 (PySem.W.view R0.prog [17]) hk ob 1480 loose w := by
  intro os
  kernel_rfl
section
variable {w : World} {K : PySem.W.Frag} {h : Heap} {mg : Str → Option Value} {P : Program}
theorem is_switch_of (X : K.In h) (G : h.Ns mainGlobals mg) (c : He.SaysD da dn K) : IsFn K mg fns f_switch_of := by
  obtain ⟨fd, F⟩ := c.def_ 0 (d := d_switch_of) rfl
  refine ⟨_, _, _, _, fd, F, He.glo_ok X G (c.fact 0 (f := .glo "switch_of") rfl), ?_, ok_switch_of⟩
  exact FunD.bindsN (ps := f_switch_of.names.take f_switch_of.np) F fun _ _ _ _ _ _ us hl => match us, hl with | [_, _], _ => rfl
theorem is_middles_at (X : K.In h) (G : h.Ns mainGlobals mg) (c : He.SaysD da dn K) : IsFn K mg fns f_middles_at := by
  obtain ⟨fd, F⟩ := c.def_ 1 (d := d_middles_at) rfl
  refine ⟨_, _, _, _, fd, F, He.glo_ok X G (c.fact 1 (f := .glo "middles_at") rfl), ?_, ok_middles_at⟩
  exact FunD.bindsN (ps := f_middles_at.names.take f_middles_at.np) F fun _ _ _ _ _ _ us hl => match us, hl with | [_, _, _, _], _ => rfl
theorem is_free_middles (X : K.In h) (G : h.Ns mainGlobals mg) (c : He.SaysD da dn K) : IsFn K mg fns f_free_middles := by
  obtain ⟨fd, F⟩ := c.def_ 2 (d := d_free_middles) rfl
  refine ⟨_, _, _, _, fd, F, He.glo_ok X G (c.fact 2 (f := .glo "free_middles") rfl), ?_, ok_free_middles⟩
  exact FunD.bindsN (ps := f_free_middles.names.take f_free_middles.np) F fun _ _ _ _ _ _ us hl => match us, hl with | [_, _, _, _], _ => rfl
theorem is__law_draws (X : K.In h) (G : h.Ns mainGlobals mg) (c : He.SaysD da dn K) : IsFn K mg fns f__law_draws := by
  obtain ⟨fd, F⟩ := c.def_ 3 (d := d__law_draws) rfl
  refine ⟨_, _, _, _, fd, F, He.glo_ok X G (c.fact 3 (f := .glo "_law_draws") rfl), ?_, ok__law_draws⟩
  exact FunD.bindsN (ps := f__law_draws.names.take f__law_draws.np) F fun _ _ _ _ _ _ us hl => match us, hl with | [_, _], _ => rfl
theorem is__law_cell (X : K.In h) (G : h.Ns mainGlobals mg) (c : He.SaysD da dn K) : IsFn K mg fns f__law_cell := by
  obtain ⟨fd, F⟩ := c.def_ 4 (d := d__law_cell) rfl
  refine ⟨_, _, _, _, fd, F, He.glo_ok X G (c.fact 4 (f := .glo "_law_cell") rfl), ?_, ok__law_cell⟩
  exact FunD.bindsN (ps := f__law_cell.names.take f__law_cell.np) F fun _ _ _ _ _ _ us hl => match us, hl with | [_, _], _ => rfl
theorem is__law_is_number (X : K.In h) (G : h.Ns mainGlobals mg) (c : He.SaysD da dn K) : IsFn K mg fns f__law_is_number := by
  obtain ⟨fd, F⟩ := c.def_ 5 (d := d__law_is_number) rfl
  refine ⟨_, _, _, _, fd, F, He.glo_ok X G (c.fact 5 (f := .glo "_law_is_number") rfl), ?_, ok__law_is_number⟩
  exact FunD.bindsN (ps := f__law_is_number.names.take f__law_is_number.np) F fun _ _ _ _ _ _ us hl => match us, hl with | [_], _ => rfl
theorem is__law_is_numbers (X : K.In h) (G : h.Ns mainGlobals mg) (c : He.SaysD da dn K) : IsFn K mg fns f__law_is_numbers := by
  obtain ⟨fd, F⟩ := c.def_ 6 (d := d__law_is_numbers) rfl
  refine ⟨_, _, _, _, fd, F, He.glo_ok X G (c.fact 6 (f := .glo "_law_is_numbers") rfl), ?_, ok__law_is_numbers⟩
  exact FunD.bindsN (ps := f__law_is_numbers.names.take f__law_is_numbers.np) F fun _ _ _ _ _ _ us hl => match us, hl with | [_], _ => rfl
theorem is__law_order (X : K.In h) (G : h.Ns mainGlobals mg) (c : He.SaysD da dn K) : IsFn K mg fns f__law_order := by
  obtain ⟨fd, F⟩ := c.def_ 7 (d := d__law_order) rfl
  refine ⟨_, _, _, _, fd, F, He.glo_ok X G (c.fact 7 (f := .glo "_law_order") rfl), ?_, ok__law_order⟩
  exact FunD.bindsN (ps := f__law_order.names.take f__law_order.np) F fun _ _ _ _ _ _ us hl => match us, hl with | [_, _, _], _ => rfl
theorem is__law_exchange (X : K.In h) (G : h.Ns mainGlobals mg) (c : He.SaysD da dn K) : IsFn K mg fns f__law_exchange := by
  obtain ⟨fd, F⟩ := c.def_ 8 (d := d__law_exchange) rfl
  refine ⟨_, _, _, _, fd, F, He.glo_ok X G (c.fact 8 (f := .glo "_law_exchange") rfl), ?_, ok__law_exchange⟩
  exact FunD.bindsN (ps := f__law_exchange.names.take f__law_exchange.np) F fun _ _ _ _ _ _ us hl => match us, hl with | [_, _, _], _ => rfl
theorem is__law_wished (X : K.In h) (G : h.Ns mainGlobals mg) (c : He.SaysD da dn K) : IsFn K mg fns f__law_wished := by
  obtain ⟨fd, F⟩ := c.def_ 9 (d := d__law_wished) rfl
  refine ⟨_, _, _, _, fd, F, He.glo_ok X G (c.fact 9 (f := .glo "_law_wished") rfl), ?_, ok__law_wished⟩
  exact FunD.bindsN (ps := f__law_wished.names.take f__law_wished.np) F fun _ _ _ _ _ _ us hl => match us, hl with | [_, _, _, _], _ => rfl
theorem is__law_is_plan (X : K.In h) (G : h.Ns mainGlobals mg) (c : He.SaysD da dn K) : IsFn K mg fns f__law_is_plan := by
  obtain ⟨fd, F⟩ := c.def_ 10 (d := d__law_is_plan) rfl
  refine ⟨_, _, _, _, fd, F, He.glo_ok X G (c.fact 10 (f := .glo "_law_is_plan") rfl), ?_, ok__law_is_plan⟩
  exact FunD.bindsN (ps := f__law_is_plan.names.take f__law_is_plan.np) F fun _ _ _ _ _ _ us hl => match us, hl with | [_, _], _ => rfl
theorem is__law_free (X : K.In h) (G : h.Ns mainGlobals mg) (c : He.SaysD da dn K) : IsFn K mg fns f__law_free := by
  obtain ⟨fd, F⟩ := c.def_ 11 (d := d__law_free) rfl
  refine ⟨_, _, _, _, fd, F, He.glo_ok X G (c.fact 11 (f := .glo "_law_free") rfl), ?_, ok__law_free⟩
  exact FunD.bindsN (ps := f__law_free.names.take f__law_free.np) F fun _ _ _ _ _ _ us hl => match us, hl with | [_, _, _, _], _ => rfl
theorem is__law_drawn_plan (X : K.In h) (G : h.Ns mainGlobals mg) (c : He.SaysD da dn K) : IsFn K mg fns f__law_drawn_plan := by
  obtain ⟨fd, F⟩ := c.def_ 12 (d := d__law_drawn_plan) rfl
  refine ⟨_, _, _, _, fd, F, He.glo_ok X G (c.fact 12 (f := .glo "_law_drawn_plan") rfl), ?_, ok__law_drawn_plan⟩
  exact FunD.bindsN (ps := f__law_drawn_plan.names.take f__law_drawn_plan.np) F fun _ _ _ _ _ _ us hl => match us, hl with | [_, _, _, _], _ => rfl
theorem is__law_told (X : K.In h) (G : h.Ns mainGlobals mg) (c : He.SaysD da dn K) : IsFn K mg fns f__law_told := by
  obtain ⟨fd, F⟩ := c.def_ 13 (d := d__law_told) rfl
  refine ⟨_, _, _, _, fd, F, He.glo_ok X G (c.fact 13 (f := .glo "_law_told") rfl), ?_, ok__law_told⟩
  exact FunD.bindsN (ps := f__law_told.names.take f__law_told.np) F fun _ _ _ _ _ _ us hl => match us, hl with | [_, _, _, _], _ => rfl
theorem is_law (X : K.In h) (G : h.Ns mainGlobals mg) (c : He.SaysD da dn K) : IsFn K mg fns f_law := by
  obtain ⟨fd, F⟩ := c.def_ 14 (d := d_law) rfl
  refine ⟨_, _, _, _, fd, F, He.glo_ok X G (c.fact 14 (f := .glo "law") rfl), ?_, ok_law⟩
  exact FunD.bindsN (ps := f_law.names.take f_law.np) F fun _ _ _ _ _ _ us hl => match us, hl with | [_], _ => rfl
theorem all_fn (X : K.In h) (G : h.Ns mainGlobals mg) (c : He.SaysD da dn K) : ∀ F ∈ T, IsFn K mg fns F := by
  intro F hF
  simp only [T, List.mem_cons, List.not_mem_nil, or_false] at hF
  rcases hF with rfl | rfl | rfl | rfl | rfl | rfl | rfl | rfl | rfl | rfl | rfl | rfl | rfl | rfl | rfl
  · exact is_switch_of X G c
  · exact is_middles_at X G c
  · exact is_free_middles X G c
  · exact is__law_draws X G c
  · exact is__law_cell X G c
  · exact is__law_is_number X G c
  · exact is__law_is_numbers X G c
  · exact is__law_order X G c
  · exact is__law_exchange X G c
  · exact is__law_wished X G c
  · exact is__law_is_plan X G c
  · exact is__law_free X G c
  · exact is__law_drawn_plan X G c
  · exact is__law_told X G c
  · exact is_law X G c
theorem blts (X : K.In h) (G : h.Ns mainGlobals mg) (c : He.SaysD da dn K) : ∀ x ∈ bltNames, mg x = none := by
  intro x hx
  simp only [bltNames, List.mem_cons, List.not_mem_nil, or_false] at hx
  rcases hx with rfl | rfl | rfl | rfl | rfl | rfl | rfl | rfl | rfl | rfl | rfl | rfl | rfl | rfl | rfl | rfl
  · exact He.free_ok X G (c.fact 15 (f := .free "len") rfl)
  · exact He.free_ok X G (c.fact 16 (f := .free "abs") rfl)
  · exact He.free_ok X G (c.fact 17 (f := .free "min") rfl)
  · exact He.free_ok X G (c.fact 18 (f := .free "max") rfl)
  · exact He.free_ok X G (c.fact 19 (f := .free "sum") rfl)
  · exact He.free_ok X G (c.fact 20 (f := .free "sorted") rfl)
  · exact He.free_ok X G (c.fact 21 (f := .free "list") rfl)
  · exact He.free_ok X G (c.fact 22 (f := .free "tuple") rfl)
  · exact He.free_ok X G (c.fact 23 (f := .free "repr") rfl)
  · exact He.free_ok X G (c.fact 24 (f := .free "int") rfl)
  · exact He.free_ok X G (c.fact 25 (f := .free "isinstance") rfl)
  · exact He.free_ok X G (c.fact 26 (f := .free "bool") rfl)
  · exact He.free_ok X G (c.fact 27 (f := .free "str") rfl)
  · exact He.free_ok X G (c.fact 28 (f := .free "range") rfl)
  · exact He.free_ok X G (c.fact 29 (f := .free "set") rfl)
  · exact He.free_ok X G (c.fact 30 (f := .free "dict") rfl)
theorem fns_at : ∀ (f : Nat) (x : Str), fns[f]? = some x → ∃ F : Fn, T[f]? = some F ∧ F.name = x := by
  have e : fns = T.map Fn.name := rfl
  intro f x hx
  rw [e, List.getElem?_map] at hx
  obtain ⟨F, h1, h2⟩ := Option.map_eq_some_iff.mp hx
  exact ⟨F, h1, h2⟩
theorem law_fn (X : K.In h) (G : h.Ns mainGlobals mg) (c : He.SaysD da dn K) {fa : Addr} (hmg : mg ("law" : Str) = some (.ref fa)) (base : Heap) :
    ∃ fd : FuncData, Binds K fd ["script"] [] ∧ FnG P w K mg base 9 fa fd ["script"] (spOf K (Gam T 9) 14) := by
  obtain ⟨a, fd, e1, e2, e3, e4⟩ := level (P := P) (w := w) (base := base) fns_at (blts X G c) (all_fn X G c) 9 14 f_law rfl
  have e5 := hmg.symm.trans e1
  cases e5
  exact ⟨fd, e3, e4⟩
open Sp
theorem g_draws (m : Nat) {ns : List Int} (h : ns.length ≤ 63) {k : Int} (hk : 0 ≤ k ∧ k < 1000) : ∃ ds, Gam T (m + 1) 3 [LI ns, .int k] = some (.dp, LI ds) ∧ (ds.length : Int) = k ∧ Small ds := by
  obtain ⟨ds, h1, h2⟩ := draws_ok (Γ := Gam T m) ns k h hk
  exact ⟨ds, gam_o (F := w_draws) rfl h1, h2⟩
theorem g_cell (m : Nat) {ds : List Int} (hd : Small ds) (hl : 0 < ds.length) : Cells (Gam T (m + 1)) 4 ds := fun j a b => gam_o (F := w_cell) rfl (cell_ok hd hl a b)
theorem g_ord2 (m : Nat) {ds : List Int} (hd : Small ds) (hl : 0 < ds.length) {at' n : Int} (ha : 0 ≤ at') (ha2 : at' ≤ 1000) (hn : 0 ≤ n) (hn2 : n ≤ 1000) : ∃ xs, Gam T (m + 2) 7 [LI ds, .int at', .int n] = some (.dp, LI xs) ∧ List.Perm xs (upto n) := by
  obtain ⟨xs, h, p⟩ := order2_ok (Γ := Gam T (m + 1)) (c := 4) (g_cell m hd hl) ha ha2 hn hn2
  exact ⟨xs, gam_o (F := w_order2 4) rfl h, p⟩
theorem g_exch (m : Nat) {ds : List Int} (hd : Small ds) (hl : 0 < ds.length) {at' most : Int} (ha : 0 ≤ at') (ha2 : at' ≤ 1000) (h1 : 1 ≤ most) (h2 : most ≤ 1000) : ∃ n k r, Gam T (m + 2) 8 [LI ds, .int at', .int most] = some (.fz, trI (n, k, r)) ∧ ExOk most n k r := by
  obtain ⟨n, k, r, h, q⟩ := lexchange_ok (Γ := Gam T (m + 1)) (c := 4) (g_cell m hd hl) ha ha2 h1 h2
  exact ⟨n, k, r, gam_o (F := w_lexchange 4) rfl h, q⟩
theorem g_wished (m : Nat) {ds : List Int} (hd : Small ds) (hl : 0 < ds.length) {at' n k r many L : Int} (ha : 0 ≤ at') (ha2 : at' ≤ 900) (hL : n * r = L) (hn : 1 ≤ n ∧ n ≤ 1000) (hr : 1 ≤ r ∧ r ≤ 4) (h0 : 1 ≤ L) (hL2 : L ≤ 1000) (hm : 0 ≤ many) : ∃ qs, Gam T (m + 3) 9 [LI ds, .int at', trI (n, k, r), .int many] = some (.dp, .list (qs.map prI)) ∧ WOk L qs := by
  obtain ⟨qs, h, q⟩ := wished_ok (Γ := Gam T (m + 2)) (od := 7) (m := k) hL hn hr h0 hL2 hm (g_ord2 m hd hl ha (by omega) (by omega) hL2) (g_ord2 m hd hl (by omega) (by omega) (by omega) hL2)
  exact ⟨qs, gam_o (F := w_wished 7) rfl h, q⟩
theorem g_lfree (m : Nat) {n k r i o : Int} {cs : List Tri} (hn : 1 ≤ n ∧ n ≤ 1000) (hk : 0 ≤ k ∧ k ≤ 1000) (hl : cs.length ≤ 1000) : Gam T (m + 1) 11 [trI (n, k, r), .list (cs.map trI), .int i, .int o] = some (.dp, LI (freeL n k cs i o)) := gam_o (F := w_lfree) rfl (lfree_ok hn hk hl)
theorem g_ldrawn (m : Nat) {ds : List Int} (hd : Small ds) (hl : 0 < ds.length) {at' n k r many L : Int} (ha : 0 ≤ at') (ha2 : at' ≤ 900) (hL : n * r = L) (hn : 1 ≤ n ∧ n ≤ 1000) (hk : 0 ≤ k ∧ k ≤ 1000) (hr : 1 ≤ r ∧ r ≤ 4) (h0 : 1 ≤ L) (hL2 : L ≤ 1000) (hm : 0 ≤ many) : ∃ cs, Gam T (m + 4) 12 [LI ds, .int at', trI (n, k, r), .int many] = some (.dp, .list (cs.map trI)) ∧ PlOk n k r cs ∧ (cs.length : Int) ≤ L := by
  obtain ⟨cs, h, q⟩ := ldrawn_ok (Γ := Gam T (m + 3)) (c := 4) (wi := 9) (fr := 11) (r := r) (m := k) (g_cell (m + 2) hd hl) ha (by omega) hL hL2 (g_wished m hd hl ha ha2 hL hn hr h0 hL2 hm) (fun cs i o h => g_lfree (m + 2) hn hk h)
  exact ⟨cs, gam_o (F := w_ldrawn 4 9 11) rfl h, q⟩
theorem g_numsA (m : Nat) (d : PyData) : Gam T (m + 2) 6 [d] = some (.fz, .bool (numsB d)) := gam_o (F := w_is_numbers 5) rfl (is_numbers_any (fun d => gam_o (F := Sp.w_is_number) rfl (is_number_any d)) d)
theorem g_isplan (m : Nat) {n k r : Int} (hn : 1 ≤ n ∧ n ≤ 1000) (hr : 1 ≤ r ∧ r ≤ 4) {d : PyData} (hb : ∀ ds, d = .list ds → ds.length ≤ 1000) : Gam T (m + 3) 10 [trI (n, k, r), d] = some (.fz, .bool (isPl n k r d)) := gam_o (F := w_lis_plan 6) rfl (lis_plan_ok (fun ds => g_numsA m (.list ds)) hn hr hb)
theorem g_sw (m : Nat) {n k r : Int} (hn : 1 ≤ n ∧ n ≤ 1000) (x : Int) : Gam T (m + 1) 0 [trI (n, k, r), .int x] = some (.fz, .int (x / n)) := gam_o (F := w_switch_of) rfl (switch_of_ok hn)
theorem g_fm (m : Nat) {n k r i o : Int} {cs : List Tri} (hn : 1 ≤ n ∧ n ≤ 1000) (hk : 0 ≤ k ∧ k ≤ 1000) (hl : cs.length ≤ 1000) : Gam T (m + 3) 2 [trI (n, k, r), .list (cs.map trI), .int i, .int o] = some (.dp, LI (freeL n k cs i o)) := gam_o (F := w_free_middles 0 1) rfl (free_middles_ok hk hl (g_sw (m + 1) hn)
  (fun s => gam_o (F := w_middles_at 0) rfl (middles0_ok hl (g_sw m hn))) (fun s => gam_o (F := w_middles_at 0) rfl (middles1_ok hl (g_sw m hn))))
theorem g_told (m : Nat) {n k r i o : Int} {cs : List Tri} (hn : 1 ≤ n ∧ n ≤ 1000) (hr : 1 ≤ r ∧ r ≤ 4) (hk : 1 ≤ k ∧ k ≤ 12) (h : PlOk n k r cs) (hl : cs.length ≤ 900) (hi : 0 ≤ i ∧ i < n * r) (ho : 0 ≤ o ∧ o < n * r) (ni : ∀ c ∈ cs, c.1 ≠ i) (no : ∀ c ∈ cs, c.2.1 ≠ o) : Gam T (m + 4) 13 [trI (n, k, r), .list (cs.map trI), .int i, .int o] = some (.fz, .bool true) :=
  gam_o (F := w_told64 11 2 10) rfl (told64_ok hk h hl hi ho ni no (g_lfree (m + 2) hn (by omega) (by omega)) (g_fm m hn (by omega) (by omega)) (fun qs hq => g_isplan m hn hr (fun ds e => by cases e; simpa using hq)))
theorem yes : ∀ ns : List Int, ns.length ≤ 63 → ∃ o, Gam T 9 14 [.list (ns.map .int)] = some (o, .bool true) := by
  intro ns hns
  obtain ⟨ds, h1, h2, h3⟩ := g_draws 7 hns (k := 80) (by omega)
  have hl : 0 < ds.length := by omega
  obtain ⟨n, k, r, e0, E⟩ := g_exch 6 h3 hl (at' := 0) (most := 12) (by omega) (by omega) (by omega) (by omega)
  have dr := fun (at' many : Int) (a : 0 ≤ at') (b : at' ≤ 900) (c : 0 ≤ many) => g_ldrawn (n := n) (k := k) (r := r) (L := n * r) 4 h3 hl (at' := at') (many := many) a b rfl ⟨E.n1, E.nb⟩ ⟨by have := E.m1; omega, by have := E.mb; omega⟩ ⟨E.r1, E.rb⟩ E.ge (by have := E.le; omega) c
  have tl := fun (cs : List Tri) (i o : Int) a b c d e f => g_told (n := n) (k := k) (r := r) (cs := cs) (i := i) (o := o) 4 ⟨E.n1, E.nb⟩ ⟨E.r1, E.rb⟩ ⟨E.m1, E.mb⟩ a b c d e f
  have bm : ∀ (o p : Own) (al bl : List Nat), binD .mul ⟨.int n, o, al⟩ ⟨.int r, p, bl⟩ = FI (.int (n * r)) := fun o p al bl => b_mulS (by have := E.n1; omega) (by have := E.nb; omega) (by have := E.r1; omega) (by have := E.rb; omega) o p al bl
  have L1 := E.ge
  have L2 := E.le
  generalize hL : n * r = L at *
  have s60 := small_it h3 (i := 60) (by omega) (by omega)
  have s61 := small_it h3 (i := 61) (by omega) (by omega)
  have m60 := emod_bd (itI ds 60) (b := L + 1) (by omega)
  obtain ⟨s', hf, x4, x5, x6, x7, x8, x9, x10, x11, e⟩ := forI_run (Γ := Gam T 8) (σ := [some (.fz, LI ns), some (.dp, LI ds), some (.fz, trI (n, k, r)), some (.fz, .int L), none, none, none, none, none, none, none, none]) (j := 4) (o := .dp) (ys := [itI ds 60 % (L + 1), L - 1]) (it := .lst (.cons (.bin .mod (.idx (.var 1) (.int 60)) (.bin .add (.var 3) (.int 1))) (.cons (.bin .sub (.var 3) (.int 1)) .nil)))
    (body := (.cons (.asg (.nm 5) (.call 12 (.cons (.var 1) (.cons (.bin .add (.int 4) (.bin .mod (.var 4) (.int 9))) (.cons (.var 2) (.cons (.var 4) .nil))))))
      (.cons (.asg (.nm 6) (.comp (.nm 10) (.rng (.int 0) (.int 2) (.int 1)) (.bl true) (.comp (.nm 11) (.var 5) (.bl true) (.idx (.var 11) (.var 10)))))
      (.cons (.asg (.nm 7) (.lst .nil))
      (.cons (.for_ (.nm 8) (.rng (.int 0) (.var 3) (.int 1)) (.cons (.asg (.nm 7) (.bin .add (.var 7) (.comp (.nm 9) (.rng (.int 0) (.var 3) (.int 1)) (.and (.cmp .notin (.var 8) (.idx (.var 6) (.int 0))) (.cmp .notin (.var 9) (.idx (.var 6) (.int 1)))) (.tup (.cons (.var 8) (.cons (.var 9) .nil))))))
      .nil))
      (.cons (.ite (.cmp .gt (.blt .len (.var 7)) (.int 12)) (.cons (.asg (.nm 7) (.stp (.var 7) (.bin .mod (.idx (.var 1) (.int 61)) (.bin .div (.blt .len (.var 7)) (.int 6))) (.bin .div (.blt .len (.var 7)) (.int 6))))
      .nil) .nil)
      (.cons (.for_ (.tp [8, 9]) (.var 7) (.cons (.ite (.not (.tru (.call 13 (.cons (.var 2) (.cons (.var 5) (.cons (.var 8) (.cons (.var 9) .nil))))))) (.cons (.ret (.bl false))
      .nil) .nil)
      .nil))
      .nil))))))) (by
        have ll : ∀ a b : Int, listOf [⟨.int a, .fz, []⟩, ⟨.int b, .fz, []⟩] [] = ⟨LI [a, b], .dp, []⟩ := fun a b => listOf_ok rfl
        simp (disch := first | omega | (simp; done) | fail) [ll])
    (fun t s => ∃ x4 x5 x6 x7 x8 x9 x10 x11, s = [some (.fz, LI ns), some (.dp, LI ds), some (.fz, trI (n, k, r)), some (.fz, .int L), x4, x5, x6, x7, x8, x9, x10, x11]) (fun t ht s ⟨x4, x5, x6, x7, x8, x9, x10, x11, e⟩ => by
      subst e
      have hy : 0 ≤ [itI ds 60 % (L + 1), L - 1][t] ∧ [itI ds 60 % (L + 1), L - 1][t] ≤ L := by
        have : [itI ds 60 % (L + 1), L - 1][t] ∈ [itI ds 60 % (L + 1), L - 1] := List.getElem_mem ht
        simp only [List.mem_cons, List.mem_nil_iff, or_false] at this
        omega
      generalize [itI ds 60 % (L + 1), L - 1][t] = many at hy
      obtain ⟨cs, d1, d2, d3⟩ := dr (4 + many % 9) many (by omega) (by omega) hy.1
      -- the lines in use
      have cu : ∀ (side : Int) (g : Tri → Int) (x6 x7 x8 x9 x11 : Slot), (∀ c, idxD (trI c) (.int side) = some (.int (g c))) → ev (Gam T 8) (.comp (.nm 11) (.var 5) (.bl true) (.idx (.var 11) (.var 10))) [some (.fz, LI ns), some (.dp, LI ds), some (.fz, trI (n, k, r)), some (.fz, .int L), some (.fz, .int many), some (.dp, .list (cs.map trI)), x6, x7, x8, x9, some (.fz, .int side), x11] = some ⟨LI (cs.map g), .dp, []⟩ := fun side g x6 x7 x8 x9 x11 hg => by
        have := comp_tr (Γ := Gam T 8) (σ := [some (.fz, LI ns), some (.dp, LI ds), some (.fz, trI (n, k, r)), some (.fz, .int L), some (.fz, .int many), some (.dp, .list (cs.map trI)), x6, x7, x8, x9, some (.fz, .int side), x11]) (j := 11) (it := .var 5) (c := .bl true) (e := .idx (.var 11) (.var 10)) (al := [5]) (o := .fz) cs (fun _ => true) g (by simp) (by omega) (fun x _ => by simp) (fun x _ _ => by simp [freezeL, fzSlot, hg])
        rw [List.filter_eq_self.mpr (by simp)] at this
        exact this
      have c0 := fun x6 x7 x8 x9 x11 => cu 0 (fun c => c.1) x6 x7 x8 x9 x11 (fun c => rfl)
      have c1 := fun x6 x7 x8 x9 x11 => cu 1 (fun c => c.2.1) x6 x7 x8 x9 x11 (fun c => rfl)
      have u1 : ∀ x6 x7 x8 x9 x10 x11 : Slot, ev (Gam T 8) (.comp (.nm 10) (.rng (.int 0) (.int 2) (.int 1)) (.bl true) (.comp (.nm 11) (.var 5) (.bl true) (.idx (.var 11) (.var 10)))) [some (.fz, LI ns), some (.dp, LI ds), some (.fz, trI (n, k, r)), some (.fz, .int L), some (.fz, .int many), some (.dp, .list (cs.map trI)), x6, x7, x8, x9, x10, x11] = some ⟨.list [LI (cs.map (fun c => c.1)), LI (cs.map (fun c => c.2.1))], .dp, []⟩ := fun x6 x7 x8 x9 x10 x11 => by
        have := comp_gen (Γ := Gam T 8) (σ := [some (.fz, LI ns), some (.dp, LI ds), some (.fz, trI (n, k, r)), some (.fz, .int L), some (.fz, .int many), some (.dp, .list (cs.map trI)), x6, x7, x8, x9, x10, x11]) (tg := .nm 10) (it := .rng (.int 0) (.int 2) (.int 1)) (c := .bl true) (e := .comp (.nm 11) (.var 5) (.bl true) (.idx (.var 11) (.var 10))) (d := LI [0, 1]) (o := .dp) (al := []) PyData.int [0, 1] (fun y => [some (.fz, LI ns), some (.dp, LI ds), some (.fz, trI (n, k, r)), some (.fz, .int L), some (.fz, .int many), some (.dp, .list (cs.map trI)), x6, x7, x8, x9, some (.fz, .int y), x11]) (fun _ => true) (fun y => ⟨LI (cs.map (fun c => if y = 0 then c.1 else c.2.1)), .dp, []⟩)
          (by simp; rfl) rfl (by decide) (fun y _ => rfl) (fun y _ => by simp) (fun y hy _ => by
            simp only [List.mem_cons, List.mem_nil_iff, or_false] at hy
            rcases hy with rfl | rfl
            · exact c0 _ _ _ _ _
            · exact c1 _ _ _ _ _)
        rw [this]
        rfl
      have hu0 : idxD (.list [LI (cs.map (fun c => c.1)), LI (cs.map (fun c => c.2.1))]) (.int 0) = some (LI (cs.map (fun c => c.1))) := rfl
      have hu1 : idxD (.list [LI (cs.map (fun c => c.1)), LI (cs.map (fun c => c.2.1))]) (.int 1) = some (LI (cs.map (fun c => c.2.1))) := rfl
      generalize hF : cs.map (fun c => c.1) = F at *
      generalize hG : cs.map (fun c => c.2.1) = G at *
      generalize hUU : [LI F, LI G] = UU at *
      -- the pairs
      obtain ⟨s2, f2, y8, ps, e2, q1, q2⟩ := forI_run (Γ := Gam T 8) (σ := [some (.fz, LI ns), some (.dp, LI ds), some (.fz, trI (n, k, r)), some (.fz, .int L), some (.fz, .int many), some (.dp, .list (cs.map trI)), some (.dp, .list UU), some (.dp, .list []), x8, x9, x10, x11]) (j := 8) (o := .dp) (ys := upto L) (it := .rng (.int 0) (.var 3) (.int 1))
        (body := (.cons (.asg (.nm 7) (.bin .add (.var 7) (.comp (.nm 9) (.rng (.int 0) (.var 3) (.int 1)) (.and (.cmp .notin (.var 8) (.idx (.var 6) (.int 0))) (.cmp .notin (.var 9) (.idx (.var 6) (.int 1)))) (.tup (.cons (.var 8) (.cons (.var 9) .nil))))))
      .nil)) (by simp (disch := omega))
        (fun t s => ∃ y8, ∃ ps : List (Int × Int), s = [some (.fz, LI ns), some (.dp, LI ds), some (.fz, trI (n, k, r)), some (.fz, .int L), some (.fz, .int many), some (.dp, .list (cs.map trI)), some (.dp, .list UU), some (.dp, .list (ps.map prI)), y8, x9, x10, x11] ∧ (∀ p ∈ ps, (0 ≤ p.1 ∧ p.1 < L) ∧ (0 ≤ p.2 ∧ p.2 < L) ∧ p.1 ∉ F ∧ p.2 ∉ G) ∧ ps.length ≤ 12 * t) (fun t ht s ⟨y8, ps, e, q1, q2⟩ => by
          subst e
          rw [upto_get ht]
          rw [upto_len] at ht
          have ec := comp_pl (Γ := Gam T 8) (σ := [some (.fz, LI ns), some (.dp, LI ds), some (.fz, trI (n, k, r)), some (.fz, .int L), some (.fz, .int many), some (.dp, .list (cs.map trI)), some (.dp, .list UU), some (.dp, .list (ps.map prI)), some (.fz, .int t), x9, x10, x11]) (tg := .nm 9) (it := .rng (.int 0) (.var 3) (.int 1)) (c := .and (.cmp .notin (.var 8) (.idx (.var 6) (.int 0))) (.cmp .notin (.var 9) (.idx (.var 6) (.int 1)))) (e := .tup (.cons (.var 8) (.cons (.var 9) .nil))) (d := LI (upto L)) (o := .dp) (al := []) PyData.int (upto L)
            (fun y => [some (.fz, LI ns), some (.dp, LI ds), some (.fz, trI (n, k, r)), some (.fz, .int L), some (.fz, .int many), some (.dp, .list (cs.map trI)), some (.dp, .list UU), some (.dp, .list (ps.map prI)), some (.fz, .int t), some (.fz, .int y), x10, x11]) (fun y => !decide ((t : Int) ∈ F) && !decide (y ∈ G)) (fun y => prI ((t : Int), y)) (by simp (disch := omega)) rfl (by rw [upto_len]; show _ ≤ 16777216; omega) (fun y _ => rfl) (fun y _ => by
              by_cases z : (t : Int) ∈ F
              · simp [hu0, hu1, z]
              · simp [hu0, hu1, z]) (fun y _ _ => by simp [tup_pr]) (fun _ _ _ => rfl)
          have em : ((upto L).filter (fun y => !decide ((t : Int) ∈ F) && !decide (y ∈ G))).map (fun y => prI ((t : Int), y)) = (((upto L).filter (fun y => !decide ((t : Int) ∈ F) && !decide (y ∈ G))).map (fun y => ((t : Int), y))).map prI := by rw [List.map_map]; rfl
          rw [em] at ec
          have nw : ∀ p ∈ ((upto L).filter (fun y => !decide ((t : Int) ∈ F) && !decide (y ∈ G))).map (fun y => ((t : Int), y)), (0 ≤ p.1 ∧ p.1 < L) ∧ (0 ≤ p.2 ∧ p.2 < L) ∧ p.1 ∉ F ∧ p.2 ∉ G := fun p hp => by
            obtain ⟨y, hy, rfl⟩ := List.mem_map.mp hp
            obtain ⟨y1, y2⟩ := List.mem_filter.mp hy
            have := mem_upto.mp y1
            simp only [Bool.and_eq_true, Bool.not_eq_true', decide_eq_false_iff_not] at y2
            exact ⟨⟨by dsimp only; omega, by dsimp only; omega⟩, this, y2.1, y2.2⟩
          have nl : (((upto L).filter (fun y => !decide ((t : Int) ∈ F) && !decide (y ∈ G))).map (fun y => ((t : Int), y))).length ≤ 12 := by
            rw [List.length_map]
            have := List.length_filter_le (fun y => !decide ((t : Int) ∈ F) && !decide (y ∈ G)) (upto L)
            rw [upto_len] at this
            omega
          generalize ((upto L).filter (fun y => !decide ((t : Int) ∈ F) && !decide (y ∈ G))).map (fun y => ((t : Int), y)) = qs at *
          have ct := cat_P ps qs (by omega) .fz .dp [7] []
          refine ⟨_, .inl ?_, some (.fz, .int t), ps ++ qs, rfl, fun p hp => (List.mem_append.mp hp).elim (q1 p) (nw p), by rw [List.length_append]; omega⟩
          simp [ec, ct, -List.map_append]) ⟨x8, [], rfl, (fun p hp => (by cases hp)), (by simp)⟩
      subst e2
      rw [upto_len] at q2
      -- fewer
      have f3 : ∃ qs : List (Int × Int), exec (Gam T 8) (.ite (.cmp .gt (.blt .len (.var 7)) (.int 12)) (.cons (.asg (.nm 7) (.stp (.var 7) (.bin .mod (.idx (.var 1) (.int 61)) (.bin .div (.blt .len (.var 7)) (.int 6))) (.bin .div (.blt .len (.var 7)) (.int 6))))
      .nil) .nil) [some (.fz, LI ns), some (.dp, LI ds), some (.fz, trI (n, k, r)), some (.fz, .int L), some (.fz, .int many), some (.dp, .list (cs.map trI)), some (.dp, .list UU), some (.dp, .list (ps.map prI)), y8, x9, x10, x11] = some (.nx [some (.fz, LI ns), some (.dp, LI ds), some (.fz, trI (n, k, r)), some (.fz, .int L), some (.fz, .int many), some (.dp, .list (cs.map trI)), some (.dp, .list UU), some (.dp, .list (qs.map prI)), y8, x9, x10, x11]) ∧ (∀ p ∈ qs, (0 ≤ p.1 ∧ p.1 < L) ∧ (0 ≤ p.2 ∧ p.2 < L) ∧ p.1 ∉ F ∧ p.2 ∉ G) := by
        by_cases z : 12 < (ps.length : Int)
        · have md := emod_bd (itI ds 61) (b := (ps.length : Int) / 6) (by omega)
          have st := stp_P (ps := ps) (l := itI ds 61 % ((ps.length : Int) / 6)) (k := (ps.length : Int) / 6) (by omega) (by omega) .fz [7]
          refine ⟨stpA (itI ds 61 % ((ps.length : Int) / 6)) ((ps.length : Int) / 6) ps, ?_, fun p hp => q1 p (stpA_mem hp)⟩
          generalize stpA (itI ds 61 % ((ps.length : Int) / 6)) ((ps.length : Int) / 6) ps = qs at *
          simp (disch := first | omega | (simp; done) | fail) [z, st]
        · exact ⟨ps, by simp (disch := first | omega | (simp; done) | fail) [z], q1⟩
      obtain ⟨qs, f3, q3⟩ := f3
      -- each is told
      obtain ⟨s4, f4, y8', y9', e4⟩ := forT_lock (Γ := Gam T 8) (σ := [some (.fz, LI ns), some (.dp, LI ds), some (.fz, trI (n, k, r)), some (.fz, .int L), some (.fz, .int many), some (.dp, .list (cs.map trI)), some (.dp, .list UU), some (.dp, .list (qs.map prI)), y8, x9, x10, x11]) (i1 := 8) (i2 := 9) (a := 7) (o := .fz) (ps := qs) (it := .var 7)
        (body := (.cons (.ite (.not (.tru (.call 13 (.cons (.var 2) (.cons (.var 5) (.cons (.var 8) (.cons (.var 9) .nil))))))) (.cons (.ret (.bl false)) .nil) .nil) .nil)) (by simp) rfl
        (fun t s => ∃ y8 y9, s = [some (.fz, LI ns), some (.dp, LI ds), some (.fz, trI (n, k, r)), some (.fz, .int L), some (.fz, .int many), some (.dp, .list (cs.map trI)), some (.dp, .list UU), some (.ldp, .list (qs.map prI)), y8, y9, x10, x11]) (fun t ht s ⟨y8, y9, e⟩ => by
          subst e
          have hp := q3 _ (List.getElem_mem ht)
          generalize qs[t] = p at hp
          have t1 := tl cs p.1 p.2 d2 (by omega) hp.1 hp.2.1 (fun c hc z => hp.2.2.1 (by rw [← hF, ← z]; exact List.mem_map.mpr ⟨c, hc, rfl⟩)) (fun c hc z => hp.2.2.2 (by rw [← hG, ← z]; exact List.mem_map.mpr ⟨c, hc, rfl⟩))
          refine ⟨_, .inl ?_, some (.fz, .int p.1), some (.fz, .int p.2), rfl⟩
          simp [t1]) ⟨y8, x9, rfl⟩
      subst e4
      have hu : unlockAt [some (.fz, LI ns), some (.dp, LI ds), some (.fz, trI (n, k, r)), some (.fz, .int L), some (.fz, .int many), some (.dp, .list (cs.map trI)), some (.dp, .list UU), some (.ldp, .list (qs.map prI)), y8', y9', x10, x11] 7 = [some (.fz, LI ns), some (.dp, LI ds), some (.fz, trI (n, k, r)), some (.fz, .int L), some (.fz, .int many), some (.dp, .list (cs.map trI)), some (.dp, .list UU), some (.dp, .list (qs.map prI)), y8', y9', x10, x11] := rfl
      rw [hu] at f4
      refine ⟨[some (.fz, LI ns), some (.dp, LI ds), some (.fz, trI (n, k, r)), some (.fz, .int L), some (.fz, .int many), some (.dp, .list (cs.map trI)), some (.dp, .list UU), some (.dp, .list (qs.map prI)), y8', y9', x10, x11], .inl ?_, _, _, _, _, _, _, _, _, rfl⟩
      simp (disch := first | omega | (simp; done) | fail) [d1, u1, f2, f3, f4, sl_tr]
      ) ⟨_, _, _, _, _, _, _, _, rfl⟩
  subst e
  have a1 : Gam T 8 2 [.tuple [.int 2, .int 3, .int 2], .list [.tuple [.int 0, .int 2, .int 0], .tuple [.int 2, .int 0, .int 2]], .int 1, .int 1] = some (.dp, LI [1]) := g_fm 5 (n := 2) (k := 3) (r := 2) (cs := [(0, 2, 0), (2, 0, 2)]) (by omega) (by omega) (by decide)
  have a2 : Gam T 8 2 [.tuple [.int 2, .int 2, .int 2], .list [.tuple [.int 0, .int 2, .int 0], .tuple [.int 2, .int 0, .int 1]], .int 1, .int 1] = some (.dp, LI []) := g_fm 5 (n := 2) (k := 2) (r := 2) (cs := [(0, 2, 0), (2, 0, 1)]) (by omega) (by omega) (by decide)
  have a3 : Gam T 8 2 [.tuple [.int 1, .int 2, .int 2], .list [], .int 0, .int 0] = some (.dp, LI [0, 1]) := g_fm 5 (n := 1) (k := 2) (r := 2) (cs := []) (by omega) (by omega) (by decide)
  have l2 : ∀ a b c d e f : Int, listOf [⟨.tuple [.int a, .int b, .int c], .fz, []⟩, ⟨.tuple [.int d, .int e, .int f], .fz, []⟩] [] = ⟨.list [.tuple [.int a, .int b, .int c], .tuple [.int d, .int e, .int f]], .dp, []⟩ := fun _ _ _ _ _ _ => listOf_ok rfl
  have l1 : listOf [⟨.int 1, .fz, []⟩] [] = ⟨.list [.int 1], .dp, []⟩ := listOf_ok rfl
  have l01 : listOf [⟨.int 0, .fz, []⟩, ⟨.int 1, .fz, []⟩] [] = ⟨.list [.int 0, .int 1], .dp, []⟩ := listOf_ok rfl
  have q1 : cmpD .ne (.list [.int 1]) (.list [.int 1]) = some false := c_selfN rfl
  have q2 : cmpD .ne (.list []) (.list []) = some false := c_selfN rfl
  have q3 : cmpD .eq (.list [.int 0, .int 1]) (.list [.int 0, .int 1]) = some true := c_self rfl
  refine ⟨.fz, gam_o (F := f_law) rfl (runF_of (s := [some (.fz, LI ns), none, none, none, none, none, none, none, none, none, none, none]) rfl rfl ?_)⟩
  simp (disch := first | omega | (simp; done) | fail) [f_law, h1, e0, bm, hf, a1, a2, a3, l2, l1, l01, q1, q2, q3, tup_iii, sl_tr]
end
end CW
open PySem PySem.W PySem.Calls PyProof.Rows
theorem PySem.Challenge.cw_switchways_k64_free_middles_holds : PySem.Challenge.rw_switchways_k64_free_middles.Holds := by
  w_on; o_law
  refine HandSHeadRun.head_any (r := OpenLaw.row PySem.Challenge.rw_switchways_k64_free_middles) (q := view (OpenLaw.row PySem.Challenge.rw_switchways_k64_free_middles).prog [17]) (H := CW.hk) (ob := CW.ob) (M := 1480) (loose := CW.loose) (d := HandSHeadRun.topDef (OpenLaw.row PySem.Challenge.rw_switchways_k64_free_middles).prog 17) (kwd := []) CW.ob_eq
    (by kernel_rfl) (fun s => by kernel_rfl) CW.run (by kernel_rfl) (by kernel_rfl) (by kernel_rfl) (by rfl) (by first | assumption | decide +kernel) (by decide +kernel) ⟨rfl, rfl, rfl, rfl, rfl, by decide +kernel⟩ ?hw ?hc
  case hw => w_witness2
  case hc =>
    refine Sw.walk_G (l := PySem.Challenge.rw_switchways_k64_free_middles) (n := 63) (k := 9) (x := "script") (Γ := Sw.Gam CW.T 9) (fL := 14) rfl (by decide) (by kernel_rfl) ⟨rfl, by decide, by decide⟩ ?F CW.yes
    intro w mg fa h Y G hmg0
    obtain ⟨K, KX, c⟩ := Y
    have hmg : mg ("law" : PySem.Str) = some (.ref fa) := by
      have e : (HandSHeadRun.topDef (OpenLaw.row PySem.Challenge.rw_switchways_k64_free_middles).prog 17).name = ("law" : PySem.Str) := by kernel_rfl
      rw [← e]
      exact hmg0
    exact ⟨K, KX, fun base _ _ => CW.law_fn (P := (PySem.Challenge.rw_switchways_k64_free_middles).prog) (w := w) KX G c hmg base⟩
end
