import PyProof.Rows.All
import Wide.All
import OpenK.AllK
import Wide.FinOn
import KE.KStateDown
import Lean
import HandS.ForExc
import HandS.ForMost
import HandS.ExcCtx
import HandS.TupAny
import HandS.IsInst
import HandS.TupLen
import HandS.Zip
import HandS.Small
import HandS.ExcInit
import HandS.Defaults
import HandS.WordsDict
import HandS.HeadHook1
import HandS.HeadHook2
import HandS.Style
import HandS.ExcIs
import HandS.HotCalls
import HandS.SuiteRaise
import HandS.Head0
import HandS.Head1
import HandS.Head2
import HandS.HeadEnd
import KE.SortData
import KE.DataMinMax
import HandS.Deep
import HandS.SetFor
import PySem.Challenge.RW_sashiko_k38_whole_rings_dyed
set_option Elab.async false
set_option autoImplicit false
set_option linter.all false
set_option maxRecDepth 100000
set_option maxHeartbeats 4000000
/-! G, part 1: pure values, what an expression or a statement gives, the combinators. -/
namespace G
open PySem L2

/-- a pure value -/
inductive D where
  | non | bl (b : Bool) | int (i : Int) | str (s : Str)
  | lst (xs : List D) | tup (xs : List D)
  | dK (ks : List Key) (vs : List D) | dT (ks : List (List Key)) (vs : List D)
  | obj (c : Nat) (fs : List D) | frl (ns : List Int) | hx
/-- how a value lies: shared (frozen), a fresh root, the own object of slot i -/
inductive Kd where
  | sh | fr | at (i : Nat) | tr (n : Nat)
  deriving DecidableEq
inductive Out (α : Type) where
  | ok (a : α) | ex (c : Nat) (fs : List D) | no
def Out.bind {α β : Type} : Out α → (α → Out β) → Out β
  | .ok a, f => f a
  | .ex c fs, _ => .ex c fs
  | .no, _ => .no
/-- no instance -/
def notObj : D → Bool
  | .obj _ _ => false
  | _ => true
/-- which nodes of a value are a slot's own: the root, its items by their places, .. -/
inductive Sh where
  | lf | nd (k : Nat → Sh)
inductive Slot where
  | un | va (d : D) | ow (d : D) | me (c : Nat) (ds : List D) | xc
  /-- an own tree of objects -/
  | pv (k : Sh) (d : D)
/-- own lists, n deep -/
def shn : Nat → Sh
  | 0 => .lf
  | n + 1 => .nd fun _ => shn n
abbrev Sl := List Slot
abbrev ES := Sl → Out (D × Kd)
/-- what the defs give: by number and arguments; the Bool: a fresh root -/
abbrev Gam := Nat → List D → Out (D × Bool)
abbrev SZ : Nat := 16777216

def Kd.solid : Kd → Bool
  | .at _ => false
  | _ => true
def flat : D → Bool
  | .non => true
  | .bl _ => true
  | .int _ => true
  | .str _ => true
  | _ => false

/-- nothing of it lies in older objects -/
def clean (d : D) (k : Kd) : Bool := flat d || (match d, k with
  | .lst ds, .fr => ds.all flat
  | .dK _ ds, .fr => ds.all flat
  | .dT _ ds, .fr => ds.all flat
  | _, _ => false)

@[simp] theorem bind_ok {α β : Type} (a : α) (f : α → Out β) : (Out.ok a).bind f = f a := rfl
@[simp] theorem bind_ex {α β : Type} (c : Nat) (fs : List D) (f : α → Out β) : (Out.ex c fs : Out α).bind f = .ex c fs := rfl
@[simp] theorem bind_no {α β : Type} (f : α → Out β) : (Out.no : Out α).bind f = .no := rfl

def eVar (i : Nat) : ES := fun ρ => match ρ[i]? with
  | some (.va d) => .ok (d, .sh)
  | some (.ow d) => .ok (d, .at i)
  | _ => .no
def eC (d : D) : ES := fun _ => .ok (d, .sh)
def eBin (op : D → D → Out (D × Kd)) (f g : ES) : ES := fun ρ => (f ρ).bind fun x => (g ρ).bind fun y => op x.1 y.1
def eUn (op : D → Out (D × Kd)) (f : ES) : ES := fun ρ => (f ρ).bind fun x => op x.1
def eArgs : List ES → Sl → Out (List (D × Kd))
  | [], _ => .ok []
  | f :: fs, ρ => (f ρ).bind fun x => (eArgs fs ρ).bind fun xs => .ok (x :: xs)

/-! ### operators -/
def shr (d : D) : Out (D × Kd) := .ok (d, .sh)
def oAdd : D → D → Out (D × Kd)
  | .int i, .int j => shr (.int (i + j))
  | .str x, .str y => if x.length + y.length ≤ SZ then shr (.str (x ++ y)) else .no
  | .lst xs, .lst ys => if xs.length + ys.length ≤ SZ then .ok (.lst (xs ++ ys), .fr) else .no
  | .tup xs, .tup ys => if xs.length + ys.length ≤ SZ then shr (.tup (xs ++ ys)) else .no
  | _, _ => .no
def oSub : D → D → Out (D × Kd)
  | .int i, .int j => shr (.int (i - j))
  | _, _ => .no
def smallI (i : Int) : Bool := decide (-(2 ^ 64) < i ∧ i < 2 ^ 64)
def oMul : D → D → Out (D × Kd)
  | .int i, .int j => if smallI i || smallI j then shr (.int (i * j)) else .no
  | .lst xs, .int k => if -(2 ^ 63) ≤ k ∧ k < 2 ^ 63 ∧ xs.length * k.toNat ≤ SZ then .ok (.lst (List.replicate k.toNat xs).flatten, .fr) else .no
  | _, _ => .no
def oMod : D → D → Out (D × Kd)
  | .int i, .int j => if 0 < j then shr (.int (i % j)) else .no
  | _, _ => .no
def oDiv : D → D → Out (D × Kd)
  | .int i, .int j => if 0 < j ∧ j < 1073741824 then shr (.int (i / j)) else .no
  | _, _ => .no
def oPow : D → D → Out (D × Kd)
  | .int i, .int j => if 0 ≤ j ∧ j ≤ 1000000 ∧ i.natAbs < 2 ^ 64 then shr (.int (i ^ j.toNat)) else .no
  | _, _ => .no
def oNeg : D → Out (D × Kd)
  | .int i => shr (.int (-i))
  | _ => .no
end G

namespace G
open PySem L2
/-! ### comparisons -/
def intsOf : List D → Option (List Int)
  | [] => some []
  | .int i :: r => (intsOf r).map (i :: ·)
  | _ :: _ => none
@[simp] theorem intsOf_map : ∀ ns : List Int, intsOf (ns.map D.int) = some ns
  | [] => rfl
  | n :: ns => by simp [intsOf, intsOf_map ns]
theorem intsOf_eq : ∀ {ds : List D} {ns : List Int}, intsOf ds = some ns → ds = ns.map D.int
  | [], ns, h => by cases h; rfl
  | d :: r, ns, h => by
    cases d with
    | int i =>
      unfold intsOf at h
      cases q : intsOf r with
      | none => rw [q] at h; cases h
      | some ms =>
        rw [q] at h
        cases h
        rw [intsOf_eq q]
        rfl
    | _ => cases h
mutual
def toPy : D → Option PyData
  | .non => some .none
  | .bl b => some (.bool b)
  | .int i => some (.int i)
  | .str s => some (.str s)
  | .lst xs => (toPys xs).map .list
  | .tup xs => (toPys xs).map .tuple
  | _ => none
def toPys : List D → Option (List PyData)
  | [] => some []
  | x :: xs => (toPy x).bind fun p => (toPys xs).map (p :: ·)
end
/-- == of scalars -/
def scalEq : D → D → Option Bool
  | .non, .non => some true
  | .non, .int _ => some false
  | .int _, .non => some false
  | .non, .str _ => some false
  | .str _, .non => some false
  | .int i, .int j => some (decide (i = j))
  | .bl i, .bl j => some (decide (i = j))
  | .str i, .str j => some (decide (i = j))
  | _, _ => none
def eqD (d e : D) : Option Bool := match scalEq d e with
  | some b => some b
  | none => match toPy d, toPy e with
    | some p, some q => if SeqAt.shaped p && SeqAt.shaped q then some (PyData.eqv p q) else none
    | _, _ => none
def obl : Option Bool → Out (D × Kd)
  | some b => shr (.bl b)
  | none => .no
def oEq (d e : D) : Out (D × Kd) := obl (eqD d e)
def oNe (d e : D) : Out (D × Kd) := obl ((eqD d e).map (!·))
def oLt : D → D → Out (D × Kd)
  | .int i, .int j => shr (.bl (decide (i < j)))
  | .tup xs, .tup ys => match intsOf xs, intsOf ys with
    | some ns, some ms => shr (.bl (HT.lexLt ns ms))
    | _, _ => .no
  | _, _ => .no
def oLe : D → D → Out (D × Kd)
  | .int i, .int j => shr (.bl (decide (i ≤ j)))
  | _, _ => .no
def oGt : D → D → Out (D × Kd)
  | .int i, .int j => shr (.bl (decide (j < i)))
  | _, _ => .no
def oGe : D → D → Out (D × Kd)
  | .int i, .int j => shr (.bl (decide (j ≤ i)))
  | _, _ => .no
def isNon : D → Bool
  | .non => true
  | _ => false
/-- a op b op' c, b asked once -/
def eChain (op op' : D → D → Out (D × Kd)) (f g h : ES) : ES := fun ρ => (f ρ).bind fun x => (g ρ).bind fun y => (op x.1 y.1).bind fun z => match z.1 with
  | .bl true => (h ρ).bind fun w => op' y.1 w.1
  | .bl false => shr (.bl false)
  | _ => .no
def oBl : D → Out Bool
  | .bl b => .ok b
  | _ => .no
/-- and, or of truth values -/
def eAnd (f g : ES) : ES := fun ρ => (f ρ).bind fun x => (oBl x.1).bind fun b => if b = true then g ρ else shr (.bl false)
def eOr (f g : ES) : ES := fun ρ => (f ρ).bind fun x => (oBl x.1).bind fun b => if b = true then shr (.bl true) else g ρ
def oNot (d : D) : Out (D × Kd) := (oBl d).bind fun b => shr (.bl (!b))

/-! ### tests -/
abbrev TSm := Sl → Out Bool
def oTru : D → Out Bool
  | .non => .ok false
  | .bl b => .ok b
  | .int i => .ok (i != 0)
  | .lst xs => .ok (!xs.isEmpty)
  | .tup xs => .ok (!xs.isEmpty)
  | _ => .no
def tBl (f : ES) : TSm := fun ρ => (f ρ).bind fun x => oBl x.1
def tTru (f : ES) : TSm := fun ρ => (f ρ).bind fun x => oTru x.1
def tAnd (f g : TSm) : TSm := fun ρ => (f ρ).bind fun b => if b = true then g ρ else .ok false
def tOr (f g : TSm) : TSm := fun ρ => (f ρ).bind fun b => if b = true then .ok true else g ρ
def tNot (f : TSm) : TSm := fun ρ => (f ρ).bind fun b => .ok (!b)
def eIf (t : TSm) (f g : ES) : ES := fun ρ => (t ρ).bind fun b => if b = true then f ρ else g ρ

/-! ### displays, subscripts, slices, fields -/
def allSolid (xs : List (D × Kd)) : Bool := xs.all fun x => x.2.solid
def eTup (fs : List ES) : ES := fun ρ => (eArgs fs ρ).bind fun xs => if allSolid xs = true ∧ xs.length ≤ SZ then shr (.tup (xs.map (·.1))) else .no
def eLst (fs : List ES) : ES := fun ρ => (eArgs fs ρ).bind fun xs => if allSolid xs = true ∧ xs.length ≤ SZ then .ok (.lst (xs.map (·.1)), .fr) else .no
/-- a key, of ints and texts; of tuples of them -/
def keyOf : D → Option Key
  | .int i => some (.inl i)
  | .str s => some (.inr s)
  | _ => none
def keysOf : List D → Option (List Key)
  | [] => some []
  | d :: r => (keyOf d).bind fun k => (keysOf r).map (k :: ·)
def tkeyOf : D → Option (List Key)
  | .tup xs => keysOf xs
  | _ => none
def lookK {κ : Type} [DecidableEq κ] : List κ → List D → κ → Option D
  | k :: ks, d :: ds, x => if k = x then some d else lookK ks ds x
  | _, _, _ => none
/-- what a dict holds at a key; the outer option: the key is of its kind -/
def dGet : D → D → Option (Option D)
  | .dK ks ds, k => (keyOf k).map fun x => lookK ks ds x
  | .dT ks ds, k => (tkeyOf k).map fun x => lookK ks ds x
  | _, _ => none
def oIx : D → D → Out (D × Kd)
  | .lst xs, .int i => match atI xs i with
    | some d => shr d
    | none => .no
  | .tup xs, .int i => match atI xs i with
    | some d => shr d
    | none => .no
  | .str z, .int i => if z.length ≤ SZ then (match atI z.cps.toList i with
    | some c => shr (.str ⟨#[c]⟩)
    | none => .no) else .no
  | d, k => match dGet d k with
    | some (some v) => shr v
    | _ => .no
def oOpt : Option D → Option (Option Int)
  | none => some none
  | some (.int i) => some (some i)
  | _ => none
def cutD (xs : List D) (lo hi : Option Int) : List D := (xs.drop (HT.sIx xs.length 0 lo)).take (HT.sIx xs.length xs.length hi - HT.sIx xs.length 0 lo)
def oSl : D → Option Int → Option Int → Out (D × Kd)
  | .lst xs, lo, hi => .ok (.lst (cutD xs lo hi), .fr)
  | .tup xs, lo, hi => shr (.tup (cutD xs lo hi))
  | _, _, _ => .no
def ePart : Option ES → Sl → Out (Option Int)
  | none, _ => .ok none
  | some f, ρ => (f ρ).bind fun x => match x.1 with
    | .int i => .ok (some i)
    | _ => .no
def eSl (f : ES) (lo hi : Option ES) : ES := fun ρ => (f ρ).bind fun x => (ePart lo ρ).bind fun l => (ePart hi ρ).bind fun h => oSl x.1 l h
/-- fields: by the class and the name, the place -/
def oFld (fx : Nat → Option Nat) : D → Out (D × Kd)
  | .obj c ds => match fx c with
    | some i => match ds[i]? with
      | some d => shr d
      | none => .no
    | none => .no
  | _ => .no
end G

namespace G
open PySem L2
/-! ### isinstance, built-in functions -/
def tyName : D → Option String
  | .non => some "NoneType"
  | .bl _ => some "bool"
  | .int _ => some "int"
  | .str _ => some "str"
  | .lst _ => some "list"
  | .tup _ => some "tuple"
  | .dK _ _ => some "dict"
  | _ => none
def isiT (T : String) (S : String) : Bool := decide (S = T) || (decide (S = "bool") && decide (T = "int"))
def oIsi (T : String) (d : D) : Out (D × Kd) := match tyName d with
  | some S => shr (.bl (isiT T S))
  | none => .no
/-- built-in functions of one or two arguments -/
inductive Bi where
  | len | abs | int | sum | list | max2 | min2 | all | str | min1 | max1
  deriving DecidableEq
def boolsOf : List D → Option (List Bool)
  | [] => some []
  | .bl i :: r => (boolsOf r).map (i :: ·)
  | _ :: _ => none
def minI : List Int → Int
  | [] => 0
  | [a] => a
  | a :: r => min a (minI r)
def maxI : List Int → Int
  | [] => 0
  | [a] => a
  | a :: r => max a (maxI r)
def oBi : Bi → List D → Out (D × Kd)
  | .len, [.lst xs] => shr (.int xs.length)
  | .len, [.tup xs] => shr (.int xs.length)
  | .len, [.str x] => if x.length ≤ SZ then shr (.int x.length) else .no
  | .len, [.dK ks _] => shr (.int ks.length)
  | .len, [.dT ks _] => shr (.int ks.length)
  | .abs, [.int i] => shr (.int (if i < 0 then -i else i))
  | .int, [.int i] => shr (.int i)
  | .int, [.bl k] => shr (.int (if k then 1 else 0))
  | .sum, [.lst xs] => match intsOf xs with
    | some ns => shr (.int ns.sum)
    | none => .no
  | .min1, [.lst xs] => match intsOf xs with
    | some ns => if ns ≠ [] then shr (.int (minI ns)) else .no
    | none => .no
  | .max1, [.lst xs] => match intsOf xs with
    | some ns => if ns ≠ [] then shr (.int (maxI ns)) else .no
    | none => .no
  | .list, [.lst xs] => .ok (.lst xs, .fr)
  | .list, [.tup xs] => .ok (.lst xs, .fr)
  | .max2, [.int i, .int j] => shr (.int (if j > i then j else i))
  | .min2, [.int i, .int j] => shr (.int (if j < i then j else i))
  | .all, [.lst xs] => match boolsOf xs with
    | some bs => shr (.bl (bs.all id))
    | none => .no
  | .str, [.int i] => if i.natAbs.log2 < 1920 then shr (.str (toString i)) else .no
  | _, _ => .no
def eBi (b : Bi) (fs : List ES) : ES := fun ρ => (eArgs fs ρ).bind fun xs => oBi b (xs.map (·.1))

/-! ### calls -/
def okArgs (xs : List (D × Kd)) : Bool := xs.all fun x => x.2.solid || notObj x.1
/-- a fresh one of these has nothing of the arguments -/
def newD : D → Bool
  | .obj _ _ => true
  | .lst ds => ds.all flat
  | _ => false
def eCall (Γ : Gam) (n : Nat) (fs : List ES) : ES := fun ρ => (eArgs fs ρ).bind fun xs => match Γ n (xs.map (·.1)) with
  | .ok (d, b) => if allSolid xs then .ok (d, if b then .fr else .sh) else if flat d && okArgs xs then shr d else if (b && newD d) && okArgs xs then .ok (d, .fr) else .no
  | .ex c gs => if allSolid xs || (gs.isEmpty && okArgs xs) then .ex c gs else .no
  | .no => .no
/-- a method of an instance: by the class's number, the def's number; a receiver that raises is not served -/
def eMeth (Γ : Gam) (mx : Nat → Option Nat) (f : ES) (fs : List ES) : ES := fun ρ => match f ρ with
  | .ok (.obj c ds, k) => match mx c with
    | some n => if k.solid then eCall Γ n (eC (.obj c ds) :: fs) ρ else .no
    | none => .no
  | _ => .no
end G

namespace G
open PySem L2
/-! ### what a for walks, targets -/
abbrev IS := Sl → Out (List D)
def itemsOf : D → Option (List D)
  | .lst xs => some xs
  | .tup xs => some xs
  | .frl ns => some (ns.map D.int)
  | .str s => some (s.cps.toList.map fun c => D.str ⟨#[c]⟩)
  | _ => none
/-- st: in a for statement (a slot's own list is not walked there) -/
def itE (st : Bool) (f : ES) : IS := fun ρ => (f ρ).bind fun x => if st && !x.2.solid then .no else match itemsOf x.1 with
  | some ds => .ok ds
  | none => .no
def in62 (i : Int) : Bool := decide (i.natAbs < 4611686018427387904)
def rngD (lo hi : Int) : List D := (List.range (hi - lo).toNat).map fun k => D.int (lo + (k : Nat))
def itR1 (f : ES) : IS := fun ρ => (f ρ).bind fun x => match x.1 with
  | .int j => if in62 j then .ok (rngD 0 j) else .no
  | _ => .no
def itR2 (f g : ES) : IS := fun ρ => (f ρ).bind fun x => (g ρ).bind fun y => match x.1, y.1 with
  | .int i, .int j => if in62 i && in62 j then .ok (rngD i j) else .no
  | _, _ => .no
def zipD : List D → List D → List D
  | x :: xs, y :: ys => .tup [x, y] :: zipD xs ys
  | _, _ => []
def enumD : Nat → List D → List D
  | _, [] => []
  | n, x :: xs => .tup [.int (n : Nat), x] :: enumD (n + 1) xs
def itZip (st : Bool) (f g : ES) : IS := fun ρ => (f ρ).bind fun x => (g ρ).bind fun y => if st && !(x.2.solid && y.2.solid) then .no else match x.1, y.1 with
  | .lst xs, .lst ys => .ok (zipD xs ys)
  | .tup xs, .tup ys => .ok (zipD xs ys)
  | _, _ => .no
def itEnum (st : Bool) (f : ES) : IS := fun ρ => (f ρ).bind fun x => if st && !x.2.solid then .no else match x.1 with
  | .lst xs => .ok (enumD 0 xs)
  | _ => .no
inductive Tg where
  | one (i : Nat) | tup (ts : List Tg)
mutual
def tgSet : Tg → D → Sl → Option Sl
  | .one i, d, ρ => if i < ρ.length then some (ρ.set i (.va d)) else none
  | .tup ts, .tup ds, ρ => tgSets ts ds ρ
  | .tup ts, .lst ds, ρ => tgSets ts ds ρ
  | _, _, _ => none
def tgSets : List Tg → List D → Sl → Option Sl
  | [], [], ρ => some ρ
  | t :: ts, d :: ds, ρ => (tgSet t d ρ).bind fun ρ' => tgSets ts ds ρ'
  | _, _, _ => none
end
mutual
def tgIdx : Tg → List Nat
  | .one i => [i]
  | .tup ts => tgIdxs ts
def tgIdxs : List Tg → List Nat
  | [] => []
  | t :: ts => tgIdx t ++ tgIdxs ts
end
/-! ### comprehensions -/
def wipeS (ρ : Sl) : List Nat → Sl
  | [] => ρ
  | v :: vs => (wipeS ρ vs).set v .un
def tYes : TSm := fun _ => .ok true
/-- one turn behind another: ρ the slots as the block has them -/
def lcA (tg : Tg) (t : TSm) (e : ES) (ρ : Sl) : List D → List D → Out (List D)
  | acc, [] => .ok acc
  | acc, d :: ds => match tgSet tg d ρ with
    | none => .no
    | some ρ1 => match t ρ1 with
      | .ok true => match e ρ1 with
        | .ok (y, k) => if k.solid && decide (acc.length < SZ) then lcA tg t e ρ (acc ++ [y]) ds else .no
        | _ => .no
      | .ok false => lcA tg t e ρ acc ds
      | _ => .no
def eLc (it : IS) (tg : Tg) (t : TSm) (e : ES) (vs : List Nat) : ES := fun ρ => (it ρ).bind fun ds => (lcA tg t e (wipeS ρ vs) [] ds).bind fun r => .ok (.lst r, .fr)
end G

namespace G
open PySem L2
/-! ### statements -/
inductive Fl where
  | nx (ρ : Sl) | bk (ρ : Sl) | ct (ρ : Sl) | rt (d : D) (k : Kd) | ex (n : Nat) (fs : List D) (ρ : Sl) | no
abbrev SS := Sl → Fl
def sSkip : SS := fun ρ => .nx ρ
def sBrk : SS := fun ρ => .bk ρ
def sCnt : SS := fun ρ => .ct ρ
def sSeq (f g : SS) : SS := fun ρ => match f ρ with
  | .nx ρ' => g ρ'
  | o => o
def sIf (t : TSm) (f g : SS) : SS := fun ρ => match t ρ with
  | .ok b => if b = true then f ρ else g ρ
  | .ex n fs => .ex n fs ρ
  | .no => .no
/-- what an expression gives, then a statement's end -/
def sWith {α : Type} (o : Out α) (ρ : Sl) (k : α → Fl) : Fl := match o with
  | .ok a => k a
  | .ex n fs => .ex n fs ρ
  | .no => .no
def sDrop (f : ES) : SS := fun ρ => sWith (f ρ) ρ fun _ => .nx ρ
/-- x = e; own: a fresh root is x's own -/
def asg (own : Bool) (i : Nat) (x : D × Kd) (ρ : Sl) : Fl := if i < ρ.length then (match x.2 with
  | .sh => .nx (ρ.set i (.va x.1))
  | .fr => if own then (if notObj x.1 then .nx (ρ.set i (.ow x.1)) else .no) else .nx (ρ.set i (.va x.1))
  | .tr _ => .no
  | .at _ => .no) else .no
def sAsg (own : Bool) (i : Nat) (f : ES) : SS := fun ρ => sWith (f ρ) ρ fun x => asg own i x ρ
def sTg (t : Tg) (f : ES) : SS := fun ρ => sWith (f ρ) ρ fun x => if x.2.solid then (match tgSet t x.1 ρ with
  | some ρ' => .nx ρ'
  | none => .no) else .no
def sRet (f : ES) : SS := fun ρ => sWith (f ρ) ρ fun x => .rt x.1 x.2
def sRetN : SS := fun _ => .rt .non .sh
/-- x op= e -/
def sAug (op : D → D → Out (D × Kd)) (i : Nat) (f : ES) : SS := fun ρ => match ρ[i]? with
  | some (.va d) => sWith ((f ρ).bind fun y => op d y.1) ρ fun z => asg false i z ρ
  | _ => .no
def forL (t : Tg) (b : SS) : List D → SS
  | [], ρ => .nx ρ
  | d :: ds, ρ => match tgSet t d ρ with
    | none => .no
    | some ρ1 => match b ρ1 with
      | .nx ρ2 => forL t b ds ρ2
      | .ct ρ2 => forL t b ds ρ2
      | .bk ρ2 => .nx ρ2
      | o => o
def sFor (s : IS) (t : Tg) (b : SS) : SS := fun ρ => sWith (s ρ) ρ fun ds => forL t b ds ρ
def whileL (t : TSm) (b : SS) : Nat → SS
  | 0, _ => .no
  | n + 1, ρ => match t ρ with
    | .ok true => (match b ρ with
      | .nx ρ2 => whileL t b n ρ2
      | .ct ρ2 => whileL t b n ρ2
      | .bk ρ2 => .nx ρ2
      | o => o)
    | .ok false => .nx ρ
    | .ex n fs => .ex n fs ρ
    | .no => .no
/-- turns enough -/
@[irreducible] def FU : Nat := 1000000000
def sWhile (t : TSm) (b : SS) : SS := whileL t b FU
/-! ### a slot's own object, changed -/
def sOwn (i : Nat) (f : ES) (k : D → D → Option D) : SS := fun ρ => sWith (f ρ) ρ fun x => if x.2.solid then (match ρ[i]? with
  | some (.ow d) => (match k d x.1 with
    | some d' => .nx (ρ.set i (.ow d'))
    | none => .no)
  | _ => .no) else .no
def kApp : D → D → Option D
  | .lst xs, y => if xs.length < SZ then some (.lst (xs ++ [y])) else none
  | _, _ => none
/-- self.f = e in __init__ -/
def sFld (fx : Nat → Nat → Bool) (i : Nat) (f : ES) : SS := fun ρ => sWith (f ρ) ρ fun x => if clean x.1 x.2 then (match ρ[i]? with
  | some (.me c ds) => if fx c ds.length then .nx (ρ.set i (.me c (ds ++ [x.1]))) else .no
  | _ => .no) else .no
end G
/-! G, part 2: what stands for a pure value in the heap; how a frozen part grows; the readings of the hand layer that say «the semantics gives this». -/
namespace G
open PySem PySem.Spec L2

/-- the written part, the handled exception, the classes' addresses and their fields -/
structure Th where
  K : PySem.W.Frag
  xa : Option Addr
  C : Nat → Addr
  fld : Nat → List Str

mutual
inductive Rep (θ : Th) (F : Hp) : D → V → Prop
  | non : Rep θ F .non .non
  | bl (b : Bool) : Rep θ F (.bl b) (.bl b)
  | int (i : Int) : Rep θ F (.int i) (.int i)
  | str (s : Str) : Rep θ F (.str s) (.str s)
  | lst {a : Addr} {xs : List V} {ds : List D} : F a = some (.lst xs) → RepL θ F ds xs → Rep θ F (.lst ds) (.ref a)
  | tup {a : Addr} {xs : List V} {ds : List D} : F a = some (.tup xs) → RepL θ F ds xs → Rep θ F (.tup ds) (.ref a)
  | dK {a : Addr} {ks : List Key} {xs : List V} {ds : List D} : F a = some (.dK (ks.zip xs)) → ks.length = ds.length → RepL θ F ds xs → Rep θ F (.dK ks ds) (.ref a)
  | dT {a : Addr} {ks : List (List Key)} {xs : List V} {ds : List D} : F a = some (.dT (ks.zip xs)) → ks.length = ds.length → RepL θ F ds xs → Rep θ F (.dT ks ds) (.ref a)
  | obj {a dx : Addr} {c : Nat} {xs : List V} {ds : List D} : F a = some (.ins (θ.C c) dx ((θ.fld c).zip xs)) → (θ.fld c).length = ds.length → RepL θ F ds xs → Rep θ F (.obj c ds) (.ref a)
  | frl {a : Addr} {ns : List Int} : SqL θ.K F a (ns.map V.int) → Rep θ F (.frl ns) (.ref a)
  | hx {a : Addr} : θ.xa = some a → Rep θ F .hx (.ref a)
inductive RepL (θ : Th) (F : Hp) : List D → List V → Prop
  | nil : RepL θ F [] []
  | cons {d : D} {v : V} {ds : List D} {vs : List V} : Rep θ F d v → RepL θ F ds vs → RepL θ F (d :: ds) (v :: vs)
end

/-- the root of an object that is not in the frozen part -/
inductive Root (θ : Th) (F : Hp) : D → HO → Prop
  | lst {xs : List V} {ds : List D} : RepL θ F ds xs → Root θ F (.lst ds) (.lst xs)
  | dK {ks : List Key} {xs : List V} {ds : List D} : ks.length = ds.length → RepL θ F ds xs → Root θ F (.dK ks ds) (.dK (ks.zip xs))
  | dT {ks : List (List Key)} {xs : List V} {ds : List D} : ks.length = ds.length → RepL θ F ds xs → Root θ F (.dT ks ds) (.dT (ks.zip xs))
  /-- an instance, its first fields stored -/
  | obj {c : Nat} {dx : Addr} {xs : List V} {ds : List D} : ds.length ≤ (θ.fld c).length → RepL θ F ds xs → Root θ F (.obj c ds) (.ins (θ.C c) dx (((θ.fld c).take ds.length).zip xs))
/-- all fields are there -/
def Full (θ : Th) : D → Prop
  | .obj c ds => ds.length = (θ.fld c).length
  | _ => True
section
variable {θ : Th} {F F' H H' : Hp}
theorem RepL.length : ∀ {ds : List D} {xs : List V}, RepL θ F ds xs → xs.length = ds.length
  | [], _, h => by cases h; rfl
  | d :: ds, _, h => by
    cases h with
    | cons a b => simp [RepL.length b]
mutual
theorem Rep.mono (e : Same F F') : ∀ {d : D} {v : V}, Rep θ F d v → Rep θ F' d v
  | _, _, .non => .non
  | _, _, .bl b => .bl b
  | _, _, .int b => .int b
  | _, _, .str b => .str b
  | _, _, .lst h r => .lst (e _ _ h) (RepL.mono e r)
  | _, _, .tup h r => .tup (e _ _ h) (RepL.mono e r)
  | _, _, .dK h l r => .dK (e _ _ h) l (RepL.mono e r)
  | _, _, .dT h l r => .dT (e _ _ h) l (RepL.mono e r)
  | _, _, .obj h l r => .obj (e _ _ h) l (RepL.mono e r)
  | _, _, .frl h => .frl (e.seq h)
  | _, _, .hx h => .hx h
theorem RepL.mono (e : Same F F') : ∀ {ds : List D} {vs : List V}, RepL θ F ds vs → RepL θ F' ds vs
  | _, _, .nil => .nil
  | _, _, .cons h r => .cons (Rep.mono e h) (RepL.mono e r)
end
theorem Root.mono (e : Same F F') {d : D} {o : HO} : Root θ F d o → Root θ F' d o
  | .lst r => .lst (r.mono e)
  | .dK l r => .dK l (r.mono e)
  | .dT l r => .dT l (r.mono e)
  | .obj l r => .obj l (r.mono e)
theorem RepL.append : ∀ {ds es : List D} {xs ys : List V}, RepL θ F ds xs → RepL θ F es ys → RepL θ F (ds ++ es) (xs ++ ys)
  | _, _, _, _, .nil, s => s
  | _, _, _, _, .cons r t, s => .cons r (RepL.append t s)
theorem RepL.get : ∀ {ds : List D} {xs : List V} {i : Nat} {d : D}, RepL θ F ds xs → ds[i]? = some d → ∃ v, xs[i]? = some v ∧ Rep θ F d v
  | _, _, _, _, .nil, e => by simp at e
  | _, _, 0, _, .cons r _, e => by
    simp at e
    subst e
    exact ⟨_, rfl, r⟩
  | _, _, i + 1, d, .cons _ t, e => by
    obtain ⟨u, h1, h2⟩ := RepL.get (i := i) (d := d) t (by simpa using e)
    exact ⟨u, by simpa using h1, h2⟩
theorem RepL.take : ∀ {ds : List D} {xs : List V} (n : Nat), RepL θ F ds xs → RepL θ F (ds.take n) (xs.take n)
  | _, _, 0, _ => .nil
  | _, _, _ + 1, .nil => .nil
  | _, _, n + 1, .cons r t => .cons r (RepL.take n t)
theorem RepL.drop : ∀ {ds : List D} {xs : List V} (n : Nat), RepL θ F ds xs → RepL θ F (ds.drop n) (xs.drop n)
  | _, _, 0, r => r
  | _, _, _ + 1, .nil => .nil
  | _, _, n + 1, .cons _ t => RepL.drop n t
theorem RepL.set : ∀ {ds : List D} {xs : List V} {d : D} {v : V} (n : Nat), RepL θ F ds xs → Rep θ F d v → RepL θ F (ds.set n d) (xs.set n v)
  | _, _, _, _, _, .nil, _ => .nil
  | _, _, _, _, 0, .cons _ t, q => .cons q t
  | _, _, _, _, n + 1, .cons r t, q => .cons r (RepL.set n t q)
theorem RepL.ints : ∀ {ns : List Int} {xs : List V}, RepL θ F (ns.map D.int) xs → xs = ns.map V.int
  | [], _, h => by cases h; rfl
  | n :: ns, _, h => by
    cases h with
    | cons a b =>
      cases a
      rw [RepL.ints b]
      rfl
theorem RepL.of_ints : ∀ (ns : List Int), RepL θ F (ns.map D.int) (ns.map V.int)
  | [] => .nil
  | n :: ns => .cons (.int n) (RepL.of_ints ns)
/-- flat values lean on no heap -/
theorem Rep.flat {d : D} {v : V} (h : G.flat d = true) (r : Rep θ F d v) : Rep θ F' d v := by
  cases r with
  | non => exact .non
  | bl b => exact .bl b
  | int b => exact .int b
  | str b => exact .str b
  | _ => cases h
/-- a root put into the frozen part -/
theorem Root.frozen {a : Addr} {o : HO} {d : D} (n : F a = none) (r : Root θ F d o) (fu : Full θ d) : Rep θ (upd F a o) d (.ref a) := by
  have e : Same F (upd F a o) := fun b u h => by rw [upd_ne (ne_of_none h n)]; exact h
  cases r with
  | lst r => exact .lst upd_same (r.mono e)
  | dK l r => exact .dK upd_same l (r.mono e)
  | dT l r => exact .dT upd_same l (r.mono e)
  | @obj c dx xs ds l r =>
    have fu : ds.length = (θ.fld c).length := fu
    have r2 := r.mono e
    rw [fu, List.take_length] at r2 ⊢
    exact .obj upd_same fu.symm r2
end

/-! ### the frozen part and the heap -/
def IsDict : HO → Prop
  | .dK _ => True
  | .dT _ => True
  | _ => False
/-- F stands in H (a dict that a loop walks is locked there) -/
def Sub (F H : Hp) : Prop := ∀ a u, F a = some u → H a = some u ∨ (IsDict u ∧ ∃ o, H a = some (.frz o u))
/-- what an expression leaves: all as it was, F' further -/
structure Ext (F H F' H' : Hp) : Prop where
  sub : Sub F' H'
  ff : Same F F'
  hh : Same H H'
  nw : ∀ a u, F' a = some u → F a = some u ∨ H a = none
section
variable {θ : Th} {F F' F2 H H' H2 : Hp}
theorem Ext.refl (s : Sub F H) : Ext F H F H := ⟨s, .refl _, .refl _, fun _ _ h => .inl h⟩
theorem Ext.trans (a : Ext F H F' H') (b : Ext F' H' F2 H2) : Ext F H F2 H2 := by
  refine ⟨b.sub, a.ff.trans b.ff, a.hh.trans b.hh, fun c u h => ?_⟩
  rcases b.nw c u h with z | z
  · exact a.nw c u z
  · exact .inr (a.hh.free z)
/-- a new object laid, not frozen -/
theorem Sub.lay {a : Addr} {o : HO} (s : Sub F H) (n : H a = none) : Sub F (upd H a o) := fun b u h => by
  have nb : b ≠ a := fun e => by
    subst e
    rcases s b u h with z | ⟨_, _, z⟩ <;> (rw [n] at z; cases z)
  rw [upd_ne nb]
  exact s b u h
theorem Sub.free {a : Addr} (s : Sub F H) (n : H a = none) : F a = none := by
  cases q : F a with
  | none => rfl
  | some u => rcases s a u q with z | ⟨_, _, z⟩ <;> (rw [n] at z; cases z)
theorem Same.lay {a : Addr} {o : HO} (n : H a = none) : Same H (upd H a o) := fun b u h => by rw [upd_ne (ne_of_none h n)]; exact h
theorem Ext.lay {a : Addr} {o : HO} (s : Sub F H) (n : H a = none) : Ext F H F (upd H a o) := ⟨s.lay n, .refl _, Same.lay n, fun _ _ h => .inl h⟩
/-- .. and frozen -/
theorem Ext.freeze {a : Addr} {o : HO} (s : Sub F H) (h : H a = some o) (n : F a = none) (h0 : Hp) (k : Same h0 H) (n0 : h0 a = none) (F0 : Hp) (e : Ext F0 h0 F H) : Ext F0 h0 (upd F a o) H := by
  refine ⟨fun b u q => ?_, e.ff.trans (Same.lay n), e.hh, fun b u q => ?_⟩
  · by_cases hb : b = a
    · subst hb
      rw [upd_same] at q
      cases q
      exact .inl h
    · rw [upd_ne hb] at q
      exact s b u q
  · by_cases hb : b = a
    · subst hb
      exact .inr n0
    · rw [upd_ne hb] at q
      exact e.nw b u q
/-- what of F is not in H -/
def onlyN (F H : Hp) : Hp := fun b => match H b with
  | none => F b
  | some _ => none
theorem onlyN_le {F H : Hp} : Same (onlyN F H) F := fun b u h => by
  unfold onlyN at h
  cases q : H b with
  | none => rw [q] at h; exact h
  | some w => rw [q] at h; cases h
theorem onlyN_at {F H : Hp} {a : Addr} {u : HO} (h : F a = some u) (n : H a = none) : onlyN F H a = some u := by
  unfold onlyN
  rw [n]
  exact h
theorem onlyN_mono {F F' H H' : Hp} (e : Same F F') (hn : ∀ b, H b = none → H' b = none) : Same (onlyN F H) (onlyN F' H') := fun b u h => by
  unfold onlyN at h ⊢
  cases q : H b with
  | none => rw [q] at h; rw [hn b q]; exact e b u h
  | some w => rw [q] at h; cases h
/-- an instance that is new is new through and through -/
def Nw (θ : Th) (F' H : Hp) (d : D) (o : HO) : Prop := notObj d = false → Root θ (onlyN F' H) d o
theorem Nw.mono {θ : Th} {F F' H H' : Hp} {d : D} {o : HO} (h : Nw θ F H d o) (e : Same F F') (hn : ∀ b, H b = none → H' b = none) : Nw θ F' H' d o := fun z => (h z).mono (onlyN_mono e hn)
theorem Nw.of {θ : Th} {F H : Hp} {d : D} {o : HO} (h : notObj d = true) : Nw θ F H d o := fun z => by rw [h] at z; cases z
theorem Full.of {θ : Th} {d : D} (h : notObj d = true) : Full θ d := by cases d <;> first | trivial | cases h
/-- a fresh root behind an expression -/
def FrV (θ : Th) (F' H H' : Hp) (d : D) (v : V) : Prop := Full θ d ∧ ∃ a o, v = .ref a ∧ H a = none ∧ H' a = some o ∧ F' a = none ∧ Root θ F' d o ∧ Nw θ F' H d o
theorem FrV.freeze {d : D} {v : V} (e : Ext F H F' H') (f : FrV θ F' H H' d v) : ∃ F2, Ext F H F2 H' ∧ Same F' F2 ∧ Rep θ F2 d v := by
  obtain ⟨fu, a, o, rfl, n, h, nf, r, _⟩ := f
  exact ⟨upd F' a o, Ext.freeze e.sub h nf H e.hh n F e, Same.lay nf, r.frozen nf fu⟩
end

/-! ### own trees -/
mutual
/-- d lies at v as a tree whose objects at S are nobody else's; its leaves are frozen -/
inductive Tr (θ : Th) (B F H : Hp) : Sh → D → V → List Addr → Prop
  | lf {d : D} {v : V} : Rep θ F d v → Tr θ B F H .lf d v []
  | fl {k : Nat → Sh} {d : D} {v : V} : flat d = true → Rep θ F d v → Tr θ B F H (.nd k) d v []
  | lst {k : Nat → Sh} {a : Addr} {xs : List V} {ds : List D} {S : List Addr} : H a = some (.lst xs) → TrL θ B F H k 0 ds xs S → Tr θ B F H (.nd k) (.lst ds) (.ref a) (a :: S)
  | tup {k : Nat → Sh} {a : Addr} {xs : List V} {ds : List D} {S : List Addr} : H a = some (.tup xs) → B a = none → TrL θ B F H k 0 ds xs S → Tr θ B F H (.nd k) (.tup ds) (.ref a) S
  | dK {k : Nat → Sh} {a : Addr} {ks : List Key} {xs : List V} {ds : List D} {S : List Addr} : H a = some (.dK (ks.zip xs)) → ks.length = ds.length → TrL θ B F H k 0 ds xs S → Tr θ B F H (.nd k) (.dK ks ds) (.ref a) (a :: S)
  | dT {k : Nat → Sh} {a : Addr} {ks : List (List Key)} {xs : List V} {ds : List D} {S : List Addr} : H a = some (.dT (ks.zip xs)) → ks.length = ds.length → TrL θ B F H k 0 ds xs S → Tr θ B F H (.nd k) (.dT ks ds) (.ref a) (a :: S)
  | obj {k : Nat → Sh} {a dx : Addr} {c : Nat} {xs : List V} {ds : List D} {S : List Addr} : H a = some (.ins (θ.C c) dx ((θ.fld c).zip xs)) → (θ.fld c).length = ds.length → TrL θ B F H k 0 ds xs S → Tr θ B F H (.nd k) (.obj c ds) (.ref a) (a :: S)
inductive TrL (θ : Th) (B F H : Hp) : (Nat → Sh) → Nat → List D → List V → List Addr → Prop
  | nil {k : Nat → Sh} {n : Nat} : TrL θ B F H k n [] [] []
  | cons {k : Nat → Sh} {n : Nat} {d : D} {v : V} {ds : List D} {vs : List V} {S1 S2 : List Addr} : Tr θ B F H (k n) d v S1 → TrL θ B F H k (n + 1) ds vs S2 → TrL θ B F H k n (d :: ds) (v :: vs) (S1 ++ S2)
end
section
variable {θ : Th} {B F F' H H' : Hp}
theorem TrL.length : ∀ {k : Nat → Sh} {n : Nat} {ds : List D} {vs : List V} {S : List Addr}, TrL θ B F H k n ds vs S → vs.length = ds.length
  | _, _, _, _, _, .nil => rfl
  | _, _, _, _, _, .cons _ t => by rw [List.length_cons, List.length_cons, TrL.length t]
mutual
theorem Tr.keep (ff : Same F F') (tp : ∀ b xs, H b = some (.tup xs) → H' b = some (.tup xs)) : ∀ {k : Sh} {d : D} {v : V} {S : List Addr}, (∀ b ∈ S, H' b = H b) → Tr θ B F H k d v S → Tr θ B F' H' k d v S
  | _, _, _, _, _, .lf r => .lf (r.mono ff)
  | _, _, _, _, _, .fl h r => .fl h (r.mono ff)
  | _, _, _, _, hk, .lst h t => .lst ((hk _ List.mem_cons_self).trans h) (TrL.keep ff tp (fun b hb => hk b (List.mem_cons_of_mem _ hb)) t)
  | _, _, _, _, hk, .tup h hb t => .tup (tp _ _ h) hb (TrL.keep ff tp hk t)
  | _, _, _, _, hk, .dK h l t => .dK ((hk _ List.mem_cons_self).trans h) l (TrL.keep ff tp (fun b hb => hk b (List.mem_cons_of_mem _ hb)) t)
  | _, _, _, _, hk, .dT h l t => .dT ((hk _ List.mem_cons_self).trans h) l (TrL.keep ff tp (fun b hb => hk b (List.mem_cons_of_mem _ hb)) t)
  | _, _, _, _, hk, .obj h l t => .obj ((hk _ List.mem_cons_self).trans h) l (TrL.keep ff tp (fun b hb => hk b (List.mem_cons_of_mem _ hb)) t)
theorem TrL.keep (ff : Same F F') (tp : ∀ b xs, H b = some (.tup xs) → H' b = some (.tup xs)) : ∀ {k : Nat → Sh} {n : Nat} {ds : List D} {vs : List V} {S : List Addr}, (∀ b ∈ S, H' b = H b) → TrL θ B F H k n ds vs S → TrL θ B F' H' k n ds vs S
  | _, _, _, _, _, _, .nil => .nil
  | _, _, _, _, _, hk, .cons h t => .cons (Tr.keep ff tp (fun b hb => hk b (List.mem_append_left _ hb)) h) (TrL.keep ff tp (fun b hb => hk b (List.mem_append_right _ hb)) t)
end
mutual
theorem Tr.some : ∀ {k : Sh} {d : D} {v : V} {S : List Addr}, Tr θ B F H k d v S → ∀ b ∈ S, ∃ o, H b = some o ∧ ∀ xs, o ≠ .tup xs
  | _, _, _, _, .lf r, b, hb => by cases hb
  | _, _, _, _, .fl h r, b, hb => by cases hb
  | _, _, _, _, .lst h t, b, hb => by
    rcases List.mem_cons.mp hb with rfl | hb
    · exact ⟨_, h, fun _ z => by cases z⟩
    · exact TrL.some t b hb
  | _, _, _, _, .tup h hB t, b, hb => TrL.some t b hb
  | _, _, _, _, .dK h l t, b, hb => by
    rcases List.mem_cons.mp hb with rfl | hb
    · exact ⟨_, h, fun _ z => by cases z⟩
    · exact TrL.some t b hb
  | _, _, _, _, .dT h l t, b, hb => by
    rcases List.mem_cons.mp hb with rfl | hb
    · exact ⟨_, h, fun _ z => by cases z⟩
    · exact TrL.some t b hb
  | _, _, _, _, .obj h l t, b, hb => by
    rcases List.mem_cons.mp hb with rfl | hb
    · exact ⟨_, h, fun _ z => by cases z⟩
    · exact TrL.some t b hb
theorem TrL.some : ∀ {k : Nat → Sh} {n : Nat} {ds : List D} {vs : List V} {S : List Addr}, TrL θ B F H k n ds vs S → ∀ b ∈ S, ∃ o, H b = some o ∧ ∀ xs, o ≠ .tup xs
  | _, _, _, _, _, .nil, b, hb => by cases hb
  | _, _, _, _, _, .cons h t, b, hb => (List.mem_append.mp hb).elim (Tr.some h b) (TrL.some t b)
end
mutual
theorem Tr.nofrz : ∀ {k : Sh} {d : D} {v : V} {S : List Addr}, Tr θ B F H k d v S → ∀ b ∈ S, ∀ o w, H b ≠ Option.some (.frz o w)
  | _, _, _, _, .lf r, b, hb => by cases hb
  | _, _, _, _, .fl h r, b, hb => by cases hb
  | _, _, _, _, .lst h t, b, hb => by
    rcases List.mem_cons.mp hb with rfl | hb
    · rw [h]; intro _ _ z; cases z
    · exact TrL.nofrz t b hb
  | _, _, _, _, .tup h hB t, b, hb => TrL.nofrz t b hb
  | _, _, _, _, .dK h l t, b, hb => by
    rcases List.mem_cons.mp hb with rfl | hb
    · rw [h]; intro _ _ z; cases z
    · exact TrL.nofrz t b hb
  | _, _, _, _, .dT h l t, b, hb => by
    rcases List.mem_cons.mp hb with rfl | hb
    · rw [h]; intro _ _ z; cases z
    · exact TrL.nofrz t b hb
  | _, _, _, _, .obj h l t, b, hb => by
    rcases List.mem_cons.mp hb with rfl | hb
    · rw [h]; intro _ _ z; cases z
    · exact TrL.nofrz t b hb
theorem TrL.nofrz : ∀ {k : Nat → Sh} {n : Nat} {ds : List D} {vs : List V} {S : List Addr}, TrL θ B F H k n ds vs S → ∀ b ∈ S, ∀ o w, H b ≠ Option.some (.frz o w)
  | _, _, _, _, _, .nil, b, hb => by cases hb
  | _, _, _, _, _, .cons h t, b, hb => (List.mem_append.mp hb).elim (Tr.nofrz h b) (TrL.nofrz t b)
end
theorem zip_inj {α : Type} : ∀ {ks : List α} {xs ys : List V}, ks.length = xs.length → ks.length = ys.length → ks.zip xs = ks.zip ys → xs = ys
  | [], [], [], _, _, _ => rfl
  | [], _ :: _, _, h, _, _ => by cases h
  | [], [], _ :: _, _, h, _ => by cases h
  | _ :: _, [], _, h, _, _ => by cases h
  | _ :: _, _ :: _, [], _, h, _ => by cases h
  | k :: ks, x :: xs, y :: ys, h1, h2, h => by
    rw [List.zip_cons_cons, List.zip_cons_cons] at h
    injection h with h3 h4
    injection h3 with _ h5
    rw [h5, zip_inj (by simpa using h1) (by simpa using h2) h4]
mutual
/-- where the objects of a tree lie is not open -/
theorem Tr.det : ∀ {k : Sh} {d : D} {v : V} {S S' : List Addr}, Tr θ B F H k d v S → Tr θ B F H k d v S' → S = S'
  | _, _, _, _, _, .lf _, g => by cases g; rfl
  | _, _, _, _, _, .fl h _, g => by
    cases g with
    | fl _ _ => rfl
    | lst _ _ => cases h
    | tup _ _ _ => cases h
    | dK _ _ _ => cases h
    | dT _ _ _ => cases h
    | obj _ _ _ => cases h
  | _, _, _, _, _, .lst h t, g => by
    cases g with
    | fl z _ => cases z
    | lst h2 t2 =>
      rw [h] at h2
      cases h2
      rw [TrL.det t t2]
  | _, _, _, _, _, .tup h hB t, g => by
    cases g with
    | fl z _ => cases z
    | tup h2 _ t2 =>
      rw [h] at h2
      cases h2
      exact TrL.det t t2
  | _, _, _, _, _, .dK h l t, g => by
    cases g with
    | fl z _ => cases z
    | dK h2 l2 t2 =>
      rw [h] at h2
      injection h2 with h2
      injection h2 with h2
      have e := zip_inj (by rw [t.length]; exact l) (by rw [t2.length]; exact l) h2
      subst e
      rw [TrL.det t t2]
  | _, _, _, _, _, .dT h l t, g => by
    cases g with
    | fl z _ => cases z
    | dT h2 l2 t2 =>
      rw [h] at h2
      injection h2 with h2
      injection h2 with h2
      have e := zip_inj (by rw [t.length]; exact l) (by rw [t2.length]; exact l) h2
      subst e
      rw [TrL.det t t2]
  | _, _, _, _, _, .obj h l t, g => by
    cases g with
    | fl z _ => cases z
    | obj h2 l2 t2 =>
      rw [h] at h2
      injection h2 with h2
      injection h2 with _ _ h2
      have e := zip_inj (by rw [t.length]; exact l) (by rw [t2.length]; exact l) h2
      subst e
      rw [TrL.det t t2]
theorem TrL.det : ∀ {k : Nat → Sh} {n : Nat} {ds : List D} {vs : List V} {S S' : List Addr}, TrL θ B F H k n ds vs S → TrL θ B F H k n ds vs S' → S = S'
  | _, _, _, _, _, _, .nil, g => by cases g; rfl
  | _, _, _, _, _, _, .cons h t, g => by
    cases g with
    | cons h2 t2 => rw [Tr.det h h2, TrL.det t t2]
end
end
/-- the slot's own is one object -/
def Owner (ρ : Sl) (j : Nat) : Prop := (∃ d, ρ[j]? = some (.ow d)) ∨ ∃ k ds, ρ[j]? = some (.me k ds)
/-- the own trees: at Z i that of slot i -/
def PvAll (θ : Th) (B F H : Hp) (σ : St) (ρ : Sl) (Z : Nat → List Addr) : Prop := ∀ (i : Nat) (k : Sh) (d : D), ρ[i]? = some (.pv k d) →
  (∃ v, σ[i]? = some (some v) ∧ Tr θ B F H k d v (Z i)) ∧ (Z i).Nodup ∧ (∀ b ∈ Z i, F b = none ∧ B b = none) ∧ (∀ (j : Nat) (b : Addr), Owner ρ j → σ[j]? = some (some (.ref b)) → b ∉ Z i) ∧
  ∀ (j : Nat) (k' : Sh) (d' : D), j ≠ i → ρ[j]? = some (.pv k' d') → ∀ z ∈ Z j, z ∉ Z i
theorem PvAll.step {θ : Th} {B F F' H H' : Hp} {σ σ' : St} {ρ ρ' : Sl} {Z : Nat → List Addr} (h : PvAll θ B F H σ ρ Z) (ff : Same F F') (tp : ∀ b xs, H b = some (.tup xs) → H' b = some (.tup xs))
    (st : ∀ (i : Nat) (k : Sh) (d : D), ρ'[i]? = some (.pv k d) → ρ[i]? = some (.pv k d) ∧ σ'[i]? = σ[i]? ∧ ∀ b ∈ Z i, H' b = H b ∧ F' b = none)
    (ow : ∀ (i : Nat) (k : Sh) (d : D) (j : Nat) (b : Addr), ρ'[i]? = some (.pv k d) → Owner ρ' j → σ'[j]? = some (some (.ref b)) → b ∉ Z i) : PvAll θ B F' H' σ' ρ' Z := fun i k d hi => by
  obtain ⟨g1, g2, g3⟩ := st i k d hi
  obtain ⟨⟨v, h1, h2⟩, h3, h4, h5, h6⟩ := h i k d g1
  refine ⟨⟨v, by rw [g2]; exact h1, h2.keep ff tp fun b hb => (g3 b hb).1⟩, h3, fun b hb => ⟨(g3 b hb).2, (h4 b hb).2⟩, fun j b ho hs => ow i k d j b hi ho hs, fun j k' d' hj hp => h6 j k' d' hj (st j k' d' hp).1⟩
/-- no own trees -/
theorem PvAll.empty {θ : Th} {B F H : Hp} {σ : St} {ρ : Sl} (h : ∀ (i : Nat) (k : Sh) (d : D), ρ[i]? ≠ some (.pv k d)) : PvAll θ B F H σ ρ fun _ => [] := fun i k d hi => absurd hi (h i k d)

/-! ### new trees -/
/-- a new tree behind an expression -/
def TrV (θ : Th) (F' H H' : Hp) (n : Nat) (d : D) (v : V) : Prop := ∃ S, Tr θ H F' H' (shn n) d v S ∧ S.Nodup ∧ ∀ b ∈ S, H b = none ∧ F' b = none
section
variable {θ : Th} {B B' F F' H H' : Hp}
mutual
theorem Tr.base (hn : ∀ b, B b = none → B' b = none) : ∀ {k : Sh} {d : D} {v : V} {S : List Addr}, Tr θ B F H k d v S → Tr θ B' F H k d v S
  | _, _, _, _, .lf r => .lf r
  | _, _, _, _, .fl h r => .fl h r
  | _, _, _, _, .lst h t => .lst h (TrL.base hn t)
  | _, _, _, _, .tup h hb t => .tup h (hn _ hb) (TrL.base hn t)
  | _, _, _, _, .dK h l t => .dK h l (TrL.base hn t)
  | _, _, _, _, .dT h l t => .dT h l (TrL.base hn t)
  | _, _, _, _, .obj h l t => .obj h l (TrL.base hn t)
theorem TrL.base (hn : ∀ b, B b = none → B' b = none) : ∀ {k : Nat → Sh} {n : Nat} {ds : List D} {vs : List V} {S : List Addr}, TrL θ B F H k n ds vs S → TrL θ B' F H k n ds vs S
  | _, _, _, _, _, .nil => .nil
  | _, _, _, _, _, .cons h t => .cons (Tr.base hn h) (TrL.base hn t)
end
end
section
variable {θ : Th} {F0 B F F' H H' : Hp}
/-! ### a tree frozen -/
mutual
theorem frz_tr : ∀ {k : Sh} {d : D} {v : V} {S : List Addr}, Tr θ B F H k d v S → ∃ N : List Addr, (∀ b ∈ N, b ∈ S ∨ (B b = none ∧ ∃ xs, H b = some (.tup xs))) ∧ ∀ F', Same F F' → (∀ b ∈ N, ∀ u, H b = some u → F' b = some u) → Rep θ F' d v
  | _, _, _, _, .lf r => ⟨[], (fun _ h => by cases h), fun _ e _ => r.mono e⟩
  | _, _, _, _, .fl _ r => ⟨[], (fun _ h => by cases h), fun _ e _ => r.mono e⟩
  | _, _, _, _, .lst (a := a) h t => by
    obtain ⟨N, h1, h2⟩ := frz_trl t
    refine ⟨a :: N, fun b hb => ?_, fun F' e hN => .lst (hN a List.mem_cons_self _ h) (h2 F' e fun b hb => hN b (List.mem_cons_of_mem _ hb))⟩
    rcases List.mem_cons.mp hb with rfl | hb
    · exact .inl List.mem_cons_self
    · exact (h1 b hb).imp (List.mem_cons_of_mem _) id
  | _, _, _, _, .tup (a := a) h hB t => by
    obtain ⟨N, h1, h2⟩ := frz_trl t
    refine ⟨a :: N, fun b hb => ?_, fun F' e hN => .tup (hN a List.mem_cons_self _ h) (h2 F' e fun b hb => hN b (List.mem_cons_of_mem _ hb))⟩
    rcases List.mem_cons.mp hb with rfl | hb
    · exact .inr ⟨hB, _, h⟩
    · exact h1 b hb
  | _, _, _, _, .dK (a := a) h l t => by
    obtain ⟨N, h1, h2⟩ := frz_trl t
    refine ⟨a :: N, fun b hb => ?_, fun F' e hN => .dK (hN a List.mem_cons_self _ h) l (h2 F' e fun b hb => hN b (List.mem_cons_of_mem _ hb))⟩
    rcases List.mem_cons.mp hb with rfl | hb
    · exact .inl List.mem_cons_self
    · exact (h1 b hb).imp (List.mem_cons_of_mem _) id
  | _, _, _, _, .dT (a := a) h l t => by
    obtain ⟨N, h1, h2⟩ := frz_trl t
    refine ⟨a :: N, fun b hb => ?_, fun F' e hN => .dT (hN a List.mem_cons_self _ h) l (h2 F' e fun b hb => hN b (List.mem_cons_of_mem _ hb))⟩
    rcases List.mem_cons.mp hb with rfl | hb
    · exact .inl List.mem_cons_self
    · exact (h1 b hb).imp (List.mem_cons_of_mem _) id
  | _, _, _, _, .obj (a := a) h l t => by
    obtain ⟨N, h1, h2⟩ := frz_trl t
    refine ⟨a :: N, fun b hb => ?_, fun F' e hN => .obj (hN a List.mem_cons_self _ h) l (h2 F' e fun b hb => hN b (List.mem_cons_of_mem _ hb))⟩
    rcases List.mem_cons.mp hb with rfl | hb
    · exact .inl List.mem_cons_self
    · exact (h1 b hb).imp (List.mem_cons_of_mem _) id
theorem frz_trl : ∀ {k : Nat → Sh} {n : Nat} {ds : List D} {vs : List V} {S : List Addr}, TrL θ B F H k n ds vs S → ∃ N : List Addr, (∀ b ∈ N, b ∈ S ∨ (B b = none ∧ ∃ xs, H b = some (.tup xs))) ∧ ∀ F', Same F F' → (∀ b ∈ N, ∀ u, H b = some u → F' b = some u) → RepL θ F' ds vs
  | _, _, _, _, _, .nil => ⟨[], (fun _ h => by cases h), fun _ _ _ => .nil⟩
  | _, _, _, _, _, .cons h t => by
    obtain ⟨N, h1, h2⟩ := frz_tr h
    obtain ⟨M, g1, g2⟩ := frz_trl t
    refine ⟨N ++ M, fun b hb => ?_, fun F' e hN => .cons (h2 F' e fun b hb => hN b (List.mem_append_left _ hb)) (g2 F' e fun b hb => hN b (List.mem_append_right _ hb))⟩
    rcases List.mem_append.mp hb with hb | hb
    · exact (h1 b hb).imp (List.mem_append_left _) id
    · exact (g1 b hb).imp (List.mem_append_right _) id
end
open Classical in
/-- F with the objects at N -/
noncomputable def addN (F H : Hp) (N : List Addr) : Hp := fun b => match F b with
  | some u => some u
  | none => if b ∈ N then H b else none
theorem addN_same {N : List Addr} : Same F (addN F H N) := fun b u h => by
  unfold addN
  rw [h]
theorem addN_some {N : List Addr} {b : Addr} {u : HO} (h : addN F H N b = some u) : F b = some u ∨ (F b = none ∧ b ∈ N ∧ H b = some u) := by
  unfold addN at h
  cases q : F b with
  | some w => rw [q] at h; exact .inl h
  | none =>
    rw [q] at h
    dsimp only at h
    by_cases m : b ∈ N
    · rw [if_pos m] at h
      exact .inr ⟨rfl, m, h⟩
    · rw [if_neg m] at h
      cases h
theorem addN_at {N : List Addr} {b : Addr} {u : HO} (s : Sub F H) (m : b ∈ N) (hu : H b = some u) (hd : ∀ o w, u ≠ .frz o w) : addN F H N b = some u := by
  unfold addN
  cases q : F b with
  | some w =>
    rcases s b w q with z | ⟨_, o, z⟩
    · rw [hu] at z; exact z.symm
    · rw [hu] at z; cases z; exact absurd rfl (hd _ _)
  | none =>
    dsimp only
    rw [if_pos m]
    exact hu

theorem TrV.freeze {n : Nat} {d : D} {v : V} (e : Ext F H F' H') (f : TrV θ F' H H' n d v) : ∃ F2, Ext F H F2 H' ∧ Same F' F2 ∧ Rep θ F2 d v := by
  obtain ⟨S, t, nd, fr⟩ := f
  obtain ⟨N, hN, rep⟩ := frz_tr t
  have nN : ∀ b ∈ N, H b = none := fun b hb => (hN b hb).elim (fun z => (fr b z).1) (·.1)
  refine ⟨addN F' H' N, ⟨fun b u h => ?_, e.ff.trans addN_same, e.hh, fun b u h => ?_⟩, addN_same, rep _ addN_same fun b hb u hu => addN_at e.sub hb hu fun o w z => ?_⟩
  · rcases addN_some h with z | ⟨_, _, z⟩
    · exact e.sub b u z
    · exact .inl z
  · rcases addN_some h with z | ⟨_, z, _⟩
    · exact e.nw b u z
    · exact .inr (nN b z)
  · subst z
    rcases hN b hb with g | ⟨_, xs, g⟩
    · exact t.nofrz b g o w hu
    · rw [hu] at g; cases g
end
/-! ### the slots -/
/-- F0, B: the frozen part and the heap at the def's entry; L: the dicts that its loops have locked -/
structure Rel (θ : Th) (F0 B : Hp) (L : List Addr) (F H : Hp) (σ : St) (ρ : Sl) : Prop where
  sub : Sub F H
  kp : ∀ a u, B a = some u → H a = some u ∨ (a ∈ L ∧ IsDict u ∧ ∃ o, H a = some (.frz o u))
  f0 : Same F0 F
  fn : ∀ a u, F a = some u → F0 a = some u ∨ B a = none
  len : σ.length = ρ.length
  va : ∀ (i : Nat) (d : D), ρ[i]? = some (.va d) → ∃ v, σ[i]? = some (some v) ∧ Rep θ F d v
  ow : ∀ (i : Nat) (d : D), ρ[i]? = some (.ow d) → ∃ a o, σ[i]? = some (some (.ref a)) ∧ H a = some o ∧ F a = none ∧ B a = none ∧ Root θ F d o
  fu : ∀ (i : Nat) (d : D), ρ[i]? = some (.ow d) → notObj d = true
  dj : ∀ (i j : Nat) (d e : D) (a : Addr), i ≠ j → ρ[i]? = some (.ow d) → ρ[j]? = some (.ow e) → σ[i]? = some (some (.ref a)) → σ[j]? ≠ some (some (.ref a))
  /-- an instance that is being made -/
  me : ∀ (i k : Nat) (ds : List D), ρ[i]? = some (.me k ds) → (∃ a o, σ[i]? = some (some (.ref a)) ∧ H a = some o ∧ F a = none ∧ B a = none ∧ Root θ (onlyN F B) (.obj k ds) o ∧ a ∈ L ∧ ∀ (j : Nat) (d : D), ρ[j]? = some (.ow d) → σ[j]? ≠ some (some (.ref a))) ∧
    ∀ (j k' : Nat) (ds' : List D), j ≠ i → ρ[j]? ≠ some (.me k' ds')
  /-- the handled exception -/
  xc : ∀ i : Nat, ρ[i]? = some .xc → ∃ a, L.head? = some a ∧ σ[i]? = some (some (.ref a))
  /-- the own trees -/
  pv : ∃ Z, PvAll θ B F H σ ρ Z
section
variable {θ : Th} {F0 B F F' H H' : Hp} {L : List Addr} {σ : St} {ρ : Sl}
theorem PvAll.ext {Z : Nat → List Addr} (hZ : PvAll θ B F H σ ρ Z) (e : Ext F H F' H') : PvAll θ B F' H' σ ρ Z :=
  hZ.step e.ff (fun b xs h => e.hh _ _ h) (fun i k d h => ⟨h, rfl, fun b hb => by
    obtain ⟨⟨v, _, t⟩, _, f, _⟩ := hZ i k d h
    obtain ⟨o, ho, _⟩ := t.some b hb
    refine ⟨by rw [e.hh _ _ ho, ho], ?_⟩
    cases q : F' b with
    | none => rfl
    | some u =>
      rcases e.nw b u q with z | z
      · rw [(f b hb).1] at z; cases z
      · rw [ho] at z; cases z⟩) fun i k d j b h ho hs => (hZ i k d h).2.2.2.1 j b ho hs
theorem Rel.ext (R : Rel θ F0 B L F H σ ρ) (e : Ext F H F' H') : Rel θ F0 B L F' H' σ ρ := by
  have own : ∀ {a : Addr} {o : HO}, H a = some o → F a = none → F' a = none := fun {a o} h2 h3 => by
    cases q : F' a with
    | none => rfl
    | some u =>
      rcases e.nw a u q with z | z
      · rw [h3] at z; cases z
      · rw [h2] at z; cases z
  refine ⟨e.sub, fun a u h => ?_, R.f0.trans e.ff, fun a u h => ?_, R.len, fun i d h => ?_, fun i d h => ?_, R.fu, R.dj, fun i k ds h => ?_, R.xc, ?_⟩
  rotate_right
  · obtain ⟨Z, hZ⟩ := R.pv
    exact ⟨Z, hZ.ext e⟩
  · rcases R.kp a u h with z | ⟨z1, z2, o, z⟩
    · exact .inl (e.hh _ _ z)
    · exact .inr ⟨z1, z2, o, e.hh _ _ z⟩
  · rcases e.nw a u h with z | z
    · exact R.fn a u z
    · refine .inr ?_
      cases q : B a with
      | none => rfl
      | some o => rcases R.kp a o q with y | ⟨_, _, _, y⟩ <;> (rw [z] at y; cases y)
  · obtain ⟨v, h1, h2⟩ := R.va i d h
    exact ⟨v, h1, h2.mono e.ff⟩
  · obtain ⟨a, o, h1, h2, h3, h4, h5⟩ := R.ow i d h
    exact ⟨a, o, h1, e.hh _ _ h2, own h2 h3, h4, h5.mono e.ff⟩
  · obtain ⟨⟨a, o, h1, h2, h3, h4, h5, h6⟩, h7⟩ := R.me i k ds h
    exact ⟨⟨a, o, h1, e.hh _ _ h2, own h2 h3, h4, h5.mono (onlyN_mono e.ff fun _ z => z), h6⟩, h7⟩
end

/-- own trees lie where they lay -/
theorem Rel.pvOld {θ : Th} {F0 B F F1 H H1 : Hp} {L : List Addr} {σ : St} {ρ : Sl} (R : Rel θ F0 B L F H σ ρ) (e : Ext F H F1 H1) {Z : Nat → List Addr} (hZ : PvAll θ B F1 H1 σ ρ Z) {j : Nat} {k : Sh} {d : D} (hp : ρ[j]? = some (.pv k d)) {b : Addr} (hb : b ∈ Z j) : ∃ o, H b = some o := by
  obtain ⟨Z0, h0⟩ := R.pv
  obtain ⟨⟨v, h1, t⟩, _⟩ := h0 j k d hp
  obtain ⟨⟨v1, g1, t1⟩, _⟩ := (h0.ext e) j k d hp
  obtain ⟨⟨v2, g2, t2⟩, _⟩ := hZ j k d hp
  rw [g1] at g2
  cases g2
  rw [← t1.det t2] at hb
  obtain ⟨o, ho, _⟩ := t.some b hb
  exact ⟨o, ho⟩

theorem Rel.pvOld' {θ : Th} {F0 B F F1 H H1 : Hp} {L : List Addr} {σ σ1 : St} {ρ : Sl} (R : Rel θ F0 B L F H σ ρ) (ff : Same F F1) (hh : Same H H1) {j : Nat} {k : Sh} {d : D} (hs : σ1[j]? = σ[j]?) (hp : ρ[j]? = some (.pv k d)) {S : List Addr} (h : ∃ v, σ1[j]? = some (some v) ∧ Tr θ B F1 H1 k d v S) {b : Addr} (hb : b ∈ S) : ∃ o, H b = some o := by
  obtain ⟨Z0, h0⟩ := R.pv
  obtain ⟨⟨v, h1, t⟩, _⟩ := h0 j k d hp
  obtain ⟨v2, g2, t2⟩ := h
  rw [hs, h1] at g2
  cases g2
  have t1 : Tr θ B F1 H1 k d v (Z0 j) := t.keep ff (fun b xs h => hh _ _ h) fun b hb => by
    obtain ⟨o, ho, _⟩ := t.some b hb
    rw [hh _ _ ho, ho]
  rw [← t1.det t2] at hb
  obtain ⟨o, ho, _⟩ := t.some b hb
  exact ⟨o, ho⟩

/-! ### the readings -/
/-- the value that an expression gives, by its kind -/
def Val (θ : Th) (F' H H' : Hp) (σ : St) (ρ : Sl) (d : D) (k : Kd) (v : V) : Prop := match k with
  | .sh => Rep θ F' d v
  | .fr => FrV θ F' H H' d v
  | .at i => σ[i]? = some (some v) ∧ ρ[i]? = some (.ow d)
  | .tr n => TrV θ F' H H' n d v
/-- how an exception's value lies: its class, its dict -/
def ExV (θ : Th) (c : Nat) (fs : List D) (cls : Value) (dd : Option Addr) (F' H' : Hp) : Prop := cls = .ref (θ.C c) ∧ match fs with
  | [] => dd = none
  | _ => ∃ dx xs, dd = some dx ∧ H' dx = some (.xd ((θ.fld c).zip xs)) ∧ F' dx = none ∧ (θ.fld c).length = fs.length ∧ RepL θ F' fs xs
/-- the fixed part of a def's readings -/
structure Cn where
  θ : Th
  F0 : Hp
  B : Hp
/-- «f gives it»: Q of the value, W of the exception -/
def tEv (c : Cn) (L : List Addr) (W : WX) (f : ES) : TE := fun σ H Q => ∃ F ρ, Rel c.θ c.F0 c.B L F H σ ρ ∧ match f ρ with
  | .ok (d, k) => ∀ v F' H', Ext F H F' H' → Val c.θ F' H H' σ ρ d k v → Q v H'
  | .ex n fs => ∀ cls dd F' H', Ext F H F' H' → ExV c.θ n fs cls dd F' H' → W cls dd σ H'
  | .no => False
/-- what may be read of a value whose kind is any: the value itself, or its root -/
def Rd1 (θ : Th) (F H : Hp) (d : D) (v : V) : Prop := Rep θ F d v ∨ ∃ a o, v = .ref a ∧ H a = some o ∧ Root θ F d o
end G
/-! G, part 3: expressions over the hand layer: names, operators, comparisons, tests, displays, subscripts. -/
namespace G
open PySem PySem.Spec L2

/-- what is asked of an outcome -/
def Res (c : Cn) (W : WX) (σ : L2.St) (ρ : Sl) (F H : Hp) (Q : VK) : Out (D × Kd) → Prop
  | .ok (d, k) => ∀ v F' H', Ext F H F' H' → Val c.θ F' H H' σ ρ d k v → Q v H'
  | .ex n fs => ∀ cls dd F' H', Ext F H F' H' → ExV c.θ n fs cls dd F' H' → W cls dd σ H'
  | .no => False
section
variable {c : Cn} {L : List Addr} {W : WX} {σ : L2.St} {ρ : Sl} {F F1 F2 H H1 H2 : Hp} {Q : VK} {f g : ES} {P : V → Hp → Prop}
theorem tEv_of (R : Rel c.θ c.F0 c.B L F H σ ρ) (h : Res c W σ ρ F H Q (f ρ)) : tEv c L W f σ H Q := by
  refine ⟨F, ρ, R, ?_⟩
  revert h
  cases f ρ with
  | ok x => obtain ⟨d, k⟩ := x; exact id
  | ex n fs => exact id
  | no => exact id
theorem of_tEv (h : tEv c L W f σ H Q) : ∃ F ρ, Rel c.θ c.F0 c.B L F H σ ρ ∧ Res c W σ ρ F H Q (f ρ) := by
  obtain ⟨F, ρ, R, h⟩ := h
  refine ⟨F, ρ, R, ?_⟩
  revert h
  cases f ρ with
  | ok x => obtain ⟨d, k⟩ := x; exact id
  | ex n fs => exact id
  | no => exact id
theorem FrV.back {θ : Th} {d : D} {v : V} (e : Ext F H F1 H1) (f : FrV θ F2 H1 H2 d v) : FrV θ F2 H H2 d v := by
  obtain ⟨fu, a, o, rfl, n, h1, h2, h3, h4⟩ := f
  exact ⟨fu, a, o, rfl, e.hh.free n, h1, h2, h3, h4.mono (.refl _) fun _ z => e.hh.free z⟩
theorem TrV.back {θ : Th} {n : Nat} {d : D} {v : V} (e : Ext F H F1 H1) (f : TrV θ F2 H1 H2 n d v) : TrV θ F2 H H2 n d v := by
  obtain ⟨S, t, nd, fr⟩ := f
  exact ⟨S, t.base fun _ z => e.hh.free z, nd, fun b hb => ⟨e.hh.free (fr b hb).1, (fr b hb).2⟩⟩
theorem Val.back {d : D} {k : Kd} {v : V} (e : Ext F H F1 H1) (h : Val c.θ F2 H1 H2 σ ρ d k v) : Val c.θ F2 H H2 σ ρ d k v := by
  cases k with
  | sh => exact h
  | fr => exact FrV.back e h
  | «at» i => exact h
  | tr n => exact TrV.back e h
theorem Res.mono {o : Out (D × Kd)} (h : Res c W σ ρ F H Q o) (e : Ext F H F1 H1) : Res c W σ ρ F1 H1 Q o := by
  cases o with
  | ok x =>
    obtain ⟨d, k⟩ := x
    intro v F' H' e' hv
    exact h v F' H' (e.trans e') (Val.back e hv)
  | ex n fs =>
    intro cls dd F' H' e' hv
    exact h cls dd F' H' (e.trans e') hv
  | no => exact h
theorem Rd1.ext {θ : Th} {d : D} {v : V} (e : Ext F H F1 H1) (h : Rd1 θ F H d v) : Rd1 θ F1 H1 d v := by
  rcases h with h | ⟨a, o, rfl, h, r⟩
  · exact .inl (h.mono e.ff)
  · exact .inr ⟨a, o, rfl, e.hh _ _ h, r.mono e.ff⟩
/-- the operand is used: frozen where it is fresh, read where it is a slot's own -/
theorem Val.use {d : D} {k : Kd} {v : V} (R : Rel c.θ c.F0 c.B L F H σ ρ) (e : Ext F H F1 H1) (h : Val c.θ F1 H H1 σ ρ d k v) :
    ∃ F2, Ext F H F2 H1 ∧ Same F1 F2 ∧ Rd1 c.θ F2 H1 d v ∧ (k.solid = true → Rep c.θ F2 d v) := by
  cases k with
  | sh => exact ⟨F1, e, .refl _, .inl h, fun _ => h⟩
  | fr =>
    obtain ⟨F2, e2, s, r⟩ := FrV.freeze e h
    exact ⟨F2, e2, s, .inl r, fun _ => r⟩
  | tr n =>
    obtain ⟨F2, e2, s, r⟩ := TrV.freeze e h
    exact ⟨F2, e2, s, .inl r, fun _ => r⟩
  | «at» i =>
    obtain ⟨h1, h2⟩ := h
    obtain ⟨a, o, h3, h4, _, _, h5⟩ := R.ow i d h2
    rw [h1] at h3
    cases h3
    exact ⟨F1, e, .refl _, .inr ⟨a, o, rfl, e.hh _ _ h4, h5.mono e.ff⟩, fun z => by cases z⟩
/-- an operand, then what follows -/
theorem ev_bind {g : D × Kd → Out (D × Kd)} (R : Rel c.θ c.F0 c.B L F H σ ρ) (h : Res c W σ ρ F H Q ((f ρ).bind g))
    (hp : ∀ d k x F1 H1, f ρ = .ok (d, k) → Ext F H F1 H1 → Rd1 c.θ F1 H1 d x → (k.solid = true → Rep c.θ F1 d x) → Rel c.θ c.F0 c.B L F1 H1 σ ρ → Res c W σ ρ F1 H1 Q (g (d, k)) → P x H1) : tEv c L W f σ H P := by
  refine ⟨F, ρ, R, ?_⟩
  cases hf : f ρ with
  | ok x =>
    obtain ⟨d, k⟩ := x
    rw [hf] at h
    intro v F' H' e hv
    obtain ⟨F2, e2, _, rd, so⟩ := Val.use R e hv
    exact hp d k v F2 H' hf e2 rd so (R.ext e2) (Res.mono (show Res c W σ ρ F H Q (g (d, k)) from h) e2)
  | ex n fs =>
    rw [hf] at h
    exact h
  | no =>
    rw [hf] at h
    exact h
end

/-! ### what is read -/
section
variable {θ : Th} {F H : Hp} {v : V}
theorem Rd1.int {i : Int} (h : Rd1 θ F H (.int i) v) : v = .int i := by
  rcases h with h | ⟨a, o, rfl, h, r⟩
  · cases h; rfl
  · cases r
theorem Rd1.str {i : Str} (h : Rd1 θ F H (.str i) v) : v = .str i := by
  rcases h with h | ⟨a, o, rfl, h, r⟩
  · cases h; rfl
  · cases r
theorem Rd1.bl {i : Bool} (h : Rd1 θ F H (.bl i) v) : v = .bl i := by
  rcases h with h | ⟨a, o, rfl, h, r⟩
  · cases h; rfl
  · cases r
theorem Rd1.non (h : Rd1 θ F H .non v) : v = .non := by
  rcases h with h | ⟨a, o, rfl, h, r⟩
  · cases h; rfl
  · cases r
theorem Sub.lst {a : Addr} {xs : List V} (s : Sub F H) (h : F a = some (.lst xs)) : H a = some (.lst xs) := by
  rcases s a _ h with z | ⟨z, _⟩
  · exact z
  · cases z
theorem Sub.tup {a : Addr} {xs : List V} (s : Sub F H) (h : F a = some (.tup xs)) : H a = some (.tup xs) := by
  rcases s a _ h with z | ⟨z, _⟩
  · exact z
  · cases z
theorem Sub.ins {a C dx : Addr} {fs : List (Str × V)} (s : Sub F H) (h : F a = some (.ins C dx fs)) : H a = some (.ins C dx fs) := by
  rcases s a _ h with z | ⟨z, _⟩
  · exact z
  · cases z
theorem Rd1.lst {ds : List D} (s : Sub F H) (h : Rd1 θ F H (.lst ds) v) : ∃ a xs, v = .ref a ∧ H a = some (.lst xs) ∧ RepL θ F ds xs := by
  rcases h with h | ⟨a, o, rfl, h, r⟩
  · cases h with
    | lst h r => exact ⟨_, _, rfl, s.lst h, r⟩
  · cases r with
    | lst r => exact ⟨_, _, rfl, h, r⟩
theorem Rd1.tup {ds : List D} (s : Sub F H) (h : Rd1 θ F H (.tup ds) v) : ∃ a xs, v = .ref a ∧ H a = some (.tup xs) ∧ RepL θ F ds xs ∧ Rep θ F (.tup ds) v := by
  rcases h with h | ⟨a, o, rfl, h, r⟩
  · cases h with
    | tup h r => exact ⟨_, _, rfl, s.tup h, r, .tup h r⟩
  · cases r
theorem Sub.seq {K : PySem.W.Frag} {a : Addr} {xs : List V} (s : Sub F H) (h : SqL K F a xs) : SqL K H a xs := by
  rcases h with (h | ⟨o, h⟩) | h
  · exact .inl (.inl (s.lst h))
  · rcases s a _ h with z | ⟨z, _⟩
    · exact .inl (.inr ⟨o, z⟩)
    · cases z
  · exact .inr h
theorem Rd1.frl {ns : List Int} (s : Sub F H) (h : Rd1 θ F H (.frl ns) v) : ∃ a, v = .ref a ∧ SqL θ.K H a (ns.map V.int) := by
  rcases h with h | ⟨a, o, rfl, h, r⟩
  · cases h with
    | frl h => exact ⟨_, rfl, s.seq h⟩
  · cases r
theorem SZ_le : SZ ≤ sizeLine := by rw [sizeLine_eq]; exact Nat.le_refl _
end

/-! ### results -/
section
variable {c : Cn} {L : List Addr} {W : WX} {σ : L2.St} {ρ : Sl} {F F1 H H1 : Hp} {Q : VK}
theorem Res.sh {d : D} {v : V} (h : Res c W σ ρ F H Q (shr d)) (s : Sub F H) (r : Rep c.θ F d v) : Q v H := h v F H (Ext.refl s) r
theorem Res.bl {b : Bool} (h : Res c W σ ρ F H Q (shr (.bl b))) (s : Sub F H) : Q (.bl b) H := h.sh s (.bl b)
theorem Res.int {b : Int} (h : Res c W σ ρ F H Q (shr (.int b))) (s : Sub F H) : Q (.int b) H := h.sh s (.int b)
theorem Res.str {b : Str} (h : Res c W σ ρ F H Q (shr (.str b))) (s : Sub F H) : Q (.str b) H := h.sh s (.str b)
theorem Res.ite {p : Prop} [Decidable p] {o : Out (D × Kd)} (h : Res c W σ ρ F H Q (if p then o else .no)) : p ∧ Res c W σ ρ F H Q o := by
  by_cases q : p
  · rw [if_pos q] at h
    exact ⟨q, h⟩
  · rw [if_neg q] at h
    exact h.elim
/-- a new list -/
theorem Res.lay {d : D} {o : HO} (h : Res c W σ ρ F H Q (.ok (d, .fr))) (s : Sub F H) (r : Root c.θ F d o) {p : Addr} (n : H p = none) (no : notObj d = true := by rfl) : Q (.ref p) (upd H p o) :=
  h _ F _ (Ext.lay s n) ⟨Full.of no, p, o, rfl, n, upd_same, s.free n, r, Nw.of no⟩
/-- a new tuple -/
theorem Res.layT {ds : List D} {xs : List V} (h : Res c W σ ρ F H Q (shr (.tup ds))) (s : Sub F H) (r : RepL c.θ F ds xs) {p : Addr} (n : H p = none) : Q (.ref p) (upd H p (.tup xs)) := by
  have nf := s.free n
  have e : Ext F H (upd F p (.tup xs)) (upd H p (.tup xs)) := Ext.freeze (s.lay n) upd_same nf H (Same.lay n) n F (Ext.lay s n)
  exact h _ _ _ e (.tup upd_same (r.mono (Same.lay nf)))
end

/-! ### names, constants -/
section
variable {X : Cx} {c : Cn} {L : List Addr} {W : WX} {f g : ES} {a b : Expr} {pos : Pos}
theorem pe_ev {e : Expr} {t : TE} (h : PE X e t) (hi : ∀ (σ : L2.St) (H : Hp) (Q : VK), tEv c L W f σ H Q → t σ H Q) : PE X e (tEv c L W f) := ⟨fun pins s σ H Q I hw => h.run pins s σ H Q I (hi σ H Q hw)⟩
theorem pg_var {i : Nat} {x : Str} (hN : X.N[i]? = some x) (hv : Vis X.env.scope x) (hd : (x == ("__debug__" : Str)) = false) (hcd : (x == ("__classdict__" : Str)) = false) : PE X (.Name x pos) (tEv c L W (eVar i)) := by
  refine pe_ev (pe_var hN hv hd hcd) fun σ H Q h => ?_
  obtain ⟨F, ρ, R, h⟩ := of_tEv h
  unfold eVar at h
  cases q : ρ[i]? with
  | none => rw [q] at h; exact h.elim
  | some sl =>
    rw [q] at h
    cases sl with
    | un => exact h.elim
    | va d =>
      obtain ⟨v, h1, h2⟩ := R.va i d q
      exact ⟨v, h1, h v F H (Ext.refl R.sub) h2⟩
    | ow d =>
      obtain ⟨a, o, h1, h2, _⟩ := R.ow i d q
      exact ⟨_, h1, h _ F H (Ext.refl R.sub) ⟨h1, q⟩⟩
    | me k ds => exact h.elim
    | xc => exact h.elim
    | pv k d => exact h.elim
theorem pg_const {e : Expr} {v : V} {d : D} (h : PE X e (tC v)) (r : ∀ θ F, Rep θ F d v) : PE X e (tEv c L W (eC d)) := by
  refine pe_ev h fun σ H Q h => ?_
  obtain ⟨F, ρ, R, h⟩ := of_tEv h
  exact h v F H (Ext.refl R.sub) (r _ _)

/-! ### operators -/
/-- the operator's rule by pure values -/
def OpD (c : Cn) (W : WX) (op : D → D → Out (D × Kd)) (r : V → V → Hp → VK → Prop) : Prop := ∀ (σ : L2.St) (ρ : Sl) (F H : Hp) (Q : VK) (x y : V) (d e : D), Sub F H → Rd1 c.θ F H d x → Rd1 c.θ F H e y → Res c W σ ρ F H Q (op d e) → r x y H Q
theorem pg_bin {o : Operator} {op : D → D → Out (D × Kd)} {r : V → V → Hp → VK → Prop} (ho : OpR X (binaryOp o) r) (hd : OpD c W op r) (ha : PE X a (tEv c L W f)) (hb : PE X b (tEv c L W g)) : PE X (.BinOp a o b pos) (tEv c L W (eBin op f g)) := by
  refine pe_ev (pe_op ho ha hb) fun σ H Q h => ?_
  obtain ⟨F, ρ, R, h⟩ := of_tEv h
  refine ev_bind R h fun d k x F1 H1 _ e1 rd1 _ R1 h1 => ?_
  exact ev_bind R1 h1 fun d2 k2 y F2 H2 _ e2 rd2 _ R2 h2 => hd σ ρ F2 H2 Q x y d d2 R2.sub (rd1.ext e2) rd2 h2
theorem pg_cmp {o : CmpOp} {op : D → D → Out (D × Kd)} {r : V → V → Hp → VK → Prop} (ho : OpR X (compareOp o) r) (hm : behindInMarks o b = false) (hd : OpD c W op r) (ha : PE X a (tEv c L W f)) (hb : PE X b (tEv c L W g)) : PE X (.Compare a [o] [b] pos) (tEv c L W (eBin op f g)) := by
  refine pe_ev (pe_cmpR ho ha hb hm) fun σ H Q h => ?_
  obtain ⟨F, ρ, R, h⟩ := of_tEv h
  refine ev_bind R h fun d k x F1 H1 _ e1 rd1 _ R1 h1 => ?_
  exact ev_bind R1 h1 fun d2 k2 y F2 H2 _ e2 rd2 _ R2 h2 => hd σ ρ F2 H2 Q x y d d2 R2.sub (rd1.ext e2) rd2 h2
theorem od_add : OpD c W oAdd (fun x y H Q => rI0 (fun i j => .int (i + j)) x y H Q ∨ (∃ i j, x = .str i ∧ y = .str j ∧ i.length + j.length ≤ sizeLine ∧ Q (.str (i ++ j)) H) ∨ rCat x y H Q ∨ rCatA c.θ.K x y H Q) := by
  intro σ ρ F H Q x y d e s rx ry h
  cases d <;> cases e <;> first | exact h.elim | skip
  · cases rx.int; cases ry.int
    exact .inl ⟨_, _, rfl, rfl, h.int s⟩
  · cases rx.str; cases ry.str
    obtain ⟨hl, h⟩ := Res.ite h
    exact .inr (.inl ⟨_, _, rfl, rfl, Nat.le_trans hl SZ_le, h.str s⟩)
  · obtain ⟨p, xs, rfl, hp, r1⟩ := rx.lst s
    obtain ⟨q, ys, rfl, hq, r2⟩ := ry.lst s
    obtain ⟨hl, h⟩ := Res.ite h
    refine .inr (.inr (.inl ⟨p, q, xs, ys, rfl, rfl, hp, hq, ?_, fun l hl => h.lay s (.lst (r1.append r2)) hl⟩))
    rw [r1.length, r2.length]
    exact Nat.le_trans hl SZ_le
  · obtain ⟨p, xs, rfl, hp, r1, z1⟩ := rx.tup s
    obtain ⟨q, ys, rfl, hq, r2, z2⟩ := ry.tup s
    obtain ⟨hl, h⟩ := Res.ite h
    refine .inr (.inr (.inr ⟨p, q, xs, ys, rfl, rfl, .inl (.inl hp), .inl (.inl hq), ?_, fun e => ?_, fun _ e => ?_, fun _ _ l hl => h.layT s (r1.append r2) hl⟩))
    · rw [r1.length, r2.length]
      exact Nat.le_trans hl SZ_le
    · subst e
      cases r1
      exact h.sh s z2
    · subst e
      cases r2
      rw [List.append_nil] at h
      exact h.sh s z1
end
end G
namespace G
open PySem PySem.Spec L2
section
variable {X : Cx} {c : Cn} {L : List Addr} {W : WX} {f g h : ES} {a b e : Expr} {pos : Pos}
theorem od_sub : OpD c W oSub (rI0 fun i j => .int (i - j)) := by
  intro σ ρ F H Q x y d e s rx ry h
  cases d <;> cases e <;> first | exact h.elim | skip
  cases rx.int; cases ry.int
  exact ⟨_, _, rfl, rfl, h.int s⟩
theorem smallI_ok {i : Int} (h : smallI i = true) : -(2 ^ 64) < i ∧ i < 2 ^ 64 := of_decide_eq_true h
theorem od_mul : OpD c W oMul (fun x y H Q => rI CMul (fun i j => .int (i * j)) x y H Q ∨ rRep x y H Q) := by
  intro σ ρ F H Q x y d e s rx ry h
  cases d <;> cases e <;> first | exact h.elim | skip
  · cases rx.int; cases ry.int
    obtain ⟨hl, h⟩ := Res.ite h
    refine .inl ⟨_, _, rfl, rfl, ?_, h.int s⟩
    rcases Bool.or_eq_true_iff.mp hl with z | z
    · exact .inl (smallI_ok z)
    · exact .inr (smallI_ok z)
  · obtain ⟨p, xs, rfl, hp, r1⟩ := rx.lst s
    cases ry.int
    obtain ⟨⟨h1, h2, h3⟩, h⟩ := Res.ite h
    refine .inr ⟨p, _, xs, rfl, rfl, hp, h1, h2, ?_, fun l hl => h.lay s (.lst ?_) hl⟩
    · rw [r1.length]
      exact Nat.le_trans h3 SZ_le
    · have key : ∀ n : Nat, RepL c.θ F (List.replicate n _).flatten (List.replicate n xs).flatten := fun n => by
        induction n with
        | zero => exact .nil
        | succ n ih =>
          rw [List.replicate_succ, List.replicate_succ, List.flatten_cons, List.flatten_cons]
          exact r1.append ih
      exact key _
theorem od_mod : OpD c W oMod (rI (fun _ j => 0 < j) fun i j => .int (i % j)) := by
  intro σ ρ F H Q x y d e s rx ry h
  cases d <;> cases e <;> first | exact h.elim | skip
  cases rx.int; cases ry.int
  obtain ⟨hl, h⟩ := Res.ite h
  exact ⟨_, _, rfl, rfl, hl, h.int s⟩
theorem od_div : OpD c W oDiv (rI CDiv fun i j => .int (i / j)) := by
  intro σ ρ F H Q x y d e s rx ry h
  cases d <;> cases e <;> first | exact h.elim | skip
  cases rx.int; cases ry.int
  obtain ⟨hl, h⟩ := Res.ite h
  exact ⟨_, _, rfl, rfl, hl, h.int s⟩
theorem od_pow : OpD c W oPow (rI CPow fun i j => .int (i ^ j.toNat)) := by
  intro σ ρ F H Q x y d e s rx ry h
  cases d <;> cases e <;> first | exact h.elim | skip
  cases rx.int; cases ry.int
  obtain ⟨hl, h⟩ := Res.ite h
  exact ⟨_, _, rfl, rfl, hl, h.int s⟩
theorem pg_neg (ha : PE X a (tEv c L W f)) : PE X (.UnaryOp .USub a pos) (tEv c L W (eUn oNeg f)) := by
  refine pe_ev (pe_un un_neg ha) fun σ H Q h => ?_
  obtain ⟨F, ρ, R, h⟩ := of_tEv h
  refine ev_bind R h fun d k x F1 H1 _ e1 rd1 _ R1 h1 => ?_
  cases d <;> first | exact h1.elim | skip
  cases rd1.int
  exact ⟨_, rfl, h1.int R1.sub⟩

/-! ### comparisons -/
mutual
theorem rep_py {θ : Th} {F H : Hp} (s : Sub F H) : ∀ {d : D} {v : V} {p : PyData}, Rep θ F d v → toPy d = some p → Dp θ.K H v p
  | _, _, _, .non, h => by cases h; exact .non
  | _, _, _, .bl b, h => by cases h; exact .bl b
  | _, _, _, .int b, h => by cases h; exact .int b
  | _, _, _, .str b, h => by cases h; exact .str b
  | .lst ds, _, _, .lst e r, h => by
    unfold toPy at h
    cases q : toPys ds with
    | none => rw [q] at h; cases h
    | some ps =>
      rw [q] at h
      cases h
      exact .lst (.inl (.inl (s.lst e))) (repl_py s r q)
  | .tup ds, _, _, .tup e r, h => by
    unfold toPy at h
    cases q : toPys ds with
    | none => rw [q] at h; cases h
    | some ps =>
      rw [q] at h
      cases h
      exact .tup (.inl (.inl (s.tup e))) (repl_py s r q)
  | _, _, _, .dK _ _ _, h => by cases h
  | _, _, _, .dT _ _ _, h => by cases h
  | _, _, _, .obj _ _ _, h => by cases h
  | _, _, _, .frl _, h => by cases h
  | _, _, _, .hx _, h => by cases h
theorem repl_py {θ : Th} {F H : Hp} (s : Sub F H) : ∀ {ds : List D} {vs : List V} {ps : List PyData}, RepL θ F ds vs → toPys ds = some ps → DpAll θ.K H vs ps
  | _, _, _, .nil, h => by cases h; exact .nil
  | d :: ds, _, _, .cons r rs, h => by
    unfold toPys at h
    cases q : toPy d with
    | none => rw [q] at h; cases h
    | some p =>
      rw [q] at h
      cases q2 : toPys ds with
      | none => rw [q2] at h; cases h
      | some ps =>
        rw [q2] at h
        cases h
        exact .cons (rep_py s r q) (repl_py s rs q2)
end
theorem rd_py {θ : Th} {F H : Hp} (s : Sub F H) {d : D} {v : V} {p : PyData} (r : Rd1 θ F H d v) (h : toPy d = some p) : Dp θ.K H v p := by
  rcases r with r | ⟨a, o, rfl, ha, r⟩
  · exact rep_py s r h
  · cases r with
    | @lst xs ds r =>
      unfold toPy at h
      cases q : toPys ds with
      | none => rw [q] at h; cases h
      | some ps =>
        rw [q] at h
        cases h
        exact .lst (.inl (.inl ha)) (repl_py s r q)
    | dK => cases h
    | dT => cases h
    | obj => cases h
theorem dec_eq {α β : Type} [DecidableEq α] [DecidableEq β] {f : α → β} (hf : ∀ x y, f x = f y → x = y) (i j : α) : decide (f i = f j) = decide (i = j) := by
  by_cases e : i = j
  · rw [decide_eq_true e, decide_eq_true (congrArg f e)]
  · rw [decide_eq_false e, decide_eq_false fun z => e (hf _ _ z)]
theorem scal_ok {θ : Th} {F H : Hp} {d e : D} {x y : V} {b : Bool} (h : scalEq d e = some b) (rx : Rd1 θ F H d x) (ry : Rd1 θ F H e y) : scal x y = true ∧ decide (x = y) = b := by
  cases d <;> cases e <;> first | cases h | skip
  all_goals first
    | (cases rx.non; cases ry.non; exact ⟨rfl, rfl⟩)
    | (cases rx.int; cases ry.non; exact ⟨rfl, rfl⟩)
    | (cases rx.non; cases ry.int; exact ⟨rfl, rfl⟩)
    | (cases rx.str; cases ry.non; exact ⟨rfl, rfl⟩)
    | (cases rx.non; cases ry.str; exact ⟨rfl, rfl⟩)
    | (cases rx.int; cases ry.int; exact ⟨rfl, dec_eq (f := V.int) (fun _ _ z => V.int.inj z) _ _⟩)
    | (cases rx.bl; cases ry.bl; exact ⟨rfl, dec_eq (f := V.bl) (fun _ _ z => V.bl.inj z) _ _⟩)
    | (cases rx.str; cases ry.str; exact ⟨rfl, dec_eq (f := V.str) (fun _ _ z => V.str.inj z) _ _⟩)
theorem eqD_cases {d e : D} {b : Bool} (h : eqD d e = some b) : scalEq d e = some b ∨ ∃ p q, toPy d = some p ∧ toPy e = some q ∧ SeqAt.shaped p = true ∧ SeqAt.shaped q = true ∧ PyData.eqv p q = b := by
  unfold eqD at h
  cases s : scalEq d e with
  | some b' =>
    rw [s] at h
    exact .inl h
  | none =>
    rw [s] at h
    cases q1 : toPy d with
    | none => rw [q1] at h; cases h
    | some p =>
      rw [q1] at h
      cases q2 : toPy e with
      | none => rw [q2] at h; cases h
      | some q =>
        rw [q2] at h
        have h' : (if (SeqAt.shaped p && SeqAt.shaped q) = true then some (PyData.eqv p q) else none) = some b := h
        by_cases z : (SeqAt.shaped p && SeqAt.shaped q) = true
        · rw [if_pos z] at h'
          obtain ⟨z1, z2⟩ := Bool.and_eq_true_iff.mp z
          exact .inr ⟨p, q, rfl, rfl, z1, z2, Option.some.inj h'⟩
        · rw [if_neg z] at h'
          cases h'
theorem od_eq : OpD c W oEq (fun x y H Q => rEq x y H Q ∨ rEqD c.θ.K x y H Q) := by
  intro σ ρ F H Q x y d e s rx ry h
  have h : Res c W σ ρ F H Q (obl (eqD d e)) := h
  cases q : eqD d e with
  | none => rw [q] at h; exact h.elim
  | some b =>
    rw [q] at h
    rcases eqD_cases q with z | ⟨p, q, z1, z2, z3, z4, z5⟩
    · obtain ⟨h1, h2⟩ := scal_ok z rx ry
      refine .inl ⟨h1, ?_⟩
      rw [h2]
      exact h.bl s
    · refine .inr ⟨p, q, rd_py s rx z1, rd_py s ry z2, z3, z4, ?_⟩
      rw [z5]
      exact h.bl s
theorem od_ne : OpD c W oNe (fun x y H Q => rNe x y H Q ∨ rNeD c.θ.K x y H Q) := by
  intro σ ρ F H Q x y d e s rx ry h
  have h : Res c W σ ρ F H Q (obl ((eqD d e).map (!·))) := h
  cases q : eqD d e with
  | none => rw [q] at h; exact h.elim
  | some b =>
    rw [q] at h
    rcases eqD_cases q with z | ⟨p, q, z1, z2, z3, z4, z5⟩
    · obtain ⟨h1, h2⟩ := scal_ok z rx ry
      refine .inl ⟨h1, ?_⟩
      rw [h2]
      exact h.bl s
    · refine .inr ⟨p, q, rd_py s rx z1, rd_py s ry z2, z3, z4, ?_⟩
      rw [z5]
      exact h.bl s
theorem od_le : OpD c W oLe (rI0 fun i j => .bl (decide (i ≤ j))) := by
  intro σ ρ F H Q x y d e s rx ry h
  cases d <;> cases e <;> first | exact h.elim | skip
  cases rx.int; cases ry.int
  exact ⟨_, _, rfl, rfl, h.bl s⟩
theorem od_gt : OpD c W oGt (rI0 fun i j => .bl (decide (j < i))) := by
  intro σ ρ F H Q x y d e s rx ry h
  cases d <;> cases e <;> first | exact h.elim | skip
  cases rx.int; cases ry.int
  exact ⟨_, _, rfl, rfl, h.bl s⟩
theorem od_ge : OpD c W oGe (rI0 fun i j => .bl (decide (j ≤ i))) := by
  intro σ ρ F H Q x y d e s rx ry h
  cases d <;> cases e <;> first | exact h.elim | skip
  cases rx.int; cases ry.int
  exact ⟨_, _, rfl, rfl, h.bl s⟩
theorem od_lt : OpD c W oLt (fun x y H Q => rI0 (fun i j => .bl (decide (i < j))) x y H Q ∨ rLtT c.θ.K x y H Q) := by
  intro σ ρ F H Q x y d e s rx ry h
  cases d <;> cases e <;> first | exact h.elim | skip
  · cases rx.int; cases ry.int
    exact .inl ⟨_, _, rfl, rfl, h.bl s⟩
  · rename_i ds es
    obtain ⟨p, xs, rfl, hp, r1, _⟩ := rx.tup s
    obtain ⟨q, ys, rfl, hq, r2, _⟩ := ry.tup s
    have hh : Res c W σ ρ F H Q (match intsOf ds, intsOf es with
      | some ns, some ms => shr (.bl (HT.lexLt ns ms))
      | _, _ => .no) := h
    cases q1 : intsOf ds with
    | none => rw [q1] at hh; exact hh.elim
    | some ns =>
      cases q2 : intsOf es with
      | none => rw [q1, q2] at hh; exact hh.elim
      | some ms =>
        rw [q1, q2] at hh
        cases intsOf_eq q1
        cases intsOf_eq q2
        cases r1.ints
        cases r2.ints
        exact .inr ⟨p, q, ns, ms, rfl, rfl, .inl (.inl hp), .inl (.inl hq), hh.bl s⟩
theorem pg_isN {j : Nat} {pos' : Pos} (ha : PE X a (tEv c L W f)) : PE X (.Compare a [.Is] [.Constant .none j pos'] pos) (tEv c L W (eUn (fun d => shr (.bl (isNon d))) f)) := by
  refine pe_ev (pe_cmp (pc_isN ha)) fun σ H Q h => ?_
  obtain ⟨F, ρ, R, h⟩ := of_tEv h
  refine ev_bind R h fun d k x F1 H1 _ e1 rd1 _ R1 h1 => ?_
  have e : decide (x = V.non) = isNon d := by
    rcases rd1 with r | ⟨_, _, rfl, _, r⟩ <;> cases r <;> rfl
  rw [e]
  exact h1.bl R1.sub
theorem pg_notN {j : Nat} {pos' : Pos} (ha : PE X a (tEv c L W f)) : PE X (.Compare a [.IsNot] [.Constant .none j pos'] pos) (tEv c L W (eUn (fun d => shr (.bl (!isNon d))) f)) := by
  refine pe_ev (pe_cmp (pc_notN ha)) fun σ H Q h => ?_
  obtain ⟨F, ρ, R, h⟩ := of_tEv h
  refine ev_bind R h fun d k x F1 H1 _ e1 rd1 _ R1 h1 => ?_
  have e : decide (x = V.non) = isNon d := by
    rcases rd1 with r | ⟨_, _, rfl, _, r⟩ <;> cases r <;> rfl
  rw [e]
  exact h1.bl R1.sub
end
end G
namespace G
open PySem PySem.Spec L2
section
variable {X : Cx} {c : Cn} {L : List Addr} {W : WX} {f g h : ES} {a b e : Expr} {pos : Pos} {es : List Expr}
/-! ### chains, and, or, not -/
theorem bind_assoc' {α β γ : Type} (o : Out α) (f : α → Out β) (g : β → Out γ) : (o.bind f).bind g = o.bind fun a => (f a).bind g := by cases o <;> rfl
theorem rd_chain {op op' : D → D → Out (D × Kd)} {r r' : V → V → Hp → VK → Prop} (hd : ∀ W, OpD c W op r) (hd' : OpD c W op' r') {σ : L2.St} {H : Hp} {Q : VK} (hq : tEv c L W (eChain op op' f g h) σ H Q) : tChain r r' (tEv c L W f) (tEv c L W g) (tEv c L W h) σ H Q := by
  obtain ⟨F, ρ, R, hq⟩ := of_tEv hq
  refine ev_bind R hq fun d1 k1 x F1 H1 _ e1 rd1 _ R1 h1 => ?_
  refine ev_bind R1 h1 fun d2 k2 y F2 H2 _ e2 rd2 _ R2 h2 => ?_
  -- the first comparison's own outcome
  refine hd W σ ρ F2 H2 _ x y d1 d2 R2.sub (rd1.ext e2) rd2 ?_
  cases q : op d1 d2 with
  | no => rw [q] at h2; exact h2.elim
  | ex n fs => rw [q] at h2; exact h2
  | ok z =>
    obtain ⟨z, kz⟩ := z
    rw [q] at h2
    intro v F' H' e3 hv
    cases z with
    | bl k =>
      have e : v = .bl k := by
        cases kz with
        | sh => cases hv; rfl
        | tr n =>
          obtain ⟨_, z, _⟩ := hv
          cases n with
          | zero => cases z with | lf r => cases r; rfl
          | succ n => cases z with | fl _ r => cases r; rfl
        | fr => obtain ⟨_, _, _, _, _, _, _, z, _⟩ := hv; cases z
        | «at» i =>
          obtain ⟨_, z⟩ := hv
          obtain ⟨_, _, _, _, _, _, z⟩ := R2.ow i _ z
          cases z
      subst e
      refine ⟨k, rfl, ?_⟩
      have h3 := Res.mono h2 e3
      have R3 := R2.ext e3
      cases k with
      | true =>
        refine iteT ?_
        exact ev_bind R3 h3 fun d4 k4 w F4 H4 _ e4 rd4 _ R4 h4 => hd' σ ρ F4 H4 Q y w d2 d4 R4.sub ((rd2.ext e3).ext e4) rd4 h4
      | false =>
        refine iteF ?_
        exact h3.bl R3.sub
    | _ => exact (show False from h2).elim
theorem pg_chain {d : Expr} {o o' : CmpOp} {op op' : D → D → Out (D × Kd)} {r r' : V → V → Hp → VK → Prop} (ho : OpR X (compareOp o) r) (ho' : OpR X (compareOp o') r') (hm : lastMarks [o, o'] [b, d] = false)
    (hd : ∀ W, OpD c W op r) (hd' : OpD c W op' r') (ha : PE X a (tEv c L W f)) (hb : PE X b (tEv c L W g)) (hc : PE X d (tEv c L W h)) : PE X (.Compare a [o, o'] [b, d] pos) (tEv c L W (eChain op op' f g h)) :=
  pe_ev (pe_chain ho ho' ha hb hc hm) fun σ H Q h => rd_chain hd hd' h
theorem oBl_ok {d : D} {k : Bool} (h : oBl d = .ok k) : d = .bl k := by
  cases d <;> first | (cases h; rfl) | cases h
/-- an operand that is a truth value -/
theorem ev_bool {σ : L2.St} {ρ : Sl} {F H : Hp} {Q : VK} {k : D × Kd → Bool → Out (D × Kd)} {P : V → Hp → Prop} (R : Rel c.θ c.F0 c.B L F H σ ρ) (h : Res c W σ ρ F H Q ((f ρ).bind fun x => (oBl x.1).bind (k x)))
    (hp : ∀ x b F1 H1, Ext F H F1 H1 → Rel c.θ c.F0 c.B L F1 H1 σ ρ → Res c W σ ρ F1 H1 Q (k x b) → P (.bl b) H1) : tEv c L W f σ H P := by
  refine ev_bind R h fun d kd x F1 H1 _ e1 rd1 _ R1 h1 => ?_
  cases q : oBl d with
  | no => rw [q] at h1; exact h1.elim
  | ex n fs => cases d <;> cases q
  | ok b =>
    cases oBl_ok q
    cases rd1.bl
    exact hp (.bl b, kd) b F1 H1 e1 R1 h1
theorem pg_and {rest : List Expr} (ha : PE X a (tEv c L W f)) (hb : PE X (.BoolOp .And (b :: rest) pos) (tEv c L W g)) : PE X (.BoolOp .And (a :: b :: rest) pos) (tEv c L W (eAnd f g)) := by
  refine pe_ev (pe_and ha hb) fun σ H Q h => ?_
  obtain ⟨F, ρ, R, h⟩ := of_tEv h
  refine ev_bool (k := fun _ b => if b = true then g ρ else shr (.bl false)) R h fun x b F1 H1 e1 R1 h1 => ⟨b, rfl, ?_⟩
  cases b with
  | true => exact iteT (tEv_of R1 h1)
  | false => exact iteF (Res.bl (b := false) h1 R1.sub)
theorem pg_or {rest : List Expr} (ha : PE X a (tEv c L W f)) (hb : PE X (.BoolOp .Or (b :: rest) pos) (tEv c L W g)) : PE X (.BoolOp .Or (a :: b :: rest) pos) (tEv c L W (eOr f g)) := by
  refine pe_ev (pe_or ha hb) fun σ H Q h => ?_
  obtain ⟨F, ρ, R, h⟩ := of_tEv h
  refine ev_bool (k := fun _ b => if b = true then shr (.bl true) else g ρ) R h fun x b F1 H1 e1 R1 h1 => ⟨b, rfl, ?_⟩
  cases b with
  | true => exact iteT (Res.bl (b := true) h1 R1.sub)
  | false => exact iteF (tEv_of R1 h1)
theorem pg_not (ha : PE X a (tEv c L W f)) : PE X (.UnaryOp .Not a pos) (tEv c L W (eUn oNot f)) := by
  refine pe_ev (pe_not ha) fun σ H Q h => ?_
  obtain ⟨F, ρ, R, h⟩ := of_tEv h
  exact ev_bool (k := fun _ b => shr (.bl (!b))) R h fun x b F1 H1 e1 R1 h1 => ⟨b, rfl, Res.bl (b := !b) h1 R1.sub⟩

/-! ### tests -/
def tTv (c : Cn) (L : List Addr) (W : WX) (f : TSm) : TT := fun σ H Q => ∃ F ρ, Rel c.θ c.F0 c.B L F H σ ρ ∧ match f ρ with
  | .ok b => ∀ F' H', Ext F H F' H' → Q b H'
  | .ex n fs => ∀ cls dd F' H', Ext F H F' H' → ExV c.θ n fs cls dd F' H' → W cls dd σ H'
  | .no => False
def ResT (c : Cn) (W : WX) (σ : L2.St) (F H : Hp) (Q : Bool → Hp → Prop) : Out Bool → Prop
  | .ok b => ∀ F' H', Ext F H F' H' → Q b H'
  | .ex n fs => ∀ cls dd F' H', Ext F H F' H' → ExV c.θ n fs cls dd F' H' → W cls dd σ H'
  | .no => False
section
variable {σ : L2.St} {ρ : Sl} {F F1 H H1 : Hp} {Q : Bool → Hp → Prop} {t u : TSm}
theorem tTv_of (R : Rel c.θ c.F0 c.B L F H σ ρ) (h : ResT c W σ F H Q (t ρ)) : tTv c L W t σ H Q := by
  refine ⟨F, ρ, R, ?_⟩
  revert h
  cases t ρ <;> exact id
theorem of_tTv (h : tTv c L W t σ H Q) : ∃ F ρ, Rel c.θ c.F0 c.B L F H σ ρ ∧ ResT c W σ F H Q (t ρ) := by
  obtain ⟨F, ρ, R, h⟩ := h
  refine ⟨F, ρ, R, ?_⟩
  revert h
  cases t ρ <;> exact id
theorem ResT.mono {o : Out Bool} (h : ResT c W σ F H Q o) (e : Ext F H F1 H1) : ResT c W σ F1 H1 Q o := by
  cases o with
  | ok b => exact fun F' H' e' => h F' H' (e.trans e')
  | ex n fs => exact fun cls dd F' H' e' hv => h cls dd F' H' (e.trans e') hv
  | no => exact h
/-- an operand of a test -/
theorem tv_bind {k : D × Kd → Out Bool} {P : V → Hp → Prop} (R : Rel c.θ c.F0 c.B L F H σ ρ) (h : ResT c W σ F H Q ((f ρ).bind k))
    (hp : ∀ d kd x F1 H1, f ρ = .ok (d, kd) → Ext F H F1 H1 → Rd1 c.θ F1 H1 d x → (kd.solid = true → Rep c.θ F1 d x) → Rel c.θ c.F0 c.B L F1 H1 σ ρ → ResT c W σ F1 H1 Q (k (d, kd)) → P x H1) : tEv c L W f σ H P := by
  refine ⟨F, ρ, R, ?_⟩
  cases hf : f ρ with
  | ok x =>
    obtain ⟨d, kd⟩ := x
    rw [hf] at h
    intro v F' H' e hv
    obtain ⟨F2, e2, _, rd, so⟩ := Val.use R e hv
    exact hp d kd v F2 H' hf e2 rd so (R.ext e2) (ResT.mono (show ResT c W σ F H Q (k (d, kd)) from h) e2)
  | ex n fs =>
    rw [hf] at h
    exact h
  | no =>
    rw [hf] at h
    exact h
/-- a test, then what follows -/
theorem tt_bind {k : Bool → Out Bool} {P : Bool → Hp → Prop} (R : Rel c.θ c.F0 c.B L F H σ ρ) (h : ResT c W σ F H Q ((t ρ).bind k))
    (hp : ∀ b F1 H1, Ext F H F1 H1 → Rel c.θ c.F0 c.B L F1 H1 σ ρ → ResT c W σ F1 H1 Q (k b) → P b H1) : tTv c L W t σ H P := by
  refine ⟨F, ρ, R, ?_⟩
  cases hf : t ρ with
  | ok b =>
    rw [hf] at h
    exact fun F' H' e => hp b F' H' e (R.ext e) (ResT.mono (show ResT c W σ F H Q (k b) from h) e)
  | ex n fs =>
    rw [hf] at h
    exact h
  | no =>
    rw [hf] at h
    exact h
/-- a test, then an expression -/
theorem te_bind {Q : VK} {k : Bool → Out (D × Kd)} {P : Bool → Hp → Prop} (R : Rel c.θ c.F0 c.B L F H σ ρ) (h : Res c W σ ρ F H Q ((t ρ).bind k))
    (hp : ∀ b F1 H1, Ext F H F1 H1 → Rel c.θ c.F0 c.B L F1 H1 σ ρ → Res c W σ ρ F1 H1 Q (k b) → P b H1) : tTv c L W t σ H P := by
  refine ⟨F, ρ, R, ?_⟩
  cases hf : t ρ with
  | ok b =>
    rw [hf] at h
    exact fun F' H' e => hp b F' H' e (R.ext e) (Res.mono (show Res c W σ ρ F H Q (k b) from h) e)
  | ex n fs =>
    rw [hf] at h
    exact h
  | no =>
    rw [hf] at h
    exact h
end
theorem pt_ev {e : Expr} {t : TT} {f : TSm} (h : PT X e t) (hi : ∀ (σ : L2.St) (H : Hp) (Q : Bool → Hp → Prop), tTv c L W f σ H Q → t σ H Q) : PT X e (tTv c L W f) := ⟨fun pins s σ H Q I hw => h.run pins s σ H Q I (hi σ H Q hw)⟩
theorem pw_ev {e : Expr} {t : TT} {f : TSm} (h : PW X e t) (hi : ∀ (σ : L2.St) (H : Hp) (Q : Bool → Hp → Prop), tTv c L W f σ H Q → t σ H Q) : PW X e (tTv c L W f) := ⟨fun wh pins s σ H Q I hw => h.run wh pins s σ H Q I (hi σ H Q hw)⟩
/-- a comparison as a test -/
theorem bl_of_oBl {θ : Th} {F H : Hp} {d : D} {x : V} {b : Bool} (q : oBl d = .ok b) (rd : Rd1 θ F H d x) : x = .bl b := by
  cases oBl_ok q
  exact rd.bl
theorem pgt_of_bool {e : Expr} {t : TE} (h : PT X e (tTest t)) (hi : ∀ (σ : L2.St) (H : Hp) (Q : VK), tEv c L W f σ H Q → t σ H Q) : PT X e (tTv c L W (tBl f)) := by
  refine pt_ev h fun σ H Q hq => hi σ H _ ?_
  obtain ⟨F, ρ, R, hq⟩ := of_tTv hq
  refine tv_bind R hq fun d kd x F1 H1 _ e1 rd1 _ R1 h1 => ?_
  cases q : oBl d with
  | no => rw [q] at h1; exact h1.elim
  | ex n fs => cases d <;> cases q
  | ok b =>
    rw [q] at h1
    exact ⟨b, bl_of_oBl q rd1, h1 F1 H1 (Ext.refl R1.sub)⟩
theorem pgt_cmp {o : CmpOp} {op : D → D → Out (D × Kd)} {r : V → V → Hp → VK → Prop} (ho : OpR X (compareOp o) r) (hm : behindInMarks o b = false) (hd : OpD c W op r) (ha : PE X a (tEv c L W f)) (hb : PE X b (tEv c L W g)) : PT X (.Compare a [o] [b] pos) (tTv c L W (tBl (eBin op f g))) := by
  refine pgt_of_bool (pt_cmpR ho ha hb hm) fun σ H Q h => ?_
  obtain ⟨F, ρ, R, h⟩ := of_tEv h
  refine ev_bind R h fun d k x F1 H1 _ e1 rd1 _ R1 h1 => ?_
  exact ev_bind R1 h1 fun d2 k2 y F2 H2 _ e2 rd2 _ R2 h2 => hd σ ρ F2 H2 Q x y d d2 R2.sub (rd1.ext e2) rd2 h2
theorem pgt_chain {d : Expr} {o o' : CmpOp} {op op' : D → D → Out (D × Kd)} {r r' : V → V → Hp → VK → Prop} (ho : OpR X (compareOp o) r) (ho' : OpR X (compareOp o') r') (hm : lastMarks [o, o'] [b, d] = false)
    (hd : ∀ W, OpD c W op r) (hd' : OpD c W op' r') (ha : PE X a (tEv c L W f)) (hb : PE X b (tEv c L W g)) (hc : PE X d (tEv c L W h)) : PT X (.Compare a [o, o'] [b, d] pos) (tTv c L W (tBl (eChain op op' f g h))) :=
  pgt_of_bool (pt_chain ho ho' ha hb hc hm) fun σ H Q h => rd_chain hd hd' h
/-- any expression's value as a test -/
theorem pgt_tru (ha : PE X a (tEv c L W f)) (he : ∀ whole, isTrue a X.env whole = (do let v ← whole; standAt a.pos; holding [v] (truthy v))) (hK : X.K = c.θ.K) : PT X a (tTv c L W (tTru f)) := by
  refine pt_ev (pt_truth ha he) fun σ H Q h => ?_
  obtain ⟨F, ρ, R, h⟩ := of_tTv h
  refine tv_bind R h fun d k x F1 H1 _ e1 rd1 _ R1 h1 => ?_
  have s := R1.sub
  have fin : ∀ b : Bool, TruV X.K x H1 b → ResT c W σ F1 H1 Q (.ok b) → ∃ k, TruV X.K x H1 k ∧ Q k H1 := fun b t z => ⟨b, t, z F1 H1 (Ext.refl s)⟩
  cases d <;> first | exact (show False from h1).elim | skip
  · cases rd1.non
    exact fin _ rfl h1
  · cases rd1.bl
    exact fin _ rfl h1
  · cases rd1.int
    exact fin _ rfl h1
  · obtain ⟨p, xs, rfl, hp, r⟩ := rd1.lst s
    refine fin _ (.inl ⟨xs, .inl (.inl hp), ?_⟩) h1
    cases r <;> rfl
  · obtain ⟨p, xs, rfl, hp, r, _⟩ := rd1.tup s
    refine fin _ (.inr (.inl ⟨xs, .inl (.inl hp), ?_⟩)) h1
    cases r <;> rfl
theorem pgt_not {t : TSm} (ha : PT X a (tTv c L W t)) : PT X (.UnaryOp .Not a pos) (tTv c L W (G.tNot t)) := by
  refine pt_ev (pt_not ha) fun σ H Q h => ?_
  obtain ⟨F, ρ, R, h⟩ := of_tTv h
  exact tt_bind R h fun b F1 H1 e1 R1 h1 => h1 F1 H1 (Ext.refl R1.sub)
theorem pgw_and {t u : TSm} {rest : List Expr} (ha : PT X a (tTv c L W t)) (hb : PW X (.BoolOp .And (b :: rest) pos) (tTv c L W u)) : PW X (.BoolOp .And (a :: b :: rest) pos) (tTv c L W (G.tAnd t u)) := by
  refine pw_ev (pw_and ha hb) fun σ H Q h => ?_
  obtain ⟨F, ρ, R, h⟩ := of_tTv h
  refine tt_bind (k := fun b => if b = true then u ρ else .ok false) R h fun b F1 H1 e1 R1 h1 => ?_
  cases b with
  | true => exact iteT (tTv_of R1 h1)
  | false => exact iteF ((show ResT c W σ F1 H1 Q (.ok false) from h1) F1 H1 (Ext.refl R1.sub))
theorem pgw_or {t u : TSm} {rest : List Expr} (ha : PT X a (tTv c L W t)) (hb : PW X (.BoolOp .Or (b :: rest) pos) (tTv c L W u)) : PW X (.BoolOp .Or (a :: b :: rest) pos) (tTv c L W (G.tOr t u)) := by
  refine pw_ev (pw_or ha hb) fun σ H Q h => ?_
  obtain ⟨F, ρ, R, h⟩ := of_tTv h
  refine tt_bind (k := fun b => if b = true then .ok true else u ρ) R h fun b F1 H1 e1 R1 h1 => ?_
  cases b with
  | true => exact iteT ((show ResT c W σ F1 H1 Q (.ok true) from h1) F1 H1 (Ext.refl R1.sub))
  | false => exact iteF (tTv_of R1 h1)
theorem pg_if {t : TSm} (ht : PT X e (tTv c L W t)) (ha : PE X a (tEv c L W f)) (hb : PE X b (tEv c L W g)) : PE X (.IfExp e a b pos) (tEv c L W (eIf t f g)) := by
  refine pe_ev (pe_ifExp ht ha hb) fun σ H Q h => ?_
  obtain ⟨F, ρ, R, h⟩ := of_tEv h
  refine te_bind (k := fun b => if b = true then f ρ else g ρ) R h fun b F1 H1 e1 R1 h1 => ?_
  cases b with
  | true => exact iteT (tEv_of R1 h1)
  | false => exact iteF (tEv_of R1 h1)
end
end G
namespace G
open PySem PySem.Spec L2
/-! ### argument lists -/
inductive ArgR (θ : Th) (F H : Hp) : List (D × Kd) → List V → Prop
  | nil : ArgR θ F H [] []
  | cons {d : D} {k : Kd} {v : V} {xs : List (D × Kd)} {vs : List V} : Rd1 θ F H d v → (k.solid = true → Rep θ F d v) → ArgR θ F H xs vs → ArgR θ F H ((d, k) :: xs) (v :: vs)
theorem ArgR.ext {θ : Th} {F H F1 H1 : Hp} (e : Ext F H F1 H1) : ∀ {xs : List (D × Kd)} {vs : List V}, ArgR θ F H xs vs → ArgR θ F1 H1 xs vs
  | _, _, .nil => .nil
  | _, _, .cons r s t => .cons (r.ext e) (fun z => (s z).mono e.ff) (ArgR.ext e t)
theorem ArgR.solid {θ : Th} {F H : Hp} : ∀ {xs : List (D × Kd)} {vs : List V}, ArgR θ F H xs vs → allSolid xs = true → RepL θ F (xs.map (·.1)) vs
  | _, _, .nil, _ => .nil
  | _, _, .cons r s t, h => by
    obtain ⟨h1, h2⟩ := Bool.and_eq_true_iff.mp (show (Kd.solid _ && allSolid _) = true from h)
    exact .cons (s h1) (ArgR.solid t h2)
def tAv (c : Cn) (L : List Addr) (W : WX) (fs : List ES) : TA := fun σ H Q => ∃ F ρ, Rel c.θ c.F0 c.B L F H σ ρ ∧ match eArgs fs ρ with
  | .ok xs => ∀ vs F' H', Ext F H F' H' → ArgR c.θ F' H' xs vs → Q vs H'
  | .ex n fs => ∀ cls dd F' H', Ext F H F' H' → ExV c.θ n fs cls dd F' H' → W cls dd σ H'
  | .no => False
section
variable {X : Cx} {c : Cn} {L : List Addr} {W : WX} {f g h : ES} {a b e : Expr} {pos : Pos} {es : List Expr} {fs : List ES}
theorem pga_nil : PA X [] (tAv c L W []) := by
  refine ⟨fun pos pins s σ H Q I h => pa_nil.run pos pins s σ H Q I ?_⟩
  obtain ⟨F, ρ, R, h⟩ := h
  exact h [] F H (Ext.refl R.sub) .nil
theorem pga_cons (ha : PE X e (tEv c L W f)) (hr : PA X es (tAv c L W fs)) (hs : starEach (e :: es) X.env = (false, eval e X.env) :: starEach es X.env) : PA X (e :: es) (tAv c L W (f :: fs)) := by
  refine ⟨fun pos pins s σ H Q I h => (pa_cons ha hr hs).run pos pins s σ H Q I ?_⟩
  obtain ⟨F, ρ, R, h⟩ := h
  refine ⟨F, ρ, R, ?_⟩
  unfold eArgs at h
  cases hf : f ρ with
  | no => rw [hf] at h; exact h
  | ex n fs => rw [hf] at h; exact h
  | ok x =>
    obtain ⟨d, k⟩ := x
    rw [hf] at h
    intro v F1 H1 e1 hv
    obtain ⟨F2, e2, _, rd, so⟩ := Val.use R e1 hv
    refine ⟨F2, ρ, R.ext e2, ?_⟩
    have h : match (eArgs fs ρ).bind fun xs => Out.ok ((d, k) :: xs) with
      | .ok xs => ∀ vs F' H', Ext F H F' H' → ArgR c.θ F' H' xs vs → Q vs H'
      | .ex n fs => ∀ cls dd F' H', Ext F H F' H' → ExV c.θ n fs cls dd F' H' → W cls dd σ H'
      | .no => False := h
    cases hg : eArgs fs ρ with
    | no => rw [hg] at h; exact h
    | ex n gs =>
      rw [hg] at h
      exact fun cls dd F' H' e3 => h cls dd F' H' (e2.trans e3)
    | ok xs =>
      rw [hg] at h
      exact fun vs F' H' e3 hr => h (v :: vs) F' H' (e2.trans e3) (.cons (rd.ext e3) (fun z => (so z).mono e3.ff) hr)
/-- arguments, then what follows -/
theorem av_bind {σ : L2.St} {ρ : Sl} {F H : Hp} {Q : VK} {k : List (D × Kd) → Out (D × Kd)} {P : List V → Hp → Prop} (R : Rel c.θ c.F0 c.B L F H σ ρ) (h : Res c W σ ρ F H Q ((eArgs fs ρ).bind k))
    (hp : ∀ xs vs F1 H1, eArgs fs ρ = .ok xs → Ext F H F1 H1 → ArgR c.θ F1 H1 xs vs → Rel c.θ c.F0 c.B L F1 H1 σ ρ → Res c W σ ρ F1 H1 Q (k xs) → P vs H1) : tAv c L W fs σ H P := by
  refine ⟨F, ρ, R, ?_⟩
  cases hf : eArgs fs ρ with
  | ok xs =>
    rw [hf] at h
    exact fun vs F' H' e hv => hp xs vs F' H' hf e hv (R.ext e) (Res.mono (show Res c W σ ρ F H Q (k xs) from h) e)
  | ex n fs =>
    rw [hf] at h
    exact h
  | no =>
    rw [hf] at h
    exact h

/-! ### displays -/
theorem pg_tup {x1 : Nat} (ha : PA X es (tAv c L W fs)) : PE X (.Tuple es x1 pos) (tEv c L W (eTup fs)) := by
  refine pe_ev (pe_tup ha) fun σ H Q h => ?_
  obtain ⟨F, ρ, R, h⟩ := of_tEv h
  refine av_bind R h fun xs vs F1 H1 _ e1 ar R1 h1 => ?_
  obtain ⟨⟨h2, h3⟩, h1⟩ := Res.ite h1
  have r := ar.solid h2
  refine ⟨?_, fun p hp => h1.layT R1.sub r hp⟩
  rw [r.length, List.length_map]
  exact Nat.le_trans h3 SZ_le
theorem pg_lst (ha : PA X es (tAv c L W fs)) : PE X (.List es pos) (tEv c L W (eLst fs)) := by
  refine pe_ev (pe_lst ha) fun σ H Q h => ?_
  obtain ⟨F, ρ, R, h⟩ := of_tEv h
  refine av_bind R h fun xs vs F1 H1 _ e1 ar R1 h1 => ?_
  obtain ⟨⟨h2, h3⟩, h1⟩ := Res.ite h1
  have r := ar.solid h2
  refine ⟨?_, fun p hp => h1.lay R1.sub (.lst r) hp⟩
  rw [r.length, List.length_map]
  exact Nat.le_trans h3 SZ_le

/-! ### subscripts, slices, fields -/
theorem atI_rep {θ : Th} {F : Hp} {ds : List D} {xs : List V} {i : Int} {d : D} (r : RepL θ F ds xs) (h : atI ds i = some d) : ∃ v, atI xs i = some v ∧ Rep θ F d v := by
  unfold atI at h ⊢
  rw [r.length]
  cases q : ixN ds.length i with
  | none => rw [q] at h; cases h
  | some j =>
    rw [q] at h
    exact r.get h
theorem keyOf_kV {d : D} {k : Key} (h : keyOf d = some k) : ∀ {θ : Th} {F H : Hp} {v : V}, Rd1 θ F H d v → v = kV k := by
  intro θ F H v r
  cases d <;> first | cases h | skip
  · exact r.int
  · exact r.str
theorem keysOf_kV {θ : Th} {F : Hp} : ∀ {ds : List D} {ks : List Key} {vs : List V}, keysOf ds = some ks → RepL θ F ds vs → vs = ks.map kV
  | [], _, _, h, r => by cases h; cases r; rfl
  | d :: ds, _, _, h, r => by
    unfold keysOf at h
    cases q : keyOf d with
    | none => rw [q] at h; cases h
    | some k =>
      rw [q] at h
      cases q2 : keysOf ds with
      | none => rw [q2] at h; cases h
      | some ks =>
        rw [q2] at h
        cases h
        cases r with
        | cons a b =>
          rw [keysOf_kV q2 b, keyOf_kV (H := F) q (.inl a)]
          rfl
def InD {κ : Type} [DecidableEq κ] (θ : Th) (F : Hp) (kvs : List (κ × V)) (k : κ) : Option D → Prop
  | some d => ∃ v, valV kvs k = some v ∧ Rep θ F d v
  | none => valV kvs k = none
theorem valV_zip {κ : Type} [DecidableEq κ] {θ : Th} {F : Hp} : ∀ {ks : List κ} {ds : List D} {xs : List V} (k : κ), RepL θ F ds xs → ks.length = ds.length → InD θ F (ks.zip xs) k (lookK ks ds k)
  | [], [], _, k, .nil, l => rfl
  | [], _ :: _, _, _, _, l => by simp at l
  | _ :: _, [], _, _, .nil, l => by simp at l
  | k' :: ks, d :: ds, v :: vs, k, .cons a b, l => by
    have ih := valV_zip (ks := ks) k b (by simpa using l)
    unfold lookK
    by_cases q : k' = k
    · rw [if_pos q]
      refine ⟨v, ?_, a⟩
      unfold valV
      rw [List.zip_cons_cons, List.find?_cons_of_pos (by simpa using q)]
      rfl
    · rw [if_neg q]
      have e : valV ((k' :: ks).zip (v :: vs)) k = valV (ks.zip vs) k := by
        unfold valV
        rw [List.zip_cons_cons, List.find?_cons_of_neg (by simpa using q)]
      unfold InD
      rw [e]
      exact ih
/-- a dict is read -/
def GotD (θ : Th) (F H : Hp) (a : Addr) (y : V) : Option D → Prop
  | some x => ∃ z, DGet H a y (some z) ∧ Rep θ F x z
  | none => DGet H a y none
theorem Rd1.dict {θ : Th} {F H : Hp} {d k : D} {v y : V} {o : Option D} (s : Sub F H) (rd : Rd1 θ F H d v) (rk : Rd1 θ F H k y) (h : dGet d k = some o) : ∃ a, v = .ref a ∧ IsD H a ∧ GotD θ F H a y o := by
  have rdk : ∀ {a : Addr} {u : HO}, IsDict u → (F a = some u ∨ H a = some u) → Rd H a u := fun {a u} iu z => by
    rcases z with z | z
    · rcases s a u z with z | ⟨_, o, z⟩
      · exact .inl z
      · exact .inr ⟨o, z⟩
    · exact .inl z
  cases d <;> first | cases h | skip
  · rename_i ks ds
    cases q : keyOf k with
    | none => rw [show dGet (.dK ks ds) k = (keyOf k).map fun x => lookK ks ds x from rfl, q] at h; cases h
    | some x =>
      rw [show dGet (.dK ks ds) k = (keyOf k).map fun x => lookK ks ds x from rfl, q] at h
      have ey := keyOf_kV q rk
      obtain ⟨a, xs, e, l, r, rh⟩ : ∃ a xs, v = .ref a ∧ ks.length = ds.length ∧ RepL θ F ds xs ∧ Rd H a (.dK (ks.zip xs)) := by
        rcases rd with rd | ⟨a, o, e, ha, rd⟩
        · cases rd with
          | dK e l r => exact ⟨_, _, rfl, l, r, rdk True.intro (.inl e)⟩
        · cases rd with
          | dK l r => exact ⟨a, _, e, l, r, rdk True.intro (.inr ha)⟩
      have z := valV_zip x r l
      have eo : lookK ks ds x = o := Option.some.inj h
      rw [eo] at z
      refine ⟨a, e, .inl ⟨_, rh⟩, ?_⟩
      cases o with
      | some w =>
        obtain ⟨u, z1, z2⟩ := z
        exact ⟨u, .inl ⟨_, x, rh, ey, z1.symm⟩, z2⟩
      | none => exact .inl ⟨_, x, rh, ey, z.symm⟩
  · rename_i ks ds
    cases q : tkeyOf k with
    | none => rw [show dGet (.dT ks ds) k = (tkeyOf k).map fun x => lookK ks ds x from rfl, q] at h; cases h
    | some x =>
      rw [show dGet (.dT ks ds) k = (tkeyOf k).map fun x => lookK ks ds x from rfl, q] at h
      obtain ⟨ts, rfl⟩ : ∃ ts, k = .tup ts := by cases k <;> first | exact ⟨_, rfl⟩ | cases q
      obtain ⟨t, zs, ey, ht, rt, _⟩ := rk.tup s
      have ez := keysOf_kV (show keysOf ts = some x from q) rt
      obtain ⟨a, xs, e, l, r, rh⟩ : ∃ a xs, v = .ref a ∧ ks.length = ds.length ∧ RepL θ F ds xs ∧ Rd H a (.dT (ks.zip xs)) := by
        rcases rd with rd | ⟨a, o, e, ha, rd⟩
        · cases rd with
          | dT e l r => exact ⟨_, _, rfl, l, r, rdk True.intro (.inl e)⟩
        · cases rd with
          | dT l r => exact ⟨a, _, e, l, r, rdk True.intro (.inr ha)⟩
      have z := valV_zip x r l
      have eo : lookK ks ds x = o := Option.some.inj h
      rw [eo] at z
      rw [ez] at ht
      refine ⟨a, e, .inr ⟨_, rh⟩, ?_⟩
      cases o with
      | some w =>
        obtain ⟨u, z1, z2⟩ := z
        exact ⟨u, .inr ⟨_, x, t, rh, ey, ht, z1.symm⟩, z2⟩
      | none => exact .inr ⟨_, x, t, rh, ey, ht, z.symm⟩
theorem od_row {σ : L2.St} {ρ : Sl} {F H : Hp} {Q : VK} {x y : V} {d e : D} (n1 : ∀ ks ds, d ≠ .dK ks ds) (n2 : ∀ ks ds, d ≠ .dT ks ds) (s : Sub F H) (rx : Rd1 c.θ F H d x) (ry : Rd1 c.θ F H e y) (h : Res c W σ ρ F H Q (oIx d e)) : rIx c.θ.K x y H Q := by
  cases d <;> first | exact absurd rfl (n1 _ _) | exact absurd rfl (n2 _ _) | exact (show False from h).elim | skip
  · rename_i z
    cases e <;> first | exact (show False from h).elim | skip
    rename_i i
    cases rx.str; cases ry.int
    obtain ⟨hl, h⟩ := Res.ite h
    cases q : atI z.cps.toList i with
    | none => rw [q] at h; exact h.elim
    | some v =>
      rw [q] at h
      exact .inr (.inr ⟨z, i, v, rfl, rfl, Nat.le_trans hl SZ_le, q, h.str s⟩)
  · rename_i ds
    cases e <;> first | exact (show False from h).elim | skip
    rename_i i
    obtain ⟨p, xs, rfl, hp, r⟩ := rx.lst s
    cases ry.int
    have h : Res c W σ ρ F H Q (match atI ds i with
      | some d => shr d
      | none => .no) := h
    cases q : atI ds i with
    | none => rw [q] at h; exact h.elim
    | some v =>
      rw [q] at h
      obtain ⟨z, z1, z2⟩ := atI_rep r q
      exact .inl ⟨p, xs, i, z, rfl, rfl, .inl (.inl hp), z1, h.sh s z2⟩
  · rename_i ds
    cases e <;> first | exact (show False from h).elim | skip
    rename_i i
    obtain ⟨p, xs, rfl, hp, r, _⟩ := rx.tup s
    cases ry.int
    have h : Res c W σ ρ F H Q (match atI ds i with
      | some d => shr d
      | none => .no) := h
    cases q : atI ds i with
    | none => rw [q] at h; exact h.elim
    | some v =>
      rw [q] at h
      obtain ⟨z, z1, z2⟩ := atI_rep r q
      exact .inr (.inl ⟨p, xs, i, z, rfl, rfl, .inl (.inl hp), z1, h.sh s z2⟩)
theorem pg_ix (hu : X.A.units + 1 < cLine) (hK : X.K = c.θ.K) (ha : PE X a (tEv c L W f)) (hb : PE X b (tEv c L W g)) (hs : PlainIx b) : PE X (.Subscript a b pos) (tEv c L W (eBin oIx f g)) := by
  refine ⟨fun pins s σ H Q I h => ?_⟩
  obtain ⟨F, ρ, R, h⟩ := of_tEv h
  -- a dict, or a row
  have dct : (∀ d k, f ρ = .ok (d, k) → (∃ ks ds, d = .dK ks ds) ∨ ∃ ks ds, d = .dT ks ds) → wpAny (model X.prog X.w) X.A (eval (.Subscript a b pos) X.env) (EP X pins σ Q) X.xe s := fun hd => by
    refine (pe_dget hu ha hb hs).run pins s σ H Q I ?_
    refine ev_bind R h fun d k x F1 H1 ef e1 rd1 _ R1 h1 => ?_
    refine ev_bind R1 h1 fun d2 k2 y F2 H2 _ e2 rd2 _ R2 h2 => ?_
    have h2 : Res c W σ ρ F2 H2 Q (oIx d d2) := h2
    have key : oIx d d2 = match dGet d d2 with
      | some (some v) => shr v
      | _ => .no := by
      rcases hd d k ef with ⟨ks, ds, rfl⟩ | ⟨ks, ds, rfl⟩ <;> rfl
    rw [key] at h2
    cases q : dGet d d2 with
    | none => rw [q] at h2; exact h2.elim
    | some o =>
      cases o with
      | none => rw [q] at h2; exact h2.elim
      | some v =>
        rw [q] at h2
        obtain ⟨p, e, _, z, hz, rz⟩ := Rd1.dict R2.sub (rd1.ext e2) rd2 q
        exact ⟨p, z, e, hz, h2.sh R2.sub rz⟩
  have row : (∀ d k, f ρ = .ok (d, k) → (∀ ks ds, d ≠ .dK ks ds) ∧ ∀ ks ds, d ≠ .dT ks ds) → wpAny (model X.prog X.w) X.A (eval (.Subscript a b pos) X.env) (EP X pins σ Q) X.xe s := fun hd => by
    refine (pe_ix ix_seq ha hb hs).run pins s σ H Q I ?_
    refine ev_bind R h fun d k x F1 H1 ef e1 rd1 _ R1 h1 => ?_
    refine ev_bind R1 h1 fun d2 k2 y F2 H2 _ e2 rd2 _ R2 h2 => ?_
    rw [hK]
    obtain ⟨n1, n2⟩ := hd d k ef
    exact od_row n1 n2 R2.sub (rd1.ext e2) rd2 h2
  cases hf : f ρ with
  | ok x =>
    obtain ⟨d, k⟩ := x
    by_cases q : (∃ ks ds, d = .dK ks ds) ∨ ∃ ks ds, d = .dT ks ds
    · refine dct fun d' k' e => ?_
      rw [hf] at e
      cases e
      exact q
    · refine row fun d' k' e => ?_
      rw [hf] at e
      cases e
      exact ⟨fun ks ds e => q (.inl ⟨ks, ds, e⟩), fun ks ds e => q (.inr ⟨ks, ds, e⟩)⟩
  | ex n fs => exact row fun d' k' e => by rw [hf] at e; cases e
  | no => exact row fun d' k' e => by rw [hf] at e; cases e

/-! ### slices -/
def ResP (c : Cn) (W : WX) (σ : L2.St) (F H : Hp) (Q : Option Int → Hp → Prop) : Out (Option Int) → Prop
  | .ok i => ∀ F' H', Ext F H F' H' → Q i H'
  | .ex n fs => ∀ cls dd F' H', Ext F H F' H' → ExV c.θ n fs cls dd F' H' → W cls dd σ H'
  | .no => False
def tPo (c : Cn) (L : List Addr) (W : WX) (o : Option ES) : TO := fun σ H Q => ∃ F ρ, Rel c.θ c.F0 c.B L F H σ ρ ∧ ResP c W σ F H Q (ePart o ρ)
theorem pgo_none : PO X none (tPo c L W none) := ⟨fun pins s σ H Q I h => po_none.run pins s σ H Q I (by
  obtain ⟨F, ρ, R, h⟩ := h
  exact h F H (Ext.refl R.sub))⟩
def oPart : D × Kd → Out (Option Int) := fun x => match x.1 with
  | .int i => .ok (some i)
  | _ => .no
theorem pgo_some (ha : PE X a (tEv c L W f)) : PO X (some a) (tPo c L W (some f)) := ⟨fun pins s σ H Q I h => (po_some ha).run pins s σ H Q I (by
  obtain ⟨F, ρ, R, h⟩ := h
  replace h : ResP c W σ F H Q ((f ρ).bind oPart) := h
  refine ⟨F, ρ, R, ?_⟩
  cases hf : f ρ with
  | no => rw [hf] at h; exact h
  | ex n fs => rw [hf] at h; exact h
  | ok x =>
    obtain ⟨d, k⟩ := x
    rw [hf] at h
    intro v F1 H1 e1 hv
    obtain ⟨F2, e2, _, rd, _⟩ := Val.use R e1 hv
    cases d <;> first | exact (show False from h).elim | skip
    cases rd.int
    exact ⟨_, rfl, h F2 H1 e2⟩)⟩
/-- a part of a slice, then what follows -/
theorem po_bind {o : Option ES} {σ : L2.St} {ρ : Sl} {F H : Hp} {Q : VK} {k : Option Int → Out (D × Kd)} {P : Option Int → Hp → Prop} (R : Rel c.θ c.F0 c.B L F H σ ρ) (h : Res c W σ ρ F H Q ((ePart o ρ).bind k))
    (hp : ∀ i F1 H1, Ext F H F1 H1 → Rel c.θ c.F0 c.B L F1 H1 σ ρ → Res c W σ ρ F1 H1 Q (k i) → P i H1) : tPo c L W o σ H P := by
  refine ⟨F, ρ, R, ?_⟩
  cases hf : ePart o ρ with
  | ok i =>
    rw [hf] at h
    exact fun F' H' e => hp i F' H' e (R.ext e) (Res.mono (show Res c W σ ρ F H Q (k i) from h) e)
  | ex n fs =>
    rw [hf] at h
    exact h
  | no =>
    rw [hf] at h
    exact h
theorem cut_rep {θ : Th} {F : Hp} {ds : List D} {xs : List V} (r : RepL θ F ds xs) (lo hi : Option Int) : RepL θ F (cutD ds lo hi) (cutV xs lo hi) := by
  unfold cutD cutV
  rw [r.length]
  exact (r.drop _).take _
theorem pg_sl {p2 : Pos} {lo hi : Option Expr} {fl fh : Option ES} (hK : X.K = c.θ.K) (ha : PE X a (tEv c L W f)) (hl : PO X lo (tPo c L W fl)) (hh : PO X hi (tPo c L W fh)) : PE X (.Subscript a (.Slice lo hi none p2) pos) (tEv c L W (eSl f fl fh)) := by
  refine pe_ev (pe_slice (SlR.or sl_list sl_tupA) ha hl hh) fun σ H Q h => ?_
  obtain ⟨F, ρ, R, h⟩ := of_tEv h
  refine ev_bind R h fun d k x F1 H1 ef e1 rd1 so R1 h1 => ?_
  refine po_bind R1 h1 fun l F2 H2 e2 R2 h2 => ?_
  refine po_bind R2 h2 fun u F3 H3 e3 R3 h3 => ?_
  have rd := (rd1.ext e2).ext e3
  replace h3 : Res c W σ ρ F3 H3 Q (oSl d l u) := h3
  clear h h1 h2 so ef
  cases d <;> first | exact (show False from h3).elim | skip
  · obtain ⟨p, xs, rfl, hp, r⟩ := rd.lst R3.sub
    exact .inl ⟨p, xs, rfl, .inl (.inl hp), fun q hq => h3.lay R3.sub (.lst (cut_rep r l u)) hq⟩
  · rename_i ds
    obtain ⟨p, xs, rfl, hp, r, z⟩ := rd.tup R3.sub
    refine .inr ⟨p, xs, rfl, .inl (.inl hp), fun ⟨e1, e2⟩ => ?_, fun _ q hq => h3.layT R3.sub (cut_rep r l u) hq⟩
    have e : cutD ds l u = ds := by
      unfold cutD
      rw [r.length] at e1 e2
      rw [e1, e2, List.drop_zero, Nat.sub_zero, List.take_length]
    have h4 : Res c W σ ρ F3 H3 Q (shr (.tup (cutD ds l u))) := h3
    rw [e] at h4
    exact h4.sh R3.sub z

/-! ### fields of instances -/
theorem zip_lookup {θ : Th} {F : Hp} : ∀ {names : List Str} {ds : List D} {xs : List V} {i : Nat} {n : Str} {d : D}, names.Nodup → RepL θ F ds xs → names[i]? = some n → ds[i]? = some d → ∃ v, (names.zip xs).lookup n = some v ∧ Rep θ F d v
  | [], _, _, _, _, _, _, _, h, _ => by simp at h
  | _ :: _, _, _, _, _, _, _, .nil, _, h => by simp at h
  | m :: names, _, _, 0, n, d, nd, .cons a b, h1, h2 => by
    simp at h1 h2
    subst h1 h2
    exact ⟨_, by rw [List.zip_cons_cons, List.lookup_cons, beq_self_eq_true], a⟩
  | m :: names, _, _, i + 1, n, d, nd, .cons a b, h1, h2 => by
    have h1' : names[i]? = some n := by simpa using h1
    obtain ⟨v, e, r⟩ := zip_lookup (i := i) (List.nodup_cons.mp nd).2 b h1' (by simpa using h2)
    refine ⟨v, ?_, r⟩
    have ne : (n == m) = false := beq_eq_false_iff_ne.mpr fun z => by
      subst z
      exact (List.nodup_cons.mp nd).1 (List.mem_of_getElem? h1')
    rw [List.zip_cons_cons, List.lookup_cons, ne]
    exact e
/-- what of the text a field's reading leans on: of class n -/
structure FldOk (c : Cn) (x : Str) (fx : Nat → Option Nat) : Prop where
  ok : ∀ n i, fx n = some i → Cls c.θ.K (c.θ.C n) ∧ NoAttr c.θ.K (c.θ.C n) x ∧ (c.θ.fld n)[i]? = some x ∧ (c.θ.fld n).Nodup
theorem pg_fld {x : Str} {fx : Nat → Option Nat} (T : FldOk c x fx) (hK : X.K = c.θ.K) (ha : PE X a (tEv c L W f)) (hb : attributeBase a x X.env (eval a X.env) = eval a X.env) : PE X (.Attribute a x pos) (tEv c L W (eUn (oFld fx) f)) := by
  refine pe_ev (pe_fld ha hb) fun σ H Q h => ?_
  obtain ⟨F, ρ, R, h⟩ := of_tEv h
  refine ev_bind R h fun d k v F1 H1 ef e1 rd so R1 h1 => ?_
  clear h so ef
  replace h1 : Res c W σ ρ F1 H1 Q (oFld fx d) := h1
  cases d <;> first | exact (show False from h1).elim | skip
  rename_i n ds
  replace h1 : Res c W σ ρ F1 H1 Q (match fx n with
    | some i => match ds[i]? with
      | some d => shr d
      | none => .no
    | none => .no) := h1
  cases q : fx n with
  | none => rw [q] at h1; exact h1.elim
  | some i =>
    rw [q] at h1
    replace h1 : Res c W σ ρ F1 H1 Q (match ds[i]? with
      | some d => shr d
      | none => .no) := h1
    cases q2 : ds[i]? with
    | none => rw [q2] at h1; exact h1.elim
    | some d =>
      rw [q2] at h1
      obtain ⟨z1, z2, z3, z4⟩ := T.ok n i q
      rcases rd with rd | ⟨p, o, rfl, ho, rd⟩
      · cases rd with
        | obj e l r =>
          obtain ⟨w, lw, rw'⟩ := zip_lookup z4 r z3 q2
          rw [hK]
          exact ⟨_, _, _, _, w, rfl, R1.sub.ins e, z1, z2, lw, h1.sh R1.sub rw'⟩
      · cases rd with
        | obj l r =>
          have hi : i < ds.length := (List.getElem?_eq_some_iff.mp q2).1
          obtain ⟨w, lw, rw'⟩ := zip_lookup (z4.sublist (List.take_sublist _ _)) r (by rw [List.getElem?_take_of_lt hi]; exact z3) q2
          rw [hK]
          exact ⟨_, _, _, _, w, rfl, ho, z1, z2, lw, h1.sh R1.sub rw'⟩
end
end G
namespace G
open PySem PySem.Spec L2
section
variable {X : Cx} {c : Cn} {L : List Addr} {W : WX} {f g h : ES} {a b e : Expr} {pos : Pos} {es : List Expr} {fs : List ES}
/-! ### isinstance -/
abbrev tyNames : List String := ["NoneType", "bool", "int", "str", "list", "tuple", "dict"]
abbrev isNames : List String := ["bool", "int", "str", "list", "tuple"]
theorem kit_tab : ∀ S ∈ tyNames, ∀ T ∈ isNames, kitB S T = some (isiT T S) := by decide +kernel
theorem tyName_mem {d : D} {S : String} (h : tyName d = some S) : S ∈ tyNames := by
  cases d <;> first | cases h | skip
  all_goals decide
theorem ty_of {θ : Th} {F H : Hp} {d : D} {x : V} {S : String} (s : Sub F H) (rd : Rd1 θ F H d x) (h : tyName d = some S) : TyX θ.K H x (.type S) := by
  cases d <;> first | cases h | skip
  · cases rd.non; exact .base .non
  · cases rd.bl; exact .base (.bl _)
  · cases rd.int; exact .base (.int _)
  · cases rd.str; exact .base (.str _)
  · obtain ⟨a, xs, rfl, ha, _⟩ := rd.lst s
    exact .base (.lst ha)
  · obtain ⟨a, xs, rfl, ha, _⟩ := rd.tup s
    exact .base (.tup ha)
  · rcases rd with rd | ⟨a, o, rfl, ha, rd⟩
    · cases rd with
      | dK e l r =>
        rcases s _ _ e with z | ⟨_, o, z⟩
        · exact .base (.dK z)
        · exact .fDict z
    · cases rd with
      | dK l r => exact .base (.dK ha)
theorem pg_isi {T : Str} {S : String} {p p2 : Pos} (hK : X.K = c.θ.K) (hg : Gl X "isinstance") (hm : X.mg "isinstance" = none) (hg2 : Gl X T) (hm2 : X.mg T = none) (hv : bootBuiltins T = some (.type S)) (hT : T ≠ "__name__") (hd : (T == ("__debug__" : Str)) = false) (hS : S ∈ isNames)
    (hst : starEach [a, .Name T p2] X.env = (false, eval a X.env) :: starEach [.Name T p2] X.env) (ha : PE X a (tEv c L W f)) : PE X (.Call (.Name "isinstance" p) [a, .Name T p2] [] pos) (tEv c L W (eUn (oIsi S) f)) := by
  refine pe_ev (pe_callB call_isi hg hm (by decide +kernel) (pa_cons ha (pa_cons (pe_bltn (v := .ty S) hg2 hm2 hv rfl hT hd) pa_nil) hst) (he := hst)) fun σ H Q h => ?_
  obtain ⟨F, ρ, R, h⟩ := of_tEv h
  refine ev_bind R h fun d k x F1 H1 ef e1 rd so R1 h1 => ?_
  replace h1 : Res c W σ ρ F1 H1 Q (match tyName d with
    | some U => shr (.bl (isiT S U))
    | none => .no) := h1
  cases q : tyName d with
  | none => rw [q] at h1; exact h1.elim
  | some U =>
    rw [q] at h1
    rw [hK]
    exact ⟨x, .ty S, .type U, .type S, _, rfl, .ty S, ty_of R1.sub rd q, kit_ty (kit_tab U (tyName_mem q) S hS), h1.bl R1.sub⟩

/-! ### built-in functions -/
def BiD (c : Cn) (W : WX) (b : Bi) (r : List V → Hp → VK → Prop) : Prop := ∀ (σ : L2.St) (ρ : Sl) (F H : Hp) (Q : VK) (xs : List (D × Kd)) (vs : List V), Sub F H → ArgR c.θ F H xs vs → Res c W σ ρ F H Q (oBi b (xs.map (·.1))) → r vs H Q
theorem pg_bi {b : Bi} {id : String} {x : Str} {p : Pos} {r : List V → Hp → VK → Prop} (hc : CallR X (.builtin id) r) (hd : BiD c W b r) (hg : Gl X x) (hm : X.mg x = none) (hv : bootBuiltins x = some (.builtin id)) (ha : PA X (e :: es) (tAv c L W fs)) (hn : x ≠ "__name__") (hdb : (x == ("__debug__" : Str)) = false)
    (he : starEach (e :: es) X.env = (false, eval e X.env) :: starEach es X.env) (hpl : (backTo pos (starEach es X.env)).any (·.1) = false) : PE X (.Call (.Name x p) (e :: es) [] pos) (tEv c L W (eBi b fs)) := by
  refine pe_ev (pe_callB hc hg hm hv ha hn hdb he hpl) fun σ H Q h => ?_
  obtain ⟨F, ρ, R, h⟩ := of_tEv h
  exact av_bind R h fun xs vs F1 H1 _ e1 ar R1 h1 => hd σ ρ F1 H1 Q xs vs R1.sub ar h1
theorem pg_biTy {b : Bi} {id : String} {x : Str} {p : Pos} {r : List V → Hp → VK → Prop} (hc : CallR X (.type id) r) (hd : BiD c W b r) (hg : Gl X x) (hm : X.mg x = none) (hv : bootBuiltins x = some (.type id)) (ha : PA X (e :: es) (tAv c L W fs)) (hn : x ≠ "__name__") (hdb : (x == ("__debug__" : Str)) = false)
    (he : starEach (e :: es) X.env = (false, eval e X.env) :: starEach es X.env) (hpl : (backTo pos (starEach es X.env)).any (·.1) = false) : PE X (.Call (.Name x p) (e :: es) [] pos) (tEv c L W (eBi b fs)) := by
  refine pe_ev (pe_callTy hc hg hm hv ha hn hdb he hpl) fun σ H Q h => ?_
  obtain ⟨F, ρ, R, h⟩ := of_tEv h
  exact av_bind R h fun xs vs F1 H1 _ e1 ar R1 h1 => hd σ ρ F1 H1 Q xs vs R1.sub ar h1
theorem call_lenDR : CallR X (.builtin "len") (fun xs H Q => ∃ a kvs, xs = [V.ref a] ∧ Rd H a (.dK kvs) ∧ Q (.int (kvs.length : Nat)) H) := by
  intro pins s σ H xs us Q I r h
  obtain ⟨a, kvs, rfl, ha, q⟩ := h
  obtain ⟨u, rfl, ru⟩ := vals1 r
  cases ru
  exact d_len I ha fun t s' I' => ⟨.int kvs.length, H, I', ⟨t, rfl⟩, q⟩
theorem call_lenTR : CallR X (.builtin "len") (fun xs H Q => ∃ a kvs, xs = [V.ref a] ∧ Rd H a (.dT kvs) ∧ Q (.int (kvs.length : Nat)) H) := by
  intro pins s σ H xs us Q I r h
  obtain ⟨p, kvs, rfl, hp, q⟩ := h
  obtain ⟨u, rfl, rx⟩ := vals1 r
  obtain rfl : u = .ref p := rx
  obtain ⟨z, hd, ys, rel, dd⟩ := dt_rd I.hok hp
  have hl : kvs.length = ys.length := Paired.length rel
  refine call_len_dictH hd dd (by rw [← hl]; rw [sizeLine_eq] at z; omega) ?_
  rw [← hl]
  exact ⟨.int ((kvs.length : Nat) : Int), H, I.tok _, ⟨_, rfl⟩, q⟩
/-- one argument, two -/
theorem bi1 {b : Bi} {r : List V → Hp → VK → Prop} (h0 : ∀ d e l, oBi b (d :: e :: l) = .no) (hn : oBi b [] = .no)
    (h : ∀ (σ : L2.St) (ρ : Sl) (F H : Hp) (Q : VK) (d : D) (v : V), Sub F H → Rd1 c.θ F H d v → Res c W σ ρ F H Q (oBi b [d]) → r [v] H Q) : BiD c W b r := by
  intro σ ρ F H Q xs vs s ar hr
  cases ar with
  | nil => rw [List.map_nil, hn] at hr; exact hr.elim
  | cons rd so t =>
    cases t with
    | nil => exact h σ ρ F H Q _ _ s rd hr
    | cons rd2 so2 t =>
      rw [List.map_cons, List.map_cons, h0] at hr
      exact hr.elim
theorem bi2 {b : Bi} {r : List V → Hp → VK → Prop} (h0 : ∀ d e g l, oBi b (d :: e :: g :: l) = .no) (hn : oBi b [] = .no) (h1 : ∀ d, oBi b [d] = .no)
    (h : ∀ (σ : L2.St) (ρ : Sl) (F H : Hp) (Q : VK) (d e : D) (v u : V), Sub F H → Rd1 c.θ F H d v → Rd1 c.θ F H e u → Res c W σ ρ F H Q (oBi b [d, e]) → r [v, u] H Q) : BiD c W b r := by
  intro σ ρ F H Q xs vs s ar hr
  cases ar with
  | nil => rw [List.map_nil, hn] at hr; exact hr.elim
  | cons rd so t =>
    cases t with
    | nil => rw [List.map_cons, List.map_nil, h1] at hr; exact hr.elim
    | cons rd2 so2 t =>
      cases t with
      | nil => exact h σ ρ F H Q _ _ _ _ s rd rd2 hr
      | cons rd3 so3 t =>
        rw [List.map_cons, List.map_cons, List.map_cons, h0] at hr
        exact hr.elim
theorem Rd1.dK {θ : Th} {F H : Hp} {ks : List Key} {ds : List D} {v : V} (s : Sub F H) (rd : Rd1 θ F H (.dK ks ds) v) : ∃ a xs, v = .ref a ∧ ks.length = ds.length ∧ RepL θ F ds xs ∧ Rd H a (.dK (ks.zip xs)) := by
  rcases rd with rd | ⟨a, o, rfl, ha, rd⟩
  · cases rd with
    | dK e l r =>
      rcases s _ _ e with z | ⟨_, o, z⟩
      · exact ⟨_, _, rfl, l, r, .inl z⟩
      · exact ⟨_, _, rfl, l, r, .inr ⟨o, z⟩⟩
  · cases rd with
    | dK l r => exact ⟨a, _, rfl, l, r, .inl ha⟩
theorem Rd1.dT {θ : Th} {F H : Hp} {ks : List (List Key)} {ds : List D} {v : V} (s : Sub F H) (rd : Rd1 θ F H (.dT ks ds) v) : ∃ a xs, v = .ref a ∧ ks.length = ds.length ∧ RepL θ F ds xs ∧ Rd H a (.dT (ks.zip xs)) := by
  rcases rd with rd | ⟨a, o, rfl, ha, rd⟩
  · cases rd with
    | dT e l r =>
      rcases s _ _ e with z | ⟨_, o, z⟩
      · exact ⟨_, _, rfl, l, r, .inl z⟩
      · exact ⟨_, _, rfl, l, r, .inr ⟨o, z⟩⟩
  · cases rd with
    | dT l r => exact ⟨a, _, rfl, l, r, .inl ha⟩
theorem bd_len : BiD c W .len (fun xs H Q => (∃ x n, xs = [x] ∧ LenV c.θ.K x H n ∧ Q (.int n) H) ∨ (∃ a kvs, xs = [V.ref a] ∧ Rd H a (.dK kvs) ∧ Q (.int (kvs.length : Nat)) H) ∨ (∃ a kvs, xs = [V.ref a] ∧ Rd H a (.dT kvs) ∧ Q (.int (kvs.length : Nat)) H)) := by
  refine bi1 (fun d e l => by cases d <;> rfl) rfl fun σ ρ F H Q d v s rd h => ?_
  cases d <;> first | exact (show False from h).elim | skip
  · cases rd.str
    obtain ⟨hl, h⟩ := Res.ite h
    exact .inl ⟨_, _, rfl, ⟨Nat.le_trans hl SZ_le, rfl⟩, h.int s⟩
  · obtain ⟨a, xs, rfl, ha, r⟩ := rd.lst s
    refine .inl ⟨_, xs.length, rfl, .inl ⟨xs, .inl (.inl ha), rfl⟩, ?_⟩
    rw [r.length]
    exact Res.int h s
  · obtain ⟨a, xs, rfl, ha, r, _⟩ := rd.tup s
    refine .inl ⟨_, xs.length, rfl, .inr ⟨xs, .inl (.inl ha), rfl⟩, ?_⟩
    rw [r.length]
    exact Res.int h s
  · obtain ⟨a, xs, rfl, l, r, ha⟩ := rd.dK s
    refine .inr (.inl ⟨a, _, rfl, ha, ?_⟩)
    rw [List.length_zip, r.length, ← l, Nat.min_self]
    exact Res.int h s
  · obtain ⟨a, xs, rfl, l, r, ha⟩ := rd.dT s
    refine .inr (.inr ⟨a, _, rfl, ha, ?_⟩)
    rw [List.length_zip, r.length, ← l, Nat.min_self]
    exact Res.int h s
theorem bd_abs : BiD c W .abs (fun xs H Q => ∃ i, xs = [.int i] ∧ Q (.int (if i < 0 then -i else i)) H) := by
  refine bi1 (fun d e l => by cases d <;> rfl) rfl fun σ ρ F H Q d v s rd h => ?_
  cases d <;> first | exact (show False from h).elim | skip
  cases rd.int
  exact ⟨_, rfl, Res.int h s⟩
theorem bd_int : BiD c W .int (fun xs H Q => (∃ i, xs = [.int i] ∧ Q (.int i) H) ∨ ∃ k, xs = [.bl k] ∧ Q (.int (if k then 1 else 0)) H) := by
  refine bi1 (fun d e l => by cases d <;> rfl) rfl fun σ ρ F H Q d v s rd h => ?_
  cases d <;> first | exact (show False from h).elim | skip
  · cases rd.bl
    exact .inr ⟨_, rfl, Res.int h s⟩
  · cases rd.int
    exact .inl ⟨_, rfl, Res.int h s⟩
theorem bd_str : BiD c W .str (fun xs H Q => ∃ i : Int, xs = [.int i] ∧ i.natAbs.log2 < 1920 ∧ Q (.str (toString i)) H) := by
  refine bi1 (fun d e l => by cases d <;> rfl) rfl fun σ ρ F H Q d v s rd h => ?_
  cases d <;> first | exact (show False from h).elim | skip
  cases rd.int
  obtain ⟨hl, h⟩ := Res.ite h
  exact ⟨_, rfl, hl, Res.str h s⟩
theorem bd_sum : BiD c W .sum (rSum c.θ.K) := by
  refine bi1 (fun d e l => by cases d <;> rfl) rfl fun σ ρ F H Q d v s rd h => ?_
  cases d <;> first | exact (show False from h).elim | skip
  rename_i ds
  obtain ⟨a, xs, rfl, ha, r⟩ := rd.lst s
  replace h : Res c W σ ρ F H Q (match intsOf ds with
    | some ns => shr (.int ns.sum)
    | none => .no) := h
  cases q : intsOf ds with
  | none => rw [q] at h; exact h.elim
  | some ns =>
    rw [q] at h
    rw [intsOf_eq q] at r
    cases r.ints
    exact ⟨a, ns, rfl, .inl (.inl ha), h.int s⟩
theorem minI_spec : ∀ {ns : List Int}, ns ≠ [] → minI ns ∈ ns ∧ ∀ y ∈ ns, minI ns ≤ y
  | [a], _ => ⟨by simp [minI], fun y hy => by simp at hy; subst hy; exact Int.le_refl _⟩
  | a :: b :: r, _ => by
    obtain ⟨h1, h2⟩ := minI_spec (ns := b :: r) (by simp)
    have e : minI (a :: b :: r) = min a (minI (b :: r)) := rfl
    rw [e]
    refine ⟨?_, fun y hy => ?_⟩
    · by_cases q : a ≤ minI (b :: r)
      · rw [Int.min_eq_left q]; exact List.mem_cons_self
      · rw [Int.min_eq_right (by omega)]; exact List.mem_cons_of_mem _ h1
    · rcases List.mem_cons.mp hy with rfl | hy
      · omega
      · have := h2 y hy; omega
theorem maxI_spec : ∀ {ns : List Int}, ns ≠ [] → maxI ns ∈ ns ∧ ∀ y ∈ ns, y ≤ maxI ns
  | [a], _ => ⟨by simp [maxI], fun y hy => by simp at hy; subst hy; exact Int.le_refl _⟩
  | a :: b :: r, _ => by
    obtain ⟨h1, h2⟩ := maxI_spec (ns := b :: r) (by simp)
    have e : maxI (a :: b :: r) = max a (maxI (b :: r)) := rfl
    rw [e]
    refine ⟨?_, fun y hy => ?_⟩
    · by_cases q : maxI (b :: r) ≤ a
      · rw [Int.max_eq_left q]; exact List.mem_cons_self
      · rw [Int.max_eq_right (by omega)]; exact List.mem_cons_of_mem _ h1
    · rcases List.mem_cons.mp hy with rfl | hy
      · omega
      · have := h2 y hy; omega
theorem bd_min1 : BiD c W .min1 (rMin c.θ.K) := by
  refine bi1 (fun d e l => by cases d <;> rfl) rfl fun σ ρ F H Q d v s rd h => ?_
  cases d <;> first | exact (show False from h).elim | skip
  rename_i ds
  obtain ⟨a, xs, rfl, ha, r⟩ := rd.lst s
  replace h : Res c W σ ρ F H Q (match intsOf ds with
    | some ns => if ns ≠ [] then shr (.int (minI ns)) else .no
    | none => .no) := h
  cases q : intsOf ds with
  | none => rw [q] at h; exact h.elim
  | some ns =>
    rw [q] at h
    obtain ⟨hn, h⟩ := Res.ite h
    rw [intsOf_eq q] at r
    cases r.ints
    refine ⟨a, ns, rfl, .inl (.inl ha), List.length_pos_iff.mpr hn, fun m m1 m2 => ?_⟩
    obtain ⟨z1, z2⟩ := minI_spec hn
    have e : m = minI ns := Int.le_antisymm (m2 _ z1) (z2 _ m1)
    rw [e]
    exact h.int s
theorem bd_max1 : BiD c W .max1 (rMax c.θ.K) := by
  refine bi1 (fun d e l => by cases d <;> rfl) rfl fun σ ρ F H Q d v s rd h => ?_
  cases d <;> first | exact (show False from h).elim | skip
  rename_i ds
  obtain ⟨a, xs, rfl, ha, r⟩ := rd.lst s
  replace h : Res c W σ ρ F H Q (match intsOf ds with
    | some ns => if ns ≠ [] then shr (.int (maxI ns)) else .no
    | none => .no) := h
  cases q : intsOf ds with
  | none => rw [q] at h; exact h.elim
  | some ns =>
    rw [q] at h
    obtain ⟨hn, h⟩ := Res.ite h
    rw [intsOf_eq q] at r
    cases r.ints
    refine ⟨a, ns, rfl, .inl (.inl ha), List.length_pos_iff.mpr hn, fun m m1 m2 => ?_⟩
    obtain ⟨z1, z2⟩ := maxI_spec hn
    have e : m = maxI ns := Int.le_antisymm (z2 _ m1) (m2 _ z1)
    rw [e]
    exact h.int s
theorem boolsOf_eq : ∀ {ds : List D} {ns : List Bool}, boolsOf ds = some ns → ds = ns.map D.bl
  | [], ns, h => by cases h; rfl
  | d :: r, ns, h => by
    cases d with
    | bl i =>
      unfold boolsOf at h
      cases q : boolsOf r with
      | none => rw [q] at h; cases h
      | some ms =>
        rw [q] at h
        cases h
        rw [boolsOf_eq q]
        rfl
    | _ => cases h
theorem RepL.bools {θ : Th} {F : Hp} : ∀ {ns : List Bool} {xs : List V}, RepL θ F (ns.map D.bl) xs → xs = ns.map V.bl
  | [], _, h => by cases h; rfl
  | n :: ns, _, h => by
    cases h with
    | cons a b =>
      cases a
      rw [RepL.bools b]
      rfl
theorem bd_all : BiD c W .all (rAll c.θ.K) := by
  refine bi1 (fun d e l => by cases d <;> rfl) rfl fun σ ρ F H Q d v s rd h => ?_
  cases d <;> first | exact (show False from h).elim | skip
  rename_i ds
  obtain ⟨a, xs, rfl, ha, r⟩ := rd.lst s
  replace h : Res c W σ ρ F H Q (match boolsOf ds with
    | some bs => shr (.bl (bs.all id))
    | none => .no) := h
  cases q : boolsOf ds with
  | none => rw [q] at h; exact h.elim
  | some ns =>
    rw [q] at h
    rw [boolsOf_eq q] at r
    cases r.bools
    exact ⟨a, ns, rfl, .inl (.inl ha), h.bl s⟩
theorem bd_list : BiD c W .list (fun xs H Q => ∃ p ys, xs = [.ref p] ∧ (SqL c.θ.K H p ys ∨ SqT c.θ.K H p ys) ∧ ∀ l, H l = none → Q (.ref l) (upd H l (.lst ys))) := by
  refine bi1 (fun d e l => by cases d <;> rfl) rfl fun σ ρ F H Q d v s rd h => ?_
  cases d <;> first | exact (show False from h).elim | skip
  · obtain ⟨a, xs, rfl, ha, r⟩ := rd.lst s
    exact ⟨a, xs, rfl, .inl (.inl (.inl ha)), fun l hl => Res.lay h s (.lst r) hl⟩
  · obtain ⟨a, xs, rfl, ha, r, _⟩ := rd.tup s
    exact ⟨a, xs, rfl, .inr (.inl (.inl ha)), fun l hl => Res.lay h s (.lst r) hl⟩
theorem bd_max2 : BiD c W .max2 (fun xs H Q => ∃ i j, xs = [.int i, .int j] ∧ Q (.int (if j > i then j else i)) H) := by
  refine bi2 (fun d e g l => by cases d <;> cases e <;> rfl) rfl (fun d => by cases d <;> rfl) fun σ ρ F H Q d e v u s rd rd2 h => ?_
  cases d <;> cases e <;> first | exact (show False from h).elim | skip
  cases rd.int; cases rd2.int
  exact ⟨_, _, rfl, Res.int h s⟩
theorem bd_min2 : BiD c W .min2 (fun xs H Q => ∃ i j, xs = [.int i, .int j] ∧ Q (.int (if j < i then j else i)) H) := by
  refine bi2 (fun d e g l => by cases d <;> cases e <;> rfl) rfl (fun d => by cases d <;> rfl) fun σ ρ F H Q d e v u s rd rd2 h => ?_
  cases d <;> cases e <;> first | exact (show False from h).elim | skip
  cases rd.int; cases rd2.int
  exact ⟨_, _, rfl, Res.int h s⟩
end
end G
namespace G
open PySem PySem.Spec L2
/-! ### what is wholly new -/
/-- old objects as they were frozen ahead -/
noncomputable def newN (F F' H : Hp) : Hp := fun b => match H b with
  | none => F' b
  | some _ => F b
theorem newN_ext {F F2 F' H H' : Hp} (s : Sub F H) (s2 : Same F F2) (e : Ext F2 H F' H') : Ext F H (newN F F' H) H' := by
  refine ⟨fun b u h => ?_, fun b u h => ?_, e.hh, fun b u h => ?_⟩
  · unfold newN at h
    cases q : H b with
    | none => rw [q] at h; exact e.sub b u h
    | some w =>
      rw [q] at h
      exact e.sub b u (e.ff _ _ (s2 _ _ h))
  · have : ∃ w, H b = some w := by
      rcases s b u h with z | ⟨_, _, z⟩ <;> exact ⟨_, z⟩
    obtain ⟨w, hw⟩ := this
    unfold newN
    rw [hw]
    exact h
  · unfold newN at h
    cases q : H b with
    | none => exact .inr rfl
    | some w => rw [q] at h; exact .inl h
theorem repl_flatF {θ : Th} {F F' : Hp} : ∀ {ds : List D} {vs : List V}, ds.all flat = true → RepL θ F ds vs → RepL θ F' ds vs
  | _, _, _, .nil => .nil
  | _, _, h, .cons r t => by
    rw [List.all_cons, Bool.and_eq_true] at h
    exact .cons (r.flat h.1) (repl_flatF h.2 t)
theorem FrV.new {θ : Th} {F F' H H' : Hp} {d : D} {v : V} (hd : newD d = true) (f : FrV θ F' H H' d v) : FrV θ (newN F F' H) H H' d v := by
  obtain ⟨fu, a, o, rfl, n, ha, nf, ro, nw⟩ := f
  have nf2 : newN F F' H a = none := by unfold newN; rw [n]; exact nf
  have le : Same (onlyN F' H) (newN F F' H) := fun b u h => by
    unfold onlyN at h
    unfold newN
    cases q : H b with
    | none => rw [q] at h; exact h
    | some w => rw [q] at h; cases h
  have le2 : Same (onlyN F' H) (onlyN (newN F F' H) H) := fun b u h => by
    have h2 := le b u h
    unfold onlyN at h ⊢
    cases q : H b with
    | none => exact h2
    | some w => rw [q] at h; cases h
  cases d with
  | lst ds =>
    cases ro with
    | lst rl => exact ⟨trivial, a, _, rfl, n, ha, nf2, .lst (repl_flatF hd rl), Nw.of rfl⟩
  | obj k ds => exact ⟨fu, a, o, rfl, n, ha, nf2, (nw rfl).mono le, fun z => (nw z).mono le2⟩
  | _ => cases hd
theorem FrV.notFlat {θ : Th} {F' H H' : Hp} {d : D} {v : V} (f : FrV θ F' H H' d v) (h : flat d = true) : False := by
  obtain ⟨_, _, _, _, _, _, _, ro, _⟩ := f
  cases ro <;> cases h
theorem TrV.flat {θ : Th} {F F' H H' : Hp} {n : Nat} {d : D} {v : V} (h : G.flat d = true) (f : TrV θ F' H H' n d v) : Rep θ F d v := by
  obtain ⟨S, t, _⟩ := f
  cases n with
  | zero =>
    cases t with
    | lf r => exact r.flat h
  | succ n =>
    cases t with
    | fl _ r => exact r.flat h
    | lst _ _ => cases h
    | tup _ _ _ => cases h
    | dK _ _ _ => cases h
    | dT _ _ _ => cases h
    | obj _ _ _ => cases h
theorem TrV.flat' {θ : Th} {F F' H H' : Hp} {n : Nat} {d : D} {v : V} (f : TrV θ F' H H' n d v) (h : G.flat d = true) : TrV θ F H H' n d v := by
  have r : Rep θ F d v := f.flat h
  cases n with
  | zero => exact ⟨[], .lf r, List.nodup_nil, fun _ h => by cases h⟩
  | succ n => exact ⟨[], .fl h r, List.nodup_nil, fun _ h => by cases h⟩
/-! ### what a def promises -/
def ResF (θ : Th) (F H : Hp) (Q : VK) (E : XK) : Out (D × Bool) → Prop
  | .ok (d, true) => ∀ v F' H', Ext F H F' H' → FrV θ F' H H' d v → Q v H'
  | .ok (d, false) => ∀ v F' H', Ext F H F' H' → Rep θ F' d v → Q v H'
  | .ex n fs => ∀ cls dd F' H', Ext F H F' H' → ExV θ n fs cls dd F' H' → E cls dd H'
  | .no => False
/-- a def whose value on ds is S ds -/
def spOf (θ : Th) (m : Nat) (S : List D → Out (D × Bool)) : Sp := fun vs H Q E => vs.length = m ∧ ∃ F ds, Sub F H ∧ RepL θ F ds vs ∧ ResF θ F H Q E (S ds)
/-- an __init__ of class k: what it makes of its arguments -/
def spInit (θ : Th) (m k : Nat) (S : List D → Out (D × Bool)) : Sp := fun vs H Q E => vs.length = m + 1 ∧ ∃ F ds H0 x dx us, vs = .ref x :: us ∧ H0 x = none ∧ H0 dx = none ∧ dx ≠ x ∧ H = upd (upd H0 dx (.own x)) x (.ins (θ.C k) dx []) ∧ Sub F H0 ∧ RepL θ F ds us ∧
  ResF θ F H0 (fun v H' => v = .ref x → Q .non H') E (S ds)
/-- own roots among the arguments are frozen for the call -/
theorem ArgR.freeze {θ : Th} {F H : Hp} : ∀ {xs : List (D × Kd)} {vs : List V}, Sub F H → ArgR θ F H xs vs → okArgs xs = true → ∃ F2, Same F F2 ∧ Sub F2 H ∧ RepL θ F2 (xs.map (·.1)) vs
  | _, _, s, .nil, _ => ⟨F, .refl _, s, .nil⟩
  | _, _, s, .cons (d := d) (k := k) (v := v) rd so t, hf => by
    obtain ⟨hf1, hf2⟩ := Bool.and_eq_true_iff.mp (show ((k.solid || notObj d) && okArgs _) = true from hf)
    obtain ⟨F2, e, s2, r⟩ := ArgR.freeze s t hf2
    by_cases sol : k.solid = true
    · exact ⟨F2, e, s2, .cons ((so sol).mono e) r⟩
    rcases rd with rd | ⟨a, o, rfl, ha, ro⟩
    · exact ⟨F2, e, s2, .cons (rd.mono e) r⟩
    · have fu : Full θ d := by
        rcases Bool.or_eq_true_iff.mp hf1 with z | z
        · exact absurd z sol
        · cases d <;> first | trivial | cases z
      cases q : F2 a with
      | none =>
        have e2 : Same F2 (upd F2 a o) := Same.lay q
        refine ⟨upd F2 a o, e.trans e2, fun b u h => ?_, .cons ((ro.mono e).frozen q fu) (r.mono e2)⟩
        by_cases hb : b = a
        · subst hb
          rw [upd_same] at h
          cases h
          exact .inl ha
        · rw [upd_ne hb] at h
          exact s2 b u h
      | some u =>
        have eu : u = o := by
          rcases s2 a u q with z | ⟨_, o', z⟩
          · rw [ha] at z
            exact (Option.some.inj z).symm
          · rw [ha] at z
            cases z
            cases ro
        subst eu
        refine ⟨F2, e, s2, .cons ?_ r⟩
        have ro := ro.mono e
        cases ro with
        | lst r => exact .lst q r
        | dK l r => exact .dK q l r
        | dT l r => exact .dT q l r
        | @obj c dx xs ds l r =>
          have fu : ds.length = (θ.fld c).length := fu
          rw [fu, List.take_length] at q
          exact .obj q fu.symm r
section
variable {X : Cx} {c : Cn} {L : List Addr} {W : WX} {f g h : ES} {a b e : Expr} {pos : Pos} {es : List Expr} {fs : List ES}
theorem eArgs_length : ∀ {fs : List ES} {ρ : Sl} {xs : List (D × Kd)}, eArgs fs ρ = .ok xs → xs.length = fs.length
  | [], _, _, h => by cases h; rfl
  | f :: fs, ρ, xs, h => by
    unfold eArgs at h
    cases q : f ρ with
    | no => rw [q] at h; cases h
    | ex n gs => rw [q] at h; cases h
    | ok x =>
      rw [q] at h
      cases q2 : eArgs fs ρ with
      | no => rw [bind_ok, q2] at h; cases h
      | ex n gs => rw [bind_ok, q2] at h; cases h
      | ok ys =>
        rw [bind_ok, q2] at h
        cases h
        rw [List.length_cons, List.length_cons, eArgs_length q2]
/-- what the call's outcome says of the def -/
theorem call_core {Γ : Gam} {n : Nat} {σ : L2.St} {ρ : Sl} {F H : Hp} {Q : VK} {xs : List (D × Kd)} {vs : List V} (s : Sub F H) (ar : ArgR c.θ F H xs vs)
    (h : Res c W σ ρ F H Q (match Γ n (xs.map (·.1)) with
      | .ok (d, b) => if allSolid xs then .ok (d, if b then .fr else .sh) else if flat d && okArgs xs then shr d else if (b && newD d) && okArgs xs then .ok (d, .fr) else .no
      | .ex c gs => if allSolid xs || (gs.isEmpty && okArgs xs) then .ex c gs else .no
      | .no => .no)) : ∃ F2, Same F F2 ∧ Sub F2 H ∧ RepL c.θ F2 (xs.map (·.1)) vs ∧ ResF c.θ F2 H Q (WE W σ) (Γ n (xs.map (·.1))) := by
  by_cases q : allSolid xs = true
  · refine ⟨F, .refl _, s, ar.solid q, ?_⟩
    cases hg : Γ n (xs.map (·.1)) with
    | no => rw [hg] at h; exact h
    | ex k gs =>
      rw [hg] at h
      replace h : Res c W σ ρ F H Q (if (allSolid xs || (gs.isEmpty && okArgs xs)) = true then .ex k gs else .no) := h
      exact (Res.ite h).2
    | ok z =>
      obtain ⟨d, b⟩ := z
      rw [hg] at h
      replace h : Res c W σ ρ F H Q (if allSolid xs = true then .ok (d, if b then .fr else .sh) else if (flat d && okArgs xs) = true then shr d else if ((b && newD d) && okArgs xs) = true then .ok (d, .fr) else .no) := h
      rw [if_pos q] at h
      cases b with
      | true => exact h
      | false => exact h
  · have go : okArgs xs = true → ∃ F2, Same F F2 ∧ Sub F2 H ∧ RepL c.θ F2 (xs.map (·.1)) vs := ar.freeze s
    have back : ∀ {F2 F' H' : Hp}, Same F F2 → Ext F2 H F' H' → Ext F H F H' := fun {F2 F' H'} e x => ⟨fun a u z => x.sub a u (x.ff _ _ (e _ _ z)), .refl _, x.hh, fun _ _ z => .inl z⟩
    cases hg : Γ n (xs.map (·.1)) with
    | no => rw [hg] at h; exact h.elim
    | ex k gs =>
      rw [hg] at h
      replace h : Res c W σ ρ F H Q (if (allSolid xs || (gs.isEmpty && okArgs xs)) = true then .ex k gs else .no) := h
      obtain ⟨h1, h2⟩ := Res.ite h
      rcases Bool.or_eq_true_iff.mp h1 with z | z
      · exact absurd z q
      obtain ⟨z1, z2⟩ := Bool.and_eq_true_iff.mp z
      obtain ⟨F2, e, s2, r⟩ := go z2
      have eg : gs = [] := List.isEmpty_iff.mp z1
      subst eg
      exact ⟨F2, e, s2, r, fun cls dd F' H' x hv => h2 cls dd F H' (back e x) hv⟩
    | ok z =>
      obtain ⟨d, b⟩ := z
      rw [hg] at h
      replace h : Res c W σ ρ F H Q (if allSolid xs = true then .ok (d, if b then .fr else .sh) else if (flat d && okArgs xs) = true then shr d else if ((b && newD d) && okArgs xs) = true then .ok (d, .fr) else .no) := h
      rw [if_neg q] at h
      by_cases h1 : (flat d && okArgs xs) = true
      rotate_left
      · rw [if_neg h1] at h
        obtain ⟨h1, h2⟩ := Res.ite h
        obtain ⟨z1, z2⟩ := Bool.and_eq_true_iff.mp h1
        obtain ⟨z0, z1⟩ := Bool.and_eq_true_iff.mp z1
        subst z0
        obtain ⟨F2, e, s2, r⟩ := go z2
        exact ⟨F2, e, s2, r, fun v F' H' x hv => h2 v _ H' (newN_ext s e x) (hv.new z1)⟩
      rw [if_pos h1] at h
      have h2 := h
      obtain ⟨z1, z2⟩ := Bool.and_eq_true_iff.mp h1
      obtain ⟨F2, e, s2, r⟩ := go z2
      refine ⟨F2, e, s2, r, ?_⟩
      cases b with
      | true =>
        intro v F' H' x hv
        exact (hv.notFlat z1).elim
      | false => exact fun v F' H' x hv => h2 v F H' (back e x) (hv.flat z1)
theorem ResF.imp {θ : Th} {F H : Hp} {Q Q' : VK} {E : XK} {o : Out (D × Bool)} (h : ResF θ F H Q E o) (k : ∀ v H', Q v H' → Q' v H') : ResF θ F H Q' E o := by
  cases o with
  | no => exact h
  | ex n fs => exact h
  | ok z =>
    obtain ⟨d, b⟩ := z
    cases b with
    | true => exact fun v F' H' x hv => k _ _ (h v F' H' x hv)
    | false => exact fun v F' H' x hv => k _ _ (h v F' H' x hv)
/-- f(..) -/
theorem pg_call {Γ : Gam} {n k m : Nat} {fa : Addr} {fd : FuncData} {ps : List Str} {x : Str} {p : Pos} (F : FnOk X.prog X.w X.K X.mg X.base (L2N.CX X.prog X.w) k fa fd ps (spOf c.θ m (Γ n))) (hr : Room k X.A) (hg : Gl X x) (hm : X.mg x = some (.ref fa))
    (hk : PySem.W.keepIn X.K (.ref fa) = true) (hb : Binds X.K fd ps []) (tk : L2N.Takes X W) (ha : PA X (e :: es) (tAv c L W fs)) (hl : fs.length = m) (hdb : (x == ("__debug__" : Str)) = false) (he : starEach (e :: es) X.env = (false, eval e X.env) :: starEach es X.env)
    (hpl : (backTo pos (starEach es X.env)).any (·.1) = false) : PE X (.Call (.Name x p) (e :: es) [] pos) (tEv c L W (eCall Γ n fs)) := by
  refine pe_ev (pe_callS (E := WE W) F hr hg hm hk hb (fun σ => L2N.passAt tk σ) ha hdb he hpl) fun σ H Q h => ?_
  obtain ⟨F, ρ, R, h⟩ := of_tEv h
  refine av_bind R h fun xs vs F1 H1 ef e1 ar R1 h1 => ?_
  obtain ⟨F2, _, s2, r, hf⟩ := call_core R1.sub ar h1
  refine ⟨?_, F2, _, s2, r, hf⟩
  rw [r.length, List.length_map, ← hl]
  exact eArgs_length ef
end
end G
namespace G
open PySem PySem.Spec L2
section
variable {X : Cx} {CX : CXT} {k : Nat} {f C : Addr} {fd : FuncData} {ps : List Str} {sp : Sp} {E : L2.St → XK} {x m : Str} {p pos apos : Pos} {e o : Expr} {es : List Expr} {ta : TE} {t : TA}
/-! ### methods and instances where what is raised is wished for at the caller's slots -/
def tMethS (C : Addr) (m : Str) (sp : Sp) (E : L2.St → XK) (ta : TE) (t : TA) : TE := fun σ H Q => ta σ H fun x H1 => ∃ a dx fs, x = .ref a ∧ H1 a = some (.ins C dx fs) ∧ fs.lookup m = none ∧ t σ H1 fun vs H2 => sp (x :: vs) H2 Q (E σ)
theorem pe_methS {pl : Sem Bool} (he : PE X o ta) (c : Cls X.K C) (hm : Meth X.K C m f) (F : FnOk X.prog X.w X.K X.mg X.base CX k f fd ps sp) (hr : Room k X.A) (hb : Binds X.K fd ps []) (hx : ∀ σ, PassesAt CX X σ (E σ)) (ha : PA X (e :: es) t)
    (hst : starEach (e :: es) X.env = (false, eval e X.env) :: starEach es X.env) (hpl : (backTo pos (starEach es X.env)).any (·.1) = false)
    (ht : eval (.Call (.Attribute o m apos) (e :: es) [] pos) X.env = (do
      let ov ← eval o X.env
      standAt apos.atName
      let (f, first) ← holding [ov] (getMethod ov m pl)
      callWith pos f first (backTo pos (starEach (e :: es) X.env)) (backToKw pos (keywordEach [] X.env)))) :
    PE X (.Call (.Attribute o m apos) (e :: es) [] pos) (tMethS C m sp E ta t) := by
  refine ⟨fun pins s σ H Q I h => ?_⟩
  refine PySem.W.methodCall_KW (pl := pl) (thn (he.run pins s σ H _ I h) fun u s1 ⟨x, H1, I1, rx, a, dx, fs, ex, ea, l, q⟩ => ?_) ht
  subst ex
  obtain rfl : u = Value.ref a := rx
  refine getmeth_ok I1 ea c hm l ?_
  refine PySem.W.callWith_K (first := [.ref a]) (h₀ := X.base) I.ok.mod.kin hm.kp (thn (ha.run pos pins s1 σ H1 _ I1 q) fun us s2 ⟨vs, H2, I2, r, q2⟩ => ⟨I2.kIn, ?_⟩) hst hpl
  exact run_fnS (us := .ref a :: us) (vs := .ref a :: vs) F hr hb (hx σ) I2 (.cons rfl r) q2
theorem pe_methS0 {pl : Sem Bool} (he : PE X o ta) (c : Cls X.K C) (hm : Meth X.K C m f) (F : FnOk X.prog X.w X.K X.mg X.base CX k f fd ps sp) (hr : Room k X.A) (hb : Binds X.K fd ps []) (hx : ∀ σ, PassesAt CX X σ (E σ))
    (ht : eval (.Call (.Attribute o m apos) [] [] pos) X.env = (do
      let ov ← eval o X.env
      standAt apos.atName
      let (f, first) ← holding [ov] (getMethod ov m pl)
      callWith pos f first (backTo pos (starEach [] X.env)) (backToKw pos (keywordEach [] X.env)))) :
    PE X (.Call (.Attribute o m apos) [] [] pos) (tMethS C m sp E ta tNil) := by
  refine ⟨fun pins s σ H Q I h => ?_⟩
  refine PySem.W.methodCall_KW (pl := pl) (thn (he.run pins s σ H _ I h) fun u s1 ⟨x, H1, I1, rx, a, dx, fs, ex, ea, l, q⟩ => ?_) ht
  subst ex
  obtain rfl : u = Value.ref a := rx
  refine getmeth_ok I1 ea c hm l ?_
  exact PySem.W.callWith_K0 (first := [.ref a]) I1.kIn hm.kp (run_fnS (us := [.ref a]) (vs := [.ref a]) F hr hb (hx σ) I1 (.cons rfl .nil) q)
def tMakeS (C : Addr) (sp : Sp) (E : L2.St → XK) (t : TA) : TE := fun σ H Q => t σ H fun vs H1 => ∀ x dx, H1 x = none → H1 dx = none → dx ≠ x → sp (.ref x :: vs) (upd (upd H1 dx (.own x)) x (.ins C dx [])) (fun v H2 => v = .non ∧ Q (.ref x) H2) (E σ)
theorem run_makeS {pins : List (Addr × Obj)} {σ : L2.St} {H : Hp} {s : Shared} {Q : VK} {us : List Value} {vs : List V} (M : Mk X.K C f) (F : FnOk X.prog X.w X.K X.mg X.base CX k f fd ps sp) (hr : Room (k + 1) X.A) (hb : Binds X.K fd ps [])
    (hx : PassesAt CX X σ (E σ)) (I : Inv X pins σ H s) (r : Vals vs us)
    (h : ∀ x dx, H x = none → H dx = none → dx ≠ x → sp (.ref x :: vs) (upd (upd H dx (.own x)) x (.ins C dx [])) (fun v H2 => v = .non ∧ Q (.ref x) H2) (E σ)) :
    wpAny (model X.prog X.w) X.A (call (.ref C) us) (EP X pins σ Q) X.xe s := by
  have hq := h (s.heap.objs.size + 1) s.heap.objs.size (I.hok.fresh (Nat.le_succ _)) (I.hok.fresh (Nat.le_refl _)) (Nat.ne_of_lt (Nat.lt_succ_self _))
  have I2 := Inv.made (C := C) I
  have r2 : Vals (V.ref (s.heap.objs.size + 1) :: vs) (Value.ref (s.heap.objs.size + 1) :: us) := .cons rfl r
  have hl : (Value.ref (s.heap.objs.size + 1) :: us).length = ps.length := by
    have e := r2.length
    rw [F.len _ _ _ _ hq] at e
    exact e.symm
  have b := hb s (Value.ref (s.heap.objs.size + 1) :: us)
  refine wpAny_call (make_map (f := f) I.kIn M.makes M.init (beq_iff_eq.mp M.fn) (codeAny_mono (F.run _ X.stack _ _ ⟨Value.ref (s.heap.objs.size + 1) :: us, []⟩ (Value.ref (s.heap.objs.size + 1) :: us) _ _ (E σ) (hr.make C us [])
    (I2.env0.make C us []) ?_ r2 hq) fun r s' hq' => ?_))
  · have b := hb _ (Value.ref (s.heap.objs.size + 1) :: us) I2.kIn (by rw [List.append_nil]; exact hl)
    rw [List.append_nil] at b
    exact b
  cases r with
  | error e => exact hx pins _ _ e s' I2 hq'
  | ok fl =>
    cases fl with
    | ret u =>
      obtain ⟨v, H', I3, rv, ev, q3⟩ := I2.after hq'
      subst ev
      exact ⟨rv, ⟨V.ref (s.heap.objs.size + 1), H', I3, rfl, q3⟩⟩
    | next => exact False.elim hq'
    | brk => exact False.elim hq'
    | cont => exact False.elim hq'
theorem pe_makeS (M : Mk X.K C f) (F : FnOk X.prog X.w X.K X.mg X.base CX k f fd ps sp) (hr : Room (k + 1) X.A) (hg : Gl X x) (hm : X.mg x = some (.ref C)) (hb : Binds X.K fd ps []) (hx : ∀ σ, PassesAt CX X σ (E σ))
    (ha : PA X (e :: es) t) (hdb : (x == ("__debug__" : Str)) = false) (he : starEach (e :: es) X.env = (false, eval e X.env) :: starEach es X.env) (hpl : (backTo pos (starEach es X.env)).any (·.1) = false) :
    PE X (.Call (.Name x p) (e :: es) [] pos) (tMakeS C sp E t) := by
  refine ⟨fun pins s σ H Q I h => ?_⟩
  refine wpAny_Call_Name_kw (ld_glob I hg hm ?_ hdb)
  refine PySem.W.callWith_K (h₀ := X.base) I.ok.mod.kin M.kp (thn (ha.run pos pins s σ H _ I h) fun us s1 ⟨vs, H1, I1, r, q⟩ => ⟨I1.kIn, ?_⟩) he hpl
  exact run_makeS M F hr hb (hx σ) I1 r q
end
section
variable {X : Cx} {c : Cn} {L : List Addr} {W : WX} {f g h : ES} {a b e o : Expr} {pos apos : Pos} {es : List Expr} {fs : List ES} {x m : Str} {p : Pos}
/-- C(..) -/
theorem pg_make {Γ : Gam} {n k m cn : Nat} {fa : Addr} {fd : FuncData} {ps : List Str} (M : Mk X.K (c.θ.C cn) fa) (F : FnOk X.prog X.w X.K X.mg X.base (L2N.CX X.prog X.w) k fa fd ps (spInit c.θ m cn (Γ n))) (hr : Room (k + 1) X.A) (hg : Gl X x) (hm : X.mg x = some (.ref (c.θ.C cn)))
    (hb : Binds X.K fd ps []) (tk : L2N.Takes X W) (ha : PA X (e :: es) (tAv c L W fs)) (hl : fs.length = m) (hdb : (x == ("__debug__" : Str)) = false) (he : starEach (e :: es) X.env = (false, eval e X.env) :: starEach es X.env)
    (hpl : (backTo pos (starEach es X.env)).any (·.1) = false) : PE X (.Call (.Name x p) (e :: es) [] pos) (tEv c L W (eCall Γ n fs)) := by
  refine pe_ev (pe_makeS (E := WE W) M F hr hg hm hb (fun σ => L2N.passAt tk σ) ha hdb he hpl) fun σ H Q h => ?_
  obtain ⟨F, ρ, R, h⟩ := of_tEv h
  refine av_bind R h fun xs vs F1 H1 ef e1 ar R1 h1 => ?_
  obtain ⟨F2, _, s2, r, hf⟩ := call_core R1.sub ar h1
  intro y dx ny nd ne
  refine ⟨?_, F2, _, H1, y, dx, vs, rfl, ny, nd, ne, rfl, s2, r, hf.imp fun v H' q ev => ⟨rfl, ?_⟩⟩
  · rw [List.length_cons, r.length, List.length_map, ← hl, eArgs_length ef]
  · rw [← ev]
    exact q
/-- what stands behind a method's name: by the receiver's class -/
structure MethOk (X : Cx) (c : Cn) (Γ : Gam) (m : Str) (mx : Nat → Option Nat) (l : Nat) : Prop where
  ok : ∀ k n, mx k = some n → ∃ fa fd ps kk, FnOk X.prog X.w X.K X.mg X.base (L2N.CX X.prog X.w) kk fa fd ps (spOf c.θ (l + 1) (Γ n)) ∧ Room kk X.A ∧ Cls X.K (c.θ.C k) ∧ Meth X.K (c.θ.C k) m fa ∧ Binds X.K fd ps [] ∧ m ∉ c.θ.fld k
theorem zip_no {m : Str} : ∀ {names : List Str} {xs : List V}, m ∉ names → (names.zip xs).lookup m = none
  | [], _, _ => rfl
  | _ :: _, [], _ => rfl
  | n :: names, x :: xs, h => by
    have ne : (m == n) = false := beq_eq_false_iff_ne.mpr fun z => h (z ▸ List.mem_cons_self)
    rw [List.zip_cons_cons, List.lookup_cons, ne]
    exact zip_no fun z => h (List.mem_cons_of_mem _ z)
theorem meth_core {Γ : Gam} {mx : Nat → Option Nat} {σ : L2.St} {ρ : Sl} {F H : Hp} {Q : VK} (h : Res c W σ ρ F H Q (eMeth Γ mx f fs ρ)) : ∃ k ds kd n, f ρ = .ok (.obj k ds, kd) ∧ mx k = some n ∧ kd.solid = true ∧ Res c W σ ρ F H Q (eCall Γ n (eC (.obj k ds) :: fs) ρ) := by
  unfold eMeth at h
  cases q : f ρ with
  | no => rw [q] at h; exact h.elim
  | ex n gs => rw [q] at h; exact h.elim
  | ok z =>
    obtain ⟨d, kd⟩ := z
    rw [q] at h
    cases d <;> first | exact (show False from h).elim | skip
    rename_i k ds
    replace h : Res c W σ ρ F H Q (match mx k with
      | some n => if kd.solid = true then eCall Γ n (eC (.obj k ds) :: fs) ρ else .no
      | none => .no) := h
    cases q2 : mx k with
    | none => rw [q2] at h; exact h.elim
    | some n =>
      rw [q2] at h
      obtain ⟨h1, h2⟩ := Res.ite h
      exact ⟨k, ds, kd, n, rfl, q2, h1, h2⟩
theorem meth_args {Γ : Gam} {n : Nat} {d : D} {ρ : Sl} : eCall Γ n (eC d :: fs) ρ = (eArgs fs ρ).bind fun xs => match Γ n (((d, Kd.sh) :: xs).map (·.1)) with
      | .ok (d', b) => if allSolid ((d, Kd.sh) :: xs) then .ok (d', if b then .fr else .sh) else if flat d' && okArgs ((d, Kd.sh) :: xs) then shr d' else if (b && newD d') && okArgs ((d, Kd.sh) :: xs) then .ok (d', .fr) else .no
      | .ex c gs => if allSolid ((d, Kd.sh) :: xs) || (gs.isEmpty && okArgs ((d, Kd.sh) :: xs)) then .ex c gs else .no
      | .no => .no := by
  unfold eCall
  show (((eC d ρ).bind fun x => (eArgs fs ρ).bind fun xs => .ok (x :: xs)).bind _) = _
  show (((eArgs fs ρ).bind fun xs => .ok ((d, Kd.sh) :: xs)).bind _) = _
  rw [bind_assoc']
  rfl
theorem pg_meth {Γ : Gam} {mx : Nat → Option Nat} {pl : Sem Bool} (T : MethOk X c Γ m mx fs.length) (tk : L2N.Takes X W) (ho : PE X o (tEv c L W f)) (ha : PA X (e :: es) (tAv c L W fs))
    (hst : starEach (e :: es) X.env = (false, eval e X.env) :: starEach es X.env) (hpl : (backTo pos (starEach es X.env)).any (·.1) = false)
    (ht : eval (.Call (.Attribute o m apos) (e :: es) [] pos) X.env = (do
      let ov ← eval o X.env
      standAt apos.atName
      let (f, first) ← holding [ov] (getMethod ov m pl)
      callWith pos f first (backTo pos (starEach (e :: es) X.env)) (backToKw pos (keywordEach [] X.env)))) : PE X (.Call (.Attribute o m apos) (e :: es) [] pos) (tEv c L W (eMeth Γ mx f fs)) := by
  refine ⟨fun pins s σ H Q I h => ?_⟩
  obtain ⟨F, ρ, R, h⟩ := of_tEv h
  obtain ⟨k, ds, kd, n, ef, em, es, h⟩ := meth_core h
  obtain ⟨fa, fd, ps, kk, t1, t2, t3, t4, t5, t6⟩ := T.ok k n em
  refine (pe_methS (E := WE W) (pl := pl) ho t3 t4 t1 t2 t5 (fun σ => L2N.passAt tk σ) ha hst hpl ht).run pins s σ H Q I ?_
  rw [meth_args] at h
  refine ev_bind (g := fun _ => (eArgs fs ρ).bind _) R (by rw [ef]; exact h) fun d' k' x F1 H1 ef' e1 rd so R1 h1 => ?_
  rw [ef] at ef'
  cases ef'
  have rep := so es
  cases rep with
  | obj ho l r =>
    refine ⟨_, _, _, rfl, R1.sub.ins ho, zip_no t6, ?_⟩
    refine av_bind R1 h1 fun xs vs F2 H2 ea e2 ar R2 h2 => ?_
    have ar2 : ArgR c.θ F2 H2 ((.obj k ds, Kd.sh) :: xs) _ := .cons (rd.ext e2) (fun _ => (so es).mono e2.ff) ar
    obtain ⟨F3, _, s3, r3, hf⟩ := call_core R2.sub ar2 h2
    refine ⟨?_, F3, _, s3, r3, hf⟩
    rw [r3.length, List.length_map, List.length_cons, eArgs_length ea]
theorem pg_meth0 {Γ : Gam} {mx : Nat → Option Nat} {pl : Sem Bool} (T : MethOk X c Γ m mx 0) (tk : L2N.Takes X W) (ho : PE X o (tEv c L W f))
    (ht : eval (.Call (.Attribute o m apos) [] [] pos) X.env = (do
      let ov ← eval o X.env
      standAt apos.atName
      let (f, first) ← holding [ov] (getMethod ov m pl)
      callWith pos f first (backTo pos (starEach [] X.env)) (backToKw pos (keywordEach [] X.env)))) : PE X (.Call (.Attribute o m apos) [] [] pos) (tEv c L W (eMeth Γ mx f [])) := by
  refine ⟨fun pins s σ H Q I h => ?_⟩
  obtain ⟨F, ρ, R, h⟩ := of_tEv h
  obtain ⟨k, ds, kd, n, ef, em, es, h⟩ := meth_core h
  obtain ⟨fa, fd, ps, kk, t1, t2, t3, t4, t5, t6⟩ := T.ok k n em
  refine (pe_methS0 (E := WE W) (pl := pl) ho t3 t4 t1 t2 t5 (fun σ => L2N.passAt tk σ) ht).run pins s σ H Q I ?_
  refine ev_bind (g := fun _ => eCall Γ n [eC (.obj k ds)] ρ) R (by rw [ef]; exact h) fun d' k' x F1 H1 ef' e1 rd so R1 h1 => ?_
  rw [ef] at ef'
  cases ef'
  have rep := so es
  cases rep with
  | obj ho l r =>
    refine ⟨_, _, _, rfl, R1.sub.ins ho, zip_no t6, ?_⟩
    have ar2 : ArgR c.θ F1 H1 [(.obj k ds, Kd.sh)] _ := .cons rd (fun _ => so es) .nil
    obtain ⟨F3, _, s3, r3, hf⟩ := call_core R1.sub ar2 h1
    exact ⟨rfl, F3, _, s3, r3, hf⟩
end
end G
namespace G
open PySem PySem.Spec L2
/-! ### what a for walks -/
/-- J walks ds, wherever F goes on and the heap keeps H (st = false) -/
structure Walks (θ : Th) (st : Bool) (J : It) (F H : Hp) (ds : List D) : Prop where
  go : ∀ (F2 H2 : Hp) (i : Nat) (d : D), Same F F2 → Sub F2 H2 → (st = false → Same H H2) → ds[i]? = some d → J.go i H2 ∧ ∀ x H', J.yld i H2 x H' → ∃ F3, Ext F2 H2 F3 H' ∧ Rep θ F3 d x
  stop : ∀ (F2 H2 : Hp), Same F F2 → Sub F2 H2 → (st = false → Same H H2) → J.stop ds.length H2
def ResI (c : Cn) (W : WX) (σ : L2.St) (st : Bool) (F H : Hp) (R : It → Hp → Prop) : Out (List D) → Prop
  | .ok ds => ∀ J F' H', Ext F H F' H' → Walks c.θ st J F' H' ds → R J H'
  | .ex n fs => ∀ cls dd F' H', Ext F H F' H' → ExV c.θ n fs cls dd F' H' → W cls dd σ H'
  | .no => False
def tIv (c : Cn) (L : List Addr) (W : WX) (st : Bool) (s : IS) : TI := fun σ H R => ∃ F ρ, Rel c.θ c.F0 c.B L F H σ ρ ∧ ResI c W σ st F H R (s ρ)
section
variable {X : Cx} {c : Cn} {L : List Addr} {W : WX} {st : Bool} {f g : ES} {a b e tg iter : Expr} {pos p : Pos} {s : IS}
theorem ResI.mono {σ : L2.St} {F F1 H H1 : Hp} {R : It → Hp → Prop} {o : Out (List D)} (h : ResI c W σ st F H R o) (e : Ext F H F1 H1) : ResI c W σ st F1 H1 R o := by
  cases o with
  | ok b => exact fun J F' H' e' w => h J F' H' (e.trans e') w
  | ex n fs => exact fun cls dd F' H' e' hv => h cls dd F' H' (e.trans e') hv
  | no => exact h
theorem iv_bind {σ : L2.St} {ρ : Sl} {F H : Hp} {R : It → Hp → Prop} {k : D × Kd → Out (List D)} {P : V → Hp → Prop} (Rl : Rel c.θ c.F0 c.B L F H σ ρ) (h : ResI c W σ st F H R ((f ρ).bind k))
    (hp : ∀ d kd x F1 H1, f ρ = .ok (d, kd) → Ext F H F1 H1 → Rd1 c.θ F1 H1 d x → (kd.solid = true → Rep c.θ F1 d x) → Rel c.θ c.F0 c.B L F1 H1 σ ρ → ResI c W σ st F1 H1 R (k (d, kd)) → P x H1) : tEv c L W f σ H P := by
  refine ⟨F, ρ, Rl, ?_⟩
  cases hf : f ρ with
  | ok x =>
    obtain ⟨d, kd⟩ := x
    rw [hf] at h
    intro v F' H' e hv
    obtain ⟨F2, e2, _, rd, so⟩ := Val.use Rl e hv
    exact hp d kd v F2 H' hf e2 rd so (Rl.ext e2) (ResI.mono (show ResI c W σ st F H R (k (d, kd)) from h) e2)
  | ex n fs =>
    rw [hf] at h
    exact h
  | no =>
    rw [hf] at h
    exact h
theorem pi_ev {t : TI} (h : PI X tg iter t) (hi : ∀ (σ : L2.St) (H : Hp) (R : It → Hp → Prop), tIv c L W st s σ H R → t σ H R) : PI X tg iter (tIv c L W st s) := ⟨fun pins s' σ H R I hw => h.run pins s' σ H R I (hi σ H R hw)⟩
/-- a list that is read stays so -/
theorem keepL {θ : Th} {F H : Hp} {d : D} {k : Kd} {x : V} {ds : List D} (hd : d = .lst ds) (s : Sub F H) (rd : Rd1 θ F H d x) (so : k.solid = true → Rep θ F d x) (hs : (st && !k.solid) = false) :
    ∃ a xs, x = .ref a ∧ H a = some (.lst xs) ∧ RepL θ F ds xs ∧ ∀ (F2 H2 : Hp), Same F F2 → Sub F2 H2 → (st = false → Same H H2) → H2 a = some (.lst xs) := by
  subst hd
  by_cases q : k.solid = true
  · cases so q with
    | lst e r => exact ⟨_, _, rfl, s.lst e, r, fun F2 H2 h1 h2 _ => h2.lst (h1 _ _ e)⟩
  · have e : st = false := by
      cases st with
      | false => rfl
      | true => simp [q] at hs
    obtain ⟨a, xs, rfl, ha, r⟩ := rd.lst s
    exact ⟨a, xs, rfl, ha, r, fun F2 H2 _ _ h3 => h3 e _ _ ha⟩
theorem keepT {θ : Th} {F H : Hp} {x : V} {ds : List D} (s : Sub F H) (rd : Rd1 θ F H (.tup ds) x) :
    ∃ a xs, x = .ref a ∧ H a = some (.tup xs) ∧ RepL θ F ds xs ∧ ∀ (F2 H2 : Hp), Same F F2 → Sub F2 H2 → H2 a = some (.tup xs) := by
  rcases rd with rd | ⟨_, _, _, _, rd⟩
  · cases rd with
    | tup e r => exact ⟨_, _, rfl, s.tup e, r, fun F2 H2 h1 h2 => h2.tup (h1 _ _ e)⟩
  · cases rd
theorem RepL.getD {θ : Th} {F F2 : Hp} {ds : List D} {xs : List V} {i : Nat} {d : D} {x : V} (r : RepL θ F ds xs) (e : Same F F2) (h : ds[i]? = some d) (hx : xs[i]? = some x) : Rep θ F2 d x := by
  obtain ⟨v, h1, h2⟩ := r.get h
  rw [hx] at h1
  cases h1
  exact h2.mono e
theorem RepL.ix {θ : Th} {F : Hp} {ds : List D} {xs : List V} {i : Nat} {d : D} (r : RepL θ F ds xs) (h : ds[i]? = some d) : ∃ x, xs[i]? = some x := by
  obtain ⟨v, h1, _⟩ := r.get h
  exact ⟨v, h1⟩
theorem walk_l {θ : Th} {F H : Hp} {a : Addr} {ds : List D} {xs : List V} (r : RepL θ F ds xs) (k : ∀ (F2 H2 : Hp), Same F F2 → Sub F2 H2 → (st = false → Same H H2) → H2 a = some (.lst xs)) : Walks θ st (Itl θ.K a) F H ds where
  go := fun F2 H2 i d h1 h2 h3 hd => by
    have q := k F2 H2 h1 h2 h3
    obtain ⟨x, hx⟩ := r.ix hd
    refine ⟨⟨xs, x, .inl (.inl q), hx⟩, fun y H' hy => ?_⟩
    obtain ⟨rfl, hy⟩ := hy
    exact ⟨F2, Ext.refl h2, r.getD h1 hd (hy xs (.inl (.inl q)))⟩
  stop := fun F2 H2 h1 h2 h3 => ⟨xs, .inl (.inl (k F2 H2 h1 h2 h3)), by rw [r.length]; exact Nat.le_refl _⟩
theorem walk_t {θ : Th} {F H : Hp} {a : Addr} {ds : List D} {xs : List V} (r : RepL θ F ds xs) (k : ∀ (F2 H2 : Hp), Same F F2 → Sub F2 H2 → H2 a = some (.tup xs)) : Walks θ st (Itt θ.K a) F H ds where
  go := fun F2 H2 i d h1 h2 h3 hd => by
    have q := k F2 H2 h1 h2
    obtain ⟨x, hx⟩ := r.ix hd
    refine ⟨⟨xs, x, .inl (.inl q), hx⟩, fun y H' hy => ?_⟩
    obtain ⟨rfl, hy⟩ := hy
    exact ⟨F2, Ext.refl h2, r.getD h1 hd (hy xs (.inl (.inl q)))⟩
  stop := fun F2 H2 h1 h2 h3 => ⟨xs, .inl (.inl (k F2 H2 h1 h2)), by rw [r.length]; exact Nat.le_refl _⟩
theorem walk_s {θ : Th} {F H : Hp} (z : Str) : Walks θ st (Its z) F H (z.cps.toList.map fun c => D.str ⟨#[c]⟩) where
  go := fun F2 H2 i d h1 h2 h3 hd => by
    rw [List.getElem?_map] at hd
    cases q : z.cps.toList[i]? with
    | none => rw [q] at hd; cases hd
    | some w =>
      rw [q] at hd
      cases hd
      have q' : z.cps[i]? = some w := by simpa using q
      refine ⟨(Array.getElem?_eq_some_iff.mp q').1, fun y H' hy => ?_⟩
      obtain ⟨rfl, w', hw, rfl⟩ := hy
      rw [q'] at hw
      cases hw
      exact ⟨F2, Ext.refl h2, .str _⟩
  stop := fun F2 H2 h1 h2 h3 => by
    show z.cps.size ≤ _
    simp
/-- a row is walked -/
theorem gi_list (hK : X.K = c.θ.K) (ha : PE X iter (tEv c L W f)) : PI X tg iter (tIv c L W st (itE st f)) := by
  refine ⟨fun pins s' σ H R I hw => ?_⟩
  obtain ⟨F, ρ, Rl, h⟩ := hw
  have txt : (∀ d k, f ρ = .ok (d, k) → ∃ z, d = .str z) → wpAny (model X.prog X.w) X.A (eval iter X.env) (fun v s1 => wpAny (model X.prog X.w) X.A (pyIter v) (PIE X pins σ tg R) X.xe s1) X.xe s' := fun hd => by
    refine (pi_str ha).run pins s' σ H R I ?_
    refine iv_bind Rl h fun d k x F1 H1 ef e1 rd so R1 h1 => ?_
    obtain ⟨z, rfl⟩ := hd d k ef
    replace h1 : ResI c W σ st F1 H1 R (if (st && !k.solid) = true then .no else .ok _) := h1
    by_cases q : (st && !k.solid) = true
    · rw [if_pos q] at h1; exact h1.elim
    · rw [if_neg q] at h1
      exact ⟨z, rd.str, h1 _ F1 H1 (Ext.refl R1.sub) (walk_s z)⟩
  have tup : (∀ d k, f ρ = .ok (d, k) → ∃ z, d = .tup z) → wpAny (model X.prog X.w) X.A (eval iter X.env) (fun v s1 => wpAny (model X.prog X.w) X.A (pyIter v) (PIE X pins σ tg R) X.xe s1) X.xe s' := fun hd => by
    refine (pi_tup ha).run pins s' σ H R I ?_
    refine iv_bind Rl h fun d k x F1 H1 ef e1 rd so R1 h1 => ?_
    obtain ⟨z, rfl⟩ := hd d k ef
    replace h1 : ResI c W σ st F1 H1 R (if (st && !k.solid) = true then .no else .ok _) := h1
    by_cases q : (st && !k.solid) = true
    · rw [if_pos q] at h1; exact h1.elim
    · rw [if_neg q] at h1
      obtain ⟨a, xs, rfl, ha, r, kp⟩ := keepT R1.sub rd
      rw [hK]
      exact ⟨a, rfl, ⟨xs, .inl (.inl ha)⟩, h1 _ F1 H1 (Ext.refl R1.sub) (walk_t r kp)⟩
  have lst : (∀ d k, f ρ = .ok (d, k) → (∀ z, d ≠ .str z) ∧ ∀ z, d ≠ .tup z) → wpAny (model X.prog X.w) X.A (eval iter X.env) (fun v s1 => wpAny (model X.prog X.w) X.A (pyIter v) (PIE X pins σ tg R) X.xe s1) X.xe s' := fun hd => by
    refine (pi_list ha).run pins s' σ H R I ?_
    refine iv_bind Rl h fun d k x F1 H1 ef e1 rd so R1 h1 => ?_
    obtain ⟨n1, n2⟩ := hd d k ef
    clear ef
    replace h1 : ResI c W σ st F1 H1 R (if (st && !k.solid) = true then .no else match itemsOf d with
      | some ds => .ok ds
      | none => .no) := h1
    by_cases q : (st && !k.solid) = true
    · rw [if_pos q] at h1; exact h1.elim
    rw [if_neg q] at h1
    have q' : (st && !k.solid) = false := by simpa using q
    rw [hK]
    cases d <;> first | exact absurd rfl (n1 _) | exact absurd rfl (n2 _) | exact (show False from h1).elim | skip
    · rename_i ds
      obtain ⟨a, xs, rfl, ha, r, kp⟩ := keepL (st := st) rfl R1.sub rd so q'
      exact ⟨a, rfl, ⟨xs, .inl (.inl ha)⟩, h1 _ F1 H1 (Ext.refl R1.sub) (walk_l r kp)⟩
    · rename_i ns
      rcases rd with rd | ⟨_, _, _, _, rd⟩
      · cases rd with
        | @frl a _ sq =>
          refine ⟨a, rfl, ⟨_, R1.sub.seq sq⟩, h1 _ F1 H1 (Ext.refl R1.sub) ⟨fun F2 H2 i d e1 e2 e3 hd => ?_, fun F2 H2 e1 e2 e3 => ⟨_, e2.seq (e1.seq sq), by simp⟩⟩⟩
          have q2 := e2.seq (e1.seq sq)
          rw [List.getElem?_map] at hd
          cases z : ns[i]? with
          | none => rw [z] at hd; cases hd
          | some w =>
            rw [z] at hd
            cases hd
            have hw : (ns.map V.int)[i]? = some (.int w) := by rw [List.getElem?_map, z]; rfl
            refine ⟨⟨_, _, q2, hw⟩, fun y H' hy => ?_⟩
            obtain ⟨rfl, hy⟩ := hy
            have := hy _ q2
            rw [hw] at this
            cases this
            exact ⟨F2, Ext.refl e2, .int w⟩
      · cases rd
  cases hf : f ρ with
  | ok x =>
    obtain ⟨d, k⟩ := x
    by_cases q : ∃ z, d = .str z
    · exact txt fun d' k' e => by rw [hf] at e; cases e; exact q
    · by_cases q2 : ∃ z, d = .tup z
      · exact tup fun d' k' e => by rw [hf] at e; cases e; exact q2
      · exact lst fun d' k' e => by rw [hf] at e; cases e; exact ⟨fun z e => q ⟨z, e⟩, fun z e => q2 ⟨z, e⟩⟩
  | ex n fs => exact lst fun d' k' e => by rw [hf] at e; cases e
  | no => exact lst fun d' k' e => by rw [hf] at e; cases e
theorem in62_ok {i : Int} (h : in62 i = true) : -(2 ^ 62) ≤ i ∧ i < 2 ^ 62 := by
  have h2 : i.natAbs < 4611686018427387904 := of_decide_eq_true h
  omega
theorem walk_r {θ : Th} {F H : Hp} (lo hi : Int) : Walks θ st (Itr lo (hi - lo).toNat) F H (rngD lo hi) where
  go := fun F2 H2 i d h1 h2 h3 hd => by
    unfold rngD at hd
    rw [List.getElem?_map] at hd
    have hi' : i < (hi - lo).toNat := by
      cases q : (List.range (hi - lo).toNat)[i]? with
      | none => rw [q] at hd; cases hd
      | some w =>
        have := (List.getElem?_eq_some_iff.mp q).1
        simpa using this
    rw [List.getElem?_range hi'] at hd
    cases hd
    refine ⟨hi', fun y H' hy => ?_⟩
    obtain ⟨rfl, rfl⟩ := hy
    exact ⟨F2, Ext.refl h2, .int _⟩
  stop := fun F2 H2 h1 h2 h3 => by
    show _ ≤ _
    unfold rngD
    simp
theorem gi_r1 (hg : Gl X "range") (hm : X.mg "range" = none) (ha : PE X a (tEv c L W f)) (hs : starEach [a] X.env = (false, eval a X.env) :: starEach [] X.env) : PI X tg (.Call (.Name "range" p) [a] [] pos) (tIv c L W st (itR1 f)) := by
  refine pi_ev (pi_range1 hg hm (pa_cons ha pa_nil hs) hs) fun σ H R h => ?_
  obtain ⟨F, ρ, Rl, h⟩ := h
  refine iv_bind Rl h fun d k x F1 H1 ef e1 rd so R1 h1 => ?_
  clear ef so h
  cases d <;> first | exact (show False from h1).elim | skip
  rename_i j
  cases rd.int
  replace h1 : ResI c W σ st F1 H1 R (if in62 j = true then .ok (rngD 0 j) else .no) := h1
  by_cases q : in62 j = true
  · rw [if_pos q] at h1
    obtain ⟨q1, q2⟩ := in62_ok q
    have w := walk_r (st := st) (θ := c.θ) (F := F1) (H := H1) 0 j
    rw [Int.sub_zero] at w
    exact ⟨j, rfl, q1, q2, h1 _ F1 H1 (Ext.refl R1.sub) w⟩
  · rw [if_neg q] at h1; exact h1.elim
theorem gi_r2 (hg : Gl X "range") (hm : X.mg "range" = none) (ha : PE X a (tEv c L W f)) (hb : PE X b (tEv c L W g)) (hs : starEach [a, b] X.env = (false, eval a X.env) :: starEach [b] X.env) (hs2 : starEach [b] X.env = (false, eval b X.env) :: starEach [] X.env) : PI X tg (.Call (.Name "range" p) [a, b] [] pos) (tIv c L W st (itR2 f g)) := by
  refine pi_ev (pi_range2 hg hm (pa_cons ha (pa_cons hb pa_nil hs2) hs) (by rw [hs, hs2]; rfl) hs2) fun σ H R h => ?_
  obtain ⟨F, ρ, Rl, h⟩ := h
  refine iv_bind Rl h fun d k x F1 H1 ef e1 rd so R1 h1 => ?_
  refine iv_bind R1 h1 fun d2 k2 y F2 H2 ef2 e2 rd2 so2 R2 h2 => ?_
  clear ef ef2 so so2 h h1
  cases d <;> cases d2 <;> first | exact (show False from h2).elim | skip
  rename_i i j
  cases rd.int; cases rd2.int
  replace h2 : ResI c W σ st F2 H2 R (if (in62 i && in62 j) = true then .ok (rngD i j) else .no) := h2
  by_cases q : (in62 i && in62 j) = true
  · rw [if_pos q] at h2
    obtain ⟨q1, q2⟩ := Bool.and_eq_true_iff.mp q
    obtain ⟨z1, z2⟩ := in62_ok q1
    obtain ⟨z3, z4⟩ := in62_ok q2
    exact ⟨i, j, rfl, ⟨z1, z2, z3, z4⟩, h2 _ F2 H2 (Ext.refl R2.sub) (walk_r i j)⟩
  · rw [if_neg q] at h2; exact h2.elim
end
end G
namespace G
open PySem PySem.Spec L2
section
variable {X : Cx} {c : Cn} {L : List Addr} {W : WX} {st : Bool} {f g : ES} {a b e tg iter : Expr} {pos p : Pos} {s : IS}
theorem zipD_get : ∀ {xs ys : List D} {i : Nat} {d : D}, (zipD xs ys)[i]? = some d → ∃ x y, xs[i]? = some x ∧ ys[i]? = some y ∧ d = .tup [x, y]
  | [], _, _, _, h => by simp [zipD] at h
  | _ :: _, [], _, _, h => by simp [zipD] at h
  | x :: xs, y :: ys, 0, d, h => by
    simp [zipD] at h
    exact ⟨x, y, rfl, rfl, h.symm⟩
  | x :: xs, y :: ys, i + 1, d, h => by
    obtain ⟨u, v, h1, h2, h3⟩ := zipD_get (xs := xs) (ys := ys) (i := i) (d := d) (by simpa [zipD] using h)
    exact ⟨u, v, by simpa using h1, by simpa using h2, h3⟩
theorem zipD_len : ∀ (xs ys : List D), (zipD xs ys).length = min xs.length ys.length
  | [], _ => by simp [zipD]
  | _ :: _, [] => by simp [zipD]
  | x :: xs, y :: ys => by
    simp only [zipD, List.length_cons, zipD_len xs ys]
    omega
theorem enumD_get : ∀ {xs : List D} {n i : Nat} {d : D}, (enumD n xs)[i]? = some d → ∃ x, xs[i]? = some x ∧ d = .tup [.int ((n + i : Nat) : Int), x]
  | [], _, _, _, h => by simp [enumD] at h
  | x :: xs, n, 0, d, h => by
    simp [enumD] at h
    exact ⟨x, rfl, h.symm⟩
  | x :: xs, n, i + 1, d, h => by
    obtain ⟨u, h1, h3⟩ := enumD_get (xs := xs) (n := n + 1) (i := i) (d := d) (by simpa [enumD] using h)
    refine ⟨u, by simpa using h1, ?_⟩
    rw [h3, show n + 1 + i = n + (i + 1) from by omega]
theorem enumD_len : ∀ (xs : List D) (n : Nat), (enumD n xs).length = xs.length
  | [], _ => rfl
  | x :: xs, n => by simp only [enumD, List.length_cons, enumD_len xs]
/-- a tuple that the walk has just made -/
theorem new_tup {θ : Th} {F H : Hp} {ds : List D} {xs : List V} {T : Addr} (s : Sub F H) (n : H T = none) (r : RepL θ F ds xs) : ∃ F3, Ext F H F3 (upd H T (.tup xs)) ∧ Rep θ F3 (.tup ds) (.ref T) := by
  have nf := s.free n
  exact ⟨upd F T (.tup xs), Ext.freeze (s.lay n) upd_same nf H (Same.lay n) n F (Ext.lay s n), .tup upd_same (r.mono (Same.lay nf))⟩
theorem stS {d : Bool} {k1 k2 : Kd} (h : (st && !(k1.solid && k2.solid)) = false) : (st && !k1.solid) = false ∧ (st && !k2.solid) = false := by
  cases st <;> cases hk : k1.solid <;> cases hk2 : k2.solid <;> simp_all
theorem gi_zip {e1 e2 : Expr} {elts : List Expr} {kk : Nat} {tpos : Pos} (hK : X.K = c.θ.K) (hg : Gl X "zip") (hm : X.mg "zip" = none) (ha : PE X e1 (tEv c L W f)) (hb : PE X e2 (tEv c L W g))
    (hs : starEach [e1, e2] X.env = (false, eval e1 X.env) :: starEach [e2] X.env) (hs2 : starEach [e2] X.env = (false, eval e2 X.env) :: starEach [] X.env) (hpl : (backTo pos (starEach [e2] X.env)).any (·.1) = false) :
    PI X (.Tuple elts kk tpos) (.Call (.Name "zip" p) [e1, e2] [] pos) (tIv c L W st (itZip st f g)) := by
  refine pi_ev (RZ.pi_zipA hg hm (pa_cons ha (pa_cons hb pa_nil hs2) hs) hs hpl) fun σ H R h => ?_
  obtain ⟨F, ρ, Rl, h⟩ := h
  refine iv_bind Rl h fun d k x F1 H1 ef x1 rd so R1 h1 => ?_
  refine iv_bind R1 h1 fun d2 k2 y F2 H2 ef2 x2 rd2 so2 R2 h2 => ?_
  clear ef ef2 h h1
  have rd := rd.ext x2
  have so : k.solid = true → Rep c.θ F2 d x := fun z => (so z).mono x2.ff
  replace h2 : ResI c W σ st F2 H2 R (if (st && !(k.solid && k2.solid)) = true then .no else match (generalizing := false) d, d2 with
    | .lst xs, .lst ys => .ok (zipD xs ys)
    | .tup xs, .tup ys => .ok (zipD xs ys)
    | _, _ => .no) := h2
  by_cases q : (st && !(k.solid && k2.solid)) = true
  · rw [if_pos q] at h2; exact h2.elim
  rw [if_neg q] at h2
  obtain ⟨q1, q2⟩ := stS (d := true) (by simpa using q : (st && !(k.solid && k2.solid)) = false)
  rw [hK]
  cases d <;> first | exact (show False from h2).elim | skip
  · cases d2 <;> first | exact (show False from h2).elim | skip
    rename_i ds es
    obtain ⟨a, xs, rfl, ha, r, kp⟩ := keepL (st := st) rfl R2.sub rd so q1
    obtain ⟨b, ys, rfl, hb, r2, kp2⟩ := keepL (st := st) rfl R2.sub rd2 so2 q2
    refine ⟨a, b, xs, ys, rfl, .inl ⟨.inl (.inl ha), .inl (.inl hb), h2 _ F2 H2 (Ext.refl R2.sub) ⟨fun F3 H3 i d e1 e2 e3 hd => ?_, fun F3 H3 e1 e2 e3 => ⟨xs, ys, .inl (.inl (kp F3 H3 e1 e2 e3)), .inl (.inl (kp2 F3 H3 e1 e2 e3)), ?_⟩⟩⟩⟩
    · obtain ⟨u, v, h3, h4, rfl⟩ := zipD_get hd
      obtain ⟨x, hx⟩ := r.ix h3
      obtain ⟨y, hy⟩ := r2.ix h4
      have z1 : SqL c.θ.K H3 a xs := .inl (.inl (kp F3 H3 e1 e2 e3))
      have z2 : SqL c.θ.K H3 b ys := .inl (.inl (kp2 F3 H3 e1 e2 e3))
      refine ⟨⟨xs, ys, x, y, z1, z2, hx, hy⟩, fun w H' hw => ?_⟩
      obtain ⟨T, x', y', rfl, hT, rfl, h5, h6⟩ := hw
      exact new_tup e2 hT (.cons (r.getD e1 h3 (h5 xs z1)) (.cons (r2.getD e1 h4 (h6 ys z2)) .nil))
    · rw [zipD_len, r.length, r2.length]
      omega
  · cases d2 <;> first | exact (show False from h2).elim | skip
    rename_i ds es
    obtain ⟨a, xs, rfl, ha, r, kp⟩ := keepT R2.sub rd
    obtain ⟨b, ys, rfl, hb, r2, kp2⟩ := keepT R2.sub rd2
    refine ⟨a, b, xs, ys, rfl, .inr ⟨.inl (.inl ha), .inl (.inl hb), h2 _ F2 H2 (Ext.refl R2.sub) ⟨fun F3 H3 i d e1 e2 e3 hd => ?_, fun F3 H3 e1 e2 e3 => ⟨xs, ys, .inl (.inl (kp F3 H3 e1 e2)), .inl (.inl (kp2 F3 H3 e1 e2)), ?_⟩⟩⟩⟩
    · obtain ⟨u, v, h3, h4, rfl⟩ := zipD_get hd
      obtain ⟨x, hx⟩ := r.ix h3
      obtain ⟨y, hy⟩ := r2.ix h4
      have z1 : SqT c.θ.K H3 a xs := .inl (.inl (kp F3 H3 e1 e2))
      have z2 : SqT c.θ.K H3 b ys := .inl (.inl (kp2 F3 H3 e1 e2))
      refine ⟨⟨xs, ys, x, y, z1, z2, hx, hy⟩, fun w H' hw => ?_⟩
      obtain ⟨T, x', y', rfl, hT, rfl, h5, h6⟩ := hw
      exact new_tup e2 hT (.cons (r.getD e1 h3 (h5 xs z1)) (.cons (r2.getD e1 h4 (h6 ys z2)) .nil))
    · rw [zipD_len, r.length, r2.length]
      omega
theorem gi_enum {e1 : Expr} {elts : List Expr} {kk : Nat} {tpos : Pos} (hK : X.K = c.θ.K) (hg : Gl X "enumerate") (hm : X.mg "enumerate" = none) (ha : PE X e1 (tEv c L W f)) (hs : starEach [e1] X.env = (false, eval e1 X.env) :: starEach [] X.env) :
    PI X (.Tuple elts kk tpos) (.Call (.Name "enumerate" p) [e1] [] pos) (tIv c L W st (itEnum st f)) := by
  refine pi_ev (pi_enum hg hm (pa_cons ha pa_nil hs) hs) fun σ H R h => ?_
  obtain ⟨F, ρ, Rl, h⟩ := h
  refine iv_bind Rl h fun d k x F2 H2 ef x1 rd so R2 h2 => ?_
  clear ef h
  replace h2 : ResI c W σ st F2 H2 R (if (st && !k.solid) = true then .no else match (generalizing := false) d with
    | .lst xs => .ok (enumD 0 xs)
    | _ => .no) := h2
  by_cases q : (st && !k.solid) = true
  · rw [if_pos q] at h2; exact h2.elim
  rw [if_neg q] at h2
  rw [hK]
  cases d <;> first | exact (show False from h2).elim | skip
  rename_i ds
  obtain ⟨a, xs, rfl, ha, r, kp⟩ := keepL (st := st) rfl R2.sub rd so (by simpa using q)
  refine ⟨a, xs, rfl, .inl (.inl ha), h2 _ F2 H2 (Ext.refl R2.sub) ⟨fun F3 H3 i d e1 e2 e3 hd => ?_, fun F3 H3 e1 e2 e3 => ⟨xs, .inl (.inl (kp F3 H3 e1 e2 e3)), ?_⟩⟩⟩
  · obtain ⟨u, h3, rfl⟩ := enumD_get hd
    obtain ⟨x, hx⟩ := r.ix h3
    have z1 : SqL c.θ.K H3 a xs := .inl (.inl (kp F3 H3 e1 e2 e3))
    refine ⟨⟨xs, x, z1, hx⟩, fun w H' hw => ?_⟩
    obtain ⟨T, x', rfl, hT, rfl, h5⟩ := hw
    rw [Nat.zero_add]
    exact new_tup e2 hT (.cons (.int _) (.cons (r.getD e1 h3 (h5 xs z1)) .nil))
  · rw [enumD_len, r.length]
    exact Nat.le_refl _

/-! ### targets -/
/-- a slot changes; what it then holds is said; the others stay -/
theorem Rel.put {θ : Th} {F0 B F F' H H' : Hp} {σ : L2.St} {ρ : Sl} {i : Nat} {sl : Slot} {v : V} (R : Rel θ F0 B L F H σ ρ) (s : Sub F' H') (kp : ∀ a u, B a = some u → H' a = some u ∨ (a ∈ L ∧ IsDict u ∧ ∃ o, H' a = some (.frz o u))) (ff : Same F F') (fn : ∀ a u, F' a = some u → F0 a = some u ∨ B a = none)
    (oth : ∀ (j : Nat) (a : Addr) (o : HO), j ≠ i → ((∃ d, ρ[j]? = some (.ow d)) ∨ ∃ k ds, ρ[j]? = some (.me k ds)) → σ[j]? = some (some (.ref a)) → H a = some o → F a = none → H' a = some o ∧ F' a = none)
    (va : ∀ d, sl = .va d → Rep θ F' d v)
    (ow : ∀ d, sl = .ow d → notObj d = true ∧ ∃ a o, v = .ref a ∧ H' a = some o ∧ F' a = none ∧ B a = none ∧ Root θ F' d o ∧ ∀ (j : Nat), j ≠ i → ((∃ d, ρ[j]? = some (.ow d)) ∨ ∃ k ds, ρ[j]? = some (.me k ds)) → σ[j]? ≠ some (some (.ref a)))
    (me : ∀ k ds, sl = .me k ds → (∃ a o, v = .ref a ∧ H' a = some o ∧ F' a = none ∧ B a = none ∧ Root θ (onlyN F' B) (.obj k ds) o ∧ a ∈ L ∧ ∀ (j : Nat), j ≠ i → (∃ d, ρ[j]? = some (.ow d)) → σ[j]? ≠ some (some (.ref a))) ∧ ∀ (j k' : Nat) (ds' : List D), j ≠ i → ρ[j]? ≠ some (.me k' ds'))
    (pvk : ∀ Z, PvAll θ B F H σ ρ Z → ∀ (j : Nat) (k : Sh) (d : D), j ≠ i → ρ[j]? = some (.pv k d) → ∀ b ∈ Z j, H' b = H b ∧ F' b = F b ∧ (((∃ d, sl = .ow d) ∨ ∃ k ds, sl = .me k ds) → v ≠ .ref b))
    (tp : ∀ b xs, H b = some (.tup xs) → H' b = some (.tup xs) := by exact fun _ _ h => h) (nxc : sl ≠ .xc := by exact fun h => by cases h) (npv : ∀ k d, sl ≠ .pv k d := by exact fun _ _ h => by cases h) :
    Rel θ F0 B L F' H' (σ.set i (some v)) (ρ.set i sl) := by
  have atσ : i < ρ.length → (σ.set i (some v))[i]? = some (some v) := fun hi => List.getElem?_set_self (by rw [R.len]; exact hi)
  have at_ : ∀ {j : Nat} {x : Slot}, (ρ.set i sl)[j]? = some x → (j = i ∧ x = sl ∧ i < ρ.length) ∨ (j ≠ i ∧ ρ[j]? = some x) := fun {j x} h => by
    by_cases q : i = j
    · subst q
      have hi : i < ρ.length := by
        have := (List.getElem?_eq_some_iff.mp h).1
        simpa using this
      rw [List.getElem?_set_self hi] at h
      exact .inl ⟨rfl, (Option.some.inj h).symm, hi⟩
    · rw [List.getElem?_set_ne q] at h
      exact .inr ⟨fun e => q e.symm, h⟩
  have ne : ∀ {j : Nat}, j ≠ i → (σ.set i (some v))[j]? = σ[j]? := fun {j} h => List.getElem?_set_ne fun e => h e.symm
  refine ⟨s, kp, R.f0.trans ff, fn, by simpa using R.len, fun j d h => ?_, fun j d h => ?_, fun j d h => ?_, fun j k d e a hn h1 h2 h3 => ?_, fun j k ds h => ?_, fun j h => ?_, ?_⟩
  rotate_right
  · obtain ⟨Z, hZ⟩ := R.pv
    have own : ∀ {j : Nat}, Owner (ρ.set i sl) j → (j = i ∧ ((∃ d, sl = .ow d) ∨ ∃ k ds, sl = .me k ds) ∧ i < ρ.length) ∨ (j ≠ i ∧ Owner ρ j) := fun {j} ho => by
      rcases ho with ⟨d, hd⟩ | ⟨k, ds, hd⟩
      · rcases at_ hd with ⟨rfl, e, hi⟩ | ⟨q, h⟩
        · exact .inl ⟨rfl, .inl ⟨d, e.symm⟩, hi⟩
        · exact .inr ⟨q, .inl ⟨d, h⟩⟩
      · rcases at_ hd with ⟨rfl, e, hi⟩ | ⟨q, h⟩
        · exact .inl ⟨rfl, .inr ⟨k, ds, e.symm⟩, hi⟩
        · exact .inr ⟨q, .inr ⟨k, ds, h⟩⟩
    refine ⟨Z, hZ.step ff tp (fun j k d h => ?_) fun j k d l b h ho hs => ?_⟩
    · rcases at_ h with ⟨rfl, e, hi⟩ | ⟨q, h⟩
      · exact absurd e.symm (npv k d)
      · refine ⟨h, ne q, fun b hb => ?_⟩
        obtain ⟨z1, z2, _⟩ := pvk Z hZ j k d q h b hb
        exact ⟨z1, by rw [z2]; exact ((hZ j k d h).2.2.1 b hb).1⟩
    · rcases at_ h with ⟨rfl, e, hi⟩ | ⟨q, g⟩
      · exact absurd e.symm (npv k d)
      · rcases own ho with ⟨rfl, os, hi⟩ | ⟨ql, ho⟩
        · rw [atσ hi] at hs
          have ev : v = .ref b := Option.some.inj (Option.some.inj hs)
          intro hb
          exact (pvk Z hZ j k d q g b hb).2.2 os ev
        · rw [ne ql] at hs
          exact (hZ j k d g).2.2.2.1 l b ho hs
  rotate_right
  · rcases at_ h with ⟨rfl, e, hi⟩ | ⟨q, h⟩
    · exact absurd e.symm nxc
    · rw [ne q]
      exact R.xc j h
  · rcases at_ h with ⟨rfl, e, hi⟩ | ⟨q, h⟩
    · exact ⟨v, atσ hi, va d e.symm⟩
    · rw [ne q]
      obtain ⟨w, h1, h2⟩ := R.va j d h
      exact ⟨w, h1, h2.mono ff⟩
  · rcases at_ h with ⟨rfl, e, hi⟩ | ⟨q, h⟩
    · obtain ⟨_, a, o, rfl, h1, h2, h3, h4, _⟩ := ow d e.symm
      exact ⟨a, o, atσ hi, h1, h2, h3, h4⟩
    · rw [ne q]
      obtain ⟨a, o, h1, h2, h3, h4, h5⟩ := R.ow j d h
      obtain ⟨z1, z2⟩ := oth j a o q (.inl ⟨d, h⟩) h1 h2 h3
      exact ⟨a, o, h1, z1, z2, h4, h5.mono ff⟩
  · rcases at_ h with ⟨rfl, e, hi⟩ | ⟨q, h⟩
    · exact (ow d e.symm).1
    · exact R.fu j d h
  · rcases at_ h1 with ⟨rfl, e1, hi⟩ | ⟨q1, g1⟩
    · rcases at_ h2 with ⟨rfl, e2, hi2⟩ | ⟨q2, g2⟩
      · exact absurd rfl hn
      · rw [atσ hi] at h3
        obtain ⟨_, a', o, ev, _, _, _, _, h6⟩ := ow d e1.symm
        subst ev
        cases h3
        rw [ne q2]
        exact h6 k q2 (.inl ⟨e, g2⟩)
    · rw [ne q1] at h3
      rcases at_ h2 with ⟨rfl, e2, hi2⟩ | ⟨q2, g2⟩
      · rw [atσ hi2]
        intro z
        obtain ⟨_, a', o, ev, _, _, _, _, h6⟩ := ow e e2.symm
        subst ev
        cases z
        exact h6 j q1 (.inl ⟨d, g1⟩) h3
      · rw [ne q2]
        exact R.dj j k d e a hn g1 g2 h3
  · rcases at_ h with ⟨rfl, e, hi⟩ | ⟨q, gm⟩
    · obtain ⟨⟨a, o, ev, h1, h2, h3, h4, hm, h5⟩, h6⟩ := me k ds e.symm
      subst ev
      refine ⟨⟨a, o, atσ hi, h1, h2, h3, h4, hm, fun l d hl => ?_⟩, fun l k' ds' hl z => ?_⟩
      · rcases at_ hl with ⟨rfl, e2, _⟩ | ⟨ql, hl⟩
        · rw [← e] at e2; cases e2
        · rw [ne ql]
          exact h5 l ql ⟨d, hl⟩
      · rcases at_ z with ⟨q, _, _⟩ | ⟨_, z⟩
        · exact hl q
        · exact h6 l k' ds' hl z
    · obtain ⟨⟨a, o, h1, h2, h3, h4, h5, hm, h6⟩, h7⟩ := R.me j k ds gm
      obtain ⟨z1, z2⟩ := oth j a o q (.inr ⟨k, ds, gm⟩) h1 h2 h3
      refine ⟨⟨a, o, by rw [ne q]; exact h1, z1, z2, h4, h5.mono (onlyN_mono ff fun _ z => z), hm, fun l d hl => ?_⟩, fun l k' ds' hl z => ?_⟩
      · rcases at_ hl with ⟨rfl, e2, hi⟩ | ⟨ql, hl⟩
        · rw [atσ hi]
          intro z
          obtain ⟨_, a', o', ev, _, _, _, _, h8⟩ := ow d e2.symm
          subst ev
          cases z
          exact h8 j q (.inr ⟨k, ds, gm⟩) h1
        · rw [ne ql]
          exact h6 l d hl
      · rcases at_ z with ⟨rfl, e2, hi⟩ | ⟨ql, z⟩
        · exact (me k' ds' e2.symm).2 j k ds q gm
        · exact h7 l k' ds' hl z
theorem Rel.set {θ : Th} {F0 B F H : Hp} {σ : L2.St} {ρ : Sl} {i : Nat} {d : D} {v : V} (R : Rel θ F0 B L F H σ ρ) (r : Rep θ F d v) : Rel θ F0 B L F H (σ.set i (some v)) (ρ.set i (.va d)) :=
  R.put R.sub R.kp (.refl _) R.fn (fun _ _ _ _ _ _ h n => ⟨h, n⟩) (fun e h => by cases h; exact r) (fun _ h => by cases h) (fun _ _ h => by cases h) fun _ _ _ _ _ _ _ _ _ => ⟨rfl, rfl, fun z => by rcases z with ⟨_, z⟩ | ⟨_, _, z⟩ <;> cases z⟩
/-- σ' differs from σ at the places is alone -/
def Agree (is : List Nat) (σ σ' : L2.St) : Prop := σ'.length = σ.length ∧ ∀ j : Nat, j ∉ is → σ'[j]? = σ[j]?
theorem Agree.refl (σ : L2.St) (is : List Nat) : Agree is σ σ := ⟨rfl, fun _ _ => rfl⟩
theorem Agree.trans {is js : List Nat} {σ σ1 σ2 : L2.St} (a : Agree is σ σ1) (b : Agree js σ1 σ2) : Agree (is ++ js) σ σ2 :=
  ⟨b.1.trans a.1, fun j h => (b.2 j fun z => h (List.mem_append_right _ z)).trans (a.2 j fun z => h (List.mem_append_left _ z))⟩
theorem Agree.set {σ : L2.St} {i : Nat} {v : Option V} : Agree [i] σ (σ.set i v) := ⟨by simp, fun j h => by
  rw [List.getElem?_set_ne]
  rintro rfl
  exact h (by simp)⟩
theorem wipe_get {σ : L2.St} : ∀ {vs : List Nat} {j : Nat}, (wipe σ vs)[j]? = if j ∈ vs then (σ[j]?).map (fun _ => none) else σ[j]?
  | [], j => by simp [wipe]
  | v :: vs, j => by
    unfold wipe
    by_cases q : v = j
    · subst q
      rw [if_pos List.mem_cons_self]
      have l := wipe_length σ vs
      by_cases hv : v < σ.length
      · rw [List.getElem?_set_self (by rw [l]; exact hv), List.getElem?_eq_getElem hv]
        rfl
      · rw [List.getElem?_eq_none (by rw [List.length_set, l]; omega), List.getElem?_eq_none (by omega)]
        rfl
    · rw [List.getElem?_set_ne q, wipe_get (vs := vs)]
      by_cases m : j ∈ vs
      · rw [if_pos m, if_pos (List.mem_cons_of_mem _ m)]
      · rw [if_neg m, if_neg (fun z => (List.mem_cons.mp z).elim (fun e => q e.symm) m)]
theorem Agree.wipe {is vs : List Nat} {σ σ' : L2.St} (a : Agree is σ σ') (h : ∀ i ∈ is, i ∈ vs) : L2.wipe σ' vs = L2.wipe σ vs := by
  refine List.ext_getElem? fun j => ?_
  rw [wipe_get, wipe_get]
  by_cases m : j ∈ vs
  · rw [if_pos m, if_pos m]
    have e : ∀ τ : L2.St, (τ[j]?).map (fun _ => (none : Option V)) = if j < τ.length then some none else none := fun τ => by
      by_cases q : j < τ.length
      · rw [if_pos q, List.getElem?_eq_getElem q]; rfl
      · rw [if_neg q, List.getElem?_eq_none (by omega)]; rfl
    rw [e, e, a.1]
  · rw [if_neg m, if_neg m]
    exact a.2 j fun z => m (h j z)
/-- a target's reading -/
def gTv (c : Cn) (L : List Addr) (t : Tg) : TG := fun v σ H Q => ∃ F ρ d ρ', Rel c.θ c.F0 c.B L F H σ ρ ∧ Rep c.θ F d v ∧ tgSet t d ρ = some ρ' ∧ ∀ σ', Rel c.θ c.F0 c.B L F H σ' ρ' → Agree (tgIdx t) σ σ' → Q σ' H
def gTvs (c : Cn) (L : List Addr) (ts : List Tg) : TGs := fun vs σ H Q => ∃ F ρ ds ρ', Rel c.θ c.F0 c.B L F H σ ρ ∧ RepL c.θ F ds vs ∧ tgSets ts ds ρ = some ρ' ∧ ∀ σ', Rel c.θ c.F0 c.B L F H σ' ρ' → Agree (tgIdxs ts) σ σ' → Q σ' H
theorem gg_name {i : Nat} {x : Str} (hN : X.N.Nodup) (hi : X.N[i]? = some x) (hx : Loc X.env.scope x) (hf : X.fn x = true ∨ X.env.scope.names.lookup x = some .local) : PG X (.Name x pos) (gTv c L (.one i)) := by
  refine ⟨fun pins s σ H v u Q I r h => (pg_name hN hi hx hf).run pins s σ H v u Q I r ?_⟩
  obtain ⟨F, ρ, d, ρ', R, rp, e, h⟩ := h
  replace e : (if i < ρ.length then some (ρ.set i (.va d)) else none) = some ρ' := e
  by_cases q : i < ρ.length
  · rw [if_pos q] at e
    cases e
    exact h _ (R.set rp) Agree.set
  · rw [if_neg q] at e
    cases e
theorem ggs_nil : PGs X [] (gTvs c L []) := by
  refine ⟨fun pins s σ H vs us Q I r h => pgs_nil.run pins s σ H vs us Q I r ?_⟩
  obtain ⟨F, ρ, ds, ρ', R, rp, e, h⟩ := h
  cases ds with
  | nil =>
    cases rp
    cases e
    exact ⟨rfl, h σ R (Agree.refl _ _)⟩
  | cons d ds => cases e
theorem ggs_cons {es : List Expr} {t : Tg} {ts : List Tg} (h1 : PG X e (gTv c L t)) (h2 : PGs X es (gTvs c L ts)) (hs : (assignEach (e :: es) X.env).map (·.2) = assign e X.env :: (assignEach es X.env).map (·.2)) : PGs X (e :: es) (gTvs c L (t :: ts)) := by
  refine ⟨fun pins s σ H vs us Q I r h => (pgs_cons h1 h2 hs).run pins s σ H vs us Q I r ?_⟩
  obtain ⟨F, ρ, ds, ρ', R, rp, e, h⟩ := h
  cases ds with
  | nil => cases e
  | cons d ds =>
    cases rp with
    | cons a b =>
      replace e : ((tgSet t d ρ).bind fun ρ' => tgSets ts ds ρ') = some ρ' := e
      cases q : tgSet t d ρ with
      | none => rw [q] at e; cases e
      | some ρ1 =>
        rw [q] at e
        exact ⟨_, _, rfl, F, ρ, d, ρ1, R, a, q, fun σ1 R1 a1 => ⟨F, ρ1, ds, ρ', R1, b, e, fun σ2 R2 a2 => h σ2 R2 (a1.trans a2)⟩⟩
theorem gg_tup {es : List Expr} {k n : Nat} {ts : List Tg} (hc : X.calm = true) (hK : X.K = c.θ.K) (h : PGs X es (gTvs c L ts)) (hn : (assignEach es X.env).length = n) (hst : (assignEach es X.env).findIdx? (·.1) = none) (hl : ts.length = n) : PG X (.Tuple es k pos) (gTv c L (.tup ts)) := by
  have len : ∀ {ts : List Tg} {ds : List D} {ρ ρ' : Sl}, tgSets ts ds ρ = some ρ' → ds.length = ts.length := by
    intro ts
    induction ts with
    | nil => intro ds ρ ρ' e; cases ds with
      | nil => rfl
      | cons d ds => cases e
    | cons t ts ih => intro ds ρ ρ' e; cases ds with
      | nil => cases e
      | cons d ds =>
        replace e : ((tgSet t d ρ).bind fun ρ' => tgSets ts ds ρ') = some ρ' := e
        cases q : tgSet t d ρ with
        | none => rw [q] at e; cases e
        | some ρ1 =>
          rw [q] at e
          rw [List.length_cons, List.length_cons, ih e]
  refine ⟨fun pins s σ H v u Q I r hw => ?_⟩
  obtain ⟨F, ρ, d, ρ', R, rp, e, hw⟩ := hw
  cases d <;> first | cases e | skip
  · rename_i ds
    cases rp with
    | lst hf rl =>
      refine (L2.pg_lst hc h hn hst).run pins s σ H _ u Q I r ⟨_, _, rfl, by rw [hK]; exact .inl (.inl (R.sub.lst hf)), ?_, F, ρ, ds, ρ', R, rl, e, hw⟩
      rw [rl.length, len e, hl]
  · rename_i ds
    cases rp with
    | tup hf rl =>
      refine (L2.pg_tup hc h hn hst).run pins s σ H _ u Q I r ⟨_, _, rfl, by rw [hK]; exact .inl (.inl (R.sub.tup hf)), ?_, F, ρ, ds, ρ', R, rl, e, hw⟩
      rw [rl.length, len e, hl]

/-! ### comprehensions -/
theorem wipeS_length (ρ : Sl) : ∀ vs : List Nat, (wipeS ρ vs).length = ρ.length
  | [] => rfl
  | v :: vs => by unfold wipeS; rw [List.length_set, wipeS_length ρ vs]
theorem wipeS_some {ρ : Sl} {i : Nat} {x : Slot} (hx : x ≠ .un) : ∀ {vs : List Nat}, (wipeS ρ vs)[i]? = some x → ρ[i]? = some x ∧ i ∉ vs
  | [], h => ⟨h, by simp⟩
  | v :: vs, h => by
    unfold wipeS at h
    by_cases hi : v = i
    · subst hi
      by_cases hv : v < (wipeS ρ vs).length
      · rw [List.getElem?_set_self hv] at h
        exact absurd (Option.some.inj h).symm hx
      · rw [List.getElem?_eq_none (by rw [List.length_set]; omega)] at h; cases h
    · rw [List.getElem?_set_ne hi] at h
      obtain ⟨h1, h2⟩ := wipeS_some hx h
      exact ⟨h1, by simp only [List.mem_cons, not_or]; exact ⟨fun e => hi e.symm, h2⟩⟩
theorem Rel.wipe {θ : Th} {F0 B F H : Hp} {σ : L2.St} {ρ : Sl} (R : Rel θ F0 B L F H σ ρ) (vs : List Nat) : Rel θ F0 B L F H (L2.wipe σ vs) (wipeS ρ vs) := by
  have at_ : ∀ {i : Nat}, i ∉ vs → (L2.wipe σ vs)[i]? = σ[i]? := fun {i} h => by rw [wipe_get, if_neg h]
  refine ⟨R.sub, R.kp, R.f0, R.fn, by rw [wipe_length, wipeS_length]; exact R.len, fun i d h => ?_, fun i d h => ?_, fun i d h => R.fu i d (wipeS_some (by intro z; cases z) h).1, fun i j d e a hn h1 h2 h3 => ?_, fun i k ds h => ?_, fun i h => ?_, ?_⟩
  rotate_right
  · obtain ⟨Z, hZ⟩ := R.pv
    refine ⟨Z, hZ.step (.refl _) (fun _ _ h => h) (fun i k d h => ?_) fun i k d j b h ho hs => ?_⟩
    · obtain ⟨h1, h2⟩ := wipeS_some (by intro z; cases z) h
      exact ⟨h1, at_ h2, fun b hb => ⟨rfl, ((hZ i k d h1).2.2.1 b hb).1⟩⟩
    · obtain ⟨h1, h2⟩ := wipeS_some (by intro z; cases z) h
      rcases ho with ⟨d2, hd⟩ | ⟨k2, ds, hd⟩
      · obtain ⟨g1, g2⟩ := wipeS_some (by intro z; cases z) hd
        rw [at_ g2] at hs
        exact (hZ i k d h1).2.2.2.1 j b (.inl ⟨d2, g1⟩) hs
      · obtain ⟨g1, g2⟩ := wipeS_some (by intro z; cases z) hd
        rw [at_ g2] at hs
        exact (hZ i k d h1).2.2.2.1 j b (.inr ⟨k2, ds, g1⟩) hs
  rotate_right
  · obtain ⟨h1, h2⟩ := wipeS_some (by intro z; cases z) h
    rw [at_ h2]
    exact R.xc i h1
  · obtain ⟨h1, h2⟩ := wipeS_some (by intro z; cases z) h
    rw [at_ h2]
    exact R.va i d h1
  · obtain ⟨h1, h2⟩ := wipeS_some (by intro z; cases z) h
    rw [at_ h2]
    exact R.ow i d h1
  · obtain ⟨g1, g2⟩ := wipeS_some (by intro z; cases z) h1
    obtain ⟨g3, g4⟩ := wipeS_some (by intro z; cases z) h2
    rw [at_ g2] at h3
    rw [at_ g4]
    exact R.dj i j d e a hn g1 g3 h3
  · obtain ⟨g1, g2⟩ := wipeS_some (by intro z; cases z) h
    obtain ⟨⟨a, o, h1, h2, h3, h4, h5, hm, h6⟩, h7⟩ := R.me i k ds g1
    refine ⟨⟨a, o, by rw [at_ g2]; exact h1, h2, h3, h4, h5, hm, fun j d hj => ?_⟩, fun j k' ds' hj z => h7 j k' ds' hj (wipeS_some (by intro z; cases z) z).1⟩
    obtain ⟨g3, g4⟩ := wipeS_some (by intro z; cases z) hj
    rw [at_ g4]
    exact h6 j d g3
end
end G
namespace G
open PySem PySem.Spec L2
abbrev WF : WX := fun _ _ _ _ => False
theorem lcA_ex {tg : Tg} {t : TSm} {e : ES} {ρ : Sl} {n : Nat} {fs : List D} : ∀ {ds acc : List D}, lcA tg t e ρ acc ds ≠ .ex n fs
  | [], acc, h => by cases h
  | d :: ds, acc, h => by
    unfold lcA at h
    cases q : tgSet tg d ρ with
    | none => rw [q] at h; cases h
    | some ρ1 =>
      rw [q] at h
      dsimp only at h
      cases q2 : t ρ1 with
      | no => rw [q2] at h; cases h
      | ex => rw [q2] at h; cases h
      | ok b =>
        rw [q2] at h
        cases b with
        | false => exact lcA_ex h
        | true =>
          dsimp only at h
          cases q3 : e ρ1 with
          | no => rw [q3] at h; cases h
          | ex => rw [q3] at h; cases h
          | ok y =>
            rw [q3] at h
            dsimp only at h
            split at h
            · exact lcA_ex h
            · cases h
/-- a turn, read off its outcome -/
theorem lcA_turn {tg : Tg} {t : TSm} {e : ES} {ρ : Sl} {d : D} {ds acc r : List D} (h : lcA tg t e ρ acc (d :: ds) = .ok r) : ∃ ρ1 b, tgSet tg d ρ = some ρ1 ∧ t ρ1 = .ok b ∧
    ((b = false ∧ lcA tg t e ρ acc ds = .ok r) ∨ (b = true ∧ ∃ y k, e ρ1 = .ok (y, k) ∧ k.solid = true ∧ acc.length < SZ ∧ lcA tg t e ρ (acc ++ [y]) ds = .ok r)) := by
  unfold lcA at h
  cases q : tgSet tg d ρ with
  | none => rw [q] at h; cases h
  | some ρ1 =>
    rw [q] at h
    dsimp only at h
    cases q2 : t ρ1 with
    | no => rw [q2] at h; cases h
    | ex => rw [q2] at h; cases h
    | ok b =>
      rw [q2] at h
      refine ⟨ρ1, b, rfl, q2, ?_⟩
      cases b with
      | false => exact .inl ⟨rfl, h⟩
      | true =>
        dsimp only at h
        cases q3 : e ρ1 with
        | no => rw [q3] at h; cases h
        | ex => rw [q3] at h; cases h
        | ok y =>
          obtain ⟨y, k⟩ := y
          rw [q3] at h
          dsimp only at h
          split at h
          · rename_i z
            obtain ⟨z1, z2⟩ := Bool.and_eq_true_iff.mp z
            exact .inr ⟨rfl, y, k, rfl, z1, of_decide_eq_true z2, h⟩
          · cases h
theorem wipe_wipe (σ : L2.St) (vs : List Nat) : wipe (wipe σ vs) vs = wipe σ vs := by
  refine List.ext_getElem? fun j => ?_
  rw [wipe_get, wipe_get]
  by_cases m : j ∈ vs
  · rw [if_pos m, if_pos m, Option.map_map]
    rfl
  · rw [if_neg m, if_neg m]
theorem Ext.mut {F H F' H' : Hp} {a : Addr} {o : HO} (e : Ext F H F' H') (nf : F' a = none) (nh : H a = none) : Ext F H F' (upd H' a o) :=
  ⟨fun b u h => by rw [upd_ne (ne_of_none h nf)]; exact e.sub b u h, e.ff, fun b u h => by rw [upd_ne (ne_of_none h nh)]; exact e.hh b u h, e.nw⟩
theorem Ext.none {F H F' H' : Hp} {a : Addr} {o : HO} (e : Ext F H F' H') (nf : F a = none) (h : H a = some o) : F' a = none := by
  cases q : F' a with
  | none => rfl
  | some u =>
    rcases e.nw a u q with z | z
    · rw [nf] at z; cases z
    · rw [h] at z; cases z
section
variable {X : Cx} {c : Cn} {L : List Addr} {W : WX} {f g : ES} {a b e tg iter elt : Expr} {pos p : Pos} {s : IS} {t : Tg} {tst : TSm} {vs : List Nat}
theorem rd_lc (hv : ∀ i ∈ tgIdx t, i ∈ vs) {σ : L2.St} {H : Hp} {Q : VK} (h : tEv c L W (eLc s t tst f vs) σ H Q) : tLc (tIv c L W false s) (gTv c L t) (tTv c L WF tst) (tEv c L WF f) vs σ H Q := by
  obtain ⟨F, ρ, R, h⟩ := of_tEv h
  refine ⟨F, ρ, R, ?_⟩
  replace h : Res c W σ ρ F H Q ((s ρ).bind fun ds => (lcA t tst f (wipeS ρ vs) [] ds).bind fun r => .ok (.lst r, .fr)) := h
  cases q : s ρ with
  | no => rw [q] at h; exact h
  | ex n fs => rw [q] at h; exact h
  | ok ds =>
    rw [q] at h
    intro J F1 H1 e1 wk D hD
    rw [bind_ok] at h
    cases q2 : lcA t tst f (wipeS ρ vs) [] ds with
    | no => rw [q2] at h; exact h.elim
    | ex n fs => exact absurd q2 lcA_ex
    | ok r =>
      rw [q2] at h
      have h := Res.mono h e1
      refine ⟨fun i m H2 => m = ds.length - i ∧ i ≤ ds.length ∧ ∃ F2 acc ad, Ext F1 H1 F2 H2 ∧ H2 D = some (.lst acc) ∧ F2 D = none ∧ RepL c.θ F2 ad acc ∧ lcA t tst f (wipeS ρ vs) ad (ds.drop i) = .ok r,
        ⟨ds.length, rfl, Nat.zero_le _, F1, [], [], Ext.lay e1.sub hD, upd_same, e1.sub.free hD, .nil, q2⟩, ?_⟩
      rintro i m H2 ⟨rfl, hi, F2, acc, ad, e2, hacc, nf, rp, hl⟩
      by_cases lt : i < ds.length
      · have hd : ds[i]? = some ds[i] := List.getElem?_eq_getElem lt
        rw [List.drop_eq_getElem_cons lt] at hl
        obtain ⟨ρ1, b, t1, t2, t3⟩ := lcA_turn hl
        obtain ⟨g1, g2⟩ := wk.go F2 H2 i ds[i] e2.ff e2.sub (fun _ => e2.hh) hd
        refine .inr ⟨g1, fun H' => ∃ F2 acc ad, Ext F1 H1 F2 H' ∧ H' D = some (.lst acc) ∧ F2 D = none ∧ RepL c.θ F2 ad acc ∧ lcA t tst f (wipeS ρ vs) ad (ds.drop (i + 1)) = .ok r, fun H' nx => ⟨ds.length - (i + 1), by omega, rfl, lt, nx⟩, fun x H' hy => ?_⟩
        obtain ⟨F3, e3, r3⟩ := g2 x H' hy
        refine ⟨F3, wipeS ρ vs, ds[i], ρ1, ((R.wipe vs).ext ((e1.trans e2).trans e3)), r3, t1, fun σ2 R2 ag => ⟨(ag.wipe hv).trans (wipe_wipe σ vs), ?_⟩⟩
        refine tTv_of R2 ?_
        rw [t2]
        intro F4 H4 e4
        have e34 := e3.trans e4
        have nf4 : F4 D = none := e34.none nf hacc
        have acc4 : H4 D = some (.lst acc) := e34.hh _ _ hacc
        rcases t3 with ⟨rfl, t3⟩ | ⟨rfl, y, k, t4, t5, t6, t7⟩
        · exact iteF ⟨F4, acc, ad, e2.trans e34, acc4, nf4, rp.mono e34.ff, t3⟩
        · refine iteT (tEv_of (R2.ext e4) ?_)
          rw [t4]
          intro v F5 H5 e5 hv5
          obtain ⟨F6, e6, _, _, so⟩ := Val.use (R2.ext e4) e5 hv5
          refine ⟨acc, e6.hh _ _ acc4, ?_, F6, acc ++ [v], ad ++ [y], ((e2.trans e34).trans e6).mut (e6.none nf4 acc4) hD, upd_same, e6.none nf4 acc4, ((rp.mono e34.ff).mono e6.ff).append (.cons (so t5) .nil), t7⟩
          rw [rp.length]
          exact Nat.lt_of_lt_of_le t6 SZ_le
      · have ei : i = ds.length := by omega
        subst ei
        rw [List.drop_length] at hl
        cases hl
        exact .inl ⟨wk.stop F2 H2 e2.ff e2.sub (fun _ => e2.hh), h _ F2 H2 e2 ⟨trivial, D, _, rfl, hD, hacc, nf, .lst rp, Nw.of rfl⟩⟩
theorem pg_lc {ifs : List Expr} {scope : Scope} {own : List (Str × Nat)} (hv : ∀ i ∈ tgIdx t, i ∈ own.map (·.2)) (hc : X.calm = true) (hN : X.N.Nodup) (hi : PI X tg iter (tIv c L W false s)) (ok : BlkOk X.N X.env.scope scope own)
    (hg : ∀ (s : Shared) (H : Hp) (C : Addr) (cl : List (Str × Addr)) (fp : List Addr), PG (X.blk s H scope (compEnvC scope cl C X.env) fp) tg (gTv c L t)) (ht : ∀ (s : Shared) (H : Hp) (C : Addr) (cl : List (Str × Addr)) (fp : List Addr), PTs (X.blk s H scope (compEnvC scope cl C X.env) fp) ifs (tTv c L WF tst))
    (he : ∀ (s : Shared) (H : Hp) (C : Addr) (cl : List (Str × Addr)) (fp : List Addr), PE (X.blk s H scope (compEnvC scope cl C X.env) fp) elt (tEv c L WF f)) (hs : ∀ x, foldedSetIterable iter X.env x = pure x) : PE X (.ListComp elt [⟨tg, iter, ifs, 0⟩] scope pos) (tEv c L W (eLc s t tst f (own.map (·.2)))) :=
  pe_ev (pe_lc hc hN hi ok hg ht he hs) fun σ H Q h => rd_lc hv h
theorem pgts_nil : PTs X [] (tTv c L W tYes) := ⟨fun pins s σ H Q I h => pts_nil.run pins s σ H Q I (by
  obtain ⟨F, ρ, R, h⟩ := h
  exact h F H (Ext.refl R.sub))⟩
theorem pgts_one (h : PT X e (tTv c L W tst)) : PTs X [e] (tTv c L W tst) := pts_one h
end
end G
/-! G: statements. -/
namespace G
open PySem PySem.Spec L2
theorem vis_of {sc : Scope} {x : Str} (h : Loc sc x) : Vis sc x := h.elim .inl fun z => .inr (.inl z)
/-- how a value is given back: B the heap at the entry -/
def RtV (θ : Th) (B F' H' : Hp) (d : D) (k : Kd) (v : V) : Prop := match k with
  | .sh => Rep θ F' d v
  | .tr n => TrV θ F' B H' n d v
  | _ => FrV θ F' B H' d v
/-- what is asked of a statement's outcome -/
def ResS (c : Cn) (L : List Addr) (W : WX) (F : Hp) (E : Ends) : Fl → Prop
  | .nx ρ' => ∀ σ' F' H', Same F F' → Rel c.θ c.F0 c.B L F' H' σ' ρ' → E.nx σ' H'
  | .bk ρ' => ∀ σ' F' H', Same F F' → Rel c.θ c.F0 c.B L F' H' σ' ρ' → E.bk σ' H'
  | .ct ρ' => ∀ σ' F' H', Same F F' → Rel c.θ c.F0 c.B L F' H' σ' ρ' → E.ct σ' H'
  | .rt d k => ∀ v σ' ρ' F' H', Same F F' → Rel c.θ c.F0 c.B L F' H' σ' ρ' → RtV c.θ c.B F' H' d k v → E.rt v H'
  | .ex n fs ρ' => ∀ cls dd σ' F' H', Same F F' → Rel c.θ c.F0 c.B L F' H' σ' ρ' → ExV c.θ n fs cls dd F' H' → W cls dd σ' H'
  | .no => False
def tSv (c : Cn) (L : List Addr) (W : WX) (f : SS) : TS := fun E σ H => ∃ F ρ, Rel c.θ c.F0 c.B L F H σ ρ ∧ ResS c L W F E (f ρ)
section
variable {X : Cx} {c : Cn} {L : List Addr} {W : WX} {f g : ES} {a b e tg iter : Expr} {pos p : Pos} {s : IS} {t : Tg} {tst : TSm} {k : D × Kd → Fl} {F F1 H H1 : Hp} {σ : L2.St} {ρ : Sl} {En : Ends}
theorem ResS.ite {p : Prop} [Decidable p] {o : Fl} (h : ResS c L W F En (if p then o else .no)) : p ∧ ResS c L W F En o := by
  by_cases q : p
  · rw [if_pos q] at h
    exact ⟨q, h⟩
  · rw [if_neg q] at h
    exact h.elim
theorem ResS.mono {o : Fl} (h : ResS c L W F En o) (e : Same F F1) : ResS c L W F1 En o := by
  cases o with
  | nx ρ' => exact fun σ' F' H' e' => h σ' F' H' (e.trans e')
  | bk ρ' => exact fun σ' F' H' e' => h σ' F' H' (e.trans e')
  | ct ρ' => exact fun σ' F' H' e' => h σ' F' H' (e.trans e')
  | rt d k => exact fun v σ' ρ' F' H' e' => h v σ' ρ' F' H' (e.trans e')
  | ex n fs ρ' => exact fun cls dd σ' F' H' e' => h cls dd σ' F' H' (e.trans e')
  | no => exact h
theorem Rel.same (R : Rel c.θ c.F0 c.B L F H σ ρ) : Same F F := Same.refl F
/-- an expression, then a statement's end -/
theorem sv_with {P : V → Hp → Prop} (R : Rel c.θ c.F0 c.B L F H σ ρ) (h : ResS c L W F En (sWith (f ρ) ρ k))
    (hp : ∀ d kd x F1 H1, f ρ = .ok (d, kd) → Ext F H F1 H1 → Val c.θ F1 H H1 σ ρ d kd x → Rel c.θ c.F0 c.B L F1 H1 σ ρ → ResS c L W F1 En (k (d, kd)) → P x H1) : tEv c L W f σ H P := by
  refine ⟨F, ρ, R, ?_⟩
  cases hf : f ρ with
  | ok x =>
    obtain ⟨d, kd⟩ := x
    rw [hf] at h
    exact fun v F' H' e hv => hp d kd v F' H' hf e hv (R.ext e) (ResS.mono (show ResS c L W F En (k (d, kd)) from h) e.ff)
  | ex n fs =>
    rw [hf] at h
    exact fun cls dd F' H' e hv => h cls dd σ F' H' e.ff (R.ext e) hv
  | no =>
    rw [hf] at h
    exact h
/-- .. frozen where it is fresh -/
theorem Val.sol {d : D} {kd : Kd} {x : V} (R : Rel c.θ c.F0 c.B L F H σ ρ) (e : Ext F H F1 H1) (h : Val c.θ F1 H H1 σ ρ d kd x) (hk : kd.solid = true) : ∃ F2, Ext F H F2 H1 ∧ Same F1 F2 ∧ Rep c.θ F2 d x := by
  obtain ⟨F2, e2, s, _, so⟩ := Val.use R e h
  exact ⟨F2, e2, s, so hk⟩
theorem ps_ev {st : Stmt} {t : TS} {u : SS} (h : PS X st t) (hi : ∀ (E : Ends) (σ : L2.St) (H : Hp), tSv c L W u E σ H → t E σ H) : PS X st (tSv c L W u) := ⟨fun pins s σ H D I hw => h.run pins s σ H D I (hi D σ H hw)⟩
theorem pss_ev {st : List Stmt} {t : TS} {u : SS} (h : PSs X st t) (hi : ∀ (E : Ends) (σ : L2.St) (H : Hp), tSv c L W u E σ H → t E σ H) : PSs X st (tSv c L W u) := ⟨fun pins s σ H D I hw => h.run pins s σ H D I (hi D σ H hw)⟩
theorem gss_nil : PSs X [] (tSv c L W sSkip) := pss_ev pss_nil fun E σ H h => by
  obtain ⟨F, ρ, R, h⟩ := h
  exact h σ F H (.refl _) R
theorem gss_one {st : Stmt} {u : SS} (h : PS X st (tSv c L W u)) : PSs X [st] (tSv c L W u) := pss_one h
theorem gss_cons {st : Stmt} {rest : List Stmt} {u v : SS} (h1 : PS X st (tSv c L W u)) (h2 : PSs X rest (tSv c L W v)) : PSs X (st :: rest) (tSv c L W (sSeq u v)) := by
  refine pss_ev (pss_cons h1 h2) fun E σ H h => ?_
  obtain ⟨F, ρ, R, h⟩ := h
  refine ⟨F, ρ, R, ?_⟩
  replace h : ResS c L W F E (match u ρ with
    | .nx ρ' => v ρ'
    | o => o) := h
  cases q : u ρ with
  | nx ρ' =>
    rw [q] at h
    exact fun σ' F' H' e' R' => ⟨F', ρ', R', ResS.mono h e'⟩
  | bk ρ' => rw [q] at h; exact h
  | ct ρ' => rw [q] at h; exact h
  | rt d k => rw [q] at h; exact h
  | ex n fs ρ' => rw [q] at h; exact h
  | no => rw [q] at h; exact h
theorem gs_pass : PS X (.Pass pos) (tSv c L W sSkip) := ps_ev ps_pass fun E σ H h => by
  obtain ⟨F, ρ, R, h⟩ := h
  exact h σ F H (.refl _) R
theorem gs_doc {x j pos'} : PS X (.Expr (.Constant (.str x) j pos) pos') (tSv c L W sSkip) := ps_ev ps_doc fun E σ H h => by
  obtain ⟨F, ρ, R, h⟩ := h
  exact h σ F H (.refl _) R
theorem gs_break : PS X (.Break pos) (tSv c L W sBrk) := ps_ev ps_break fun E σ H h => by
  obtain ⟨F, ρ, R, h⟩ := h
  exact h σ F H (.refl _) R
theorem gs_continue : PS X (.Continue pos) (tSv c L W sCnt) := ps_ev ps_continue fun E σ H h => by
  obtain ⟨F, ρ, R, h⟩ := h
  exact h σ F H (.refl _) R
theorem gs_if {ss ts : List Stmt} {u v : SS} (ht : PT X e (tTv c L W tst)) (h1 : PSs X ss (tSv c L W u)) (h2 : PSs X ts (tSv c L W v)) : PS X (.If e ss ts pos) (tSv c L W (G.sIf tst u v)) := by
  refine ps_ev (ps_if ht h1 h2) fun E σ H h => ?_
  obtain ⟨F, ρ, R, h⟩ := h
  refine tTv_of R ?_
  replace h : ResS c L W F E (match tst ρ with
    | .ok b => if b = true then u ρ else v ρ
    | .ex n fs => .ex n fs ρ
    | .no => .no) := h
  cases q : tst ρ with
  | no => rw [q] at h; exact h
  | ex n fs =>
    rw [q] at h
    exact fun cls dd F' H' e' hv => h cls dd σ F' H' e'.ff (R.ext e') hv
  | ok b =>
    rw [q] at h
    intro F' H' e'
    have h := ResS.mono h e'.ff
    cases b with
    | true => exact iteT ⟨F', ρ, R.ext e', h⟩
    | false => exact iteF ⟨F', ρ, R.ext e', h⟩
theorem gs_drop (ha : PE X e (tEv c L W f)) (hs : swapsWith e none pos.line X.env = pure false := by rfl) : PS X (.Expr e pos) (tSv c L W (sDrop f)) := by
  refine ps_ev (ps_expr ha hs) fun E σ H h => ?_
  obtain ⟨F, ρ, R, h⟩ := h
  refine sv_with R h fun d kd x F1 H1 ef e1 hv R1 h1 => ?_
  exact h1 σ F1 H1 (.refl _) R1
theorem gs_retN : PS X (.Return none pos) (tSv c L W sRetN) := ps_ev ps_retN fun E σ H h => by
  obtain ⟨F, ρ, R, h⟩ := h
  exact h _ _ _ F H (.refl _) R .non
theorem Rel.noneB {a : Addr} (R : Rel c.θ c.F0 c.B L F H σ ρ) (h : H a = none) : c.B a = none := by
  cases q : c.B a with
  | none => rfl
  | some o => rcases R.kp a o q with y | ⟨_, _, _, y⟩ <;> (rw [h] at y; cases y)
theorem FrV.toB {d : D} {v : V} (R : Rel c.θ c.F0 c.B L F H σ ρ) (f : FrV c.θ F1 H H1 d v) : FrV c.θ F1 c.B H1 d v := by
  obtain ⟨fu, a, o, rfl, n, h1, h2, h3, h4⟩ := f
  exact ⟨fu, a, o, rfl, R.noneB n, h1, h2, h3, h4.mono (.refl _) fun _ z => R.noneB z⟩
theorem TrV.toB {n : Nat} {d : D} {v : V} (R : Rel c.θ c.F0 c.B L F H σ ρ) (f : TrV c.θ F1 H H1 n d v) : TrV c.θ F1 c.B H1 n d v := by
  obtain ⟨S, t, nd, fr⟩ := f
  exact ⟨S, t.base fun _ z => R.noneB z, nd, fun b hb => ⟨R.noneB (fr b hb).1, (fr b hb).2⟩⟩
theorem gs_ret (ha : PE X e (tEv c L W f)) : PS X (.Return (some e) pos) (tSv c L W (sRet f)) := by
  refine ps_ev (ps_ret ha) fun E σ H h => ?_
  obtain ⟨F, ρ, R, h⟩ := h
  refine sv_with R h fun d kd x F1 H1 ef e1 hv R1 h1 => ?_
  refine h1 x σ ρ F1 H1 (.refl _) R1 ?_
  cases kd with
  | sh => exact hv
  | fr => exact FrV.toB R hv
  | «at» i =>
    obtain ⟨z1, z2⟩ := hv
    obtain ⟨a, o, y1, y2, y3, y4, y5⟩ := R1.ow i d z2
    rw [z1] at y1
    cases y1
    exact ⟨Full.of (R1.fu i d z2), a, o, rfl, y4, y2, y3, y5, Nw.of (R1.fu i d z2)⟩
  | tr n => exact TrV.toB R hv
/-- a slot takes a fresh root as its own -/
theorem Rel.setOw {i : Nat} {d : D} {v : V} (R : Rel c.θ c.F0 c.B L F H σ ρ) (e : Ext F H F1 H1) (f : FrV c.θ F1 H H1 d v) (no : notObj d = true) : Rel c.θ c.F0 c.B L F1 H1 (σ.set i (some v)) (ρ.set i (.ow d)) := by
  have R1 := R.ext e
  obtain ⟨fu, a, o, rfl, n, h, nf, ro, _⟩ := f
  refine R1.put R1.sub R1.kp (.refl _) R1.fn (fun _ _ _ _ _ _ h n => ⟨h, n⟩) (fun e h => by cases h) (fun d' h => ?_) (fun _ _ h => by cases h) fun Z hZ j k d hj hp b hb => ⟨rfl, rfl, fun _ z => by cases z; obtain ⟨o, ho⟩ := R.pvOld e hZ hp hb; rw [n] at ho; cases ho⟩
  cases h
  refine ⟨no, a, o, rfl, h, nf, R.noneB n, ro, fun j hj ho => ?_⟩
  rcases ho with ⟨d2, hd⟩ | ⟨k, ds, hd⟩
  · obtain ⟨a2, o2, y1, y2, _⟩ := R.ow j d2 hd
    rw [y1]
    intro z
    cases z
    rw [n] at y2
    cases y2
  · obtain ⟨⟨a2, o2, y1, y2, _⟩, _⟩ := R.me j k ds hd
    rw [y1]
    intro z
    cases z
    rw [n] at y2
    cases y2
theorem asg_core {own : Bool} {i : Nat} {d : D} {kd : Kd} {x : V} (R : Rel c.θ c.F0 c.B L F H σ ρ) (e : Ext F H F1 H1) (hv : Val c.θ F1 H H1 σ ρ d kd x) (h : ResS c L W F1 En (G.asg own i (d, kd) ρ)) : En.nx (σ.set i (some x)) H1 := by
  unfold G.asg at h
  by_cases q : i < ρ.length
  · rw [if_pos q] at h
    cases kd with
    | sh => exact h _ F1 H1 (.refl _) ((R.ext e).set hv)
    | fr =>
      cases own with
      | true =>
        obtain ⟨no, h⟩ := ResS.ite (show ResS c L W F1 En (if notObj d = true then .nx (ρ.set i (.ow d)) else .no) from h)
        exact h _ F1 H1 (.refl _) (R.setOw e hv no)
      | false =>
        obtain ⟨F2, e2, s2, r⟩ := Val.sol R e hv rfl
        exact h _ F2 H1 s2 ((R.ext e2).set r)
    | «at» j => exact h.elim
    | tr n => exact h.elim
  · rw [if_neg q] at h
    exact h.elim
theorem gs_set {own : Bool} {i : Nat} {x : Str} {pos' : Pos} (hN : X.N.Nodup) (ha : PE X e (tEv c L W f)) (hx : Loc X.env.scope x) (hf : X.fn x = true ∨ X.env.scope.names.lookup x = some .local := by exact Or.inl rfl) (hi : X.N[i]? = some x := by rfl) (hs : swapsWith e (some (.Name x pos')) pos.line X.env = pure false := by rfl) :
    PS X (.Assign [.Name x pos'] e pos) (tSv c L W (G.sAsg own i f)) := by
  refine ps_ev (ps_set hN hi hx ha hs hf) fun E σ H h => ?_
  obtain ⟨F, ρ, R, h⟩ := h
  exact sv_with R h fun d kd x F1 H1 ef e1 hv R1 h1 => asg_core R e1 hv h1
theorem gs_setLc {own : Bool} {i : Nat} {y : Str} {py : Pos} {elt : Expr} {ifs : List Expr} {scope : Scope} {ow : List (Str × Nat)} {spos : Pos} (hv : ∀ j ∈ tgIdx t, j ∈ ow.map (·.2)) (hc : X.calm = true) (hN : X.N.Nodup) (hy : X.N[i]? = some y) (hyl : X.env.scope.names.lookup y = some .local)
    (hsw : swapsWith (.ListComp elt [⟨tg, iter, ifs, 0⟩] scope pos) (some (.Name y py)) spos.line X.env = pure true) (hi : PI X tg iter (tIv c L W false s)) (ok : BlkOk X.N X.env.scope scope ow)
    (hg : ∀ (s : Shared) (H : Hp) (C : Addr) (cl : List (Str × Addr)) (fp : List Addr), PG (X.blk s H scope (compEnvC scope cl C X.env) fp) tg (gTv c L t)) (ht : ∀ (s : Shared) (H : Hp) (C : Addr) (cl : List (Str × Addr)) (fp : List Addr), PTs (X.blk s H scope (compEnvC scope cl C X.env) fp) ifs (tTv c L WF tst))
    (he : ∀ (s : Shared) (H : Hp) (C : Addr) (cl : List (Str × Addr)) (fp : List Addr), PE (X.blk s H scope (compEnvC scope cl C X.env) fp) elt (tEv c L WF f)) (hs : ∀ x, foldedSetIterable iter X.env x = pure x) : PS X (.Assign [.Name y py] (.ListComp elt [⟨tg, iter, ifs, 0⟩] scope pos) spos) (tSv c L W (G.sAsg own i (eLc s t tst f (ow.map (·.2))))) := by
  refine ps_ev (ps_setLc hc hN hy hyl hsw hi ok hg ht he hs) fun E σ H h => ?_
  obtain ⟨F, ρ, R, h⟩ := h
  exact rd_lc hv (sv_with R h fun d kd x F1 H1 ef e1 hv R1 h1 => asg_core R e1 hv h1)
/-- targets on a line: a tuple taken apart -/
theorem gs_tg (ha : PE X e (tEv c L W f)) (hg : PG X tg (gTv c L t)) (hs : swapsWithSole [tg] e pos.line X.env = pure false := by rfl) (hw : swappedStores [tg] e X.env = pure none := by rfl)
    (h1 : (assignEach [tg] X.env).map (·.2) = [assign tg X.env] := by rfl) : PS X (.Assign [tg] e pos) (tSv c L W (G.sTg t f)) := by
  refine ps_ev (ps_asg ha hg hs hw h1) fun E σ H h => ?_
  obtain ⟨F, ρ, R, h⟩ := h
  refine sv_with R h fun d kd x F1 H1 ef e1 hv R1 h1 => ?_
  by_cases q : kd.solid = true
  · replace h1 : ResS c L W F1 E (if kd.solid = true then (match (generalizing := false) tgSet t d ρ with
      | some ρ' => .nx ρ'
      | none => .no) else .no) := h1
    rw [if_pos q] at h1
    obtain ⟨F2, e2, s2, r⟩ := Val.sol R e1 hv q
    cases q2 : tgSet t d ρ with
    | none => rw [q2] at h1; exact h1.elim
    | some ρ' =>
      rw [q2] at h1
      exact ⟨F2, ρ, d, ρ', R.ext e2, r, q2, fun σ' R' _ => h1 σ' F2 H1 s2 R'⟩
  · replace h1 : ResS c L W F1 E (if kd.solid = true then (match (generalizing := false) tgSet t d ρ with
      | some ρ' => .nx ρ'
      | none => .no) else .no) := h1
    rw [if_neg q] at h1
    exact h1.elim
/-- for -/
theorem gs_for {body : List Stmt} {u : SS} (hp : PassesOwn (model X.prog X.w) X.A X.env X.xe) (hc : X.calm = true) (hi : PI X tg iter (tIv c L W true s)) (hg : PG X tg (gTv c L t)) (hb : PSs X body (tSv c L W u)) (hs : ∀ x, foldedSetIterable iter X.env x = pure x := by intro _; rfl) :
    PS X (.For tg iter body [] pos) (tSv c L W (G.sFor s t u)) := by
  refine ps_ev (ps_for hp hc hi hg hb hs) fun E σ H h => ?_
  obtain ⟨F, ρ, R, h⟩ := h
  refine ⟨F, ρ, R, ?_⟩
  replace h : ResS c L W F E (sWith (s ρ) ρ fun ds => forL t u ds ρ) := h
  cases q : s ρ with
  | no => rw [q] at h; exact h
  | ex n fs =>
    rw [q] at h
    exact fun cls dd F' H' e' hv => h cls dd σ F' H' e'.ff (R.ext e') hv
  | ok ds =>
    rw [q] at h
    intro J F1 H1 e1 wk
    replace h : ResS c L W F1 E (forL t u ds ρ) := ResS.mono (show ResS c L W F E (forL t u ds ρ) from h) e1.ff
    refine ⟨fun i m σ2 H2 => m = ds.length - i ∧ i ≤ ds.length ∧ ∃ F2 ρ2, Same F1 F2 ∧ Rel c.θ c.F0 c.B L F2 H2 σ2 ρ2 ∧ ResS c L W F2 E (forL t u (ds.drop i) ρ2),
      ⟨ds.length, rfl, Nat.zero_le _, F1, ρ, .refl _, R.ext e1, h⟩, ?_⟩
    rintro i m σ2 H2 ⟨rfl, hi, F2, ρ2, e2, R2, h2⟩
    by_cases lt : i < ds.length
    · have hd : ds[i]? = some ds[i] := List.getElem?_eq_getElem lt
      rw [List.drop_eq_getElem_cons lt] at h2
      obtain ⟨g1, g2⟩ := wk.go F2 H2 i ds[i] e2 R2.sub (fun z => by cases z) hd
      refine .inr ⟨g1, fun σ3 H3 => ∃ F3 ρ3, Same F1 F3 ∧ Rel c.θ c.F0 c.B L F3 H3 σ3 ρ3 ∧ ResS c L W F3 E (forL t u (ds.drop (i + 1)) ρ3), fun σ3 H3 nx => ⟨ds.length - (i + 1), by omega, rfl, lt, nx⟩, fun x H' hy => ?_⟩
      obtain ⟨F3, e3, r3⟩ := g2 x H' hy
      unfold forL at h2
      cases q1 : tgSet t ds[i] ρ2 with
      | none => rw [q1] at h2; exact h2.elim
      | some ρ3 =>
        rw [q1] at h2
        refine ⟨F3, ρ2, ds[i], ρ3, R2.ext e3, r3, q1, fun σ4 R4 _ => ⟨F3, ρ3, R4, ?_⟩⟩
        replace h2 : ResS c L W F2 E (match u ρ3 with
          | .nx ρ2 => forL t u (ds.drop (i + 1)) ρ2
          | .ct ρ2 => forL t u (ds.drop (i + 1)) ρ2
          | .bk ρ2 => .nx ρ2
          | o => o) := h2
        cases q3 : u ρ3 with
        | nx ρ4 =>
          rw [q3] at h2
          exact fun σ' F' H' e' R' => ⟨F', ρ4, (e2.trans e3.ff).trans e', R', ResS.mono h2 (e3.ff.trans e')⟩
        | ct ρ4 =>
          rw [q3] at h2
          exact fun σ' F' H' e' R' => ⟨F', ρ4, (e2.trans e3.ff).trans e', R', ResS.mono h2 (e3.ff.trans e')⟩
        | bk ρ4 =>
          rw [q3] at h2
          exact ResS.mono (o := .nx ρ4) h2 e3.ff
        | rt d k => rw [q3] at h2; exact ResS.mono (o := .rt d k) h2 e3.ff
        | ex n fs ρ' => rw [q3] at h2; exact ResS.mono (o := .ex n fs ρ') h2 e3.ff
        | no => rw [q3] at h2; exact h2
    · have ei : i = ds.length := by omega
      subst ei
      rw [List.drop_length] at h2
      exact .inl ⟨wk.stop F2 H2 e2 R2.sub (fun z => by cases z), h2 σ2 F2 H2 (.refl _) R2⟩
/-- while -/
theorem gs_while {body : List Stmt} {u : SS} (hp : PassesOwn (model X.prog X.w) X.A X.env X.xe) (ht : PT X e (tTv c L W tst)) (hb : PSs X body (tSv c L W u)) : PS X (.While e body [] pos) (tSv c L W (G.sWhile tst u)) := by
  refine ps_ev (ps_while hp ht hb) fun E σ H h => ?_
  obtain ⟨F, ρ, R, h⟩ := h
  refine ⟨fun m σ2 H2 => ∃ F2 ρ2, Rel c.θ c.F0 c.B L F2 H2 σ2 ρ2 ∧ ResS c L W F2 E (whileL tst u m ρ2), ⟨FU, F, ρ, R, h⟩, ?_⟩
  rintro m σ2 H2 ⟨F2, ρ2, R2, h2⟩
  cases m with
  | zero => exact h2.elim
  | succ m =>
    refine tTv_of R2 ?_
    unfold whileL at h2
    cases q : tst ρ2 with
    | no => rw [q] at h2; exact h2
    | ex n fs =>
      rw [q] at h2
      exact fun cls dd F' H' e' hv => h2 cls dd σ2 F' H' e'.ff (R2.ext e') hv
    | ok b =>
      rw [q] at h2
      intro F' H' e'
      cases b with
      | false => exact iteF (h2 σ2 F' H' e'.ff (R2.ext e'))
      | true =>
        refine iteT ⟨fun σ3 H3 => ∃ F3 ρ3, Rel c.θ c.F0 c.B L F3 H3 σ3 ρ3 ∧ ResS c L W F3 E (whileL tst u m ρ3), fun σ3 H3 nx => ⟨m, Nat.lt_succ_self _, nx⟩, F', ρ2, R2.ext e', ?_⟩
        replace h2 : ResS c L W F2 E (match u ρ2 with
          | .nx ρ2 => whileL tst u m ρ2
          | .ct ρ2 => whileL tst u m ρ2
          | .bk ρ2 => .nx ρ2
          | o => o) := h2
        cases q3 : u ρ2 with
        | nx ρ4 =>
          rw [q3] at h2
          exact fun σ' F3 H' e3 R' => ⟨F3, ρ4, R', ResS.mono h2 (e'.ff.trans e3)⟩
        | ct ρ4 =>
          rw [q3] at h2
          exact fun σ' F3 H' e3 R' => ⟨F3, ρ4, R', ResS.mono h2 (e'.ff.trans e3)⟩
        | bk ρ4 =>
          rw [q3] at h2
          exact ResS.mono (o := .nx ρ4) h2 e'.ff
        | rt d k => rw [q3] at h2; exact ResS.mono (o := .rt d k) h2 e'.ff
        | ex n fs ρ' => rw [q3] at h2; exact ResS.mono (o := .ex n fs ρ') h2 e'.ff
        | no => rw [q3] at h2; exact h2
end
end G
/-! G: statements that change a slot's own object; a, b = ..; op=; raise. -/
namespace G
open PySem PySem.Spec L2
/-- a, b = e, e' of two locals on a line -/
def sPar (o1 o2 : Bool) (i j : Nat) (f g : ES) : SS := fun ρ => sWith (f ρ) ρ fun x => sWith (g ρ) ρ fun y => match asg o1 i x ρ with
  | .nx ρ1 => asg o2 j y ρ1
  | o => o
/-- x.m(e), x.m() on a slot's own list -/
def sOwL (i : Nat) (k : List D → D → Option (List D)) (f : ES) : SS := fun ρ => match ρ[i]? with
  | some (.ow (.lst xs)) => sWith (f ρ) ρ fun y => if y.2.solid then (match k xs y.1 with
    | some ys => .nx (ρ.set i (.ow (.lst ys)))
    | none => .no) else .no
  | _ => .no
def sOwL0 (i : Nat) (k : List D → Option (List D)) : SS := fun ρ => match ρ[i]? with
  | some (.ow (.lst xs)) => (match k xs with
    | some ys => .nx (ρ.set i (.ow (.lst ys)))
    | none => .no)
  | _ => .no
def kAp (xs : List D) (y : D) : Option (List D) := if xs.length < SZ then some (xs ++ [y]) else none
def kCl (_ : List D) : Option (List D) := some []
/-- a slot's own object is no more its own: nothing is done -/
def sFrz (i : Nat) : SS := fun ρ => match ρ[i]? with
  | some (.ow d) => .nx (ρ.set i (.va d))
  | _ => .nx ρ
/-- ds with what stands at a key changed, or put at the end -/
def putD {κ : Type} [DecidableEq κ] (k : κ) (d : D) (ks : List κ) (ds : List D) : List κ × List D :=
  if k ∈ ks then (ks, List.zipWith (fun x y => if x = k then d else y) ks ds) else (ks ++ [k], ds ++ [d])
def kPut : D → D → D → Option D
  | .lst xs, .int n, v => (ixN xs.length n).map fun j => .lst (xs.set j v)
  | .dK ks ds, k, v => match keyOf k with
    | some x => if ks.length < SZ then some (.dK (putD x v ks ds).1 (putD x v ks ds).2) else none
    | none => none
  | .dT ks ds, k, v => match tkeyOf k with
    | some x => if ks.length < SZ then some (.dT (putD x v ks ds).1 (putD x v ks ds).2) else none
    | none => none
  | _, _, _ => none
/-- x[e] = e' on a slot's own object -/
def sPut (i : Nat) (fk fv : ES) : SS := fun ρ => sWith (fv ρ) ρ fun v => if v.2.solid then (match ρ[i]? with
  | some (.ow d) => sWith (fk ρ) ρ fun k => (match kPut d k.1 v.1 with
    | some d' => .nx (ρ.set i (.ow d'))
    | none => .no)
  | _ => .no) else .no
section
variable {X : Cx} {c : Cn} {L : List Addr} {W : WX} {f g : ES} {a b e tg iter : Expr} {pos p : Pos} {s : IS} {t : Tg} {tst : TSm} {F F1 H H1 : Hp} {σ : L2.St} {ρ : Sl} {En : Ends}
/-- a slot's own object, changed in place -/
theorem Rel.mut {i : Nat} {d d' : D} {a : Addr} {o' : HO} (R : Rel c.θ c.F0 c.B L F H σ ρ) (hs : ρ[i]? = some (.ow d)) (ha : σ[i]? = some (some (.ref a))) (hn : notObj d' = true) (r : Root c.θ F d' o') : Rel c.θ c.F0 c.B L F (upd H a o') σ (ρ.set i (.ow d')) := by
  obtain ⟨a2, o2, y1, y2, y3, y4, y5⟩ := R.ow i d hs
  rw [ha] at y1
  cases y1
  have keep : ∀ {b : Addr} {u : HO}, F b = some u → b ≠ a := fun h z => by
    subst z
    rw [y3] at h
    cases h
  have keepB : ∀ {b : Addr} {u : HO}, c.B b = some u → b ≠ a := fun h z => by
    subst z
    rw [y4] at h
    cases h
  have R2 := R.put (F' := F) (H' := upd H a o') (i := i) (v := .ref a) (sl := .ow d') (fun b u h => by rw [upd_ne (keep h)]; exact R.sub b u h) (fun b u h => by rw [upd_ne (keepB h)]; exact R.kp b u h) (.refl _) R.fn
    (fun j a3 o3 hj ho hs3 h3 n3 => ?_) (fun _ h => by cases h) (fun e h => ?_) (fun _ _ h => by cases h) (fun Z hZ j k d2 hj hp b hb => by
      have nb : b ≠ a := fun z => by
        subst z
        exact (hZ j k d2 hp).2.2.2.1 i b (.inl ⟨d, hs⟩) ha hb
      exact ⟨upd_ne nb, rfl, fun _ z => by cases z; exact nb rfl⟩) (tp := fun b xs h => by
      rw [upd_ne fun z => ?_]
      · exact h
      · subst z
        rw [y2] at h
        cases h
        cases y5)
  · have e : σ.set i (some (.ref a)) = σ := List.ext_getElem? fun j => by
      by_cases q : i = j
      · subst q
        rw [List.getElem?_set_self (List.getElem?_eq_some_iff.mp ha).1, ha]
      · rw [List.getElem?_set_ne q]
    rwa [e] at R2
  · have ne : a3 ≠ a := fun z => by
      subst z
      rcases ho with ⟨d3, hd⟩ | ⟨k, ds, hd⟩
      · exact R.dj i j d d3 a3 hj.symm hs hd ha hs3
      · obtain ⟨⟨a4, _, z1, _, _, _, _, _, z6⟩, _⟩ := R.me j k ds hd
        rw [hs3] at z1
        cases z1
        exact z6 i d hs ha
    exact ⟨by rw [upd_ne ne]; exact h3, n3⟩
  · cases h
    refine ⟨?_, a, o', rfl, upd_same, y3, y4, r, fun j hj ho hs3 => ?_⟩
    · cases d' <;> first | trivial | cases hn
    · rcases ho with ⟨d3, hd⟩ | ⟨k, ds, hd⟩
      · exact R.dj i j d d3 a hj.symm hs hd ha hs3
      · obtain ⟨⟨a4, _, z1, _, _, _, _, _, z6⟩, _⟩ := R.me j k ds hd
        rw [hs3] at z1
        cases z1
        exact z6 i d hs ha
/-- the slot's own object as a value -/
theorem ow_val {i : Nat} {d : D} (R : Rel c.θ c.F0 c.B L F H σ ρ) (hs : ρ[i]? = some (.ow d)) : ∃ a o, σ[i]? = some (some (.ref a)) ∧ H a = some o ∧ F a = none ∧ Root c.θ F d o := by
  obtain ⟨a, o, y1, y2, y3, _, y5⟩ := R.ow i d hs
  exact ⟨a, o, y1, y2, y3, y5⟩
/-- .. is frozen -/
theorem Rel.frz {i : Nat} {d : D} (R : Rel c.θ c.F0 c.B L F H σ ρ) (hs : ρ[i]? = some (.ow d)) : ∃ F2, Same F F2 ∧ Rel c.θ c.F0 c.B L F2 H σ (ρ.set i (.va d)) := by
  obtain ⟨a, o, y1, y2, y3, y4, y5⟩ := R.ow i d hs
  have e2 : Same F (upd F a o) := Same.lay y3
  refine ⟨upd F a o, e2, ?_⟩
  have R2 := R.put (F' := upd F a o) (H' := H) (i := i) (v := .ref a) (sl := .va d) (fun b u h => ?_) R.kp e2 (fun b u h => ?_) (fun j a3 o3 hj ho hs3 h3 n3 => ⟨h3, ?_⟩) (fun e h => ?_) (fun _ h => by cases h) (fun _ _ h => by cases h) (fun Z hZ j k d2 hj hp b hb => by
      have nb : b ≠ a := fun z => by
        subst z
        exact (hZ j k d2 hp).2.2.2.1 i b (.inl ⟨d, hs⟩) y1 hb
      exact ⟨rfl, upd_ne nb, fun z => by rcases z with ⟨_, z⟩ | ⟨_, _, z⟩ <;> cases z⟩)
  · have e : σ.set i (some (.ref a)) = σ := List.ext_getElem? fun j => by
      by_cases q : i = j
      · subst q
        rw [List.getElem?_set_self (List.getElem?_eq_some_iff.mp y1).1, y1]
      · rw [List.getElem?_set_ne q]
    rwa [e] at R2
  · by_cases hb : b = a
    · subst hb
      rw [upd_same] at h
      cases h
      exact .inl y2
    · rw [upd_ne hb] at h
      exact R.sub b u h
  · by_cases hb : b = a
    · subst hb
      exact .inr y4
    · rw [upd_ne hb] at h
      exact R.fn b u h
  · have ne : a3 ≠ a := fun z => by
      subst z
      rcases ho with ⟨d3, hd⟩ | ⟨k, ds, hd⟩
      · exact R.dj i j d d3 a3 hj.symm hs hd y1 hs3
      · obtain ⟨⟨a4, _, z1, _, _, _, _, _, z6⟩, _⟩ := R.me j k ds hd
        rw [hs3] at z1
        cases z1
        exact z6 i d hs y1
    rw [upd_ne ne]
    exact n3
  · cases h
    exact y5.frozen y3 (Full.of (R.fu i d hs))
theorem gs_frz {st : Stmt} {u : SS} (i : Nat) (h : PS X st (tSv c L W u)) : PS X st (tSv c L W (sSeq (sFrz i) u)) := by
  refine ps_ev h fun E σ H h => ?_
  obtain ⟨F, ρ, R, h⟩ := h
  replace h : ResS c L W F E (match sFrz i ρ with
    | .nx ρ' => u ρ'
    | o => o) := h
  unfold sFrz at h
  cases q : ρ[i]? with
  | none => rw [q] at h; exact ⟨F, ρ, R, h⟩
  | some sl =>
    rw [q] at h
    cases sl with
    | ow d =>
      obtain ⟨F2, e, R2⟩ := R.frz q
      exact ⟨F2, _, R2, ResS.mono h e⟩
    | un => exact ⟨F, ρ, R, h⟩
    | va d => exact ⟨F, ρ, R, h⟩
    | me n ds => exact ⟨F, ρ, R, h⟩
    | xc => exact ⟨F, ρ, R, h⟩
    | pv k d => exact ⟨F, ρ, R, h⟩
theorem gss_frz {st : List Stmt} {u : SS} (i : Nat) (h : PSs X st (tSv c L W u)) : PSs X st (tSv c L W (sSeq (sFrz i) u)) := by
  refine pss_ev h fun E σ H h => ?_
  obtain ⟨F, ρ, R, h⟩ := h
  replace h : ResS c L W F E (match sFrz i ρ with
    | .nx ρ' => u ρ'
    | o => o) := h
  unfold sFrz at h
  cases q : ρ[i]? with
  | none => rw [q] at h; exact ⟨F, ρ, R, h⟩
  | some sl =>
    rw [q] at h
    cases sl with
    | ow d =>
      obtain ⟨F2, e, R2⟩ := R.frz q
      exact ⟨F2, _, R2, ResS.mono h e⟩
    | un => exact ⟨F, ρ, R, h⟩
    | va d => exact ⟨F, ρ, R, h⟩
    | me n ds => exact ⟨F, ρ, R, h⟩
    | xc => exact ⟨F, ρ, R, h⟩
    | pv k d => exact ⟨F, ρ, R, h⟩
theorem rd_owL {i : Nat} {k : List D → D → Option (List D)} {r : V → List V → Hp → VK → Prop} {K : PySem.W.Frag}
    (hr : ∀ (F H : Hp) (a : Addr) (xs : List V) (ds es : List D) (y : D) (v : V) (Q : VK), H a = some (.lst xs) → RepL c.θ F ds xs → Rep c.θ F y v → k ds y = some es → (∀ ys, RepL c.θ F es ys → Q .non (upd H a (.lst ys))) → r (.ref a) [v] H Q)
    {E : Ends} (h : tSv c L W (sOwL i k f) E σ H) : tDrop (tBM K "list" r (tVar i) (tCons (tEv c L W f) tNil)) E σ H := by
  obtain ⟨F, ρ, R, h⟩ := h
  unfold sOwL at h
  cases q : ρ[i]? with
  | none => rw [q] at h; exact h.elim
  | some sl =>
    rw [q] at h
    cases sl with
    | ow d =>
      cases d <;> first | exact (show False from h).elim | skip
      rename_i ds
      obtain ⟨a, o, h1, h2, h3, ro⟩ := ow_val R q
      cases ro with
      | @lst xs _ rl =>
      refine ⟨_, h1, .inl ⟨rfl, xs, .inl (.inl h2)⟩, ?_⟩
      refine sv_with R h fun d kd x F1 H1 ef e1 hv R1 h1' => ?_
      replace h1' : ResS c L W F1 E (if kd.solid = true then (match (generalizing := false) k ds d with
          | some ys => .nx (ρ.set i (.ow (.lst ys)))
          | none => .no) else .no) := h1'
      by_cases so : kd.solid = true
      · rw [if_pos so] at h1'
        obtain ⟨F2, e2, s2, rp⟩ := Val.sol R e1 hv so
        cases q2 : k ds d with
        | none => rw [q2] at h1'; exact h1'.elim
        | some ys =>
          rw [q2] at h1'
          exact hr F2 H1 a xs ds ys d x _ (e2.hh _ _ h2) (rl.mono e2.ff) rp q2 fun zs rz => h1' σ F2 _ s2 ((R.ext e2).mut q h1 rfl (.lst rz))
      · rw [if_neg so] at h1'
        exact h1'.elim
    | un => exact h.elim
    | va d => exact h.elim
    | me n ds => exact h.elim
    | xc => exact h.elim
    | pv k d => exact h.elim
theorem rd_owL0 {i : Nat} {k : List D → Option (List D)} {r : V → List V → Hp → VK → Prop} {K : PySem.W.Frag}
    (hr : ∀ (F H : Hp) (a : Addr) (xs : List V) (ds es : List D) (Q : VK), H a = some (.lst xs) → RepL c.θ F ds xs → k ds = some es → (∀ ys, RepL c.θ F es ys → Q .non (upd H a (.lst ys))) → r (.ref a) [] H Q)
    {E : Ends} (h : tSv c L W (sOwL0 i k) E σ H) : tDrop (tBM0 K "list" r (tVar i)) E σ H := by
  obtain ⟨F, ρ, R, h⟩ := h
  unfold sOwL0 at h
  cases q : ρ[i]? with
  | none => rw [q] at h; exact h.elim
  | some sl =>
    rw [q] at h
    cases sl with
    | ow d =>
      cases d <;> first | exact (show False from h).elim | skip
      rename_i ds
      obtain ⟨a, o, h1, h2, h3, ro⟩ := ow_val R q
      cases ro with
      | @lst xs _ rl =>
      refine ⟨_, h1, .inl ⟨rfl, xs, .inl (.inl h2)⟩, ?_⟩
      replace h : ResS c L W F E (match (generalizing := false) k ds with
          | some ys => .nx (ρ.set i (.ow (.lst ys)))
          | none => .no) := h
      cases q2 : k ds with
      | none => rw [q2] at h; exact h.elim
      | some ys =>
        rw [q2] at h
        exact hr F H a xs ds ys _ h2 rl q2 fun zs rz => h σ F _ (.refl _) (R.mut q h1 rfl (.lst rz))
    | un => exact h.elim
    | va d => exact h.elim
    | me n ds => exact h.elim
    | xc => exact h.elim
    | pv k d => exact h.elim
theorem gs_append {i : Nat} {x : Str} {apos cpos : Pos} (ha : PE X e (tEv c L W f)) (hx : Loc X.env.scope x) (hf : X.fn x = true ∨ X.env.scope.names.lookup x = some .local := by exact Or.inl rfl) (hi : X.N[i]? = some x := by rfl) (hd : (x == ("__debug__" : Str)) = false := by decide) (hcd : (x == ("__classdict__" : Str)) = false := by decide)
    (hs : swapsWith (.Call (.Attribute (.Name x p) "append" apos) [e] [] cpos) none pos.line X.env = pure false := by rfl)
    (hbase : attributeBase (.Name x p) "append" X.env (eval (.Name x p) X.env) = eval (.Name x p) X.env := by rfl)
    (hfew : ((backTo cpos (starEach [e] X.env)).all (fun x => !x.1) && (backToKw cpos (keywordEach [] X.env)).all (fun x => x.1.isSome)
      && decide ([e].length + ([] : List Keyword).length + (if ([] : List Keyword).isEmpty then 0 else 1) < 30)) = true := by rfl)
    (hline : (apos.endLine == cpos.line) = true := by rfl) (hst : starEach [e] X.env = (false, eval e X.env) :: starEach [] X.env := by rfl) : PS X (.Expr (.Call (.Attribute (.Name x p) "append" apos) [e] [] cpos) pos) (tSv c L W (sOwL i kAp f)) := by
  refine ps_ev (ps_expr (pe_bm PySem.F.plainAttrs_list PySem.F.slot_list_append PySem.F.type_list_append mt_append (pe_var hi (vis_of hx) hd hcd) (pa_cons ha pa_nil hst) hbase hfew hline hst rfl) hs) fun E σ H h => ?_
  refine rd_owL (fun F H a xs ds es y v Q h1 h2 h3 h4 h5 => ?_) h
  unfold kAp at h4
  by_cases q : ds.length < SZ
  · rw [if_pos q] at h4
    cases h4
    exact ⟨a, xs, v, rfl, rfl, h1, by rw [h2.length]; exact Nat.lt_of_lt_of_le q SZ_le, h5 _ (h2.append (.cons h3 .nil))⟩
  · rw [if_neg q] at h4
    cases h4
theorem gs_clear {i : Nat} {x : Str} {apos cpos : Pos} (hx : Loc X.env.scope x) (hf : X.fn x = true ∨ X.env.scope.names.lookup x = some .local := by exact Or.inl rfl) (hi : X.N[i]? = some x := by rfl) (hd : (x == ("__debug__" : Str)) = false := by decide) (hcd : (x == ("__classdict__" : Str)) = false := by decide)
    (hs : swapsWith (.Call (.Attribute (.Name x p) "clear" apos) [] [] cpos) none pos.line X.env = pure false := by rfl)
    (hbase : attributeBase (.Name x p) "clear" X.env (eval (.Name x p) X.env) = eval (.Name x p) X.env := by rfl)
    (hline : (apos.endLine == cpos.line) = true := by rfl) : PS X (.Expr (.Call (.Attribute (.Name x p) "clear" apos) [] [] cpos) pos) (tSv c L W (sOwL0 i kCl)) := by
  refine ps_ev (ps_expr (pe_bm0 PySem.F.plainAttrs_list PySem.F.slot_list_clear PySem.F.type_list_clear mt_clear (pe_var hi (vis_of hx) hd hcd) hbase hline) hs) fun E σ H h => ?_
  refine rd_owL0 (fun F H a xs ds es Q h1 h2 h4 h5 => ?_) h
  cases h4
  exact ⟨a, xs, rfl, rfl, h1, h5 _ .nil⟩
end
end G
/-! G: a, b = ..; op=; d[k] = v; self.f = e; raise. -/
namespace G
open PySem PySem.Spec L2
/-- x op= e of ints -/
def sAugI (op : Int → Int → Int) (i : Nat) (f : ES) : SS := fun ρ => match ρ[i]? with
  | some (.va (.int a)) => sWith (f ρ) ρ fun y => (match y.1 with
    | .int b => .nx (ρ.set i (.va (.int (op a b))))
    | _ => .no)
  | _ => .no
/-- raise C() -/
def sRaise (n : Nat) : SS := fun ρ => .ex n [] ρ
section
variable {X : Cx} {c : Cn} {L : List Addr} {W : WX} {f g : ES} {a b e tg iter : Expr} {pos p : Pos} {s : IS} {t : Tg} {tst : TSm} {F F1 H H1 : Hp} {σ : L2.St} {ρ : Sl} {En : Ends}
theorem gs_augI {op : Operator} {fo : Int → Int → Int} {i : Nat} {x : Str} {pos' : Pos} (ho : PIp X op (ipI fo)) (hN : X.N.Nodup) (ha : PE X e (tEv c L W f)) (hx : Loc X.env.scope x) (hf : X.fn x = true ∨ X.env.scope.names.lookup x = some .local := by exact Or.inl rfl) (hi : X.N[i]? = some x := by rfl) :
    PS X (.AugAssign (.Name x pos') op e pos) (tSv c L W (sAugI fo i f)) := by
  refine ps_ev (ps_aug hN hi hx ha ho hf) fun E σ H h => ?_
  obtain ⟨F, ρ, R, h⟩ := h
  unfold sAugI at h
  cases q : ρ[i]? with
  | none => rw [q] at h; exact h.elim
  | some sl =>
    rw [q] at h
    cases sl with
    | va d =>
      cases d <;> first | exact (show False from h).elim | skip
      rename_i n
      obtain ⟨v, h1, h2⟩ := R.va i _ q
      cases h2
      refine ⟨_, h1, ?_⟩
      refine sv_with R h fun d kd x F1 H1 ef e1 hv R1 h1' => ?_
      obtain ⟨F2, e2, s2, rd, _⟩ := Val.use R e1 hv
      replace h1' : ResS c L W F1 E (match (generalizing := false) d with
        | .int b => .nx (ρ.set i (.va (.int (fo n b))))
        | _ => .no) := h1'
      clear ef hv
      cases d <;> first | exact (show False from h1').elim | skip
      cases rd.int
      exact ⟨n, _, rfl, rfl, h1' _ F1 H1 (.refl _) (R1.set (.int _))⟩
    | un => exact h.elim
    | ow d => exact h.elim
    | me n ds => exact h.elim
    | xc => exact h.elim
    | pv k d => exact h.elim
/-- a slot takes a root that nobody owns -/
theorem Rel.takeOw {i : Nat} {d : D} {a : Addr} {o : HO} (R : Rel c.θ c.F0 c.B L F H σ ρ) (h : H a = some o) (nf : F a = none) (nb : c.B a = none) (ro : Root c.θ F d o) (fu : notObj d = true)
    (ow : ∀ j : Nat, j ≠ i → ((∃ d, ρ[j]? = some (.ow d)) ∨ ∃ k ds, ρ[j]? = some (.me k ds)) → σ[j]? ≠ some (some (.ref a))) (pv : ∀ Z, PvAll c.θ c.B F H σ ρ Z → ∀ (j : Nat) (k : Sh) (d : D), j ≠ i → ρ[j]? = some (.pv k d) → a ∉ Z j) : Rel c.θ c.F0 c.B L F H (σ.set i (some (.ref a))) (ρ.set i (.ow d)) := by
  refine R.put R.sub R.kp (.refl _) R.fn (fun _ _ _ _ _ _ h n => ⟨h, n⟩) (fun e h => by cases h) (fun d' e => ?_) (fun _ _ h => by cases h) fun Z hZ j k d hj hp b hb => ⟨rfl, rfl, fun _ z => by cases z; exact pv Z hZ j k d hj hp hb⟩
  cases e
  exact ⟨fu, a, o, rfl, h, nf, nb, ro, ow⟩
theorem Rel.owner {j : Nat} {a : Addr} (R : Rel c.θ c.F0 c.B L F H σ ρ) (h : Owner ρ j) (hs : σ[j]? = some (some (.ref a))) : ∃ o, H a = some o := by
  rcases h with ⟨d, hd⟩ | ⟨k, ds, hd⟩
  · obtain ⟨a2, o2, y1, y2, _⟩ := R.ow j d hd
    rw [hs] at y1
    cases y1
    exact ⟨_, y2⟩
  · obtain ⟨⟨a2, o2, y1, y2, _⟩, _⟩ := R.me j k ds hd
    rw [hs] at y1
    cases y1
    exact ⟨_, y2⟩
theorem Owner.va {i l : Nat} {d : D} (h : Owner (ρ.set i (.va d)) l) : l ≠ i ∧ Owner ρ l := by
  have ne : l ≠ i := fun e => by
    subst e
    have at_ : ∀ {x : Slot}, (ρ.set l (.va d))[l]? = some x → x = .va d := fun {x} e => by
      have hl := (List.getElem?_eq_some_iff.mp e).1
      rw [List.length_set] at hl
      rw [List.getElem?_set_self hl] at e
      exact (Option.some.inj e).symm
    rcases h with ⟨d2, h⟩ | ⟨k, ds, h⟩ <;> cases at_ h
  refine ⟨ne, ?_⟩
  unfold Owner at h ⊢
  rwa [List.getElem?_set_ne (Ne.symm ne)] at h
theorem gs_par {o1 o2 : Bool} {i j : Nat} {x y : Str} {px py pt : Pos} {kt k2 pt2} (hc : X.calm = true) (hN : X.N.Nodup) (hij : i ≠ j) (ha : PE X a (tEv c L W f)) (hb : PE X b (tEv c L W g))
    (hw : swappedStores [.Tuple [.Name x px, .Name y py] kt pt] (.Tuple [a, b] k2 pt2) X.env = pure (some [x, y]))
    (hi : X.N[i]? = some x := by rfl) (hj : X.N[j]? = some y := by rfl) (hx : X.env.scope.names.lookup x = some .local := by rfl) (hy : X.env.scope.names.lookup y = some .local := by rfl)
    (hs : swapsWithSole [.Tuple [.Name x px, .Name y py] kt pt] (.Tuple [a, b] k2 pt2) pos.line X.env = pure false := by rfl)
    (hs1 : starEach [a, b] X.env = (false, eval a X.env) :: starEach [b] X.env := by rfl) (hs2 : starEach [b] X.env = (false, eval b X.env) :: starEach [] X.env := by rfl) :
    PS X (.Assign [.Tuple [.Name x px, .Name y py] kt pt] (.Tuple [a, b] k2 pt2) pos) (tSv c L W (sPar o1 o2 i j f g)) := by
  refine ps_ev (ps_par hc hN hi hj hij hx hy (pa_cons ha (pa_cons hb pa_nil hs2) hs1) hw hs) fun E σ H h => ?_
  obtain ⟨F, ρ, R, h⟩ := h
  refine sv_with R h fun d kd v F1 H1 ef e1 hv R1 h1 => ?_
  clear ef h
  refine sv_with R1 h1 fun d2 kd2 v2 F2 H2 ef2 e2 hv2 R2 h2 => ?_
  clear ef2 h1
  refine ⟨v, v2, rfl, ?_⟩
  have e12 := e1.trans e2
  replace h2 : ResS c L W F2 E (match asg o1 i (d, kd) ρ with
    | .nx ρ1 => asg o2 j (d2, kd2) ρ1
    | o => o) := h2
  have frs : ∀ {a : Addr}, F a = none ∨ True → F1 a = none → (∃ o, H1 a = some o) → F2 a = none := fun {a} _ nf ⟨o, h⟩ => by
    cases q : F2 a with
    | none => rfl
    | some u =>
      rcases e2.nw a u q with z | z
      · rw [nf] at z; cases z
      · rw [h] at z; cases z
  by_cases q : i < ρ.length
  · -- the first store
    have first : ∃ F3 ρ1, asg o1 i (d, kd) ρ = .nx ρ1 ∧ Same F2 F3 ∧ Rel c.θ c.F0 c.B L F3 H2 (σ.set i (some v)) ρ1 ∧ ρ1.length = ρ.length ∧ (∀ a, H1 a = none → F2 a = none → F3 a = none) ∧
        (∀ (l : Nat) (a : Addr), Owner ρ1 l → (σ.set i (some v))[l]? = some (some (.ref a)) → ∃ o, H1 a = some o) ∧ ∀ (l : Nat) (k : Sh) (d : D), ρ1[l]? = some (.pv k d) → l ≠ i ∧ ρ[l]? = some (.pv k d) := by
      have pvs : ∀ {sl : Slot}, (∀ k d, sl ≠ .pv k d) → ∀ (l : Nat) (k : Sh) (d : D), (ρ.set i sl)[l]? = some (.pv k d) → l ≠ i ∧ ρ[l]? = some (.pv k d) := fun {sl} hn l k d h => by
        by_cases e : i = l
        · subst e
          rw [List.getElem?_set_self q] at h
          exact absurd (Option.some.inj h) (hn k d)
        · rw [List.getElem?_set_ne e] at h
          exact ⟨fun z => e z.symm, h⟩
      have old : ∀ {l : Nat} {a : Addr}, l ≠ i → Owner ρ l → (σ.set i (some v))[l]? = some (some (.ref a)) → ∃ o, H1 a = some o := fun {l a} hl ho hs => by
        rw [List.getElem?_set_ne (Ne.symm hl)] at hs
        obtain ⟨o, z⟩ := R.owner ho hs
        exact ⟨o, e1.hh _ _ z⟩
      unfold asg at h2 ⊢
      rw [if_pos q] at h2 ⊢
      cases kd with
      | sh => exact ⟨F2, _, rfl, .refl _, R2.set ((show Rep c.θ F1 d v from hv).mono e2.ff), by simp, fun _ _ h => h, fun l a ho hs => old ho.va.1 ho.va.2 hs, pvs fun _ _ h => by cases h⟩
      | fr =>
        obtain ⟨fu, a, o, rfl, n, h, nf, ro, _⟩ := (show FrV c.θ F1 H H1 d v from hv)
        have nf2 := frs (.inr trivial) nf ⟨o, h⟩
        have h' := e2.hh _ _ h
        have ro' := ro.mono e2.ff
        cases o1 with
        | true =>
          have no : notObj d = true := by
            by_cases z : notObj d = true
            · exact z
            · exfalso
              replace h2 : ResS c L W F2 E (match (if notObj d = true then Fl.nx (ρ.set i (.ow d)) else .no) with
                | .nx ρ1 => asg o2 j (d2, kd2) ρ1
                | o => o) := h2
              rw [if_neg z] at h2
              exact h2
          refine ⟨F2, _, if_pos no, .refl _, R.setOw e12 ⟨fu, a, o, rfl, n, h', nf2, ro', Nw.of no⟩ no, by simp, fun _ _ h => h, fun l b ho hs => ?_, pvs fun _ _ h => by cases h⟩
          by_cases hl : l = i
          · subst hl
            rw [List.getElem?_set_self (by rw [R.len]; exact q)] at hs
            cases hs
            exact ⟨o, h⟩
          · refine old hl ?_ hs
            unfold Owner at ho ⊢
            rwa [List.getElem?_set_ne (fun e => hl e.symm)] at ho
        | false =>
          have x3 := Ext.freeze e12.sub h' nf2 H e12.hh n F e12
          refine ⟨upd F2 a o, _, rfl, Same.lay nf2, (R.ext x3).set (ro'.frozen nf2 fu), by simp, fun b hb hb2 => ?_, fun l b ho hs => old ho.va.1 ho.va.2 hs, pvs fun _ _ h => by cases h⟩
          rw [upd_ne fun z => ?_]
          · exact hb2
          · subst z
            rw [h] at hb
            cases hb
      | «at» n => exact h2.elim
      | tr n => exact h2.elim
    obtain ⟨F3, ρ1, ea, s3, R3, l3, nf3, ow3, pv3⟩ := first
    have pvo : ∀ Z, PvAll c.θ c.B F3 H2 (σ.set i (some v)) ρ1 Z → ∀ (l : Nat) (k : Sh) (d : D), ρ1[l]? = some (.pv k d) → ∀ b ∈ Z l, ∃ o, H1 b = some o := fun Z hZ l k d hp b hb => by
      obtain ⟨hl, hp0⟩ := pv3 l k d hp
      obtain ⟨o, ho⟩ := R.pvOld' (σ1 := σ.set i (some v)) (e12.ff.trans s3) e12.hh (List.getElem?_set_ne (Ne.symm hl)) hp0 (hZ l k d hp).1 hb
      exact ⟨o, e1.hh _ _ ho⟩
    rw [ea] at h2
    replace h2 : ResS c L W F2 E (asg o2 j (d2, kd2) ρ1) := h2
    unfold asg at h2
    by_cases q2 : j < ρ1.length
    · rw [if_pos q2] at h2
      cases kd2 with
      | sh => exact h2 _ F3 H2 s3 (R3.set ((show Rep c.θ F2 d2 v2 from hv2).mono s3))
      | fr =>
        obtain ⟨fu, a, o, rfl, n, h, nf, ro, _⟩ := (show FrV c.θ F2 H1 H2 d2 v2 from hv2)
        have nf' := nf3 a n nf
        have nb := R1.noneB n
        cases o2 with
        | true =>
          obtain ⟨no, h2⟩ := ResS.ite (show ResS c L W F2 E (if notObj d2 = true then .nx (ρ1.set j (.ow d2)) else .no) from h2)
          refine h2 _ F3 H2 s3 (R3.takeOw h nf' nb (ro.mono s3) no (fun l hl ho hs => ?_) fun Z hZ l k d hl hp hb => ?_)
          · obtain ⟨u, z⟩ := ow3 l a ho hs
            rw [n] at z
            cases z
          · obtain ⟨u, z⟩ := pvo Z hZ l k d hp a hb
            rw [n] at z
            cases z
        | false =>
          have s4 : Same F3 (upd F3 a o) := Same.lay nf'
          refine h2 _ (upd F3 a o) H2 (s3.trans s4) ?_
          have x4 : Ext F3 H2 (upd F3 a o) H2 → True := fun _ => trivial
          refine R3.put (fun b u hb => ?_) R3.kp s4 (fun b u hb => ?_) (fun l b u hl ho hs hb nb' => ⟨hb, ?_⟩) (fun e he => ?_) (fun e he => by cases he) (fun _ _ he => by cases he) fun Z hZ l k d hl hp b hb => ⟨rfl, upd_ne fun z => ?_, fun z => by rcases z with ⟨_, z⟩ | ⟨_, _, z⟩ <;> cases z⟩
          rotate_right
          · subst z
            obtain ⟨u, z⟩ := pvo Z hZ l k d hp b hb
            rw [n] at z
            cases z
          · by_cases z : b = a
            · subst z
              rw [upd_same] at hb
              cases hb
              exact .inl h
            · rw [upd_ne z] at hb
              exact R3.sub b u hb
          · by_cases z : b = a
            · subst z
              exact .inr nb
            · rw [upd_ne z] at hb
              exact R3.fn b u hb
          · rw [upd_ne fun z => ?_]
            · exact nb'
            · subst z
              obtain ⟨u, z⟩ := ow3 l b ho hs
              rw [n] at z
              cases z
          · cases he
            exact (ro.mono s3).frozen nf' fu
      | «at» n => exact h2.elim
      | tr n => exact h2.elim
    · rw [if_neg q2] at h2
      exact h2.elim
  · unfold asg at h2
    rw [if_neg q] at h2
    exact h2.elim
end
end G
/-! G: d[k] = v; self.f = e; raise C(). -/
namespace G
open PySem PySem.Spec L2
section
variable {θ : Th} {F H : Hp}
theorem zip_put {κ : Type} [DecidableEq κ] {k : κ} {v : V} : ∀ {ks : List κ} {xs : List V}, ks.length = xs.length →
    (ks.zip xs).map (fun kv => if kv.1 = k then (kv.1, v) else kv) = ks.zip (List.zipWith (fun x y => if x = k then v else y) ks xs)
  | [], [], _ => rfl
  | x :: ks, y :: xs, h => by
    simp only [List.zip_cons_cons, List.map_cons, List.zipWith_cons_cons]
    rw [zip_put (by simpa using h)]
    by_cases q : x = k
    · rw [if_pos q, if_pos q]
    · rw [if_neg q, if_neg q]
theorem zip_any {κ : Type} [DecidableEq κ] {k : κ} : ∀ {ks : List κ} {xs : List V}, ks.length = xs.length → ((ks.zip xs).any fun kv => decide (kv.1 = k)) = decide (k ∈ ks)
  | [], [], _ => rfl
  | x :: ks, y :: xs, h => by
    rw [List.zip_cons_cons, List.any_cons, zip_any (by simpa using h)]
    by_cases q : x = k
    · simp [q]
    · simp [q, Ne.symm q, List.mem_cons, eq_comm]
theorem RepL.zipPut {κ : Type} [DecidableEq κ] {k : κ} {d : D} {v : V} (r : Rep θ F d v) : ∀ {ks : List κ} {ds : List D} {xs : List V}, RepL θ F ds xs → RepL θ F (List.zipWith (fun x y => if x = k then d else y) ks ds) (List.zipWith (fun x y => if x = k then v else y) ks xs)
  | [], _, _, _ => by simpa using RepL.nil
  | _ :: _, _, _, .nil => .nil
  | x :: ks, _, _, .cons a t => by
    rw [List.zipWith_cons_cons, List.zipWith_cons_cons]
    by_cases q : x = k
    · rw [if_pos q, if_pos q]; exact .cons r (RepL.zipPut r t)
    · rw [if_neg q, if_neg q]; exact .cons a (RepL.zipPut r t)
theorem put_rep {κ : Type} [DecidableEq κ] {k : κ} {d : D} {v : V} {ks : List κ} {ds : List D} {xs : List V} (r : Rep θ F d v) (l : ks.length = ds.length) (rl : RepL θ F ds xs) :
    ∃ ys, putK (ks.zip xs) k v = (putD k d ks ds).1.zip ys ∧ RepL θ F (putD k d ks ds).2 ys ∧ (putD k d ks ds).1.length = (putD k d ks ds).2.length := by
  have l2 : ks.length = xs.length := by rw [l, rl.length]
  unfold putK putD
  rw [zip_any l2]
  by_cases q : k ∈ ks
  · rw [if_pos (decide_eq_true q), if_pos q]
    exact ⟨_, zip_put l2, rl.zipPut r, by simp [l]⟩
  · rw [if_neg (by simpa using q), if_neg q]
    refine ⟨xs ++ [v], ?_, rl.append (.cons r .nil), by simp [l]⟩
    show ks.zip xs ++ [(k, v)] = (ks ++ [k]).zip (xs ++ [v])
    rw [List.zip_append l2]
    rfl
/-- a key's value -/
theorem keyOf_v {d : D} {k : Key} {v : V} (h : keyOf d = some k) (r : Rd1 θ F H d v) : v = kV k := by
  cases d <;> first | (cases h; done) | skip
  · cases h; exact r.int
  · cases h; exact r.str
theorem keysOf_v : ∀ {ds : List D} {ks : List Key} {vs : List V}, keysOf ds = some ks → RepL θ F ds vs → vs = ks.map kV
  | [], _, _, h, r => by cases h; cases r; rfl
  | d :: ds, ks, _, h, .cons (v := v) (vs := vs) a t => by
    unfold keysOf at h
    cases q : keyOf d with
    | none => rw [q] at h; cases h
    | some k =>
      rw [q] at h
      cases q2 : keysOf ds with
      | none => rw [q2] at h; cases h
      | some ks2 =>
        rw [q2] at h
        cases h
        rw [keysOf_v q2 t, keyOf_v (H := F) q (.inl a)]
        rfl
theorem tkeyOf_v {d : D} {k : List Key} {v : V} (s : Sub F H) (h : tkeyOf d = some k) (r : Rd1 θ F H d v) : ∃ b, v = .ref b ∧ H b = some (.tup (k.map kV)) := by
  cases d <;> first | (cases h; done) | skip
  rename_i ds
  obtain ⟨a, xs, rfl, ha, rl, _⟩ := r.tup s
  rw [keysOf_v h rl] at ha
  exact ⟨a, rfl, ha⟩
end
/-- a root stored into by values -/
def rPut : TSet := fun o i v H Q => rSetL o i v H Q ∨ rSetD o i v H Q
theorem set_put {X : Cx} (hu : X.A.units + 1 < cLine) : PSet X rPut := fun pins s σ H o i v ov iv u Q I ro ri rv h => by
  rcases h with h | h
  · exact set_list pins s σ H o i v ov iv u Q I ro ri rv h
  · exact set_dict hu pins s σ H o i v ov iv u Q I ro ri rv h
section
variable {X : Cx} {c : Cn} {L : List Addr} {W : WX} {f g : ES} {a b e o ix tg iter : Expr} {pos p : Pos} {s : IS} {t : Tg} {tst : TSm} {F F1 H H1 : Hp} {σ : L2.St} {ρ : Sl} {En : Ends}
theorem put_core {i : Nat} {d d' dk dv : D} {ad : Addr} {vk vv : V} {Q : Hp → Prop} (R : Rel c.θ c.F0 c.B L F H σ ρ) (hs : ρ[i]? = some (.ow d)) (ha : σ[i]? = some (some (.ref ad))) (hk : Rd1 c.θ F H dk vk) (hv : Rep c.θ F dv vv)
    (hp : kPut d dk dv = some d') (q : ∀ H', Rel c.θ c.F0 c.B L F H' σ (ρ.set i (.ow d')) → Q H') : rPut (.ref ad) vk vv H Q := by
  obtain ⟨a2, o2, y1, y2, y3, y4⟩ := ow_val R hs
  rw [ha] at y1
  cases y1
  cases y4 with
  | @lst xs ds rl =>
    cases dk <;> first | (cases hp; done) | skip
    rename_i n
    replace hp : (ixN ds.length n).map (fun j => D.lst (ds.set j dv)) = some d' := hp
    cases qj : ixN ds.length n with
    | none => rw [qj] at hp; cases hp
    | some j =>
      rw [qj] at hp
      cases hp
      exact .inl ⟨ad, xs, n, j, rfl, hk.int, y2, by rw [rl.length]; exact qj, q _ (R.mut hs ha rfl (.lst (rl.set j hv)))⟩
  | @dK ks xs ds l rl =>
    replace hp : (match keyOf dk with
      | some x => if ks.length < SZ then some (.dK (putD x dv ks ds).1 (putD x dv ks ds).2) else none
      | none => none) = some d' := hp
    cases qk : keyOf dk with
    | none => rw [qk] at hp; cases hp
    | some x =>
      rw [qk] at hp
      replace hp : (if ks.length < SZ then some (D.dK (putD x dv ks ds).1 (putD x dv ks ds).2) else none) = some d' := hp
      by_cases z : ks.length < SZ
      · rw [if_pos z] at hp
        cases hp
        obtain ⟨ys, e1, e2, e3⟩ := put_rep (k := x) hv l rl
        refine .inr ⟨ad, _, rfl, .inl ⟨ks.zip xs, x, y2, keyOf_v qk hk, ?_, rfl⟩, q _ ?_⟩
        · rw [List.length_zip, ← rl.length] at *
          exact Nat.lt_of_le_of_lt (Nat.min_le_left _ _) (Nat.lt_of_lt_of_le z SZ_le)
        · rw [e1]
          exact R.mut hs ha rfl (.dK e3 e2)
      · rw [if_neg z] at hp
        cases hp
  | @dT ks xs ds l rl =>
    replace hp : (match tkeyOf dk with
      | some x => if ks.length < SZ then some (.dT (putD x dv ks ds).1 (putD x dv ks ds).2) else none
      | none => none) = some d' := hp
    cases qk : tkeyOf dk with
    | none => rw [qk] at hp; cases hp
    | some x =>
      rw [qk] at hp
      replace hp : (if ks.length < SZ then some (D.dT (putD x dv ks ds).1 (putD x dv ks ds).2) else none) = some d' := hp
      by_cases z : ks.length < SZ
      · rw [if_pos z] at hp
        cases hp
        obtain ⟨ys, e1, e2, e3⟩ := put_rep (k := x) hv l rl
        obtain ⟨b, eb, hb⟩ := tkeyOf_v R.sub qk hk
        refine .inr ⟨ad, _, rfl, .inr ⟨ks.zip xs, x, b, y2, eb, hb, ?_, rfl⟩, q _ ?_⟩
        · exact Nat.lt_of_le_of_lt (by rw [List.length_zip]; exact Nat.min_le_left _ _) (Nat.lt_of_lt_of_le z SZ_le)
        · rw [e1]
          exact R.mut hs ha rfl (.dT e3 e2)
      · rw [if_neg z] at hp
        cases hp
  | obj l rl => cases hp
theorem gs_put {i : Nat} {x : Str} {pos' : Pos} (hu : X.A.units + 1 < cLine) (hb : PE X ix (tEv c L W f)) (ha : PE X e (tEv c L W g)) (hs : swapsWithSole [.Subscript (.Name x p) ix pos'] e pos.line X.env = pure false) (hw : swappedStores [.Subscript (.Name x p) ix pos'] e X.env = pure none)
    (h1 : (assignEach [.Subscript (.Name x p) ix pos'] X.env).map (·.2) = [assign (.Subscript (.Name x p) ix pos') X.env])
    (has : ∀ v, assign (.Subscript (.Name x p) ix pos') X.env v = (do
      let ov ← holding [v] (eval (.Name x p) X.env)
      let iv ← holding [v, ov] (eval ix X.env)
      standAt pos'
      holding [v, ov, iv] (setItem ov iv v)
      release [v, ov, iv] []))
    (hx : Loc X.env.scope x) (hf : X.fn x = true ∨ X.env.scope.names.lookup x = some .local := by exact Or.inl rfl) (hi : X.N[i]? = some x := by rfl) (hd : (x == ("__debug__" : Str)) = false := by decide) (hcd : (x == ("__classdict__" : Str)) = false := by decide) :
    PS X (.Assign [.Subscript (.Name x p) ix pos'] e pos) (tSv c L W (sPut i f g)) := by
  refine ps_ev (ps_asg ha (pg_sub (pe_var hi (vis_of hx) hd hcd) hb (set_put hu) has) hs hw h1) fun E σ H h => ?_
  obtain ⟨F, ρ, R, h⟩ := h
  refine sv_with R h fun d kd v F1 H1 ef e1 hv R1 h1 => ?_
  clear ef h
  replace h1 : ResS c L W F1 E (if kd.solid = true then (match ρ[i]? with
    | some (.ow d0) => sWith (f ρ) ρ fun k => (match kPut d0 k.1 d with
      | some d' => .nx (ρ.set i (.ow d'))
      | none => .no)
    | _ => .no) else .no) := h1
  by_cases so : kd.solid = true
  · rw [if_pos so] at h1
    obtain ⟨F2, e2, s2, rp⟩ := Val.sol R e1 hv so
    have R2 := R.ext e2
    cases q : ρ[i]? with
    | none => rw [q] at h1; exact h1.elim
    | some sl =>
      rw [q] at h1
      cases sl with
      | ow d0 =>
        obtain ⟨ad, ob, y1, y2, y3, y4⟩ := ow_val R2 q
        refine ⟨_, y1, ?_⟩
        have h1 : ResS c L W F2 E (sWith (f ρ) ρ fun k => (match kPut d0 k.1 d with
          | some d' => .nx (ρ.set i (.ow d'))
          | none => .no)) := ResS.mono h1 s2
        refine sv_with R2 h1 fun dk kk vk F3 H3 ef e3 hv3 R3 h3 => ?_
        clear ef h1
        obtain ⟨F4, e4, s4, rd, _⟩ := Val.use R2 e3 hv3
        replace h3 : ResS c L W F3 E (match kPut d0 dk d with
          | some d' => .nx (ρ.set i (.ow d'))
          | none => .no) := h3
        cases q2 : kPut d0 dk d with
        | none => rw [q2] at h3; exact h3.elim
        | some d' =>
          rw [q2] at h3
          exact put_core (R2.ext e4) q y1 rd (rp.mono e4.ff) q2 fun H' R' => h3 σ F4 H' s4 R'
      | un => exact h1.elim
      | va d => exact h1.elim
      | me n ds => exact h1.elim
      | xc => exact h1.elim
      | pv k d => exact h1.elim
  · rw [if_neg so] at h1
    exact h1.elim
/-! ### self.f = e in an __init__ -/
theorem putF_end {fn : Str} {v : V} : ∀ {fs : List (Str × V)}, (∀ q ∈ fs, q.1 ≠ fn) → putF fn v fs = fs ++ [(fn, v)]
  | [], _ => rfl
  | (g, x) :: r, h => by
    unfold putF
    rw [if_neg (h (g, x) List.mem_cons_self), putF_end fun q hq => h q (List.mem_cons_of_mem _ hq)]
    rfl
theorem Val.clean {d : D} {kd : Kd} {v : V} (hv : Val c.θ F1 H H1 σ ρ d kd v) (R : Rel c.θ c.F0 c.B L F H σ ρ) (e1 : Ext F H F1 H1) (so : G.clean d kd = true) : ∃ F2, Ext F H F2 H1 ∧ Same F1 F2 ∧ Rep c.θ F2 d v ∧ Rep c.θ (onlyN F2 c.B) d v := by
  rcases Bool.or_eq_true_iff.mp so with z | z
  · have r : Rep c.θ F1 d v := by
      cases kd with
      | sh => exact hv
      | fr => exact ((show FrV c.θ F1 H H1 d v from hv).notFlat z).elim
      | tr n => exact (show TrV c.θ F1 H H1 n d v from hv).flat z
      | «at» i =>
        obtain ⟨_, h2⟩ := (show _ ∧ _ from hv)
        obtain ⟨_, _, _, _, _, _, ro⟩ := R.ow i d h2
        cases ro <;> cases z
    exact ⟨F1, e1, .refl _, r, r.flat z⟩
  · cases kd with
    | sh => cases d <;> cases z
    | tr n => cases d <;> cases z
    | «at» i => cases d <;> cases z
    | fr =>
      obtain ⟨fu, a, o, rfl, n, ha, nf, ro, _⟩ := (show FrV c.θ F1 H H1 d v from hv)
      have nB := R.noneB n
      have at_ : onlyN (upd F1 a o) c.B a = some o := onlyN_at upd_same nB
      refine ⟨upd F1 a o, Ext.freeze e1.sub ha nf H e1.hh n F e1, Same.lay nf, ro.frozen nf fu, ?_⟩
      cases ro with
      | lst rl => exact .lst at_ (repl_flatF z rl)
      | dK l rl => exact .dK at_ l (repl_flatF z rl)
      | dT l rl => exact .dT at_ l (repl_flatF z rl)
      | obj l rl => cases z
theorem gs_fld {i : Nat} {x fn : Str} {fx : Nat → Nat → Bool} {pos' : Pos} (ha : PE X e (tEv c L W f)) (hfx : ∀ k n, fx k n = true → (c.θ.fld k)[n]? = some fn ∧ fn ∉ (c.θ.fld k).take n ∧ Cls X.K (c.θ.C k) ∧ NoAttr X.K (c.θ.C k) fn ∧ n < 1000)
    (hx : Loc X.env.scope x) (hs : swapsWith e (some (.Attribute (.Name x p) fn pos')) pos.line X.env = pure false := by rfl) (hf : X.fn x = true ∨ X.env.scope.names.lookup x = some .local := by exact Or.inl rfl) (hi : X.N[i]? = some x := by rfl) (hd : (x == ("__debug__" : Str)) = false := by decide) (hcd : (x == ("__classdict__" : Str)) = false := by decide) :
    PS X (.Assign [.Attribute (.Name x p) fn pos'] e pos) (tSv c L W (G.sFld fx i f)) := by
  refine ps_ev (ps_fld (pe_var hi (vis_of hx) hd hcd) ha hs) fun E σ H h => ?_
  obtain ⟨F, ρ, R, h⟩ := h
  refine sv_with R h fun d kd v F1 H1 ef e1 hv R1 h1 => ?_
  clear ef h
  replace h1 : ResS c L W F1 E (if clean d kd = true then (match ρ[i]? with
    | some (.me c ds) => if fx c ds.length then .nx (ρ.set i (.me c (ds ++ [d]))) else .no
    | _ => .no) else .no) := h1
  by_cases so : clean d kd = true
  · rw [if_pos so] at h1
    obtain ⟨F2, e2, s2, rp, rpn⟩ := hv.clean R e1 so
    have R2 := R.ext e2
    cases q : ρ[i]? with
    | none => rw [q] at h1; exact h1.elim
    | some sl =>
      rw [q] at h1
      cases sl with
      | me k ds =>
        replace h1 : ResS c L W F1 E (if fx k ds.length then .nx (ρ.set i (.me k (ds ++ [d]))) else .no) := h1
        by_cases qf : fx k ds.length = true
        · rw [if_pos qf] at h1
          obtain ⟨z1, z2, z3, z4, z5⟩ := hfx k _ qf
          obtain ⟨⟨ad, ob, y1, y2, y3, y4, y5, ym, y6⟩, y7⟩ := R2.me i k ds q
          refine ⟨_, y1, ad, ?_⟩
          cases y5 with
          | @obj _ dx xs _ l rl =>
          have lt : ds.length < (c.θ.fld k).length := (List.getElem?_eq_some_iff.mp z1).1
          have lx : ((c.θ.fld k).take ds.length).length = xs.length := by rw [rl.length, List.length_take]; omega
          refine ⟨_, dx, _, rfl, y2, z3, z4, ?_, ?_⟩
          · rw [List.length_zip, lx, Nat.min_self, rl.length]
            exact z5
          · have ep : putF fn v (((c.θ.fld k).take ds.length).zip xs) = ((c.θ.fld k).take (ds ++ [d]).length).zip (xs ++ [v]) := by
              rw [putF_end fun q hq => ?_]
              · rw [List.length_append, List.length_singleton, List.take_succ, z1]
                show _ = (List.take ds.length (c.θ.fld k) ++ [fn]).zip _
                rw [List.zip_append lx]
                rfl
              · intro z
                exact z2 (z ▸ (List.of_mem_zip hq).1)
            rw [ep]
            refine h1 σ F2 _ s2 ?_
            have keep : ∀ {b : Addr} {u : HO}, F2 b = some u → b ≠ ad := fun h z => by
              subst z
              rw [y3] at h
              cases h
            have keepB : ∀ {b : Addr} {u : HO}, c.B b = some u → b ≠ ad := fun h z => by
              subst z
              rw [y4] at h
              cases h
            have R3 := R2.put (F' := F2) (H' := upd H1 ad (.ins (c.θ.C k) dx (((c.θ.fld k).take (ds ++ [d]).length).zip (xs ++ [v])))) (i := i) (v := .ref ad) (sl := .me k (ds ++ [d])) (fun b u h => by rw [upd_ne (keep h)]; exact R2.sub b u h) (fun b u h => by rw [upd_ne (keepB h)]; exact R2.kp b u h) (.refl _) R2.fn
              (fun j a3 o3 hj ho hs3 h3 n3 => ?_) (fun _ h => by cases h) (fun _ h => by cases h) (fun k2 ds2 h => ?_) (fun Z hZ j k3 d2 hj hp b hb => by
                have nb : b ≠ ad := fun z => by
                  subst z
                  exact (hZ j k3 d2 hp).2.2.2.1 i b (.inr ⟨k, ds, q⟩) y1 hb
                exact ⟨upd_ne nb, rfl, fun _ z => by cases z; exact nb rfl⟩) (tp := fun b xs h => by
                rw [upd_ne fun z => ?_]
                · exact h
                · subst z
                  rw [y2] at h
                  cases h)
            · have e : σ.set i (some (.ref ad)) = σ := List.ext_getElem? fun j => by
                by_cases q : i = j
                · subst q
                  rw [List.getElem?_set_self (List.getElem?_eq_some_iff.mp y1).1, y1]
                · rw [List.getElem?_set_ne q]
              rwa [e] at R3
            · have ne : a3 ≠ ad := fun z => by
                subst z
                rcases ho with ⟨d3, hd⟩ | ⟨k3, ds3, hd⟩
                · exact y6 j d3 hd hs3
                · exact y7 j k3 ds3 hj hd
              exact ⟨by rw [upd_ne ne]; exact h3, n3⟩
            · cases h
              exact ⟨⟨ad, _, rfl, upd_same, y3, y4, .obj (by rw [List.length_append, List.length_singleton]; omega) (rl.append (.cons rpn .nil)), ym, fun j _ ⟨d3, hd⟩ => y6 j d3 hd⟩, fun j k' ds' hj => y7 j k' ds' hj⟩
        · rw [if_neg qf] at h1
          exact h1.elim
      | un => exact h1.elim
      | va d => exact h1.elim
      | ow d => exact h1.elim
      | xc => exact h1.elim
      | pv k d => exact h1.elim
  · rw [if_neg so] at h1
    exact h1.elim
/-! ### raise -/
/-- C() of an own exception class -/
theorem pmk_own0 {C : Addr} {bmB : List Value} {B newId initId : String} {x : Str} {p pos : Pos} (F : ExcBaseFacts B newId initId bmB) (q : PySem.W.excIn X.K C bmB newId = true) (gC : X.mg x = some (.ref C)) (kC : PySem.W.keepIn X.K (.ref C) = true) (r : Raises X (.ref C)) (hg : Gl X x)
    (hdb : (x == ("__debug__" : Str)) = false := by decide) : L2N.PMk X (.Call (.Name x p) [] [] pos) (fun _ H Q => Q (.ref C) none H) := by
  intro pins s σ H Q I h
  refine wpAny_Call_Name_kw (ld_glob I hg gC ?_ hdb)
  refine PySem.W.callWith_K0 (first := []) I.kIn kC ?_
  obtain ⟨bm, N, nm, qn, bs, hdct, sn, sub, ab, col, dd, k0, k1, k2, k3, k5, mN, hC, hN, hni, T⟩ := exc_obj I.kIn q
  refine wpAny_call_exc_subT F T hC hN hni (fun h' e hm => ?_) (by show 0 ≤ sizeLine; exact Nat.zero_le _)
  exact L2N.mk_of I hm r h (I.hok.gone hm.new)
theorem gs_raise0 {n : Nat} {bmB : List Value} {B newId initId : String} {x : Str} {p pos pos' : Pos} (hc : X.calm = true) (tk : L2N.Takes X W) (F : ExcBaseFacts B newId initId bmB) (q : PySem.W.excIn X.K (c.θ.C n) bmB newId = true) (gC : X.mg x = some (.ref (c.θ.C n))) (kC : PySem.W.keepIn X.K (.ref (c.θ.C n)) = true) (r : Raises X (.ref (c.θ.C n))) (hg : Gl X x)
    (hdb : (x == ("__debug__" : Str)) = false := by decide) : PS X (.Raise (some (.Call (.Name x p) [] [] pos)) none pos') (tSv c L W (sRaise n)) := by
  refine ps_ev (L2N.ps_raise hc tk (pmk_own0 F q gC kC r hg hdb)) fun E σ H h => ?_
  obtain ⟨F, ρ, R, h⟩ := h
  exact h _ _ σ F H (.refl _) R ⟨rfl, rfl⟩
end
end G
/-! G: defs, __init__. -/
namespace G
open PySem PySem.Spec L2
def slots (N : Nat) (ds : List D) : Sl := ds.map .va ++ List.replicate (N - ds.length) .un
/-- what a def of N slots gives -/
def denF (N : Nat) (u : SS) (ds : List D) : Out (D × Bool) := match u (slots N ds) with
  | .nx _ => .ok (.non, false)
  | .rt d .sh => .ok (d, false)
  | .rt d (.tr _) => .ok (d, false)
  | .rt d _ => .ok (d, true)
  | .ex n fs _ => .ex n fs
  | _ => .no
/-- .. an __init__ of class k with nf fields -/
def denI (N k nf : Nat) (u : SS) (ds : List D) : Out (D × Bool) := match u (.me k [] :: slots (N - 1) ds) with
  | .nx ρ => (match ρ[0]? with
    | some (Slot.me k' fs) => if k' = k ∧ fs.length = nf then .ok (.obj k fs, true) else .no
    | _ => .no)
  | .ex n fs _ => .ex n fs
  | _ => .no
section
variable {θ : Th} {F H B F' H' : Hp}
theorem slots_va {N : Nat} {ds : List D} {i : Nat} {d : D} (h : (slots N ds)[i]? = some (.va d)) : ds[i]? = some d := by
  unfold slots at h
  by_cases q : i < (ds.map Slot.va).length
  · rw [List.getElem?_append_left q, List.getElem?_map] at h
    cases z : ds[i]? with
    | none => rw [z] at h; cases h
    | some e => rw [z] at h; cases h; rfl
  · rw [List.getElem?_append_right (by omega)] at h
    have := List.mem_of_getElem? h
    exact absurd (List.eq_of_mem_replicate this) (by intro z; cases z)
theorem slots_no {N : Nat} {ds : List D} {i : Nat} {sl : Slot} (h : (slots N ds)[i]? = some sl) : sl = .un ∨ ∃ d, sl = .va d := by
  have := List.mem_of_getElem? h
  unfold slots at this
  rcases List.mem_append.mp this with z | z
  · obtain ⟨d, _, e⟩ := List.mem_map.mp z
    exact .inr ⟨d, e.symm⟩
  · exact .inl (List.eq_of_mem_replicate z)
theorem start_rel {N : List Str} {vs : List V} {ds : List D} (s : Sub F H) (r : RepL θ F ds vs) : Rel θ F H [] F H (L2.start N vs) (slots N.length ds) := by
  have lv := r.length
  refine ⟨s, fun a u h => .inl h, .refl _, fun a u h => .inl h, ?_, fun i d h => ?_, fun i d h => ?_, fun i d h => ?_, fun i j d e a hn h1 => ?_, fun i k ds' h => ?_, fun i h => ?_, ⟨_, PvAll.empty fun i k d h => ?_⟩⟩
  · unfold L2.start slots
    simp [lv]
  · have h := slots_va h
    obtain ⟨v, h1, h2⟩ := r.get h
    refine ⟨v, ?_, h2⟩
    unfold L2.start
    rw [List.getElem?_append_left (by rw [List.length_map]; exact (List.getElem?_eq_some_iff.mp h1).1), List.getElem?_map, h1]
    rfl
  all_goals first
    | (rcases slots_no h with z | ⟨_, z⟩ <;> cases z; done)
    | (rcases slots_no h1 with z | ⟨_, z⟩ <;> cases z; done)
theorem Rel.same0 {F0 : Hp} {σ : L2.St} {ρ : Sl} (R : Rel θ F0 B [] F' H' σ ρ) : Same B H' := fun a u h => by
  rcases R.kp a u h with z | ⟨z, _⟩
  · exact z
  · cases z
abbrev EnF (Q : VK) : Ends := { nx := fun _ H' => Q .non H', rt := Q }
theorem body_of {N : List Str} {m : Nat} {u : SS} {vs : List V} {Q : VK} {E : XK} (h : spOf θ m (denF N.length u) vs H Q E) : ∃ F, tSv ⟨θ, F, H⟩ [] (fun cls d _ H => E cls d H) u (EnF Q) (L2.start N vs) H := by
  obtain ⟨hl, F, ds, s, r, hf⟩ := h
  refine ⟨F, F, _, start_rel s r, ?_⟩
  unfold denF at hf
  cases q : u (slots N.length ds) with
  | nx ρ' =>
    rw [q] at hf
    exact fun σ' F' H' e R => hf .non F' H' ⟨R.sub, e, R.same0, R.fn⟩ .non
  | bk ρ' => rw [q] at hf; exact hf.elim
  | ct ρ' => rw [q] at hf; exact hf.elim
  | rt d k =>
    rw [q] at hf
    cases k with
    | sh => exact fun v σ' ρ' F' H' e R hv => hf v F' H' ⟨R.sub, e, R.same0, R.fn⟩ hv
    | fr => exact fun v σ' ρ' F' H' e R hv => hf v F' H' ⟨R.sub, e, R.same0, R.fn⟩ hv
    | «at» i => exact fun v σ' ρ' F' H' e R hv => hf v F' H' ⟨R.sub, e, R.same0, R.fn⟩ hv
    | tr n =>
      intro v σ' ρ' F' H' e R hv
      obtain ⟨F2, x, _, r⟩ := TrV.freeze ⟨R.sub, e, R.same0, R.fn⟩ hv
      exact hf v F2 H' x r
  | ex n fs ρ' =>
    rw [q] at hf
    exact fun cls dd σ' F' H' e R hv => hf cls dd F' H' ⟨R.sub, e, R.same0, R.fn⟩ hv
  | no => rw [q] at hf; exact hf.elim
theorem init_rel {N : List Str} {vs : List V} {ds : List D} {H0 : Hp} {x dx : Addr} {k : Nat} {n : Str} (s : Sub F H0) (nx : H0 x = none) (nd : H0 dx = none) (ne : dx ≠ x) (r : RepL θ F ds vs) :
    Rel θ F (upd H0 dx (.own x)) [x] F (upd (upd H0 dx (.own x)) x (.ins (θ.C k) dx [])) (L2.start (n :: N) (.ref x :: vs)) (.me k [] :: slots N.length ds) := by
  have nx' : upd H0 dx (.own x) x = none := by rw [upd_ne (fun z => ne z.symm)]; exact nx
  have R := start_rel (N := N) (s.lay (o := .own x) nd |>.lay (o := .ins (θ.C k) dx []) nx') r
  have st : L2.start (n :: N) (.ref x :: vs) = some (.ref x) :: L2.start N vs := by
    unfold L2.start
    simp
  rw [st]
  have sc : ∀ {i : Nat} {sl : Slot}, (Slot.me k [] :: slots N.length ds)[i]? = some sl → (i = 0 ∧ sl = .me k []) ∨ ∃ j, i = j + 1 ∧ (slots N.length ds)[j]? = some sl := fun {i sl} h => by
    cases i with
    | zero => exact .inl ⟨rfl, (Option.some.inj h).symm⟩
    | succ j => exact .inr ⟨j, rfl, by simpa using h⟩
  refine ⟨R.sub, fun a u h => .inl ?_, .refl _, fun a u h => .inl h, by simpa using R.len, fun i d h => ?_, fun i d h => ?_, fun i d h => ?_, fun i j d e a hn h1 => ?_, fun i k' ds' h => ?_, fun i h => ?_, ⟨_, PvAll.empty fun i k d h => ?_⟩⟩
  rotate_right
  · rcases sc h with ⟨_, z⟩ | ⟨j, rfl, z⟩
    · cases z
    · rcases slots_no z with z | ⟨_, z⟩ <;> cases z
  · rw [upd_ne]
    · exact h
    · intro z
      subst z
      rw [nx'] at h
      cases h
  · rcases sc h with ⟨_, z⟩ | ⟨j, rfl, z⟩
    · cases z
    · obtain ⟨v, h1, h2⟩ := R.va j d z
      exact ⟨v, by simpa using h1, h2⟩
  · rcases sc h with ⟨_, z⟩ | ⟨j, rfl, z⟩
    · cases z
    · rcases slots_no z with z | ⟨_, z⟩ <;> cases z
  · rcases sc h with ⟨_, z⟩ | ⟨j, rfl, z⟩
    · cases z
    · rcases slots_no z with z | ⟨_, z⟩ <;> cases z
  · rcases sc h1 with ⟨_, z⟩ | ⟨j, rfl, z⟩
    · cases z
    · rcases slots_no z with z | ⟨_, z⟩ <;> cases z
  · rcases sc h with ⟨rfl, z⟩ | ⟨j, rfl, z⟩
    · cases z
      refine ⟨⟨x, _, rfl, upd_same, s.free nx, nx', ?_, by simp, fun j d hj => ?_⟩, fun j k2 ds2 hj z => ?_⟩
      · exact .obj (xs := []) (ds := []) (Nat.zero_le _) .nil
      · rcases sc hj with ⟨_, z⟩ | ⟨j, rfl, z⟩
        · cases z
        · rcases slots_no z with z | ⟨_, z⟩ <;> cases z
      · rcases sc z with ⟨z, _⟩ | ⟨j, rfl, z⟩
        · exact hj z
        · rcases slots_no z with z | ⟨_, z⟩ <;> cases z
    · rcases slots_no z with z | ⟨_, z⟩ <;> cases z
  · rcases sc h with ⟨_, z⟩ | ⟨j, rfl, z⟩
    · cases z
    · rcases slots_no z with z | ⟨_, z⟩ <;> cases z
theorem init_of {N : List Str} {n : Str} {m k nf : Nat} {u : SS} {vs : List V} {Q : VK} {E : XK} (hnf : nf = (θ.fld k).length) (h : spInit θ m k (denI (n :: N).length k nf u) vs H Q E) :
    ∃ F B x, tSv ⟨θ, F, B⟩ [x] (fun cls d _ H => E cls d H) u (EnF Q) (L2.start (n :: N) vs) H := by
  obtain ⟨hl, F, ds, H0, x, dx, us, rfl, nx, nd, ne, rfl, s, r, hf⟩ := h
  refine ⟨F, upd H0 dx (.own x), x, F, _, init_rel s nx nd ne r, ?_⟩
  have nx' : upd H0 dx (.own x) x = none := by rw [upd_ne (fun z => ne z.symm)]; exact nx
  have ext : ∀ {F' H' : Hp} {σ : L2.St} {ρ : Sl}, Same F F' → Rel θ F (upd H0 dx (.own x)) [x] F' H' σ ρ → Ext F H0 F' H' := fun {F' H' σ ρ} e R => by
    refine ⟨R.sub, e, fun a u h => ?_, fun a u h => ?_⟩
    · have hb : upd H0 dx (.own x) a = some u := by rw [upd_ne (ne_of_none h nd)]; exact h
      rcases R.kp a u hb with z | ⟨z, _⟩
      · exact z
      · simp at z
        subst z
        rw [nx] at h
        cases h
    · rcases R.fn a u h with z | z
      · exact .inl z
      · refine .inr ?_
        by_cases q : a = dx
        · rw [q]; exact nd
        · rwa [upd_ne q] at z
  unfold denI at hf
  replace hf : ResF θ F H0 (fun v H' => v = .ref x → Q .non H') E (match (generalizing := false) u (.me k [] :: slots N.length ds) with
    | .nx ρ => (match ρ[0]? with
      | some (Slot.me k' fs) => if k' = k ∧ fs.length = nf then .ok (.obj k fs, true) else .no
      | _ => .no)
    | .ex n fs _ => .ex n fs
    | _ => .no) := hf
  cases q : u (.me k [] :: slots N.length ds) with
  | nx ρ' =>
    rw [q] at hf
    replace hf : ResF θ F H0 (fun v H' => v = .ref x → Q .non H') E (match (generalizing := false) ρ'[0]? with
      | some (Slot.me k' fs) => if k' = k ∧ fs.length = nf then .ok (.obj k fs, true) else .no
      | _ => .no) := hf
    intro σ' F' H' e R
    cases z : ρ'[0]? with
    | none => rw [z] at hf; exact hf.elim
    | some sl =>
      rw [z] at hf
      cases sl with
      | me k' fs =>
        replace hf : ResF θ F H0 (fun v H' => v = .ref x → Q .non H') E (if k' = k ∧ fs.length = nf then .ok (.obj k fs, true) else .no) := hf
        by_cases y : k' = k ∧ fs.length = nf
        · rw [if_pos y] at hf
          obtain ⟨rfl, y2⟩ := y
          obtain ⟨⟨a, o, g1, g2, g3, g4, g5, g6, _⟩, _⟩ := R.me 0 k' fs z
          have ea : a = x := by simpa using g6
          subst ea
          exact hf (.ref a) F' H' (ext e R) ⟨(y2.trans hnf : fs.length = (θ.fld k').length), a, o, rfl, nx, g2, g3, g5.mono onlyN_le, fun _ => g5.mono (onlyN_mono (.refl _) fun b hb => by
            replace hb : upd H0 dx (.own a) b = none := hb
            by_cases q : b = dx
            · rw [q]; exact nd
            · rwa [upd_ne q] at hb)⟩ rfl
        · rw [if_neg y] at hf
          exact hf.elim
      | un => exact hf.elim
      | va d => exact hf.elim
      | ow d => exact hf.elim
      | xc => exact hf.elim
      | pv k d => exact hf.elim
  | bk ρ' => rw [q] at hf; exact hf.elim
  | ct ρ' => rw [q] at hf; exact hf.elim
  | rt d k => rw [q] at hf; exact hf.elim
  | ex n fs ρ' =>
    rw [q] at hf
    exact fun cls dd σ' F' H' e R hv => hf cls dd F' H' (ext e R) hv
  | no => rw [q] at hf; exact hf.elim
end
/-! ### the rules of a def -/
section
variable {P : Program} {w : World} {K : PySem.W.Frag} {mg : Str → Option Value} {base : Heap} {x qual : Str} {params : Arguments} {body : List Stmt} {scope : Scope} {f : Addr} {fd : FuncData} {θ : Th}
/-- the context of a body -/
abbrev BX (P : Program) (w : World) (K : PySem.W.Frag) (mg : Str → Option Value) (base : Heap) (N : List Str) (qual : Str) (scope : Scope) (f : Addr) (cdv : Value) (A : Around) (outer : List Env) (s : Shared) (H : Hp) (E : XK) : Cx := cxOf (L2N.CX P w) P w K mg base N qual scope f cdv A outer s H E
/-- what is at hand in a body -/
structure BodyOk (X : Cx) (W : WX) (k : Nat) : Prop where
  tk : L2N.Takes X W
  po : PassesOwn (model X.prog X.w) X.A X.env X.xe
  rm : Room k X.A
theorem BodyOk.u {X : Cx} {W : WX} {k : Nat} (b : BodyOk X W k) : X.A.units + 1 < cLine := by have := b.rm.units; omega
theorem fn_ok {N ps : List Str} {k m : Nat} {u : SS} (F : FunD K x qual params body scope [] [] f fd) (S : FnScope N ps scope) (hm : m = ps.length)
    (hb : ∀ (cdv : Value) (A : Around) (outer : List Env) (s : Shared) (H : Hp) (E : XK) (F0 B : Hp) (L : List Addr), BodyOk (BX P w K mg base N qual scope f cdv A outer s H E) (fun cls d _ H => E cls d H) k → PSs (BX P w K mg base N qual scope f cdv A outer s H E) body (tSv ⟨θ, F0, B⟩ L (fun cls d _ H => E cls d H) u)) :
    FnOk P w K mg base (L2N.CX P w) (k + 1) f fd ps (spOf θ m (denF N.length u)) := by
  refine F.ok S (fun vs H Q E h => by rw [h.1, hm]) fun cdv A outer s H vs Q E hr h => ?_
  obtain ⟨F0, h⟩ := body_of h
  exact ⟨_, hb cdv A outer s H E F0 H [] ⟨L2N.takes_of rfl rfl rfl rfl, passes_of rfl, hr⟩, h⟩
theorem init_ok {N ps : List Str} {n : Str} {k m cn nf : Nat} {u : SS} (F : FunD K x qual params body scope [] [] f fd) (S : FnScope (n :: N) ps scope) (hm : m + 1 = ps.length) (hnf : nf = (θ.fld cn).length)
    (hb : ∀ (cdv : Value) (A : Around) (outer : List Env) (s : Shared) (H : Hp) (E : XK) (F0 B : Hp) (L : List Addr), BodyOk (BX P w K mg base (n :: N) qual scope f cdv A outer s H E) (fun cls d _ H => E cls d H) k → PSs (BX P w K mg base (n :: N) qual scope f cdv A outer s H E) body (tSv ⟨θ, F0, B⟩ L (fun cls d _ H => E cls d H) u)) :
    FnOk P w K mg base (L2N.CX P w) (k + 1) f fd ps (spInit θ m cn (denI (n :: N).length cn nf u)) := by
  refine F.ok S (fun vs H Q E h => by rw [h.1, hm]) fun cdv A outer s H vs Q E hr h => ?_
  obtain ⟨F0, B, y, h⟩ := init_of hnf h
  exact ⟨_, hb cdv A outer s H E F0 B [y] ⟨L2N.takes_of rfl rfl rfl rfl, passes_of rfl, hr⟩, h⟩
end
end G
/-! G: the rules in short. -/
namespace G
open PySem PySem.Spec L2
/-- what holds in every context -/
structure XB (X : Cx) (c : Cn) : Prop where
  K : X.K = c.θ.K
  nd : X.N.Nodup
  hu2 : X.A.units + 128 < cLine
/-- .. where no exception is handled -/
structure XC (X : Cx) (c : Cn) : Prop extends XB X c where
  calm : X.calm = true
instance {X : Cx} {c : Cn} : Coe (XC X c) (XB X c) := ⟨XC.toXB⟩
section
variable {X : Cx} {c : Cn} {L : List Addr} {W : WX} {f g h : ES} {a b e d tg iter : Expr} {pos p : Pos} {s : IS} {t u : TSm}
theorem u128 {k : Nat} {A : Around} (r : Room k A) : A.units + 128 < cLine := by have := r.un; omega
theorem XB.hu (x : XB X c) : X.A.units + 64 < cLine := by have := x.hu2; omega
theorem XC.blk (x : XC X c) {s : Shared} {H : Hp} {scope : Scope} {cenv : Env} {fp : List Addr} : XC (X.blk s H scope cenv fp) c := ⟨⟨x.K, x.nd, x.hu2⟩, x.calm⟩
theorem XB.u1 (x : XB X c) : X.A.units + 1 < cLine := by have := x.hu; omega
theorem XB.u0 (x : XB X c) : X.A.units < cLine := by have := x.hu; omega
theorem takes_WF : L2N.Takes X WF := fun u s' ⟨_, _, _, _, _, _, _, _, _, _, _, _, _, _, _, _, w⟩ => w.elim
/-! ### operators -/
def OpB (X : Cx) (c : Cn) (o : Operator) (op : D → D → Out (D × Kd)) : Prop := ∃ r, OpR X (binaryOp o) r ∧ ∀ W, OpD c W op r
def OpC (X : Cx) (c : Cn) (o : CmpOp) (op : D → D → Out (D × Kd)) : Prop := ∃ r, OpR X (compareOp o) r ∧ ∀ W, OpD c W op r
theorem ob_add (x : XB X c) : OpB X c .Add oAdd := ⟨_, op_add.or (op_add_str.or (op_cat.or (by rw [← x.K]; exact op_catA))), fun _ => od_add⟩
theorem ob_sub (x : XB X c) : OpB X c .Sub oSub := ⟨_, op_sub, fun _ => od_sub⟩
theorem ob_mul (x : XB X c) : OpB X c .Mult oMul := ⟨_, op_mul.or op_rep, fun _ => od_mul⟩
theorem ob_mod (x : XB X c) : OpB X c .Mod oMod := ⟨_, op_mod, fun _ => od_mod⟩
theorem ob_div (x : XB X c) : OpB X c .FloorDiv oDiv := ⟨_, op_fdiv, fun _ => od_div⟩
theorem ob_pow (x : XB X c) : OpB X c .Pow oPow := ⟨_, op_pow, fun _ => od_pow⟩
theorem oc_eq (x : XB X c) : OpC X c .Eq oEq := ⟨_, op_eq.or (by rw [← x.K]; exact op_eqD x.hu), fun _ => od_eq⟩
theorem oc_ne (x : XB X c) : OpC X c .NotEq oNe := ⟨_, op_ne.or (by rw [← x.K]; exact op_neD x.hu), fun _ => od_ne⟩
theorem oc_lt (x : XB X c) : OpC X c .Lt oLt := ⟨_, op_lt.or (by rw [← x.K]; exact op_ltT x.u0), fun _ => od_lt⟩
theorem oc_le (x : XB X c) : OpC X c .LtE oLe := ⟨_, op_le, fun _ => od_le⟩
theorem oc_gt (x : XB X c) : OpC X c .Gt oGt := ⟨_, op_gt, fun _ => od_gt⟩
theorem oc_ge (x : XB X c) : OpC X c .GtE oGe := ⟨_, op_ge, fun _ => od_ge⟩
theorem g_bin {o : Operator} {op : D → D → Out (D × Kd)} (ho : OpB X c o op) (ha : PE X a (tEv c L W f)) (hb : PE X b (tEv c L W g)) : PE X (.BinOp a o b pos) (tEv c L W (eBin op f g)) := by
  obtain ⟨r, h1, h2⟩ := ho
  exact pg_bin h1 (h2 W) ha hb
theorem g_cmp {o : CmpOp} {op : D → D → Out (D × Kd)} (ho : OpC X c o op) (ha : PE X a (tEv c L W f)) (hb : PE X b (tEv c L W g)) (hm : behindInMarks o b = false := by rfl) : PE X (.Compare a [o] [b] pos) (tEv c L W (eBin op f g)) := by
  obtain ⟨r, h1, h2⟩ := ho
  exact pg_cmp h1 hm (h2 W) ha hb
theorem t_cmp {o : CmpOp} {op : D → D → Out (D × Kd)} (ho : OpC X c o op) (ha : PE X a (tEv c L W f)) (hb : PE X b (tEv c L W g)) (hm : behindInMarks o b = false := by rfl) : PT X (.Compare a [o] [b] pos) (tTv c L W (tBl (eBin op f g))) := by
  obtain ⟨r, h1, h2⟩ := ho
  exact pgt_cmp h1 hm (h2 W) ha hb
theorem g_chain {o o' : CmpOp} {op op' : D → D → Out (D × Kd)} (ho : OpC X c o op) (ho' : OpC X c o' op') (ha : PE X a (tEv c L W f)) (hb : PE X b (tEv c L W g)) (hd : PE X d (tEv c L W h)) (hm : lastMarks [o, o'] [b, d] = false := by rfl) : PE X (.Compare a [o, o'] [b, d] pos) (tEv c L W (eChain op op' f g h)) := by
  obtain ⟨r, h1, h2⟩ := ho
  obtain ⟨r', h1', h2'⟩ := ho'
  exact pg_chain h1 h1' hm h2 (h2' W) ha hb hd
theorem t_chain {o o' : CmpOp} {op op' : D → D → Out (D × Kd)} (ho : OpC X c o op) (ho' : OpC X c o' op') (ha : PE X a (tEv c L W f)) (hb : PE X b (tEv c L W g)) (hd : PE X d (tEv c L W h)) (hm : lastMarks [o, o'] [b, d] = false := by rfl) : PT X (.Compare a [o, o'] [b, d] pos) (tTv c L W (tBl (eChain op op' f g h))) := by
  obtain ⟨r, h1, h2⟩ := ho
  obtain ⟨r', h1', h2'⟩ := ho'
  exact pgt_chain h1 h1' hm h2 (h2' W) ha hb hd
/-! ### names, constants -/
theorem g_var (i : Nat) {x : Str} (hv : Vis X.env.scope x) (hN : X.N[i]? = some x := by rfl) (hd : (x == ("__debug__" : Str)) = false := by rfl) (hcd : (x == ("__classdict__" : Str)) = false := by rfl) : PE X (.Name x pos) (tEv c L W (eVar i)) := pg_var hN hv hd hcd
theorem g_int {i : Int} {j : Nat} : PE X (.Constant (.int i) j pos) (tEv c L W (eC (.int i))) := pg_const pe_int fun _ _ => .int _
theorem g_str {i : Str} {j : Nat} : PE X (.Constant (.str i) j pos) (tEv c L W (eC (.str i))) := pg_const pe_str fun _ _ => .str _
theorem g_bl {i : Bool} {j : Nat} : PE X (.Constant (.bool i) j pos) (tEv c L W (eC (.bl i))) := pg_const pe_bl fun _ _ => .bl _
theorem g_non {j : Nat} : PE X (.Constant .none j pos) (tEv c L W (eC .non)) := pg_const pe_non fun _ _ => .non
theorem g_globI {x : Str} {i : Int} (hm : ∃ t, X.mg x = some (.int i t)) (hg : Gl X x := by rfl) (hd : (x == ("__debug__" : Str)) = false := by rfl) : PE X (.Name x pos) (tEv c L W (eC (.int i))) := by
  obtain ⟨t, hm⟩ := hm
  exact pg_const (pe_glob (v := .int i) hg hm ⟨t, rfl⟩ hd) fun _ _ => .int _
theorem g_globS {x z : Str} (hm : ∃ t, X.mg x = some (.str z t)) (hg : Gl X x := by rfl) (hd : (x == ("__debug__" : Str)) = false := by rfl) : PE X (.Name x pos) (tEv c L W (eC (.str z))) := by
  obtain ⟨t, hm⟩ := hm
  exact pg_const (pe_glob (v := .str z) hg hm ⟨t, rfl⟩ hd) fun _ _ => .str _
/-! ### lists of arguments, displays, subscripts, fields -/
theorem g_cons {es : List Expr} {fs : List ES} (ha : PE X e (tEv c L W f)) (hr : PA X es (tAv c L W fs)) (hs : starEach (e :: es) X.env = (false, eval e X.env) :: starEach es X.env := by rfl) : PA X (e :: es) (tAv c L W (f :: fs)) := pga_cons ha hr hs
theorem g_ix (x : XB X c) (ha : PE X a (tEv c L W f)) (hb : PE X b (tEv c L W g)) (hs : PlainIx b := by exact fun _ _ => rfl) : PE X (.Subscript a b pos) (tEv c L W (eBin oIx f g)) := pg_ix x.u1 x.K ha hb hs
theorem g_sl {p2 : Pos} {lo hi : Option Expr} {fl fh : Option ES} (x : XB X c) (ha : PE X a (tEv c L W f)) (hl : PO X lo (tPo c L W fl)) (hh : PO X hi (tPo c L W fh)) : PE X (.Subscript a (.Slice lo hi none p2) pos) (tEv c L W (eSl f fl fh)) := pg_sl x.K ha hl hh
theorem g_fld {n : Str} {fx : Nat → Option Nat} (x : XB X c) (T : FldOk c n fx) (ha : PE X a (tEv c L W f)) (hb : attributeBase a n X.env (eval a X.env) = eval a X.env := by rfl) : PE X (.Attribute a n pos) (tEv c L W (eUn (oFld fx) f)) := pg_fld T x.K ha hb
/-! ### tests -/
theorem t_tru (x : XB X c) (ha : PE X a (tEv c L W f)) (he : ∀ whole, isTrue a X.env whole = (do let v ← whole; standAt a.pos; holding [v] (truthy v)) := by exact fun _ => rfl) : PT X a (tTv c L W (tTru f)) := pgt_tru ha he x.K
theorem t_pw (h : PW X e (tTv c L W t)) : PT X e (tTv c L W t) := h.pt
/-! ### built-in functions -/
def BiF (X : Cx) (c : Cn) (b : Bi) (x : Str) : Prop := (∃ id r, bootBuiltins x = some (.builtin id) ∧ CallR X (.builtin id) r ∧ ∀ W, BiD c W b r) ∨ ∃ id r, bootBuiltins x = some (.type id) ∧ CallR X (.type id) r ∧ ∀ W, BiD c W b r
theorem call_lenK : CallR X (.builtin "len") (fun xs H Q => ∃ a kvs, xs = [V.ref a] ∧ Rd H a (.dK kvs) ∧ Q (.int (kvs.length : Nat)) H) := by
  intro pins s σ H xs us Q I r h
  obtain ⟨a, kvs, rfl, ha, q⟩ := h
  obtain ⟨u, rfl, ru⟩ := vals1 r
  cases ru
  exact d_len I ha fun t s' I' => ⟨.int kvs.length, H, I', ⟨t, rfl⟩, q⟩
theorem call_lenT : CallR X (.builtin "len") (fun xs H Q => ∃ a kvs, xs = [V.ref a] ∧ Rd H a (.dT kvs) ∧ Q (.int (kvs.length : Nat)) H) := by
  intro pins s σ H xs us Q I r h
  obtain ⟨p, kvs, rfl, hp, q⟩ := h
  obtain ⟨u, rfl, rx⟩ := vals1 r
  obtain rfl : u = .ref p := rx
  obtain ⟨z, hd, ys, rel, dd⟩ := dt_rd I.hok hp
  have hl : kvs.length = ys.length := Paired.length rel
  refine call_len_dictH hd dd (by rw [← hl]; rw [sizeLine_eq] at z; omega) ?_
  rw [← hl]
  exact ⟨.int ((kvs.length : Nat) : Int), H, I.tok _, ⟨_, rfl⟩, q⟩
theorem bf_len (x : XB X c) : BiF X c .len "len" := .inl ⟨_, _, by decide +kernel, (by rw [← x.K]; exact call_len : CallR X (.builtin "len") (fun xs H Q => ∃ x n, xs = [x] ∧ LenV c.θ.K x H n ∧ Q (.int n) H)).or (call_lenK.or call_lenT), fun _ => bd_len⟩
theorem bf_abs (x : XB X c) : BiF X c .abs "abs" := .inl ⟨_, _, by decide +kernel, call_abs, fun _ => bd_abs⟩
theorem bf_int (x : XB X c) : BiF X c .int "int" := .inr ⟨_, _, by decide +kernel, call_int1, fun _ => bd_int⟩
theorem bf_str (x : XB X c) : BiF X c .str "str" := .inr ⟨_, _, by decide +kernel, call_str_int, fun _ => bd_str⟩
theorem bf_sum (x : XC X c) : BiF X c .sum "sum" := .inl ⟨_, _, by decide +kernel, (by rw [← x.K]; exact cr_sum x.calm : CallR X (.builtin "sum") (rSum c.θ.K)), fun _ => bd_sum⟩
theorem bf_min1 (x : XC X c) : BiF X c .min1 "min" := .inl ⟨_, _, by decide +kernel, (by rw [← x.K]; exact cr_min x.calm : CallR X (.builtin "min") (rMin c.θ.K)), fun _ => bd_min1⟩
theorem bf_max1 (x : XC X c) : BiF X c .max1 "max" := .inl ⟨_, _, by decide +kernel, (by rw [← x.K]; exact cr_max x.calm : CallR X (.builtin "max") (rMax c.θ.K)), fun _ => bd_max1⟩
theorem bf_all (x : XC X c) : BiF X c .all "all" := .inl ⟨_, _, by decide +kernel, (by rw [← x.K]; exact cr_all x.calm : CallR X (.builtin "all") (rAll c.θ.K)), fun _ => bd_all⟩
theorem bf_list (x : XB X c) : BiF X c .list "list" := .inr ⟨_, _, by decide +kernel, (by rw [← x.K]; exact call_list_of : CallR X (.type "list") (fun xs H Q => ∃ p ys, xs = [.ref p] ∧ (SqL c.θ.K H p ys ∨ SqT c.θ.K H p ys) ∧ ∀ l, H l = none → Q (.ref l) (upd H l (.lst ys)))), fun _ => bd_list⟩
theorem bf_max2 (x : XC X c) : BiF X c .max2 "max" := .inl ⟨_, _, by decide +kernel, call_max2 x.calm, fun _ => bd_max2⟩
theorem bf_min2 (x : XC X c) : BiF X c .min2 "min" := .inl ⟨_, _, by decide +kernel, call_min2 x.calm, fun _ => bd_min2⟩
theorem g_bi {bi : Bi} {x : Str} {es : List Expr} {fs : List ES} (hb : BiF X c bi x) (hm : X.mg x = none) (ha : PA X (e :: es) (tAv c L W fs)) (hg : Gl X x := by rfl) (hn : x ≠ "__name__" := by decide) (hdb : (x == ("__debug__" : Str)) = false := by rfl)
    (he : starEach (e :: es) X.env = (false, eval e X.env) :: starEach es X.env := by rfl) (hpl : (backTo pos (starEach es X.env)).any (·.1) = false := by rfl) : PE X (.Call (.Name x p) (e :: es) [] pos) (tEv c L W (eBi bi fs)) := by
  rcases hb with ⟨id, r, h1, h2, h3⟩ | ⟨id, r, h1, h2, h3⟩
  · exact pg_bi h2 (h3 W) hg hm h1 ha hn hdb he hpl
  · exact pg_biTy h2 (h3 W) hg hm h1 ha hn hdb he hpl
theorem g_isi {T : Str} {S : String} {p2 : Pos} (x : XB X c) (hm : X.mg "isinstance" = none) (hm2 : X.mg T = none) (hv : bootBuiltins T = some (.type S)) (ha : PE X a (tEv c L W f)) (hS : S ∈ isNames := by decide) (hg : Gl X "isinstance" := by rfl) (hg2 : Gl X T := by rfl) (hT : T ≠ "__name__" := by decide) (hd : (T == ("__debug__" : Str)) = false := by rfl)
    (hst : starEach [a, .Name T p2] X.env = (false, eval a X.env) :: starEach [.Name T p2] X.env := by rfl) : PE X (.Call (.Name "isinstance" p) [a, .Name T p2] [] pos) (tEv c L W (eUn (oIsi S) f)) := pg_isi x.K hg hm hg2 hm2 hv hT hd hS hst ha
/-! ### calls -/
/-- a def of m parameters that gives R; k: its depth -/
structure CallOk (X : Cx) (θ : Th) (k : Nat) (fa : Addr) (m : Nat) (R : List D → Out (D × Bool)) : Prop where
  ok : ∃ fd ps, FnOk X.prog X.w X.K X.mg X.base (L2N.CX X.prog X.w) k fa fd ps (spOf θ m R) ∧ Binds X.K fd ps [] ∧ PySem.W.keepIn X.K (.ref fa) = true
def eFn (R : List D → Out (D × Bool)) (fs : List ES) : ES := eCall (fun _ => R) 0 fs
theorem g_call {R : List D → Out (D × Bool)} {k k' m : Nat} {fa : Addr} {x : Str} {es : List Expr} {fs : List ES} (F : CallOk X c.θ k fa m R) (hr : Room k' X.A) (hk : k ≤ k') (tk : L2N.Takes X W) (hm : X.mg x = some (.ref fa)) (ha : PA X (e :: es) (tAv c L W fs)) (hl : fs.length = m := by rfl) (hg : Gl X x := by rfl)
    (hdb : (x == ("__debug__" : Str)) = false := by rfl) (he : starEach (e :: es) X.env = (false, eval e X.env) :: starEach es X.env := by rfl) (hpl : (backTo pos (starEach es X.env)).any (·.1) = false := by rfl) : PE X (.Call (.Name x p) (e :: es) [] pos) (tEv c L W (eFn R fs)) := by
  obtain ⟨fd, ps, F, hb, hkp⟩ := F.ok
  exact pg_call (Γ := fun _ => R) (n := 0) F (hr.mono hk) hg hm hkp hb tk ha hl hdb he hpl
structure MakeOk (X : Cx) (θ : Th) (k cn : Nat) (m : Nat) (R : List D → Out (D × Bool)) : Prop where
  ok : ∃ fa fd ps, FnOk X.prog X.w X.K X.mg X.base (L2N.CX X.prog X.w) k fa fd ps (spInit θ m cn R) ∧ Binds X.K fd ps [] ∧ Mk X.K (θ.C cn) fa
theorem g_make {R : List D → Out (D × Bool)} {k k' m cn : Nat} {x : Str} {es : List Expr} {fs : List ES} (F : MakeOk X c.θ k cn m R) (hr : Room k' X.A) (hk : k + 1 ≤ k') (tk : L2N.Takes X W) (hm : X.mg x = some (.ref (c.θ.C cn))) (ha : PA X (e :: es) (tAv c L W fs)) (hl : fs.length = m := by rfl) (hg : Gl X x := by rfl)
    (hdb : (x == ("__debug__" : Str)) = false := by rfl) (he : starEach (e :: es) X.env = (false, eval e X.env) :: starEach es X.env := by rfl) (hpl : (backTo pos (starEach es X.env)).any (·.1) = false := by rfl) : PE X (.Call (.Name x p) (e :: es) [] pos) (tEv c L W (eFn R fs)) := by
  obtain ⟨fa, fd, ps, F, hb, M⟩ := F.ok
  exact pg_make (Γ := fun _ => R) (n := 0) M F (hr.mono hk) hg hm hb tk ha hl hdb he hpl
/-- a method: by the class's number -/
abbrev MTab := List (Nat × (List D → Out (D × Bool)))
def mGam (l : MTab) : Gam := fun n => match l.lookup n with
  | some R => R
  | none => fun _ => .no
def mIx (l : MTab) : Nat → Option Nat := fun n => match l.lookup n with
  | some _ => some n
  | none => none
def eM (l : MTab) (f : ES) (fs : List ES) : ES := eMeth (mGam l) (mIx l) f fs
structure MetOk (X : Cx) (θ : Th) (k cn : Nat) (m : Str) (l : Nat) (R : List D → Out (D × Bool)) : Prop where
  ok : ∃ fa fd ps, FnOk X.prog X.w X.K X.mg X.base (L2N.CX X.prog X.w) k fa fd ps (spOf θ (l + 1) R) ∧ Cls X.K (θ.C cn) ∧ Meth X.K (θ.C cn) m fa ∧ Binds X.K fd ps [] ∧ m ∉ θ.fld cn
theorem methOk_of {l : MTab} {m : Str} {n k : Nat} (hr : Room k X.A) (h : ∀ q ∈ l, ∃ k', k' ≤ k ∧ MetOk X c.θ k' q.1 m n q.2) : MethOk X c (mGam l) m (mIx l) n := by
  refine ⟨fun cn j hj => ?_⟩
  unfold mIx at hj
  cases q : l.lookup cn with
  | none => rw [q] at hj; cases hj
  | some R =>
    rw [q] at hj
    cases hj
    have mem : (cn, R) ∈ l := by
      clear h
      induction l with
      | nil => cases q
      | cons z r ih =>
        rw [List.lookup_cons] at q
        cases e : cn == z.1 with
        | true =>
          rw [e] at q
          cases q
          rw [beq_iff_eq.mp e]
          exact List.mem_cons_self
        | false =>
          rw [e] at q
          exact List.mem_cons_of_mem _ (ih q)
    obtain ⟨k', hk, fa, fd, ps, F, c1, m1, b1, n1⟩ := h _ mem
    refine ⟨fa, fd, ps, k', ?_, hr.mono hk, c1, m1, b1, n1⟩
    have e : mGam l cn = R := by
      unfold mGam
      rw [q]
    rw [e]
    exact F
theorem g_meth {l : MTab} {pl : Sem Bool} {o : Expr} {m : Str} {apos : Pos} {es : List Expr} {fs : List ES} {k n : Nat} (hr : Room k X.A) (tk : L2N.Takes X W) (h : ∀ q ∈ l, ∃ k', k' ≤ k ∧ MetOk X c.θ k' q.1 m n q.2) (ho : PE X o (tEv c L W f)) (ha : PA X (e :: es) (tAv c L W fs)) (hl : fs.length = n := by rfl)
    (hst : starEach (e :: es) X.env = (false, eval e X.env) :: starEach es X.env := by rfl) (hpl : (backTo pos (starEach es X.env)).any (·.1) = false := by rfl)
    (ht : eval (.Call (.Attribute o m apos) (e :: es) [] pos) X.env = (do
      let ov ← eval o X.env
      standAt apos.atName
      let (f, first) ← holding [ov] (getMethod ov m pl)
      callWith pos f first (backTo pos (starEach (e :: es) X.env)) (backToKw pos (keywordEach [] X.env))) := by rfl) : PE X (.Call (.Attribute o m apos) (e :: es) [] pos) (tEv c L W (eM l f fs)) :=
  pg_meth (pl := pl) (by rw [hl]; exact methOk_of hr h) tk ho ha hst hpl ht
theorem g_meth0 {l : MTab} {pl : Sem Bool} {o : Expr} {m : Str} {apos : Pos} {k : Nat} (hr : Room k X.A) (tk : L2N.Takes X W) (h : ∀ q ∈ l, ∃ k', k' ≤ k ∧ MetOk X c.θ k' q.1 m 0 q.2) (ho : PE X o (tEv c L W f))
    (ht : eval (.Call (.Attribute o m apos) [] [] pos) X.env = (do
      let ov ← eval o X.env
      standAt apos.atName
      let (f, first) ← holding [ov] (getMethod ov m pl)
      callWith pos f first (backTo pos (starEach [] X.env)) (backToKw pos (keywordEach [] X.env))) := by rfl) : PE X (.Call (.Attribute o m apos) [] [] pos) (tEv c L W (eM l f [])) :=
  pg_meth0 (pl := pl) (methOk_of hr h) tk ho ht
/-! ### walks, targets -/
theorem i_list {st : Bool} (x : XB X c) (ha : PE X iter (tEv c L W f)) : PI X tg iter (tIv c L W st (itE st f)) := gi_list x.K ha
theorem i_r1 {st : Bool} (hm : X.mg "range" = none) (ha : PE X a (tEv c L W f)) (hg : Gl X "range" := by rfl) (hs : starEach [a] X.env = (false, eval a X.env) :: starEach [] X.env := by rfl) : PI X tg (.Call (.Name "range" p) [a] [] pos) (tIv c L W st (itR1 f)) := gi_r1 hg hm ha hs
theorem i_r2 {st : Bool} (hm : X.mg "range" = none) (ha : PE X a (tEv c L W f)) (hb : PE X b (tEv c L W g)) (hg : Gl X "range" := by rfl) (hs : starEach [a, b] X.env = (false, eval a X.env) :: starEach [b] X.env := by rfl) (hs2 : starEach [b] X.env = (false, eval b X.env) :: starEach [] X.env := by rfl) : PI X tg (.Call (.Name "range" p) [a, b] [] pos) (tIv c L W st (itR2 f g)) := gi_r2 hg hm ha hb hs hs2
theorem i_zip {st : Bool} {e1 e2 : Expr} {elts : List Expr} {kk : Nat} {tpos : Pos} (x : XB X c) (hm : X.mg "zip" = none) (ha : PE X e1 (tEv c L W f)) (hb : PE X e2 (tEv c L W g)) (hg : Gl X "zip" := by rfl)
    (hs : starEach [e1, e2] X.env = (false, eval e1 X.env) :: starEach [e2] X.env := by rfl) (hs2 : starEach [e2] X.env = (false, eval e2 X.env) :: starEach [] X.env := by rfl) (hpl : (backTo pos (starEach [e2] X.env)).any (·.1) = false := by rfl) :
    PI X (.Tuple elts kk tpos) (.Call (.Name "zip" p) [e1, e2] [] pos) (tIv c L W st (itZip st f g)) := gi_zip x.K hg hm ha hb hs hs2 hpl
theorem i_enum {st : Bool} {e1 : Expr} {elts : List Expr} {kk : Nat} {tpos : Pos} (x : XB X c) (hm : X.mg "enumerate" = none) (ha : PE X e1 (tEv c L W f)) (hg : Gl X "enumerate" := by rfl) (hs : starEach [e1] X.env = (false, eval e1 X.env) :: starEach [] X.env := by rfl) :
    PI X (.Tuple elts kk tpos) (.Call (.Name "enumerate" p) [e1] [] pos) (tIv c L W st (itEnum st f)) := gi_enum x.K hg hm ha hs
theorem t_name (x : XB X c) (i : Nat) {n : Str} (hx : Loc X.env.scope n) (hf : X.fn n = true ∨ X.env.scope.names.lookup n = some .local) (hi : X.N[i]? = some n := by rfl) : PG X (.Name n pos) (gTv c L (.one i)) := gg_name x.nd hi hx hf
theorem ts_cons {es : List Expr} {t : Tg} {ts : List Tg} (h1 : PG X e (gTv c L t)) (h2 : PGs X es (gTvs c L ts)) (hs : (assignEach (e :: es) X.env).map (·.2) = assign e X.env :: (assignEach es X.env).map (·.2) := by rfl) : PGs X (e :: es) (gTvs c L (t :: ts)) := ggs_cons h1 h2 hs
theorem t_tup {es : List Expr} {k n : Nat} {ts : List Tg} (x : XC X c) (h : PGs X es (gTvs c L ts)) (hl : ts.length = n := by rfl) (hn : (assignEach es X.env).length = n := by rfl) (hst : (assignEach es X.env).findIdx? (·.1) = none := by rfl) : PG X (.Tuple es k pos) (gTv c L (.tup ts)) := gg_tup x.calm x.K h hn hst hl
end
end G
namespace G
open PySem PySem.Spec L2
def AllL {α : Type} (P : α → Prop) : List α → Prop
  | [] => True
  | a :: l => P a ∧ AllL P l
theorem AllL.mem {α : Type} {P : α → Prop} : ∀ {l : List α}, AllL P l → ∀ q ∈ l, P q
  | a :: l, h, q, hq => by
    rcases List.mem_cons.mp hq with rfl | z
    · exact h.1
    · exact AllL.mem h.2 q z
/-- a def of the text that gives R -/
def Fine (P : Program) (w : World) (K : PySem.W.Frag) (mg : Str → Option Value) (base : Heap) (θ : Th) (k : Nat) (d : He.DefD) (m : Nat) (R : List D → Out (D × Bool)) : Prop :=
  ∃ fd ps, FnOk P w K mg base (L2N.CX P w) k (He.fAd K d.at_) fd ps (spOf θ m R) ∧ Binds K fd ps [] ∧ PySem.W.keepIn K (.ref (He.fAd K d.at_)) = true
def FineI (P : Program) (w : World) (K : PySem.W.Frag) (mg : Str → Option Value) (base : Heap) (θ : Th) (k cn : Nat) (d : He.DefD) (m : Nat) (R : List D → Out (D × Bool)) : Prop :=
  ∃ fd ps, FnOk P w K mg base (L2N.CX P w) k (He.fAd K d.at_) fd ps (spInit θ m cn R) ∧ Binds K fd ps []
section
variable {X : Cx} {c : Cn} {L : List Addr} {W : WX} {f g h : ES} {a b e d tg iter : Expr} {pos p : Pos}
theorem Fine.call {θ : Th} {k m : Nat} {dd : He.DefD} {R : List D → Out (D × Bool)} (F : Fine X.prog X.w X.K X.mg X.base θ k dd m R) : CallOk X θ k (He.fAd X.K dd.at_) m R := by
  obtain ⟨fd, ps, h1, h2, h3⟩ := F
  exact ⟨fd, ps, h1, h2, h3⟩
theorem FineI.make {θ : Th} {k cn m : Nat} {dd : He.DefD} {R : List D → Out (D × Bool)} (F : FineI X.prog X.w X.K X.mg X.base θ k cn dd m R) (M : Mk X.K (θ.C cn) (He.fAd X.K dd.at_)) : MakeOk X θ k cn m R := by
  obtain ⟨fd, ps, h1, h2⟩ := F
  exact ⟨_, fd, ps, h1, h2, M⟩
theorem Fine.met {θ : Th} {k cn l : Nat} {dd : He.DefD} {m : Str} {R : List D → Out (D × Bool)} (F : Fine X.prog X.w X.K X.mg X.base θ k dd (l + 1) R) (c1 : Cls X.K (θ.C cn)) (m1 : Meth X.K (θ.C cn) m (He.fAd X.K dd.at_)) (n1 : m ∉ θ.fld cn) : MetOk X θ k cn m l R := by
  obtain ⟨fd, ps, h1, h2, _⟩ := F
  exact ⟨_, fd, ps, h1, c1, m1, h2, n1⟩
/-- a field's place by the class's number -/
def fxT (l : List (Nat × Nat)) : Nat → Option Nat := fun n => l.lookup n
theorem lookup_memN {α : Type} {n : Nat} {r : α} : ∀ {l : List (Nat × α)}, l.lookup n = some r → (n, r) ∈ l
  | (k, v) :: l, h => by
    rw [List.lookup_cons] at h
    cases e : n == k with
    | true =>
      rw [e] at h
      cases h
      rw [beq_iff_eq.mp e]
      exact List.mem_cons_self
    | false =>
      rw [e] at h
      exact List.mem_cons_of_mem _ (lookup_memN h)
theorem fldOk_of {x : Str} {l : List (Nat × Nat)} (h : AllL (fun q : Nat × Nat => Cls c.θ.K (c.θ.C q.1) ∧ NoAttr c.θ.K (c.θ.C q.1) x ∧ (c.θ.fld q.1)[q.2]? = some x ∧ (c.θ.fld q.1).Nodup) l) : FldOk c x (fxT l) :=
  ⟨fun n i hi => h.mem _ (lookup_memN hi)⟩
def fxOne (cn i : Nat) : Nat → Nat → Bool := fun k n => k == cn && n == i
theorem fx_of {K : PySem.W.Frag} {θ : Th} {cn i : Nat} {fn : Str} (h1 : (θ.fld cn)[i]? = some fn) (h2 : fn ∉ (θ.fld cn).take i) (h3 : Cls K (θ.C cn)) (h4 : NoAttr K (θ.C cn) fn) (h5 : i < 1000) :
    ∀ k n, fxOne cn i k n = true → (θ.fld k)[n]? = some fn ∧ fn ∉ (θ.fld k).take n ∧ Cls K (θ.C k) ∧ NoAttr K (θ.C k) fn ∧ n < 1000 := fun k n h => by
  obtain ⟨e1, e2⟩ := Bool.and_eq_true_iff.mp h
  obtain rfl := beq_iff_eq.mp e1
  obtain rfl := beq_iff_eq.mp e2
  exact ⟨h1, h2, h3, h4, h5⟩
theorem g_mt {l : MTab} {pl : Sem Bool} {o : Expr} {m : Str} {apos : Pos} {es : List Expr} {fs : List ES} {k n : Nat} (hr : Room k X.A) (tk : L2N.Takes X W) (h : AllL (fun q : Nat × (List D → Out (D × Bool)) => ∃ k', k' ≤ k ∧ MetOk X c.θ k' q.1 m n q.2) l) (ho : PE X o (tEv c L W f)) (ha : PA X (e :: es) (tAv c L W fs)) (hl : fs.length = n := by rfl)
    (hst : starEach (e :: es) X.env = (false, eval e X.env) :: starEach es X.env := by rfl) (hpl : (backTo pos (starEach es X.env)).any (·.1) = false := by rfl)
    (ht : eval (.Call (.Attribute o m apos) (e :: es) [] pos) X.env = (do
      let ov ← eval o X.env
      standAt apos.atName
      let (f, first) ← holding [ov] (getMethod ov m pl)
      callWith pos f first (backTo pos (starEach (e :: es) X.env)) (backToKw pos (keywordEach [] X.env))) := by rfl) : PE X (.Call (.Attribute o m apos) (e :: es) [] pos) (tEv c L W (eM l f fs)) := g_meth hr tk h.mem ho ha hl hst hpl ht
theorem g_mt0 {l : MTab} {pl : Sem Bool} {o : Expr} {m : Str} {apos : Pos} {k : Nat} (hr : Room k X.A) (tk : L2N.Takes X W) (h : AllL (fun q : Nat × (List D → Out (D × Bool)) => ∃ k', k' ≤ k ∧ MetOk X c.θ k' q.1 m 0 q.2) l) (ho : PE X o (tEv c L W f))
    (ht : eval (.Call (.Attribute o m apos) [] [] pos) X.env = (do
      let ov ← eval o X.env
      standAt apos.atName
      let (f, first) ← holding [ov] (getMethod ov m pl)
      callWith pos f first (backTo pos (starEach [] X.env)) (backToKw pos (keywordEach [] X.env))) := by rfl) : PE X (.Call (.Attribute o m apos) [] [] pos) (tEv c L W (eM l f [])) := g_meth0 hr tk h.mem ho ht
theorem g_raise {n : Nat} {x : Str} {pos' : Pos} (xc : XC X c) (tk : L2N.Takes X W) (gC : X.mg x = some (.ref (c.θ.C n))) (e : PySem.W.excIn X.K (c.θ.C n) He.veBase "ValueError.__new__" = true ∧ PySem.W.keepIn X.K (.ref (c.θ.C n)) = true ∧ PySem.W.subIn X.K (.ref (c.θ.C n)) (.type "BaseException") = some true ∧ PySem.W.typeIn X.K (.ref (c.θ.C n)) = some (.type "type"))
    (hg : Gl X x := by rfl) (hdb : (x == ("__debug__" : Str)) = false := by rfl) : PS X (.Raise (some (.Call (.Name x p) [] [] pos)) none pos') (tSv c L W (sRaise n)) :=
  gs_raise0 xc.calm tk PySem.F.excBase_ValueError e.1 gC e.2.1 (raises_own e.2.2.1 e.2.2.2) hg hdb
end
/-- the law's promise -/
theorem law_sp {θ : Th} {R : List D → Out (D × Bool)} {n : Nat} (h : ∀ ns : List Int, ns.length ≤ n → R [.frl ns] = .ok (.bl true, false)) (H : Hp) (a : Addr) (ns : List Int) (hl : ns.length ≤ n) (hS : SqL θ.K H a (ns.map V.int)) :
    spOf θ 1 R [.ref a] H (fun v _ => v = .bl true) fun _ _ _ => False := by
  refine ⟨rfl, H, [.frl ns], fun _ _ h => .inl h, .cons (.frl hS) .nil, ?_⟩
  rw [h ns hl]
  intro v F' H' _ hv
  cases hv
  rfl
/-- nothing leaves where no wish is met -/
theorem cx_never {P : Program} {w : World} (H : Hp) (s : Shared) (e : Value) (s' : Shared) : L2N.CX P w [] H s (fun _ _ _ => False) e s' → False := fun ⟨_, _, _, _, _, _, _, _, _, _, _, _, h⟩ => h
end G
namespace G
open PySem PySem.Spec L2
/-- what may leave, in any world -/
def CXW (P : Program) : CXT := fun outer H s E u s' => ∃ w, L2N.CX P w outer H s E u s'
theorem wcx {P : Program} {w : World} {K : PySem.W.Frag} {mg : Str → Option Value} {base : Heap} {k : Nat} {f : Addr} {fd : FuncData} {ps : List Str} {sp : Sp} (F : FnOk P w K mg base (L2N.CX P w) k f fd ps sp) : FnOk P w K mg base (CXW P) k f fd ps sp :=
  ⟨F.len, fun A outer s H args us vs Q E hr he hb hv hs => codeAny_mono (F.run A outer s H args us vs Q E hr he hb hv hs) fun r s' h => by
    cases r with
    | error e => exact ⟨w, h⟩
    | ok fl => cases fl <;> exact h⟩
theorem cxw_never {P : Program} (H : Hp) (s : Shared) (e : Value) (s' : Shared) : CXW P [] H s (fun _ _ _ => False) e s' → False := fun ⟨w, h⟩ => cx_never H s e s' h
end G
namespace G
open PySem PySem.Spec L2
theorem pss_no {X : Cx} {c : Cn} {L : List Addr} {W : WX} {ss : List Stmt} : PSs X ss (tSv c L W fun _ => .no) := ⟨fun _ _ _ _ _ _ h => by
  obtain ⟨_, _, _, h⟩ := h
  exact h.elim⟩
end G
/-! G: more constructs: xs[::-1], tuple(xs), what is never reached, dicts. -/
namespace G
open PySem PySem.Spec L2
def oRev : D → Out (D × Kd)
  | .lst xs => .ok (.lst xs.reverse, .fr)
  | _ => .no
def oTupOf : D → Out (D × Kd)
  | .lst xs => shr (.tup xs)
  | .tup xs => shr (.tup xs)
  | _ => .no
def eNo : ES := fun _ => .no
def tNo : TSm := fun _ => .no
def sNo : SS := fun _ => .no
def eDK : ES := fun _ => .ok (.dK [] [], .fr)
def eDT : ES := fun _ => .ok (.dT [] [], .fr)
def oInD : D → D → Out (D × Kd) := fun k d => match dGet d k with
  | some r => shr (.bl r.isSome)
  | none => .no
def oNiD : D → D → Out (D × Kd) := fun k d => match dGet d k with
  | some r => shr (.bl (!r.isSome))
  | none => .no
section
variable {X : Cx} {c : Cn} {L : List Addr} {W : WX} {f g h : ES} {a b e d tg iter : Expr} {pos p : Pos}
theorem RepL.reverse {θ : Th} {F : Hp} : ∀ {ds : List D} {xs : List V}, RepL θ F ds xs → RepL θ F ds.reverse xs.reverse
  | _, _, .nil => .nil
  | _, _, .cons r t => by
    rw [List.reverse_cons, List.reverse_cons]
    exact (RepL.reverse t).append (.cons r .nil)
theorem g_rev {k : Nat} {p1 p2 p3 : Pos} (x : XB X c) (ha : PE X e (tEv c L W f)) : PE X (.Subscript e (.Slice none none (some (.UnaryOp .USub (.Constant (.int 1) k p1) p2)) p3) pos) (tEv c L W (eUn oRev f)) := by
  refine pe_ev (pe_revL ha) fun σ H Q h => ?_
  obtain ⟨F, ρ, R, h⟩ := of_tEv h
  refine ev_bind R h fun d k v F1 H1 ef e1 rd so R1 h1 => ?_
  clear ef h so
  cases d <;> first | exact (show False from h1).elim | skip
  obtain ⟨q, xs, rfl, hq, r⟩ := rd.lst R1.sub
  exact ⟨q, xs, rfl, .inl (.inl hq), fun l hl => h1.lay R1.sub (.lst r.reverse) hl⟩
theorem g_tupOf (x : XB X c) (hm : X.mg "tuple" = none) (ha : PE X e (tEv c L W f)) (hg : Gl X "tuple" := by rfl) (hs : starEach [e] X.env = (false, eval e X.env) :: starEach [] X.env := by rfl) : PE X (.Call (.Name "tuple" p) [e] [] pos) (tEv c L W (eUn oTupOf f)) := by
  refine pe_ev (pe_callTy call_tuple_of hg hm (by decide +kernel) (pa_cons ha pa_nil hs) (by decide) (by decide) hs (by rfl)) fun σ H Q h => ?_
  obtain ⟨F, ρ, R, h⟩ := of_tEv h
  refine ev_bind R h fun d k v F1 H1 ef e1 rd so R1 h1 => ?_
  clear ef h so
  rw [x.K]
  cases d <;> first | exact (show False from h1).elim | skip
  · obtain ⟨q, xs, rfl, hq, r⟩ := rd.lst R1.sub
    exact ⟨q, xs, rfl, .inl ⟨.inl (.inl hq), fun l hl => h1.layT R1.sub r hl⟩⟩
  · obtain ⟨q, xs, rfl, hq, r, z⟩ := rd.tup R1.sub
    exact ⟨q, xs, rfl, .inr ⟨.inl (.inl hq), h1.sh R1.sub z⟩⟩
theorem g_no : PE X e (tEv c L W eNo) := ⟨fun _ _ _ _ _ _ h => by
  obtain ⟨_, _, _, h⟩ := h
  exact h.elim⟩
theorem t_no : PT X e (tTv c L W tNo) := ⟨fun _ _ _ _ _ _ h => by
  obtain ⟨_, _, _, h⟩ := h
  exact h.elim⟩
theorem gs_no {st : Stmt} : PS X st (tSv c L W sNo) := ⟨fun _ _ _ _ _ _ h => by
  obtain ⟨_, _, _, h⟩ := h
  exact h.elim⟩
/-! ### dicts -/
theorem g_dK : PE X (.Dict [] [] pos) (tEv c L W eDK) := by
  refine pe_ev pe_dnewK fun σ H Q h => ?_
  obtain ⟨F, ρ, R, h⟩ := of_tEv h
  intro q hq
  exact h _ F _ (Ext.lay R.sub hq) ⟨trivial, q, _, rfl, hq, upd_same, R.sub.free hq, .dK (xs := []) rfl .nil, Nw.of rfl⟩
theorem g_dT : PE X (.Dict [] [] pos) (tEv c L W eDT) := by
  refine pe_ev pe_dnewT fun σ H Q h => ?_
  obtain ⟨F, ρ, R, h⟩ := of_tEv h
  intro q hq
  exact h _ F _ (Ext.lay R.sub hq) ⟨trivial, q, _, rfl, hq, upd_same, R.sub.free hq, .dT (xs := []) rfl .nil, Nw.of rfl⟩
theorem lookK_valV {θ : Th} {F : Hp} {κ : Type} [DecidableEq κ] {k : κ} : ∀ {ks : List κ} {ds : List D} {xs : List V}, RepL θ F ds xs → (valV (ks.zip xs) k).isSome = (lookK ks ds k).isSome
  | [], _, _, _ => rfl
  | _ :: _, _, _, .nil => rfl
  | x :: ks, _, _, .cons (d := d) (v := v) r t => by
    by_cases q : x = k
    · rw [List.zip_cons_cons, valV_pos q]
      unfold lookK
      rw [if_pos q]
      rfl
    · rw [List.zip_cons_cons, valV_neg q]
      unfold lookK
      rw [if_neg q]
      exact lookK_valV t
theorem dget_some {σ : L2.St} {ρ : Sl} {F H : Hp} {Q : VK} {dk dd : D} {vk vd : V} {r : Option D} (s : Sub F H) (rk : Rd1 c.θ F H dk vk) (rd : Rd1 c.θ F H dd vd) (q : dGet dd dk = some r) : ∃ a o, vd = .ref a ∧ DGet H a vk o ∧ o.isSome = r.isSome := by
  cases dd <;> first | (cases q; done) | skip
  · rename_i ks ds
    obtain ⟨a, xs, rfl, l, rl, ha⟩ := rd.dK s
    replace q : (keyOf dk).map (fun x => lookK ks ds x) = some r := q
    cases qk : keyOf dk with
    | none => rw [qk] at q; cases q
    | some k =>
      rw [qk] at q
      cases q
      exact ⟨a, _, rfl, .inl ⟨_, k, ha, keyOf_v qk rk, rfl⟩, lookK_valV rl⟩
  · rename_i ks ds
    obtain ⟨a, xs, rfl, l, rl, ha⟩ := rd.dT s
    replace q : (tkeyOf dk).map (fun x => lookK ks ds x) = some r := q
    cases qk : tkeyOf dk with
    | none => rw [qk] at q; cases q
    | some k =>
      rw [qk] at q
      cases q
      obtain ⟨b, rfl, hb⟩ := tkeyOf_v s qk rk
      exact ⟨a, _, rfl, .inr ⟨_, k, b, ha, rfl, hb, rfl⟩, lookK_valV rl⟩
theorem rd_inD {σ : L2.St} {H : Hp} {Q : VK} (h : tEv c L W (eBin oInD f g) σ H Q) : tDIn (tEv c L W f) (tEv c L W g) σ H Q := by
  obtain ⟨F, ρ, R, h⟩ := of_tEv h
  refine ev_bind R h fun d k v F1 H1 _ e1 rd1 _ R1 h1 => ?_
  refine ev_bind R1 h1 fun d2 k2 y F2 H2 _ e2 rd2 _ R2 h2 => ?_
  replace h2 : Res c W σ ρ F2 H2 Q (match dGet d2 d with
    | some r => shr (.bl r.isSome)
    | none => .no) := h2
  cases q : dGet d2 d with
  | none => rw [q] at h2; exact h2.elim
  | some r =>
    rw [q] at h2
    obtain ⟨a, o, e, g1, g2⟩ := dget_some (σ := σ) (ρ := ρ) (Q := Q) R2.sub (rd1.ext e2) rd2 q
    refine ⟨a, o, e, g1, ?_⟩
    rw [g2]
    exact h2.bl R2.sub
theorem rd_niD {σ : L2.St} {H : Hp} {Q : VK} (h : tEv c L W (eBin oNiD f g) σ H Q) : tDNotIn (tEv c L W f) (tEv c L W g) σ H Q := by
  obtain ⟨F, ρ, R, h⟩ := of_tEv h
  refine ev_bind R h fun d k v F1 H1 _ e1 rd1 _ R1 h1 => ?_
  refine ev_bind R1 h1 fun d2 k2 y F2 H2 _ e2 rd2 _ R2 h2 => ?_
  replace h2 : Res c W σ ρ F2 H2 Q (match dGet d2 d with
    | some r => shr (.bl (!r.isSome))
    | none => .no) := h2
  cases q : dGet d2 d with
  | none => rw [q] at h2; exact h2.elim
  | some r =>
    rw [q] at h2
    obtain ⟨a, o, e, g1, g2⟩ := dget_some (σ := σ) (ρ := ρ) (Q := Q) R2.sub (rd1.ext e2) rd2 q
    refine ⟨a, o, e, g1, ?_⟩
    rw [g2]
    exact h2.bl R2.sub
theorem g_inD (x : XB X c) (ha : PE X a (tEv c L W f)) (hb : PE X b (tEv c L W g)) (hm : behindInMarks .In b = false := by rfl) : PE X (.Compare a [.In] [b] pos) (tEv c L W (eBin oInD f g)) := pe_ev (pe_cmp (pc_din x.u1 ha hb) hm) fun σ H Q h => rd_inD h
theorem g_niD (x : XB X c) (ha : PE X a (tEv c L W f)) (hb : PE X b (tEv c L W g)) (hm : behindInMarks .NotIn b = false := by rfl) : PE X (.Compare a [.NotIn] [b] pos) (tEv c L W (eBin oNiD f g)) := pe_ev (pe_cmp (pc_dnotin x.u1 ha hb) hm) fun σ H Q h => rd_niD h
theorem t_inD (x : XB X c) (ha : PE X a (tEv c L W f)) (hb : PE X b (tEv c L W g)) (hm : behindInMarks .In b = false := by rfl) : PT X (.Compare a [.In] [b] pos) (tTv c L W (tBl (eBin oInD f g))) := pgt_of_bool (pt_cmp (pc_din x.u1 ha hb) hm) fun σ H Q h => rd_inD h
theorem t_niD (x : XB X c) (ha : PE X a (tEv c L W f)) (hb : PE X b (tEv c L W g)) (hm : behindInMarks .NotIn b = false := by rfl) : PT X (.Compare a [.NotIn] [b] pos) (tTv c L W (tBl (eBin oNiD f g))) := pgt_of_bool (pt_cmp (pc_dnotin x.u1 ha hb) hm) fun σ H Q h => rd_niD h
end
end G
/-! G: try, except C as e. -/
namespace G
open PySem PySem.Spec L2
def unX : Slot → Slot
  | .me _ _ => .un
  | .xc => .un
  | s => s
def clr (i : Nat) (s : Slot) (ρ : Sl) : Sl := (ρ.map unX).set i s
theorem clr_some {i j : Nat} {s z : Slot} {ρ : Sl} (h : (clr i s ρ)[j]? = some z) (hz : z ≠ .un) : (j = i ∧ z = s) ∨ (j ≠ i ∧ ρ[j]? = some z ∧ unX z = z) := by
  unfold clr at h
  by_cases q : j = i
  · subst q
    by_cases l : j < (ρ.map unX).length
    · rw [List.getElem?_set_self l] at h
      exact .inl ⟨rfl, (Option.some.inj h).symm⟩
    · rw [List.getElem?_eq_none (by simpa using l)] at h
      cases h
  · rw [List.getElem?_set_ne (Ne.symm q), List.getElem?_map] at h
    cases y : ρ[j]? with
    | none => rw [y] at h; cases h
    | some w =>
      rw [y] at h
      replace h : unX w = z := Option.some.inj h
      cases w <;> first | exact absurd h.symm hz | (cases h; exact .inr ⟨q, rfl, rfl⟩)
section
variable {θ : Th} {F0 B F H : Hp} {L : List Addr} {σ : L2.St} {ρ : Sl} {a : Addr} {i : Nat}
theorem σ_ne {v : Option V} {j : Nat} (h : j ≠ i) : (σ.set i v)[j]? = σ[j]? := List.getElem?_set_ne (Ne.symm h)
theorem Rel.pvClr {s : Slot} {v : Option V} (R : Rel θ F0 B L F H σ ρ) (hs : ∀ k d, s ≠ .pv k d) (ho : ¬ ((∃ d, s = .ow d) ∨ ∃ k ds, s = .me k ds)) : ∃ Z, PvAll θ B F H (σ.set i v) (clr i s ρ) Z := by
  obtain ⟨Z, hZ⟩ := R.pv
  refine ⟨Z, hZ.step (.refl _) (fun _ _ h => h) (fun j k d h => ?_) fun j k d l b h ho2 hs2 => ?_⟩
  · rcases clr_some h (by intro z; cases z) with ⟨_, z⟩ | ⟨q, z, _⟩
    · exact absurd z.symm (hs k d)
    · exact ⟨z, σ_ne q, fun b hb => ⟨rfl, ((hZ j k d z).2.2.1 b hb).1⟩⟩
  · rcases clr_some h (by intro z; cases z) with ⟨_, z⟩ | ⟨q, z, _⟩
    · exact absurd z.symm (hs k d)
    · rcases ho2 with ⟨d2, hd⟩ | ⟨k2, ds, hd⟩
      · rcases clr_some hd (by intro z; cases z) with ⟨_, z2⟩ | ⟨q2, z2, _⟩
        · exact absurd (.inl ⟨d2, z2.symm⟩) ho
        · rw [σ_ne q2] at hs2
          exact (hZ j k d z).2.2.2.1 l b (.inl ⟨d2, z2⟩) hs2
      · rcases clr_some hd (by intro z; cases z) with ⟨_, z2⟩ | ⟨q2, z2, _⟩
        · exact absurd (.inr ⟨k2, ds, z2.symm⟩) ho
        · rw [σ_ne q2] at hs2
          exact (hZ j k d z).2.2.2.1 l b (.inr ⟨k2, ds, z2⟩) hs2
/-- into the suite -/
theorem Rel.hotIn (R : Rel θ F0 B L F H σ ρ) (na : H a = none) : Rel θ F0 B (a :: L) F H (σ.set i (some (.ref a))) (clr i .xc ρ) := by
  refine ⟨R.sub, fun b u h => ?_, R.f0, R.fn, by unfold clr; simpa using R.len, fun j d h => ?_, fun j d h => ?_, fun j d h => ?_, fun j k d e b hn h1 h2 h3 => ?_, fun j k ds h => ?_, fun j h => ?_, R.pvClr (fun _ _ h => by cases h) (fun z => by rcases z with ⟨_, z⟩ | ⟨_, _, z⟩ <;> cases z)⟩
  · rcases R.kp b u h with z | ⟨z1, z2⟩
    · exact .inl z
    · exact .inr ⟨List.mem_cons_of_mem _ z1, z2⟩
  · rcases clr_some h (by intro z; cases z) with ⟨_, z⟩ | ⟨q, z, _⟩
    · cases z
    · rw [σ_ne q]
      exact R.va j d z
  · rcases clr_some h (by intro z; cases z) with ⟨_, z⟩ | ⟨q, z, _⟩
    · cases z
    · rw [σ_ne q]
      exact R.ow j d z
  · rcases clr_some h (by intro z; cases z) with ⟨_, z⟩ | ⟨q, z, _⟩
    · cases z
    · exact R.fu j d z
  · rcases clr_some h1 (by intro z; cases z) with ⟨_, z⟩ | ⟨q1, z1, _⟩
    · cases z
    rcases clr_some h2 (by intro z; cases z) with ⟨_, z⟩ | ⟨q2, z2, _⟩
    · cases z
    rw [σ_ne q1] at h3
    rw [σ_ne q2]
    exact R.dj j k d e b hn z1 z2 h3
  · rcases clr_some h (by intro z; cases z) with ⟨_, z⟩ | ⟨_, _, z⟩ <;> cases z
  · rcases clr_some h (by intro z; cases z) with ⟨rfl, _⟩ | ⟨_, _, z⟩
    · refine ⟨a, rfl, ?_⟩
      have l : j < (clr j .xc ρ).length := (List.getElem?_eq_some_iff.mp h).1
      unfold clr at l
      have := R.len
      exact List.getElem?_set_self (by simp at l; omega)
    · cases z
/-- out of it -/
theorem Rel.hotOut (R : Rel θ F0 B (a :: L) F H σ ρ) (na : B a = none) : Rel θ F0 B L F H (σ.set i none) (clr i .un ρ) := by
  refine ⟨R.sub, fun b u h => ?_, R.f0, R.fn, by unfold clr; simpa using R.len, fun j d h => ?_, fun j d h => ?_, fun j d h => ?_, fun j k d e b hn h1 h2 h3 => ?_, fun j k ds h => ?_, fun j h => ?_, R.pvClr (fun _ _ h => by cases h) (fun z => by rcases z with ⟨_, z⟩ | ⟨_, _, z⟩ <;> cases z)⟩
  · rcases R.kp b u h with z | ⟨z1, z2⟩
    · exact .inl z
    · rcases List.mem_cons.mp z1 with rfl | z1
      · rw [na] at h; cases h
      · exact .inr ⟨z1, z2⟩
  · rcases clr_some h (by intro z; cases z) with ⟨_, z⟩ | ⟨q, z, _⟩
    · cases z
    · rw [σ_ne q]
      exact R.va j d z
  · rcases clr_some h (by intro z; cases z) with ⟨_, z⟩ | ⟨q, z, _⟩
    · cases z
    · rw [σ_ne q]
      exact R.ow j d z
  · rcases clr_some h (by intro z; cases z) with ⟨_, z⟩ | ⟨q, z, _⟩
    · cases z
    · exact R.fu j d z
  · rcases clr_some h1 (by intro z; cases z) with ⟨_, z⟩ | ⟨q1, z1, _⟩
    · cases z
    rcases clr_some h2 (by intro z; cases z) with ⟨_, z⟩ | ⟨q2, z2, _⟩
    · cases z
    rw [σ_ne q1] at h3
    rw [σ_ne q2]
    exact R.dj j k d e b hn z1 z2 h3
  · rcases clr_some h (by intro z; cases z) with ⟨_, z⟩ | ⟨_, _, z⟩ <;> cases z
  · rcases clr_some h (by intro z; cases z) with ⟨_, z⟩ | ⟨_, _, z⟩ <;> cases z
end
def fOut (i : Nat) : Fl → Fl
  | .nx ρ => .nx (clr i .un ρ)
  | .bk ρ => .bk (clr i .un ρ)
  | .ct ρ => .ct (clr i .un ρ)
  | .rt d k => .rt d k
  | _ => .no
/-- try: u, except C as x_i: su; hit: is it of the class C? -/
def sTry (i : Nat) (hit : Nat → Option Bool) (u : SS) (su : Nat → List D → SS) : SS := fun ρ => match u ρ with
  | .ex n fs ρ' => match hit n with
    | some true => fOut i (su n fs (clr i .xc ρ'))
    | some false => .ex n fs ρ'
    | none => .no
  | o => o
def tSuite (c : Cn) (L : List Addr) (su : Nat → List D → SS) (a : Addr) (cls : Value) (d : Option Addr) : TS := fun E σ H =>
  ∃ n fs F ρ, cls = .ref (c.θ.C n) ∧ (fs = [] → d = none) ∧ Rel c.θ c.F0 c.B (a :: L) F H σ ρ ∧ ResS c (a :: L) WF F E (su n fs ρ)
section
variable {X : Cx} {c : Cn} {L : List Addr} {W : WX} {u : SS} {su : Nat → List D → SS} {hit : Nat → Option Bool} {x n : Str} {C : Value} {i : Nat} {body suite : List Stmt} {b₀ : Stmt} {np pos pos' : Pos}
theorem gs_tryAs (xc : XB X c) (hs : X.stack = X.env :: X.outer) (hf : X.env.frame = some X.env.locals) (hi : X.N[i]? = some n) (hln : X.env.kindOf n = some .local) (hc : Names X x C) (tk : L2N.Takes X W)
    (hh : ∀ k b, hit k = some b → PySem.W.exmOne X.K (.ref (c.θ.C k)) C = some b)
    (hb : ∀ (W : WX) (pn : List (Addr × Obj)) (xe : Value → Shared → Prop), L2N.Takes (X.tr pn xe) W → PassesOwn (model X.prog X.w) X.A X.env xe → PSs (X.tr pn xe) body (tSv c L W u))
    (hsu : ∀ (a : Addr) (oe : Obj) (k : Nat) (d : Option Addr) (fs : List D) (pn : List (Addr × Obj)), L2N.Zn (.ref (c.θ.C k)) d oe → (fs = [] → d = none) → (∃ vs, oe.data = .fields vs) → PSs (X.suite a ((a, oe) :: pn)) (b₀ :: suite) (tSv c (a :: L) WF (su k fs))) :
    PS X (.Try body [.ExceptHandler (some (.Name x np)) (some n) (b₀ :: suite) pos'] [] [] pos) (tSv c L W (sTry i hit u su)) := by
  refine ps_ev (L2N.ps_try_as (tb := fun W => tSv c L W u) (ts := tSuite c L su) hs hf xc.nd hi hln hc tk hb (fun a oe cls d pn hz hv => ⟨fun pins s σ H D I hw => ?_⟩)) fun E σ H h => ?_
  · obtain ⟨k, fs, F, ρ, rfl, hd, R, h⟩ := hw
    exact (hsu a oe k d fs pn hz hd hv).run pins s σ H D I ⟨F, ρ, R, h⟩
  · obtain ⟨F, ρ, R, h⟩ := h
    refine ⟨F, ρ, R, ?_⟩
    replace h : ResS c L W F E (match u ρ with
      | .ex n fs ρ' => match hit n with
        | some true => fOut i (su n fs (clr i .xc ρ'))
        | some false => .ex n fs ρ'
        | none => .no
      | o => o) := h
    cases q : u ρ with
    | nx ρ' => rw [q] at h; exact h
    | bk ρ' => rw [q] at h; exact h
    | ct ρ' => rw [q] at h; exact h
    | rt d k => rw [q] at h; exact h
    | no => rw [q] at h; exact h
    | ex n fs ρ' =>
      rw [q] at h
      replace h : ResS c L W F E (match hit n with
        | some true => fOut i (su n fs (clr i .xc ρ'))
        | some false => .ex n fs ρ'
        | none => .no) := h
      intro cls dd σ' F' H' e' R' hv
      have ec : cls = .ref (c.θ.C n) := hv.1
      have ed : fs = [] → dd = none := fun z => by
        subst z
        exact hv.2
      cases y : hit n with
      | none => rw [y] at h; exact h.elim
      | some b =>
        rw [y] at h
        refine ⟨b, by rw [ec]; exact hh _ _ y, fun hb a na => ?_, fun hb => ?_⟩
        · subst hb
          replace h : ResS c L W F E (fOut i (su n fs (clr i .xc ρ'))) := h
          have hB := R'.noneB na
          refine ⟨n, fs, F', _, ec, ed, R'.hotIn na, ?_⟩
          cases z : su n fs (clr i .xc ρ') with
          | nx ρ2 => rw [z] at h; exact fun σ2 F2 H2 e2 R2 => h _ F2 H2 (e'.trans e2) (R2.hotOut hB)
          | bk ρ2 => rw [z] at h; exact fun σ2 F2 H2 e2 R2 => h _ F2 H2 (e'.trans e2) (R2.hotOut hB)
          | ct ρ2 => rw [z] at h; exact fun σ2 F2 H2 e2 R2 => h _ F2 H2 (e'.trans e2) (R2.hotOut hB)
          | rt d k => rw [z] at h; exact fun v σ2 ρ2 F2 H2 e2 R2 rv => h v _ _ F2 H2 (e'.trans e2) (R2.hotOut (i := i) hB) rv
          | ex n2 fs2 ρ2 => rw [z] at h; exact h.elim
          | no => rw [z] at h; exact h.elim
        · subst hb
          exact h cls dd σ' F' H' e' R' hv
end
/-! ### isinstance of the handled exception -/
/-- the context bears the exception at a, of the class n without a dict -/
structure Held (X : Cx) (c : Cn) (L : List Addr) (n : Nat) : Prop where
  ex : ∃ a oe, L.head? = some a ∧ (a, oe) ∈ X.pn ∧ Zc (.ref (c.θ.C n)) none oe ∧ L2H.Hot1 X.A (a, oe)
theorem held_suite {X : Cx} {c : Cn} {L : List Addr} {n : Nat} {a : Addr} {oe : Obj} {d : Option Addr} {pn : List (Addr × Obj)} (hz : L2N.Zn (.ref (c.θ.C n)) d oe) (hd : d = none) (hv : ∃ vs, oe.data = .fields vs) : Held (X.suite a ((a, oe) :: pn)) c (a :: L) n := by
  subst hd
  obtain ⟨vs, hv⟩ := hv
  exact ⟨a, oe, rfl, List.mem_cons_self, hz.zc, rfl, vs, hv, hz.2.2 vs hv⟩
def eIsE (hit : Nat → Option Bool) (i n : Nat) : ES := fun ρ => match ρ[i]? with
  | some .xc => match hit n with
    | some b => .ok (.bl b, .sh)
    | none => .no
  | _ => .no
theorem call_isH {X : Cx} {a D : Addr} {oe : Obj} (C : ExcC X.K D) (hp : (a, oe) ∈ X.pn) (hz : Zc (.ref D) none oe) (hf : ∃ vs, oe.data = .fields vs) : CallR X (.builtin "isinstance") (rIsE X.K D a) := by
  intro pins s σ H xs us Q I r h
  obtain ⟨y, cv, b, rfl, hcv, e, q⟩ := h
  cases r with
  | cons r1 rr =>
    cases rr with
    | cons r2 rr =>
      cases rr
      cases r1
      have ec := hcv _ r2
      subst ec
      have get := (I.pin (a, oe) (List.mem_append_left _ hp)).1
      obtain ⟨vs, hv⟩ := hf
      have J : PySem.W.InstAt s.heap a oe D none := by
        obtain ⟨o1, o2, o3, o4⟩ := oe
        obtain ⟨z1, z2⟩ := hz
        dsimp only at z1 z2 hv
        subst z1 z2 hv
        exact ⟨get, rfl, rfl, trivial⟩
      exact PySem.W.kia_one (PySem.W.handS_kitx_exc C.hg C.hk C.hs C.hd C.ha C.hn C.ht C.hm) I.kIn J e (fun z => nomatch z) fun tk => ⟨.bl b, H, I.kept (t' := tk) fun _ _ z => z, rfl, q⟩
section
variable {X : Cx} {c : Cn} {L : List Addr} {W : WX} {hit : Nat → Option Bool} {n : Nat} {x T : Str} {p p1 p2 pos : Pos}
theorem g_isE {Cv : Value} {v : V} (i : Nat) (hd : Held X c L n) (hh : ∀ b, hit n = some b → ExcC X.K (c.θ.C n) ∧ PySem.W.kitOne X.K (.ref (c.θ.C n)) Cv = some b) (hv : Vis X.env.scope x) (hT : PE X (.Name T p2) (tC v)) (hcv : ∀ u, RelV v u → u = Cv) (hm : X.mg "isinstance" = none)
    (hN : X.N[i]? = some x := by rfl) (hdb : (x == ("__debug__" : Str)) = false := by rfl) (hcd : (x == ("__classdict__" : Str)) = false := by rfl) (hg : Gl X "isinstance" := by rfl)
    (hst : starEach [.Name x p1, .Name T p2] X.env = (false, eval (.Name x p1) X.env) :: starEach [.Name T p2] X.env := by rfl) (hst2 : starEach [.Name T p2] X.env = (false, eval (.Name T p2) X.env) :: starEach [] X.env := by rfl)
    (hpl : (backTo pos (starEach [.Name T p2] X.env)).any (·.1) = false := by rfl) : PE X (.Call (.Name "isinstance" p) [.Name x p1, .Name T p2] [] pos) (tEv c L W (eIsE hit i n)) := by
  refine ⟨fun pins s σ H Q I h => ?_⟩
  obtain ⟨a, oe, ha, hp, hz, _, vs, hf, _⟩ := hd.ex
  obtain ⟨F, ρ, R, h⟩ := of_tEv h
  unfold eIsE at h
  cases q : ρ[i]? with
  | none => rw [q] at h; exact h.elim
  | some sl =>
    rw [q] at h
    cases sl <;> first | exact (show False from h).elim | skip
    obtain ⟨b, hb, hs⟩ := R.xc i q
    obtain rfl : b = a := by rw [ha] at hb; exact (Option.some.inj hb).symm
    replace h : Res c W σ ρ F H Q (match hit n with
      | some b => .ok (.bl b, .sh)
      | none => .no) := h
    cases y : hit n with
    | none => rw [y] at h; exact h.elim
    | some r =>
      rw [y] at h
      obtain ⟨C, hk⟩ := hh _ y
      exact (pe_callB (call_isH C hp hz ⟨vs, hf⟩) hg hm (by decide +kernel) (pa_cons (pe_var hN hv hdb hcd) (pa_cons hT pa_nil hst2) hst) (he := hst) (hpl := hpl)).run pins s σ H Q I ⟨.ref b, hs, v, Cv, r, rfl, hcv, hk, h.bl R.sub⟩
def hitT (l : List (Nat × Bool)) : Nat → Option Bool := fun n => l.lookup n
/-- isinstance(e, an own class) -/
theorem g_isO {Ca : Addr} {l : List (Nat × Bool)} (i : Nat) (hd : Held X c L n) (hv : Vis X.env.scope x) (hm : X.mg "isinstance" = none) (hT : X.mg T = some (.ref Ca)) (hh : AllL (fun q : Nat × Bool => ExcC X.K (c.θ.C q.1) ∧ PySem.W.kitOne X.K (.ref (c.θ.C q.1)) (.ref Ca) = some q.2) l)
    (hN : X.N[i]? = some x := by rfl) (hdb : (x == ("__debug__" : Str)) = false := by rfl) (hcd : (x == ("__classdict__" : Str)) = false := by rfl) (hg : Gl X "isinstance" := by rfl) (hgT : Gl X T := by rfl) (hdT : (T == ("__debug__" : Str)) = false := by rfl)
    (hst : starEach [.Name x p1, .Name T p2] X.env = (false, eval (.Name x p1) X.env) :: starEach [.Name T p2] X.env := by rfl) (hst2 : starEach [.Name T p2] X.env = (false, eval (.Name T p2) X.env) :: starEach [] X.env := by rfl)
    (hpl : (backTo pos (starEach [.Name T p2] X.env)).any (·.1) = false := by rfl) : PE X (.Call (.Name "isinstance" p) [.Name x p1, .Name T p2] [] pos) (tEv c L W (eIsE (hitT l) i n)) :=
  g_isE (Cv := .ref Ca) (v := .ref Ca) i hd (fun b hb => hh.mem _ (lookup_memN hb)) hv (pe_glob hgT hT rfl hdT) (fun _ h => h) hm hN hdb hcd hg hst hst2 hpl
/-- isinstance(e, ValueError) -/
theorem g_isV {S : String} {l : List (Nat × Bool)} (i : Nat) (hd : Held X c L n) (hv : Vis X.env.scope x) (hm : X.mg "isinstance" = none) (hT : X.mg T = none) (hbT : bootBuiltins T = some (.type S)) (hh : AllL (fun q : Nat × Bool => ExcC X.K (c.θ.C q.1) ∧ PySem.W.kitOne X.K (.ref (c.θ.C q.1)) (.type S) = some q.2) l)
    (hN : X.N[i]? = some x := by rfl) (hdb : (x == ("__debug__" : Str)) = false := by rfl) (hcd : (x == ("__classdict__" : Str)) = false := by rfl) (hg : Gl X "isinstance" := by rfl) (hgT : Gl X T := by rfl) (hdT : (T == ("__debug__" : Str)) = false := by rfl) (hnT : T ≠ "__name__" := by decide)
    (hst : starEach [.Name x p1, .Name T p2] X.env = (false, eval (.Name x p1) X.env) :: starEach [.Name T p2] X.env := by rfl) (hst2 : starEach [.Name T p2] X.env = (false, eval (.Name T p2) X.env) :: starEach [] X.env := by rfl)
    (hpl : (backTo pos (starEach [.Name T p2] X.env)).any (·.1) = false := by rfl) : PE X (.Call (.Name "isinstance" p) [.Name x p1, .Name T p2] [] pos) (tEv c L W (eIsE (hitT l) i n)) :=
  g_isE (Cv := .type S) (v := .ty S) i hd (fun b hb => hh.mem _ (lookup_memN hb)) hv (pe_bltn hgT hT hbT rfl hnT hdT) (fun _ h => h) hm hN hdb hcd hg hst hst2 hpl
theorem hit_of {Cv : Value} {l : List (Nat × Bool)} (hh : AllL (fun q : Nat × Bool => PySem.W.exmOne X.K (.ref (c.θ.C q.1)) Cv = some q.2) l) : ∀ k b, hitT l k = some b → PySem.W.exmOne X.K (.ref (c.θ.C k)) Cv = some b := fun k b hb => hh.mem _ (lookup_memN hb)
end
end G
/-! G: a def of one parameter, called with the handled exception within an except suite. -/
namespace G
open PySem PySem.Spec L2 L2H
/-- what such a def of N slots gives for an exception of class n -/
def denX (N : Nat) (u : Nat → SS) (n : Nat) : Out (D × Bool) := match u n (.xc :: List.replicate (N - 1) .un) with
  | .nx _ => .ok (.non, false)
  | .rt d .sh => .ok (d, false)
  | .rt _ (.tr _) => .no
  | .rt d _ => .ok (d, true)
  | _ => .no
structure FnX (P : Program) (w : World) (K : PySem.W.Frag) (mg : Str → Option Value) (base : Heap) (θ : Th) (k : Nat) (f : Addr) (fd : FuncData) (ps : List Str) (R : Nat → Out (D × Bool)) : Prop where
  len : ps.length = 1
  run : ∀ (A : Around) (outer : List Env) (s : Shared) (H : Hp) (args : Args) (us : List Value) (Q : VK) (E : XK) (p : Addr × Obj) (n : Nat), RoomH k A → Hot1 A p → PinOk outer H s p → Zc (.ref (θ.C n)) none p.2 → Env0 P w K mg base A outer s H → BindsTo s fd args (ps.zip us) → Vals [.ref p.1] us →
    (∃ F, Sub F H ∧ ResF θ F H Q E (R n)) → codeAny (model P w) A (.call (.ref f) args) (CR (L2N.CX P w) outer P w H s Q E) s
section
variable {θ : Th} {F F0 B H : Hp} {a : Addr}
theorem hot_rel {N : List Str} (hN : 0 < N.length) (s : Sub F H) (na : H a = none) : Rel θ F H [a] F H (L2.start N [.ref a]) (.xc :: List.replicate (N.length - 1) .un) := by
  have no : ∀ {j : Nat} {z : Slot}, (Slot.xc :: List.replicate (N.length - 1) Slot.un)[j]? = some z → z = .un ∨ (z = .xc ∧ j = 0) := fun {j z} h => by
    cases j with
    | zero => exact .inr ⟨(Option.some.inj h).symm, rfl⟩
    | succ j =>
      rw [List.getElem?_cons_succ] at h
      exact .inl (List.eq_of_mem_replicate (List.mem_of_getElem? h))
  refine ⟨s, fun b u h => .inl h, .refl _, fun b u h => .inl h, ?_, fun j d h => ?_, fun j d h => ?_, fun j d h => ?_, fun j k d e b hn h1 => ?_, fun j k ds h => ?_, fun j h => ?_, ⟨_, PvAll.empty fun j k d h => ?_⟩⟩
  rotate_right
  · rcases no h with z | ⟨z, _⟩ <;> cases z
  · unfold L2.start
    simp
  · rcases no h with z | ⟨z, _⟩ <;> cases z
  · rcases no h with z | ⟨z, _⟩ <;> cases z
  · rcases no h with z | ⟨z, _⟩ <;> cases z
  · rcases no h1 with z | ⟨z, _⟩ <;> cases z
  · rcases no h with z | ⟨z, _⟩ <;> cases z
  · rcases no h with z | ⟨_, rfl⟩
    · cases z
    · exact ⟨a, rfl, rfl⟩
end
section
variable {P : Program} {w : World} {K : PySem.W.Frag} {mg : Str → Option Value} {base : Heap} {x qual : Str} {params : Arguments} {body : List Stmt} {scope : Scope} {f : Addr} {fd : FuncData} {θ : Th}
abbrev HX (P : Program) (w : World) (K : PySem.W.Frag) (mg : Str → Option Value) (base : Heap) (N : List Str) (qual : Str) (scope : Scope) (f : Addr) (cdv : Value) (A : Around) (outer : List Env) (s : Shared) (H : Hp) (E : XK) (p : Addr × Obj) : Cx := cxH (L2N.CX P w) P w K mg base N qual scope f cdv A outer s H E p
theorem fnx_ok {N ps : List Str} {k : Nat} {u : Nat → SS} (F : FunD K x qual params body scope [] [] f fd) (S : FnScope N ps scope) (hl : ps.length = 1)
    (hb : ∀ (cdv : Value) (A : Around) (outer : List Env) (s : Shared) (H : Hp) (E : XK) (p : Addr × Obj) (n : Nat) (F0 B : Hp), RoomH k (HX P w K mg base N qual scope f cdv A outer s H E p).A → Held (HX P w K mg base N qual scope f cdv A outer s H E p) ⟨θ, F0, B⟩ [p.1] n → PSs (HX P w K mg base N qual scope f cdv A outer s H E p) body (tSv ⟨θ, F0, B⟩ [p.1] WF (u n))) :
    FnX P w K mg base θ (k + 1) f fd ps (denX N.length u) := by
  obtain ⟨oc, od, dV, kV, doc, pm, an, cdv, ct, osl, rfl, lk, hcd, _, _⟩ := F.ex
  have hN : 0 < N.length := by
    have := congrArg List.length S.pre
    rw [List.length_take] at this
    omega
  refine ⟨hl, fun A outer s H args us Q E p n hr hot hpin hz e0 hbd r h => ?_⟩
  obtain ⟨F0, sF, hf⟩ := h
  have KX : K.In s.heap := e0.mod.kin.keeps fun b o e => (e0.bs b o e).1
  have lim : s.heap.NoLimit := e0.mod.nolimit.keeps fun b o e => (e0.bs b o e).1
  have hkind : ∀ y ∈ ps.zip us, scope.names.lookup y.1 = some .local ∨ (scope.names.lookup y.1 = some .cell ∧ ((cellsFrom (s.heap.objs.size + 1) scope.names []).lookup y.1).isSome = true) := fun ⟨y, v⟩ hy => by
    rcases S.par y (List.of_mem_zip hy).1 with q | q
    · exact .inl q
    · exact .inr ⟨q, PySem.W.cellsFrom_some _ _ _ (.inl q)⟩
  refine codeAny_call_function hr.depth (KX _ _ lk) rfl S.co S.gen rfl (PySem.W.codeRec_of KX hcd) (hbd _ _ _ _ ?_)
  refine wpAny_newFunctionEnv_cells S.kind hkind fun env he s1 y => ?_
  subst he
  refine ⟨lim.keeps y.toInCall.keep, codeAny_func ?_⟩
  have I : Inv (HX P w K mg base N qual scope f cdv A outer s H E p) [] (L2.start N [.ref p.1]) H s1 := inv_startH S hpin e0 (by rw [hl]; rfl) r y
  have held : Held (HX P w K mg base N qual scope f cdv A outer s H E p) ⟨θ, F0, H⟩ [p.1] n := ⟨p.1, p.2, rfl, List.mem_singleton.mpr rfl, hz, hot⟩
  have R0 := hot_rel (θ := θ) hN sF hpin.free
  have ht := hb cdv A outer s H E p n F0 H (hr.deeper _) held
  have hq : tSv ⟨θ, F0, H⟩ [p.1] WF (u n) (EnF Q) (L2.start N [.ref p.1]) H := by
    refine ⟨F0, _, R0, ?_⟩
    unfold denX at hf
    have same : ∀ {F' H' : Hp} {σ' : L2.St} {ρ' : Sl}, Rel θ F0 H [p.1] F' H' σ' ρ' → Same H H' := fun {F' H' σ' ρ'} R b o hb => by
      rcases R.kp b o hb with z | ⟨z, _⟩
      · exact z
      · have z : b = p.1 := by simpa using z
        rw [z, hpin.free] at hb
        cases hb
    cases q : u n (.xc :: List.replicate (N.length - 1) .un) with
    | nx ρ' =>
      rw [q] at hf
      exact fun σ' F' H' e R => hf .non F' H' ⟨R.sub, e, same R, R.fn⟩ .non
    | bk ρ' => rw [q] at hf; exact hf.elim
    | ct ρ' => rw [q] at hf; exact hf.elim
    | rt d k =>
      rw [q] at hf
      cases k with
      | sh => exact fun v σ' ρ' F' H' e R hv => hf v F' H' ⟨R.sub, e, same R, R.fn⟩ hv
      | fr => exact fun v σ' ρ' F' H' e R hv => hf v F' H' ⟨R.sub, e, same R, R.fn⟩ hv
      | «at» i => exact fun v σ' ρ' F' H' e R hv => hf v F' H' ⟨R.sub, e, same R, R.fn⟩ hv
      | tr n => exact hf.elim
    | ex n fs ρ' => rw [q] at hf; exact hf.elim
    | no => rw [q] at hf; exact hf.elim
  refine wpAny_mono (ht.run [] s1 _ H _ I hq) (fun fl s' hs => ?_) fun e s' hs => hs
  have fin : ∀ {σ' : L2.St} {H' : Hp} {v : V} {z : Value}, Inv (HX P w K mg base N qual scope f cdv A outer s H E p) [] σ' H' s' → RelV v z → Q v H' → CE outer P w H s Q z s' :=
    fun {σ' H' v z} J rv q => ⟨v, H', J.os, J.bare, J.base, J.hok, rv, q⟩
  cases fl with
  | ret z =>
    obtain ⟨v, σ', H', J, rv, q⟩ := hs
    exact fin J rv q
  | next =>
    obtain ⟨σ', H', J, q⟩ := hs
    exact fin (v := V.non) (z := Value.none) J rfl q
  | brk =>
    obtain ⟨_, _, _, q⟩ := hs
    exact False.elim q
  | cont =>
    obtain ⟨_, _, _, q⟩ := hs
    exact False.elim q
end
/-! ### its call -/
def eCallX (R : Nat → Out (D × Bool)) (i n : Nat) : ES := fun ρ => match ρ[i]? with
  | some .xc => match R n with
    | .ok (d, b) => .ok (d, if b = true then .fr else .sh)
    | _ => .no
  | _ => .no
section
variable {X : Cx} {c : Cn} {L : List Addr} {W : WX} {k n : Nat} {f : Addr} {fd : FuncData} {ps : List Str} {R : Nat → Out (D × Bool)} {x e : Str} {q p1 pos : Pos}
theorem g_callX (i : Nat) (F : FnX X.prog X.w X.K X.mg X.base c.θ k f fd ps R) (hr : RoomH k X.A) (hd : Held X c L n) (hm : X.mg x = some (.ref f)) (hk : PySem.W.keepIn X.K (.ref f) = true) (hb : Binds X.K fd ps []) (hv : Vis X.env.scope e)
    (hN : X.N[i]? = some e := by rfl) (hg : Gl X x := by rfl) (hdb : (x == ("__debug__" : Str)) = false := by rfl) (hdb2 : (e == ("__debug__" : Str)) = false := by rfl) (hcd : (e == ("__classdict__" : Str)) = false := by rfl)
    (he : starEach [.Name e p1] X.env = (false, eval (.Name e p1) X.env) :: starEach [] X.env := by rfl) (hpl : (backTo pos (starEach [] X.env)).any (·.1) = false := by rfl) :
    PE X (.Call (.Name x q) [.Name e p1] [] pos) (tEv c L W (eCallX R i n)) := by
  refine ⟨fun pins s σ H Q I h => ?_⟩
  obtain ⟨a, oe, ha, hp, hz, hot⟩ := hd.ex
  have P0 := pa_cons (pe_var (X := X) (pos := p1) hN hv hdb2 hcd) pa_nil he
  obtain ⟨F0, ρ, R0, h⟩ := of_tEv h
  unfold eCallX at h
  cases y : ρ[i]? with
  | none => rw [y] at h; exact h.elim
  | some sl =>
    rw [y] at h
    cases sl <;> first | exact (show False from h).elim | skip
    obtain ⟨b, hb1, hs⟩ := R0.xc i y
    obtain rfl : b = a := by rw [ha] at hb1; exact (Option.some.inj hb1).symm
    refine wpAny_Call_Name_kw (ld_glob I hg hm ?_ hdb)
    refine PySem.W.callWith_K (h₀ := X.base) I.ok.mod.kin hk (thn (P0.run pos pins s σ H (fun vs H' => vs = [.ref b] ∧ H' = H) I ⟨.ref b, hs, rfl, rfl⟩) fun us s1 ⟨vs, H1, I1, r, q1, q2⟩ => ⟨I1.kIn, ?_⟩) he hpl
    subst q1 q2
    have P1 := I1.pin (b, oe) (List.mem_append_left _ hp)
    have hpin : PinOk X.stack H1 s1 (b, oe) := ⟨P1.1, P1.2.1, fun hm => (List.mem_cons.mp (I1.stkSub b hm)).elim P1.2.2.1 P1.2.2.2.1, P1.2.2.2.2⟩
    have hl : us.length = ps.length := by rw [← r.length, F.len]; rfl
    have bd := hb s1 us I1.kIn (by rw [List.append_nil]; exact hl)
    rw [List.append_nil] at bd
    refine wpAny_call (codeAny_mono (F.run X.A X.stack s1 H1 ⟨us, []⟩ us Q (fun _ _ _ => False) (b, oe) n hr hot hpin hz I1.env0 bd r ⟨F0, R0.sub, ?_⟩) fun r s' hq => ?_)
    · cases z : R n with
      | ok dd =>
        obtain ⟨d, t⟩ := dd
        rw [z] at h
        cases t with
        | true => exact fun v F' H' e' hv => h v F' H' e' hv
        | false => exact fun v F' H' e' hv => h v F' H' e' hv
      | ex m fs => rw [z] at h; exact (show False from h).elim
      | no => rw [z] at h; exact (show False from h).elim
    · cases r with
      | error e =>
        obtain ⟨_, _, _, _, _, _, _, _, _, _, _, _, w⟩ := hq
        exact w.elim
      | ok fl =>
        cases fl with
        | ret u => exact I1.after hq
        | next => exact False.elim hq
        | brk => exact False.elim hq
        | cont => exact False.elim hq
end
/-! ### the rule, for exceptions without fields -/
def suN (s : Nat → SS) : Nat → List D → SS := fun k fs => match fs with
  | [] => s k
  | _ => sNo
section
variable {X : Cx} {c : Cn} {L : List Addr} {W : WX} {u : SS} {su : Nat → SS} {hit : Nat → Option Bool} {x n : Str} {C : Value} {kk : Nat} {body suite : List Stmt} {b₀ : Stmt} {np pos pos' : Pos}
theorem gs_tryN (i : Nat) (xc : XC X c) (b : BodyOk X W kk) (hc : Names X x C) (hh : ∀ k b, hit k = some b → PySem.W.exmOne X.K (.ref (c.θ.C k)) C = some b)
    (hb : ∀ (W : WX) (pn : List (Addr × Obj)) (xe : Value → Shared → Prop), XC (X.tr pn xe) c → BodyOk (X.tr pn xe) W kk → PSs (X.tr pn xe) body (tSv c L W u))
    (hsu : ∀ (a : Addr) (oe : Obj) (k : Nat) (pn : List (Addr × Obj)), XB (X.suite a ((a, oe) :: pn)) c → Held (X.suite a ((a, oe) :: pn)) c (a :: L) k → L2H.RoomH kk (X.suite a ((a, oe) :: pn)).A → PSs (X.suite a ((a, oe) :: pn)) (b₀ :: suite) (tSv c (a :: L) WF (su k)))
    (hs : X.stack = X.env :: X.outer := by rfl) (hf : X.env.frame = some X.env.locals := by rfl) (hi : X.N[i]? = some n := by rfl) (hln : X.env.kindOf n = some .local := by rfl) :
    PS X (.Try body [.ExceptHandler (some (.Name x np)) (some n) (b₀ :: suite) pos'] [] [] pos) (tSv c L W (sTry i hit u (suN su))) := by
  refine gs_tryAs xc.toXB hs hf hi hln hc b.tk hh (fun W pn xe tk po => hb W pn xe ⟨⟨xc.K, xc.nd, xc.hu2⟩, xc.calm⟩ ⟨tk, po, b.rm⟩) fun a oe k d fs pn hz hd hv => ?_
  cases fs with
  | nil => exact hsu a oe k pn ⟨xc.K, xc.nd, xc.hu2⟩ (held_suite hz (hd rfl) hv) ⟨b.rm.dp, b.rm.un⟩
  | cons _ _ => exact pss_no
end
/-- a def of the text that is called with the handled exception -/
def FineX (P : Program) (w : World) (K : PySem.W.Frag) (mg : Str → Option Value) (base : Heap) (θ : Th) (k : Nat) (d : He.DefD) (R : Nat → Out (D × Bool)) : Prop :=
  ∃ fd ps, FnX P w K mg base θ k (He.fAd K d.at_) fd ps R ∧ Binds K fd ps [] ∧ PySem.W.keepIn K (.ref (He.fAd K d.at_)) = true
section
variable {X : Cx} {c : Cn} {L : List Addr} {W : WX} {k k' n : Nat} {R : Nat → Out (D × Bool)} {x e : Str} {q p1 pos : Pos} {dd : He.DefD}
theorem g_cx (i : Nat) (F : FineX X.prog X.w X.K X.mg X.base c.θ k dd R) (hr : L2H.RoomH k' X.A) (hkk : k ≤ k') (hd : Held X c L n) (hm : X.mg x = some (.ref (He.fAd X.K dd.at_))) (hv : Vis X.env.scope e)
    (hN : X.N[i]? = some e := by rfl) (hg : Gl X x := by rfl) (hdb : (x == ("__debug__" : Str)) = false := by rfl) (hdb2 : (e == ("__debug__" : Str)) = false := by rfl) (hcd : (e == ("__classdict__" : Str)) = false := by rfl)
    (he : starEach [.Name e p1] X.env = (false, eval (.Name e p1) X.env) :: starEach [] X.env := by rfl) (hpl : (backTo pos (starEach [] X.env)).any (·.1) = false := by rfl) :
    PE X (.Call (.Name x q) [.Name e p1] [] pos) (tEv c L W (eCallX R i n)) := by
  obtain ⟨fd, ps, F, hb, hk⟩ := F
  exact g_callX i F (hr.mono hkk) hd hm hk hb hv hN hg hdb hdb2 hcd he hpl
end
end G
/-! G: further facts of the head: what isinstance asks of own exception classes. -/
namespace G
open PySem PySem.Spec L2 He
inductive Fx where
  | exC (x : Str)
  | isT (x : Str) (T : String) (b : Bool)
  | isO (x y : Str) (b : Bool)
def Fx.ok (K : PySem.W.Frag) : Fx → Bool
  | .exC x => eqO (PySem.W.findIn K (.ref (ga K x)) "__getattribute__") (some (some (.builtin "BaseException.__getattribute__"))) && (eqO (PySem.W.findIn K (.ref (ga K x)) "__getattr__") (some none) && (decide (PySem.W.subIn K (.ref (ga K x)) (.type "BaseException") = some true) &&
    (PySem.W.hasDictIn K (ga K x) && (eqO (PySem.W.findIn K (.ref (ga K x)) "__class__") (some (some (.builtin "object.__class__"))) && (eqO (PySem.W.specialIn K (.builtin "object.__class__") "__get__") (some (some (.builtin "getset_descriptor.__get__"))) &&
    (decide (PySem.W.takesIn K (.builtin "object.__class__") = some true) && decide (PySem.W.mroIn K (ga K x) (.type "object") = some true)))))))
  | .isT x T b => decide (PySem.W.kitOne K (.ref (ga K x)) (.type T) = some b)
  | .isO x y b => decide (PySem.W.kitOne K (.ref (ga K x)) (.ref (ga K y)) = some b)
section
variable {K : PySem.W.Frag} {x y : Str} {T : String} {b : Bool}
theorem exC_ok (h : (Fx.exC x).ok K = true) : ExcC K (ga K x) := by
  obtain ⟨h1, h⟩ := ba h
  obtain ⟨h2, h⟩ := ba h
  obtain ⟨h3, h⟩ := ba h
  obtain ⟨h4, h⟩ := ba h
  obtain ⟨h5, h⟩ := ba h
  obtain ⟨h6, h⟩ := ba h
  obtain ⟨h7, h8⟩ := ba h
  exact ⟨eqO_ok h1, eqO_ok h2, of_decide_eq_true h3, h4, eqO_ok h5, eqO_ok h6, of_decide_eq_true h7, of_decide_eq_true h8⟩
theorem isT_ok (h : (Fx.isT x T b).ok K = true) : PySem.W.kitOne K (.ref (ga K x)) (.type T) = some b := of_decide_eq_true h
theorem isO_ok (h : (Fx.isO x y b).ok K = true) : PySem.W.kitOne K (.ref (ga K x)) (.ref (ga K y)) = some b := of_decide_eq_true h
end
abbrev AlX : Type := AlD × Bool
def obsX (fa : List Fa) (fn : List DefD) (xs : List Fx) (K : PySem.W.Frag) : AlX := (obsD fa fn K, xs.all fun f => f.ok K)
def valX (fn : List DefD) : AlX := (valD fn, true)
def SaysX (fa : List Fa) (fn : List DefD) (xs : List Fx) (K : PySem.W.Frag) : Prop := obsX fa fn xs K = valX fn
def obsXG (n : Nat) (fa : List Fa) (fn : List DefD) (xs : List Fx) (g : Addr → Option Obj) : AlX := obsX fa fn xs (frG g (asD g n))
def hookX (n : Nat) (fa : List Fa) (fn : List DefD) (xs : List Fx) : PySem.W.Hook where
  α := AlX
  obs := fun s => obsXG n fa fn xs s.heap.get?
  val := fun _ => valX fn
  says := fun _ h => ∃ K : PySem.W.Frag, K.In h ∧ SaysX fa fn xs K
  of := fun _ _ e => ⟨_, frG_in, e⟩
  keeps := fun _ _ _ ⟨K, hK, c⟩ k => ⟨K, PySem.W.Frag.In.keeps hK k, c⟩
theorem obsXG_eq {n : Nat} {fa : List Fa} {fn : List DefD} {xs : List Fx} {g : Addr → Option Obj} {s : Shared} (h : ∀ a, g a = s.heap.get? a) : obsXG n fa fn xs g = (hookX n fa fn xs).obs s := by
  have e : g = s.heap.get? := funext h
  rw [e] <;> rfl
section
variable {fa : List Fa} {fn : List DefD} {xs : List Fx} {K : PySem.W.Frag}
theorem SaysX.d (c : SaysX fa fn xs K) : SaysD fa fn K := congrArg (fun z : AlX => z.1) c
theorem SaysX.fact (c : SaysX fa fn xs K) (i : Nat) {f : Fa} (h : fa[i]? = some f := by rfl) : f.ok K = true := c.d.fact i h
theorem SaysX.def_ (c : SaysX fa fn xs K) (i : Nat) {d : DefD} (h : fn[i]? = some d := by rfl) : ∃ fd, FunD K d.name d.qual d.params d.body d.scope (d.dvs K) (d.kws K) (fAd K d.at_) fd := c.d.def_ i h
theorem SaysX.fx (c : SaysX fa fn xs K) (i : Nat) {f : Fx} (h : xs[i]? = some f := by rfl) : f.ok K = true := by
  have c1 : (xs.all fun f => f.ok K) = true := congrArg (fun z : AlX => z.2) c
  exact List.all_eq_true.mp c1 f (List.mem_of_getElem? h)
end
end G
namespace GD
open PySem L2 G
def S__law_draws_b1 : SS := sSeq (sOwL 2 kAp (eBin oMod (eVar 5) (eC (.int 1000003)))) (G.sAsg false 5 (eBin oDiv (eVar 5) (eC (.int 1000003))))
def T__law_draws_b2 : TSm := G.tAnd (tBl (eBin oGt (eVar 5) (eC (.int 0)))) (tBl (eBin oLt (eBi .len [eVar 2]) (eVar 1)))
def S__law_draws_b3 : SS := sSeq (G.sAsg false 3 (eBin oMod (eBin oAdd (eBin oMul (eVar 3) (eC (.int 31))) (eVar 4)) (eC (.int 2147483647)))) (sSeq (G.sAsg false 5 (eBi .abs [eVar 4])) (sSeq (G.sIf (tBl (eBin oLt (eVar 5) (eBin oPow (eC (.int 10)) (eC (.int 18))))) (sSeq (sOwL 2 kAp (eVar 4)) (G.sAsg false 5 (eC (.int 0)))) (sSkip)) (G.sWhile T__law_draws_b2 S__law_draws_b1)))
def S__law_draws_b4 : SS := sSeq (G.sAsg false 3 (eBin oMod (eBin oAdd (eBin oMul (eVar 3) (eC (.int 48271))) (eC (.int 11))) (eC (.int 2147483647)))) (sOwL 2 kAp (eBin oMod (eBin oMul (eVar 3) (eVar 3)) (eC (.int 999983))))
def T__law_draws_b5 : TSm := tBl (eBin oLt (eBi .len [eVar 2]) (eVar 1))
def S__law_draws : SS := sSeq (G.sAsg true 2 (eLst [])) (sSeq (G.sAsg false 3 (eC (.int 1))) (sSeq (G.sFor (itE true (eVar 0)) (.one 4) S__law_draws_b3) (sSeq (G.sWhile T__law_draws_b5 S__law_draws_b4) (sRet (eVar 2)))))
def R__law_draws : List D → Out (D × Bool) := denF 6 S__law_draws
def S__law_bits_b1 : SS := sSeq (sOwL 2 kAp (eBin oMod (eVar 0) (eC (.int 2)))) (G.sAsg false 0 (eBin oDiv (eVar 0) (eC (.int 2))))
def S__law_bits : SS := sSeq (G.sAsg true 2 (eLst [])) (sSeq (G.sFor (itR1 (eVar 1)) (.one 3) S__law_bits_b1) (sRet (eVar 2)))
def R__law_bits : List D → Out (D × Bool) := denF 4 S__law_bits
def S__law_row : SS := sSeq (G.sAsg false 2 (eBin oAdd (eBin oAdd (eBin oIx (eVar 0) (eC (.int 0))) (eBin oMul (eC (.int 1000003)) (eBin oIx (eVar 0) (eC (.int 1))))) (eBin oMul (eBin oMul (eC (.int 1000003)) (eC (.int 1000003))) (eBin oIx (eVar 0) (eC (.int 2)))))) (sSeq (G.sIf (tBl (eBin oEq (eBin oMod (eBin oIx (eVar 0) (eC (.int 3))) (eC (.int 5))) (eC (.int 3)))) (G.sAsg false 2 (eUn oNeg (eBin oMod (eBin oIx (eVar 0) (eC (.int 0))) (eC (.int 2))))) (sSkip)) (sSeq (G.sAsg false 3 (eFn R__law_bits [eVar 2, eVar 1])) (sSeq (G.sIf (tBl (eBin oEq (eBin oMod (eBin oIx (eVar 0) (eC (.int 3))) (eC (.int 5))) (eC (.int 4)))) (G.sAsg false 3 (eLc (itR1 (eVar 1)) (.one 4) (tYes) (eBin oIx (eVar 3) (eBin oMod (eVar 4) (eBin oAdd (eC (.int 1)) (eBin oMod (eBin oIx (eVar 0) (eC (.int 1))) (eC (.int 4)))))) [4])) (sSkip)) (sRet (eVar 3)))))
def R__law_row : List D → Out (D × Bool) := denF 5 S__law_row
def S__law_plan : SS := sSeq (G.sAsg false 1 (eBin oAdd (eC (.int 1)) (eBin oMod (eBin oIx (eVar 0) (eC (.int 1))) (eBin oIx (eLst [eC (.int 9), eC (.int 9), eC (.int 16), eC (.int 40), eC (.int 6)]) (eBin oMod (eBin oIx (eVar 0) (eC (.int 0))) (eC (.int 5))))))) (sSeq (G.sAsg false 2 (eBin oAdd (eC (.int 1)) (eBin oMod (eBin oIx (eVar 0) (eC (.int 2))) (eBin oIx (eLst [eC (.int 9), eC (.int 16), eC (.int 16), eC (.int 6), eC (.int 40)]) (eBin oMod (eBin oIx (eVar 0) (eC (.int 0))) (eC (.int 5))))))) (sRet (eTup [eBin oMod (eBin oIx (eVar 0) (eC (.int 3))) (eC (.int 2)), eFn R__law_row [eSl (eVar 0) (some (eC (.int 4))) none, eBin oSub (eVar 1) (eC (.int 1))], eFn R__law_row [eSl (eVar 0) (some (eC (.int 8))) none, eBin oSub (eVar 2) (eC (.int 1))]])))
def R__law_plan : List D → Out (D × Bool) := denF 3 S__law_plan
def S_ask_bits_b1 : SS := G.sIf (G.tAnd (tBl (eBin oNe (eVar 1) (eC (.int 0)))) (tBl (eBin oNe (eVar 1) (eC (.int 1))))) (sRaise 2) (sSkip)
def S_ask_bits : SS := G.sFor (itE true (eVar 0)) (.one 1) S_ask_bits_b1
def R_ask_bits : List D → Out (D × Bool) := denF 2 S_ask_bits
def S_Cloth___init__ : SS := sSeq (G.sIf (G.tOr (tBl (eBin oGe (eBi .len [eVar 2]) (eC (.int 40)))) (tBl (eBin oGe (eBi .len [eVar 3]) (eC (.int 40))))) (sRaise 1) (sSkip)) (sSeq (sDrop (eFn R_ask_bits [eBin oAdd (eBin oAdd (eLst [eVar 1]) (eBi .list [eVar 2])) (eBi .list [eVar 3])])) (sSeq (G.sFld (fxOne 20 0) 0 (eVar 1)) (sSeq (G.sFld (fxOne 20 1) 0 (eBi .list [eVar 2])) (G.sFld (fxOne 20 2) 0 (eBi .list [eVar 3])))))
def R_Cloth___init__ : List D → Out (D × Bool) := denI 4 20 3 S_Cloth___init__
def S__law_made : SS := sRet (eFn R_Cloth___init__ [eBin oIx (eVar 0) (eC (.int 0)), eBi .list [eBin oIx (eVar 0) (eC (.int 1))], eBi .list [eBin oIx (eVar 0) (eC (.int 2))]])
def R__law_made : List D → Out (D × Bool) := denF 1 S__law_made
def S_Cloth_bit : SS := sSeq (G.sIf (G.tAnd (tBl (eBin oEq (eVar 1) (eC (.str "col")))) (tBl (eChain oLe oLt (eC (.int 0)) (eVar 2) (eBi .len [eUn (oFld (fxT [(20, 1)])) (eVar 0)])))) (sRet (eBin oIx (eUn (oFld (fxT [(20, 1)])) (eVar 0)) (eVar 2))) (sSkip)) (sSeq (G.sIf (G.tAnd (tBl (eBin oEq (eVar 1) (eC (.str "row")))) (tBl (eChain oLe oLt (eC (.int 0)) (eVar 2) (eBi .len [eUn (oFld (fxT [(20, 2)])) (eVar 0)])))) (sRet (eBin oIx (eUn (oFld (fxT [(20, 2)])) (eVar 0)) (eVar 2))) (sSkip)) (sRaise 4))
def R_Cloth_bit : List D → Out (D × Bool) := denF 3 S_Cloth_bit
def S__law_marks (n : Nat) : SS := sRet (eLst [eIsE (hitT [(0, false), (1, true), (2, false), (3, false), (4, false), (5, false), (6, false)]) 0 n, eIsE (hitT [(0, false), (1, false), (2, true), (3, false), (4, false), (5, false), (6, false)]) 0 n, eIsE (hitT [(0, false), (1, false), (2, false), (3, true), (4, false), (5, false), (6, false)]) 0 n, eIsE (hitT [(0, false), (1, false), (2, false), (3, false), (4, true), (5, false), (6, false)]) 0 n, eIsE (hitT [(0, false), (1, false), (2, false), (3, false), (4, false), (5, true), (6, false)]) 0 n, eIsE (hitT [(0, false), (1, false), (2, false), (3, false), (4, false), (5, false), (6, true)]) 0 n, eIsE (hitT [(0, true), (1, true), (2, true), (3, true), (4, true), (5, true), (6, true)]) 0 n])
def R__law_marks : Nat → Out (D × Bool) := denX 1 S__law_marks
def S_Cloth_wide : SS := sRet (eBin oAdd (eBi .len [eUn (oFld (fxT [(20, 1)])) (eVar 0)]) (eC (.int 1)))
def R_Cloth_wide : List D → Out (D × Bool) := denF 1 S_Cloth_wide
def S_Cloth_tall : SS := sRet (eBin oAdd (eBi .len [eUn (oFld (fxT [(20, 2)])) (eVar 0)]) (eC (.int 1)))
def R_Cloth_tall : List D → Out (D × Bool) := denF 1 S_Cloth_tall
def S_Cloth_steps : SS := sSeq (G.sIf (tBl (eBin oEq (eVar 1) (eC (.str "col")))) (sRet (eM [(20, R_Cloth_tall)] (eVar 0) [])) (sSkip)) (sRet (eM [(20, R_Cloth_wide)] (eVar 0) []))
def R_Cloth_steps : List D → Out (D × Bool) := denF 2 S_Cloth_steps
def S_Cloth_stitched : SS := sSeq (G.sAsg false 4 (eM [(20, R_Cloth_bit)] (eVar 0) [eVar 1, eVar 2])) (sSeq (G.sIf (G.tOr (tBl (eBin oLt (eVar 3) (eC (.int 0)))) (tBl (eBin oGe (eVar 3) (eM [(20, R_Cloth_steps)] (eVar 0) [eVar 1])))) (sRaise 5) (sSkip)) (sRet (eBin oEq (eBin oMod (eBin oAdd (eVar 3) (eVar 4)) (eC (.int 2))) (eC (.int 1)))))
def R_Cloth_stitched : List D → Out (D × Bool) := denF 5 S_Cloth_stitched
def S_Cloth_ask_cell : SS := G.sIf (G.tOr (tBl (eBin oLt (eVar 1) (eC (.int 0)))) (G.tOr (tBl (eBin oLt (eVar 2) (eC (.int 0)))) (G.tOr (tBl (eBin oGe (eVar 1) (eM [(20, R_Cloth_wide)] (eVar 0) []))) (tBl (eBin oGe (eVar 2) (eM [(20, R_Cloth_tall)] (eVar 0) [])))))) (sRaise 3) (sSkip)
def R_Cloth_ask_cell : List D → Out (D × Bool) := denF 3 S_Cloth_ask_cell
def S_Cloth_colour : SS := sSeq (sDrop (eM [(20, R_Cloth_ask_cell)] (eVar 0) [eVar 1, eVar 2])) (sRet (eBin oMod (eBin oAdd (eBin oAdd (eBin oAdd (eUn (oFld (fxT [(20, 0)])) (eVar 0)) (eBi .sum [eSl (eUn (oFld (fxT [(20, 1)])) (eVar 0)) none (some (eVar 1))])) (eBi .sum [eSl (eUn (oFld (fxT [(20, 2)])) (eVar 0)) none (some (eVar 2))])) (eBin oMul (eVar 1) (eVar 2))) (eC (.int 2))))
def R_Cloth_colour : List D → Out (D × Bool) := denF 3 S_Cloth_colour
def S__law_refused : SS := sSeq (G.sAsg false 5 (eLst [])) (sSeq (sTry 6 (hitT [(0, true), (1, true), (2, true), (3, true), (4, true), (5, true), (6, true)]) (G.sIf (tBl (eBin oEq (eVar 1) (eC (.int 0)))) (sDrop (eM [(20, R_Cloth_bit)] (eVar 0) [eVar 2, eVar 3])) (G.sIf (tBl (eBin oEq (eVar 1) (eC (.int 1)))) (sDrop (eM [(20, R_Cloth_stitched)] (eVar 0) [eVar 2, eVar 3, eVar 4])) (sDrop (eM [(20, R_Cloth_colour)] (eVar 0) [eVar 3, eVar 4])))) (suN fun k => G.sAsg false 5 (eCallX R__law_marks 6 k))) (sRet (eVar 5)))
def R__law_refused : List D → Out (D × Bool) := denF 7 S__law_refused
def S__law_due : SS := sSeq (G.sAsg false 1 (eLst [eC (.str "BadSize"), eC (.str "BadBit"), eC (.str "NoCell"), eC (.str "NoLine"), eC (.str "NoStep"), eC (.str "NoPoint")])) (sRet (eBin oAdd (eLc (itE false (eVar 1)) (.one 2) (tYes) (eBin oEq (eVar 2) (eVar 0)) [2]) (eLst [eC (.bl true)])))
def R__law_due : List D → Out (D × Bool) := denF 3 S__law_due
def S__law_same (self : List D → Out (D × Bool)) : SS := sSeq (G.sIf (G.tOr (tBl (eBin oNe (eUn (oIsi "bool") (eVar 0)) (eUn (oIsi "bool") (eVar 1)))) (tBl (eBin oNe (eUn (oIsi "int") (eVar 0)) (eUn (oIsi "int") (eVar 1))))) (sRet (eC (.bl false))) (sSkip)) (sSeq (G.sIf (G.tOr (tBl (eBin oNe (eUn (oIsi "list") (eVar 0)) (eUn (oIsi "list") (eVar 1)))) (tBl (eBin oNe (eUn (oIsi "tuple") (eVar 0)) (eUn (oIsi "tuple") (eVar 1))))) (sRet (eC (.bl false))) (sSkip)) (sSeq (G.sIf (G.tAnd (G.tNot (tTru (eUn (oIsi "list") (eVar 1)))) (G.tNot (tTru (eUn (oIsi "tuple") (eVar 1))))) (sRet (eAnd (eBin oEq (eUn (oIsi "str") (eVar 0)) (eUn (oIsi "str") (eVar 1))) (eBin oEq (eVar 0) (eVar 1)))) (sSkip)) (sRet (eAnd (eBin oEq (eBi .len [eVar 0]) (eBi .len [eVar 1])) (eBi .all [eLc (itZip false (eVar 0) (eVar 1)) (.tup [.one 2, .one 3]) (tYes) (eFn self [eVar 2, eVar 3]) [2, 3]])))))
def RR__law_same : Nat → List D → Out (D × Bool)
  | 0 => fun _ => .no
  | n + 1 => denF 4 (S__law_same (RR__law_same n))
def R__law_same : List D → Out (D × Bool) := RR__law_same 6
def S__law_sewn : SS := sSeq (G.sAsg false 4 (eBin oIx (eVar 0) (eC (.int 1)))) (sSeq (G.sIf (tBl (eBin oEq (eVar 1) (eC (.str "row")))) (G.sAsg false 4 (eBin oIx (eVar 0) (eC (.int 2)))) (sSkip)) (sRet (eBin oEq (eBin oMod (eBin oAdd (eVar 3) (eBin oIx (eVar 4) (eVar 2))) (eC (.int 2))) (eC (.int 1)))))
def R__law_sewn : List D → Out (D × Bool) := denF 5 S__law_sewn
def S__law_table_b1 : SS := sOwL 4 kAp (eBin oMod (eBin oAdd (eBin oIx (eVar 4) (eUn oNeg (eC (.int 1)))) (eBi .int [eFn R__law_sewn [eVar 0, eC (.str "col"), eVar 5, eVar 3]])) (eC (.int 2)))
def S__law_table_b2 : SS := sSeq (G.sIf (G.tAnd (tBl (eBin oGt (eVar 3) (eC (.int 0)))) (tTru (eFn R__law_sewn [eVar 0, eC (.str "row"), eBin oSub (eVar 3) (eC (.int 1)), eC (.int 0)]))) (G.sAsg false 2 (eBin oSub (eC (.int 1)) (eVar 2))) (sSkip)) (sSeq (G.sAsg true 4 (eLst [eVar 2])) (sSeq (G.sFor (itR1 (eBi .len [eBin oIx (eVar 0) (eC (.int 1))])) (.one 5) S__law_table_b1) (sSeq (sFrz 4) (sOwL 1 kAp (eVar 4)))))
def S__law_table : SS := sSeq (G.sAsg true 1 (eLst [])) (sSeq (G.sAsg false 2 (eBin oIx (eVar 0) (eC (.int 0)))) (sSeq (G.sFor (itR1 (eBin oAdd (eBi .len [eBin oIx (eVar 0) (eC (.int 2))]) (eC (.int 1)))) (.one 3) S__law_table_b2) (sRet (eVar 1))))
def R__law_table : List D → Out (D × Bool) := denF 6 S__law_table
def S_moved : SS := sRet (eLc (itE false (eVar 0)) (.one 2) (tYes) (eBin oMod (eBin oAdd (eVar 2) (eVar 1)) (eC (.int 2))) [2])
def R_moved : List D → Out (D × Bool) := denF 3 S_moved
def S_Cloth_cols : SS := sRet (eBi .list [eUn (oFld (fxT [(20, 1)])) (eVar 0)])
def R_Cloth_cols : List D → Out (D × Bool) := denF 1 S_Cloth_cols
def S_Cloth_rows : SS := sRet (eBi .list [eUn (oFld (fxT [(20, 2)])) (eVar 0)])
def R_Cloth_rows : List D → Out (D × Bool) := denF 1 S_Cloth_rows
def S_mirrored : SS := sSeq (G.sAsg false 1 (eBin oSub (eM [(20, R_Cloth_wide)] (eVar 0) []) (eC (.int 1)))) (sRet (eFn R_Cloth___init__ [eM [(20, R_Cloth_colour)] (eVar 0) [eVar 1, eC (.int 0)], eUn oRev (eM [(20, R_Cloth_cols)] (eVar 0) []), eFn R_moved [eM [(20, R_Cloth_rows)] (eVar 0) [], eVar 1]]))
def R_mirrored : List D → Out (D × Bool) := denF 2 S_mirrored
def S_Cloth_shade : SS := sRet (eUn (oFld (fxT [(20, 0)])) (eVar 0))
def R_Cloth_shade : List D → Out (D × Bool) := denF 1 S_Cloth_shade
def S_transposed : SS := sRet (eFn R_Cloth___init__ [eM [(20, R_Cloth_shade)] (eVar 0) [], eM [(20, R_Cloth_rows)] (eVar 0) [], eM [(20, R_Cloth_cols)] (eVar 0) []])
def R_transposed : List D → Out (D × Bool) := denF 1 S_transposed
def S__law_whole_b1 : SS := G.sIf (G.tNot (tTru (eFn R__law_same [eM [(20, R_Cloth_colour)] (eVar 0) [eVar 3, eVar 2], eBin oIx (eBin oIx (eVar 1) (eVar 2)) (eVar 3)]))) (sRet (eC (.bl false))) (sSkip)
def S__law_whole_b2 : SS := G.sFor (itR1 (eBi .len [eBin oIx (eVar 1) (eC (.int 0))])) (.one 3) S__law_whole_b1
def S__law_whole : SS := sSeq (G.sIf (G.tOr (G.tNot (tTru (eFn R__law_same [eM [(20, R_Cloth_wide)] (eVar 0) [], eBi .len [eBin oIx (eVar 1) (eC (.int 0))]]))) (G.tNot (tTru (eFn R__law_same [eM [(20, R_Cloth_tall)] (eVar 0) [], eBi .len [eVar 1]])))) (sRet (eC (.bl false))) (sSkip)) (sSeq (G.sFor (itR1 (eBi .len [eVar 1])) (.one 2) S__law_whole_b2) (sRet (eC (.bl true))))
def R__law_whole : List D → Out (D × Bool) := denF 4 S__law_whole
def S__law_told : SS := sRet (eTup [eM [(20, R_Cloth_shade)] (eVar 0) [], eM [(20, R_Cloth_cols)] (eVar 0) [], eM [(20, R_Cloth_rows)] (eVar 0) []])
def R__law_told : List D → Out (D × Bool) := denF 1 S__law_told
def S_parted : SS := sSeq (sDrop (eM [(20, R_Cloth_bit)] (eVar 0) [eVar 1, eVar 2])) (sSeq (sPar false false 3 4 (eM [(20, R_Cloth_cols)] (eVar 0) []) (eM [(20, R_Cloth_rows)] (eVar 0) [])) (sSeq (G.sIf (tBl (eBin oEq (eVar 1) (eC (.str "col")))) (sRet (eTup [eFn R_Cloth___init__ [eM [(20, R_Cloth_shade)] (eVar 0) [], eSl (eVar 3) none (some (eVar 2)), eVar 4], eFn R_Cloth___init__ [eM [(20, R_Cloth_colour)] (eVar 0) [eBin oAdd (eVar 2) (eC (.int 1)), eC (.int 0)], eSl (eVar 3) (some (eBin oAdd (eVar 2) (eC (.int 1)))) none, eFn R_moved [eVar 4, eBin oAdd (eVar 2) (eC (.int 1))]]])) (sSkip)) (sRet (eTup [eFn R_Cloth___init__ [eM [(20, R_Cloth_shade)] (eVar 0) [], eVar 3, eSl (eVar 4) none (some (eVar 2))], eFn R_Cloth___init__ [eM [(20, R_Cloth_colour)] (eVar 0) [eC (.int 0), eBin oAdd (eVar 2) (eC (.int 1))], eFn R_moved [eVar 3, eBin oAdd (eVar 2) (eC (.int 1))], eSl (eVar 4) (some (eBin oAdd (eVar 2) (eC (.int 1)))) none]]))))
def R_parted : List D → Out (D × Bool) := denF 5 S_parted
def S__law_part_holds_b1 : SS := G.sIf (tBl (eBin oNe (eM [(20, R_Cloth_stitched)] (eVar 0) [eC (.str "col"), eVar 5, eVar 6]) (eFn R__law_sewn [eVar 1, eC (.str "col"), eBin oAdd (eVar 5) (eVar 3), eBin oAdd (eVar 6) (eVar 4)]))) (sRet (eC (.bl false))) (sSkip)
def S__law_part_holds_b2 : SS := G.sFor (itR1 (eM [(20, R_Cloth_tall)] (eVar 0) [])) (.one 6) S__law_part_holds_b1
def S__law_part_holds_b3 : SS := G.sIf (tBl (eBin oNe (eM [(20, R_Cloth_stitched)] (eVar 0) [eC (.str "row"), eVar 5, eVar 6]) (eFn R__law_sewn [eVar 1, eC (.str "row"), eBin oAdd (eVar 5) (eVar 4), eBin oAdd (eVar 6) (eVar 3)]))) (sRet (eC (.bl false))) (sSkip)
def S__law_part_holds_b4 : SS := G.sFor (itR1 (eM [(20, R_Cloth_wide)] (eVar 0) [])) (.one 6) S__law_part_holds_b3
def S__law_part_holds : SS := sSeq (G.sIf (G.tNot (tTru (eFn R__law_whole [eVar 0, eVar 2]))) (sRet (eC (.bl false))) (sSkip)) (sSeq (G.sFor (itR1 (eBin oSub (eM [(20, R_Cloth_wide)] (eVar 0) []) (eC (.int 1)))) (.one 5) S__law_part_holds_b2) (sSeq (G.sFor (itR1 (eBin oSub (eM [(20, R_Cloth_tall)] (eVar 0) []) (eC (.int 1)))) (.one 5) S__law_part_holds_b4) (sRet (eC (.bl true)))))
def R__law_part_holds : List D → Out (D × Bool) := denF 7 S__law_part_holds
def S_sewn_together_b1 (self : List D → Out (D × Bool)) : SS := G.sIf (tBl (eBin oNe (eBin oIx (eVar 3) (eVar 4)) (eBin oIx (eM [(20, R_Cloth_rows)] (eVar 1) []) (eVar 4)))) (sNo) (sSkip)
def S_sewn_together (self : List D → Out (D × Bool)) : SS := sSeq (G.sIf (tBl (eBin oEq (eVar 2) (eC (.str "row")))) (sRet (eFn R_transposed [eFn self [eFn R_transposed [eVar 0], eFn R_transposed [eVar 1], eC (.str "col")]])) (sSkip)) (sSeq (G.sIf (tBl (eBin oNe (eVar 2) (eC (.str "col")))) (sRaise 4) (sSkip)) (sSeq (G.sIf (G.tOr (tBl (eBin oNe (eM [(20, R_Cloth_tall)] (eVar 0) []) (eM [(20, R_Cloth_tall)] (eVar 1) []))) (tBl (eBin oGt (eBin oAdd (eM [(20, R_Cloth_wide)] (eVar 0) []) (eM [(20, R_Cloth_wide)] (eVar 1) [])) (eC (.int 40))))) (sRaise 1) (sSkip)) (sSeq (G.sAsg false 3 (eFn R_moved [eM [(20, R_Cloth_rows)] (eVar 0) [], eM [(20, R_Cloth_wide)] (eVar 0) []])) (sSeq (G.sFor (itR1 (eBi .len [eVar 3])) (.one 4) (S_sewn_together_b1 self)) (sSeq (G.sAsg false 5 (eBin oMod (eBin oAdd (eM [(20, R_Cloth_colour)] (eVar 0) [eBin oSub (eM [(20, R_Cloth_wide)] (eVar 0) []) (eC (.int 1)), eC (.int 0)]) (eM [(20, R_Cloth_shade)] (eVar 1) [])) (eC (.int 2)))) (sRet (eFn R_Cloth___init__ [eM [(20, R_Cloth_shade)] (eVar 0) [], eBin oAdd (eBin oAdd (eM [(20, R_Cloth_cols)] (eVar 0) []) (eLst [eVar 5])) (eM [(20, R_Cloth_cols)] (eVar 1) []), eM [(20, R_Cloth_rows)] (eVar 0) []])))))))
def RR_sewn_together : Nat → List D → Out (D × Bool)
  | 0 => fun _ => .no
  | n + 1 => denF 6 (S_sewn_together (RR_sewn_together n))
def S_alike : SS := sRet (eAnd (eBin oEq (eM [(20, R_Cloth_shade)] (eVar 0) []) (eM [(20, R_Cloth_shade)] (eVar 1) [])) (eAnd (eBin oEq (eM [(20, R_Cloth_cols)] (eVar 0) []) (eM [(20, R_Cloth_cols)] (eVar 1) [])) (eBin oEq (eM [(20, R_Cloth_rows)] (eVar 0) []) (eM [(20, R_Cloth_rows)] (eVar 1) []))))
def R_alike : List D → Out (D × Bool) := denF 2 S_alike
def S__law_loop : SS := sSeq (G.sAsg false 1 (eBin oAdd (eC (.int 2)) (eBin oMul (eC (.int 2)) (eBin oMod (eBin oIx (eVar 0) (eC (.int 1))) (eBin oIx (eLst [eC (.int 4), eC (.int 4), eC (.int 8), eC (.int 20), eC (.int 3)]) (eBin oMod (eBin oIx (eVar 0) (eC (.int 0))) (eC (.int 5)))))))) (sSeq (G.sAsg false 2 (eBin oAdd (eC (.int 2)) (eBin oMul (eC (.int 2)) (eBin oMod (eBin oIx (eVar 0) (eC (.int 2))) (eBin oIx (eLst [eC (.int 4), eC (.int 8), eC (.int 4), eC (.int 3), eC (.int 20)]) (eBin oMod (eBin oIx (eVar 0) (eC (.int 0))) (eC (.int 5)))))))) (sRet (eTup [eFn R__law_row [eSl (eVar 0) (some (eC (.int 3))) none, eVar 1], eFn R__law_row [eSl (eVar 0) (some (eC (.int 7))) none, eVar 2]])))
def R__law_loop : List D → Out (D × Bool) := denF 3 S__law_loop
def S_Ring___init___b1 : SS := G.sIf (G.tOr (tBl (eBin oLt (eBi .len [eVar 3]) (eC (.int 2)))) (G.tOr (tBl (eBin oGt (eBi .len [eVar 3]) (eC (.int 40)))) (tBl (eBin oEq (eBin oMod (eBi .len [eVar 3]) (eC (.int 2))) (eC (.int 1)))))) (sRaise 1) (sSkip)
def S_Ring___init__ : SS := sSeq (G.sFor (itE true (eTup [eVar 1, eVar 2])) (.one 3) S_Ring___init___b1) (sSeq (sDrop (eFn R_ask_bits [eVar 1])) (sSeq (sDrop (eFn R_ask_bits [eVar 2])) (sSeq (G.sFld (fxOne 21 0) 0 (eBi .list [eVar 1])) (G.sFld (fxOne 21 1) 0 (eBi .list [eVar 2])))))
def R_Ring___init__ : List D → Out (D × Bool) := denI 4 21 2 S_Ring___init__
def S__law_ring : SS := sRet (eFn R_Ring___init__ [eBi .list [eBin oIx (eVar 0) (eC (.int 0))], eBi .list [eBin oIx (eVar 0) (eC (.int 1))]])
def R__law_ring : List D → Out (D × Bool) := denF 1 S__law_ring
def S_Ring_wide : SS := sRet (eBi .len [eUn (oFld (fxT [(21, 0)])) (eVar 0)])
def R_Ring_wide : List D → Out (D × Bool) := denF 1 S_Ring_wide
def S_Ring_tall : SS := sRet (eBi .len [eUn (oFld (fxT [(21, 1)])) (eVar 0)])
def R_Ring_tall : List D → Out (D × Bool) := denF 1 S_Ring_tall
def S_Ring_stitched : SS := sSeq (G.sIf (G.tAnd (tBl (eBin oNe (eVar 1) (eC (.str "col")))) (tBl (eBin oNe (eVar 1) (eC (.str "row"))))) (sRaise 4) (sSkip)) (sSeq (sPar false false 4 5 (eUn (oFld (fxT [(21, 1)])) (eVar 0)) (eM [(21, R_Ring_wide)] (eVar 0) [])) (sSeq (G.sIf (tBl (eBin oEq (eVar 1) (eC (.str "col")))) (sPar false false 4 5 (eUn (oFld (fxT [(21, 0)])) (eVar 0)) (eM [(21, R_Ring_tall)] (eVar 0) [])) (sSkip)) (sSeq (G.sIf (G.tOr (tBl (eBin oLt (eVar 2) (eC (.int 0)))) (tBl (eBin oGe (eVar 2) (eBi .len [eVar 4])))) (sRaise 4) (sSkip)) (sSeq (G.sIf (G.tOr (tBl (eBin oLt (eVar 3) (eC (.int 0)))) (tBl (eBin oGe (eVar 3) (eVar 5)))) (sRaise 5) (sSkip)) (sRet (eBin oEq (eBin oMod (eBin oAdd (eVar 3) (eBin oIx (eVar 4) (eVar 2))) (eC (.int 2))) (eC (.int 1))))))))
def R_Ring_stitched : List D → Out (D × Bool) := denF 6 S_Ring_stitched
end GD
/-! G: sorted, min, index, count, in: over data. -/
namespace G
open PySem PySem.Spec L2 PySem.W PyProof.Rows
/-! ### the hand layer's rules -/
theorem each_of {P : V → Value → Prop} : ∀ {bs : List (V × PyData)} {its : List Value}, Vals (bs.map (·.1)) its → EachIs (fun v (b : V × PyData) => RelV b.1 v ∧ b ∈ bs) its bs := by
  intro bs its h
  have key : ∀ (cs : List (V × PyData)) (its : List Value), (∀ b ∈ cs, b ∈ bs) → Vals (cs.map (·.1)) its → EachIs (fun v (b : V × PyData) => RelV b.1 v ∧ b ∈ bs) its cs := by
    intro cs
    induction cs with
    | nil =>
      intro its _ h
      cases h
      exact .nil
    | cons c cs ih =>
      intro its hm h
      cases h with
      | cons r t => exact .cons ⟨r, hm c List.mem_cons_self⟩ (ih _ (fun b hb => hm b (List.mem_cons_of_mem _ hb)) t)
  exact key bs its (fun b hb => hb) h
theorem vals_each {R : Value → V × PyData → Prop} (hR : ∀ v b, R v b → RelV b.1 v) : ∀ {its : List Value} {bs : List (V × PyData)}, EachIs R its bs → Vals (bs.map (·.1)) its
  | _, _, .nil => .nil
  | _, _, .cons r t => .cons (hR _ _ r) (vals_each hR t)
/-- sorted(xs), xs a list of alike data -/
def rSrtD (K : PySem.W.Frag) : List V → Hp → VK → Prop := fun vs H Q => ∃ (a : Addr) (bs : List (V × PyData)), vs = [.ref a] ∧ SqL K H a (bs.map (·.1)) ∧ (∀ b ∈ bs, Dp K H b.1 b.2) ∧ AllAlike (bs.map (·.2)) ∧ Sortable (bs.map (·.2)) ∧ (∀ b ∈ bs, b.2.depth < 50) ∧
  ∀ p, H p = none → Q (.ref p) (upd H p (.lst ((bs.mergeSort (dataLe false (·.2))).map (·.1))))
theorem call_srtD {X : Cx} (hu : X.A.units + 64 < cLine) : CallR X (.builtin "sorted") (rSrtD X.K) := by
  intro pins s σ H vs us Q I r h
  obtain ⟨a, bs, rfl, hs, hd, hal, hk, hdp, q⟩ := h
  obtain ⟨its, rv, hl, hz⟩ := I.list hs
  obtain ⟨u, rfl, ru⟩ := vals1 r
  obtain rfl : u = Value.ref a := ru
  have e := each_of (P := fun _ _ => True) rv
  have hz' : bs.length ≤ sizeLine := by rwa [List.length_map] at hz
  refine sorted_data (enc := fun b : V × PyData => b.2) (R := fun v b => RelV b.1 v ∧ b ∈ bs) hl.isList e (e.mono fun v b ⟨h1, h2⟩ => Dp.reads I b.2 b.1 v (hd b h2) h1) hal hk hz' (fun b hb => by have := hdp b hb; omega) fun out hlen e' => ?_
  obtain ⟨ep, he'⟩ := PyProof.Rows.sortedAll_at s.heap its out.toArray
  have hlen2 : ((bs.mergeSort (dataLe false (·.2))).map (·.1)).length ≤ sizeLine := by rw [List.length_map, List.length_mergeSort]; exact hz'
  exact ⟨.ref _, upd H (s.heap.objs.size + 1) (.lst ((bs.mergeSort (dataLe false (·.2))).map (·.1))), I.laid (t' := s.toks) (fun _ _ => PyProof.Rows.sortedAll_old) (Nat.le_succ _) ⟨hlen2, out, ep, vals_each (fun _ _ h => h.1) e', by simpa using he'⟩, rfl, q _ (I.hok.fresh (Nat.le_succ _))⟩
/-- min(xs), xs a list of alike data: the first least one -/
def rMnD (K : PySem.W.Frag) : List V → Hp → VK → Prop := fun vs H Q => ∃ (a : Addr) (xs : List V) (p : PyData) (ps : List PyData), vs = [.ref a] ∧ SqL K H a xs ∧ DpAll K H xs (p :: ps) ∧ AlikeAll (p :: ps) ∧ SeqAt.shaped (.list (p :: ps)) = true ∧ PyData.depthAll (p :: ps) < 50 ∧
  ∀ (i : Nat) (x : V), xs[i]? = some x → (p :: ps)[i]? = some (minD p ps) → Q x H
theorem call_mnD {X : Cx} (hc : X.calm = true) (hu : X.A.units + 64 < cLine) : CallR X (.builtin "min") (rMnD X.K) := by
  intro pins s σ H vs us Q I r h
  obtain ⟨a, xs, p, ps, rfl, hs, hd, hal, hsh, hdp, q⟩ := h
  obtain ⟨its, rv, hl, hz⟩ := I.list hs
  obtain ⟨u, rfl, ru⟩ := vals1 r
  obtain rfl : u = Value.ref a := ru
  obtain ⟨as, ra⟩ := Dp.readsAll I (p :: ps) xs its hd rv
  have cl : PyData.canLayAll0 (p :: ps) = true := SeqAt.canLay_of_shaped hsh
  refine min_list_data (I.ok.hd hc) hl.isList (show ReadsAll s.heap its.toArray.toList (p :: ps) as from ra) hal (by omega) fun i v h' tk bs hv rd hk => ?_
  have hv : its[i]? = some v := by simpa using hv
  have hm := SeqAt.readsAll_map (p :: ps) its as cl ra
  have hi : (p :: ps)[i]? = some (SeqAt.readOf s.heap v) := by
    rw [← hm, List.getElem?_map, hv]
    rfl
  have hcl : (SeqAt.readOf s.heap v).canLay0 = true := by
    have : ∀ (qs : List PyData), PyData.canLayAll0 qs = true → ∀ d ∈ qs, d.canLay0 = true := by
      intro qs
      induction qs with
      | nil => intro _ d hd; cases hd
      | cons z zs ih =>
        intro hq d hd
        have hq' : z.canLay0 = true ∧ PyData.canLayAll0 zs = true := by simpa [PyData.canLayAll0] using hq
        rcases List.mem_cons.mp hd with rfl | hd
        · exact hq'.1
        · exact ih hq'.2 d hd
    exact this _ cl _ (List.mem_of_getElem? hi)
  obtain ⟨x, hx, rx⟩ : ∃ x, xs[i]? = some x ∧ RelV x v := by
    clear hi hcl rd ra hm hd hs hl hz r q
    induction rv generalizing i with
    | nil => simp at hv
    | cons r t ih =>
      cases i with
      | zero =>
        simp at hv
        subst hv
        exact ⟨_, rfl, r⟩
      | succ i => exact ih _ (by simpa using hv) (by simpa using hv)
  have hmin : SeqAt.readOf s.heap v = minD p ps := by
    have e1 : SeqAt.readOf h' v = minD p ps := by
      refine SeqAt.readOf_eq ?_ rd
      have : minD p ps ∈ p :: ps := by
        have key : ∀ (ps : List PyData) (p : PyData), minD p ps ∈ p :: ps := by
          intro ps
          induction ps with
          | nil => intro p; exact List.mem_singleton.mpr rfl
          | cons z zs ih =>
            intro p
            have := ih (if dataLt z p then z else p)
            have e : minD p (z :: zs) = minD (if dataLt z p then z else p) zs := rfl
            rw [e]
            rcases List.mem_cons.mp this with h | h
            · rw [h]
              split
              · exact List.mem_cons_of_mem _ List.mem_cons_self
              · exact List.mem_cons_self
            · exact List.mem_cons_of_mem _ (List.mem_cons_of_mem _ h)
        exact key ps p
      have clm : ∀ (qs : List PyData), PyData.canLayAll0 qs = true → ∀ d ∈ qs, d.canLay0 = true := by
        intro qs
        induction qs with
        | nil => intro _ d hd; cases hd
        | cons z zs ih =>
          intro hq d hd
          have hq' : z.canLay0 = true ∧ PyData.canLayAll0 zs = true := by simpa [PyData.canLayAll0] using hq
          rcases List.mem_cons.mp hd with rfl | hd
          · exact hq'.1
          · exact ih hq'.2 d hd
      exact clm _ cl _ this
    have e2 : SeqAt.readOf h' v = SeqAt.readOf s.heap v := by
      have : ∃ bs, Reads s.heap v (SeqAt.readOf s.heap v) bs := by
        obtain ⟨bs, r2, _, _, _⟩ := readsAll_atA (show ReadsAll s.heap its.toArray.toList (p :: ps) as from ra) i v (by simpa using hv)
        have : (p :: ps).getD i .none = SeqAt.readOf s.heap v := by rw [List.getD_eq_getElem?_getD, hi]; rfl
        rw [this] at r2
        exact ⟨bs, r2⟩
      obtain ⟨bs2, r2⟩ := this
      exact SeqAt.readOf_eq hcl (reads_keeps hk r2)
    rw [← e2, e1]
  rw [hmin] at hi
  exact ⟨x, H, I.kept hk, rx, q i x hx hi⟩
end G
/-! G: sorted, min, index, count, in: the operators. -/
namespace G
open PySem PySem.Spec L2 PySem.W PyProof.Rows
def pyOf (d : D) : PyData := (toPy d).getD .none
mutual
def fromPy : PyData → D
  | .none => .non
  | .bool b => .bl b
  | .int i => .int i
  | .str s => .str s
  | .list xs => .lst (fromPys xs)
  | .tuple xs => .tup (fromPys xs)
  | .dict _ => .non
def fromPys : List PyData → List D
  | [] => []
  | x :: xs => fromPy x :: fromPys xs
end
mutual
theorem from_toPy : ∀ {d : D} {p : PyData}, toPy d = some p → fromPy p = d
  | .non, _, h => by cases h; rfl
  | .bl b, _, h => by cases h; rfl
  | .int b, _, h => by cases h; rfl
  | .str b, _, h => by cases h; rfl
  | .lst xs, _, h => by
    unfold toPy at h
    cases q : toPys xs with
    | none => rw [q] at h; cases h
    | some ps =>
      rw [q] at h
      cases h
      show D.lst (fromPys ps) = _
      rw [from_toPys q]
  | .tup xs, _, h => by
    unfold toPy at h
    cases q : toPys xs with
    | none => rw [q] at h; cases h
    | some ps =>
      rw [q] at h
      cases h
      show D.tup (fromPys ps) = _
      rw [from_toPys q]
  | .dK _ _, _, h => by cases h
  | .dT _ _, _, h => by cases h
  | .obj _ _, _, h => by cases h
  | .frl _, _, h => by cases h
  | .hx, _, h => by cases h
theorem from_toPys : ∀ {ds : List D} {ps : List PyData}, toPys ds = some ps → fromPys ps = ds
  | [], _, h => by cases h; rfl
  | d :: ds, _, h => by
    unfold toPys at h
    cases q : toPy d with
    | none => rw [q] at h; cases h
    | some p =>
      rw [q] at h
      cases q2 : toPys ds with
      | none => rw [q2] at h; cases h
      | some ps =>
        rw [q2] at h
        cases h
        show fromPy p :: fromPys ps = _
        rw [from_toPy q, from_toPys q2]
end
theorem toPys_map : ∀ {ds : List D} {ps : List PyData}, toPys ds = some ps → ps = ds.map pyOf ∧ ∀ d ∈ ds, toPy d = some (pyOf d)
  | [], _, h => by cases h; exact ⟨rfl, fun _ h => by cases h⟩
  | d :: ds, _, h => by
    unfold toPys at h
    cases q : toPy d with
    | none => rw [q] at h; cases h
    | some p =>
      rw [q] at h
      cases q2 : toPys ds with
      | none => rw [q2] at h; cases h
      | some ps =>
        rw [q2] at h
        cases h
        obtain ⟨h1, h2⟩ := toPys_map q2
        have e : p = pyOf d := by unfold pyOf; rw [q]; rfl
        refine ⟨by rw [List.map_cons, ← h1, ← e], fun x hx => ?_⟩
        rcases List.mem_cons.mp hx with rfl | hx
        · rw [← e]; exact q
        · exact h2 x hx
def tup1 : PyData → Bool
  | .tuple (_ :: _) => true
  | _ => false
def noTup : PyData → Bool
  | .none => false
  | .tuple _ => false
  | _ => true
/-- what sorted takes: alike data -/
def sortB (ps : List PyData) : Bool := ps.all (fun p => ps.all fun q => alike p q) && (ps.all tup1 || ps.all noTup) && ps.all fun p => decide (p.depth < 50)
theorem sortB_ok {ps : List PyData} (h : sortB ps = true) : AllAlike ps ∧ Sortable ps ∧ ∀ p ∈ ps, p.depth < 50 := by
  obtain ⟨h, h3⟩ := Bool.and_eq_true_iff.mp h
  obtain ⟨h1, h2⟩ := Bool.and_eq_true_iff.mp h
  refine ⟨fun d hd d' hd' => List.all_eq_true.mp (List.all_eq_true.mp h1 d hd) d' hd', ?_, fun p hp => of_decide_eq_true (List.all_eq_true.mp h3 p hp)⟩
  rcases Bool.or_eq_true_iff.mp h2 with h2 | h2
  · refine .inl fun d hd => ?_
    have := List.all_eq_true.mp h2 d hd
    cases d <;> first | cases this | skip
    rename_i xs
    cases xs with
    | nil => cases this
    | cons x r => exact ⟨x, r, rfl⟩
  · refine .inr fun d hd => ?_
    have := List.all_eq_true.mp h2 d hd
    cases d with
    | none => cases this
    | tuple _ => cases this
    | _ => exact ⟨nofun, nofun⟩
def leD (d e : D) : Bool := !dataLt (pyOf e) (pyOf d)
def srtL (ds : List D) : Out (D × Kd) := match toPys ds with
  | some ps => if sortB ps = true then .ok (.lst (ds.mergeSort leD), .fr) else .no
  | none => .no
def oSrt : D → Out (D × Kd)
  | .lst ds => srtL ds
  | _ => .no
theorem repl_zip {θ : Th} {F : Hp} : ∀ {ds : List D} {xs : List V}, RepL θ F ds xs → (xs.zip ds).map (·.1) = xs ∧ (xs.zip ds).map (·.2) = ds ∧ ∀ z ∈ xs.zip ds, Rep θ F z.2 z.1
  | _, _, .nil => ⟨rfl, rfl, fun _ h => by cases h⟩
  | _, _, .cons r t => by
    obtain ⟨h1, h2, h3⟩ := repl_zip t
    refine ⟨by rw [List.zip_cons_cons, List.map_cons, h1], by rw [List.zip_cons_cons, List.map_cons, h2], fun z hz => ?_⟩
    rw [List.zip_cons_cons] at hz
    rcases List.mem_cons.mp hz with rfl | hz
    · exact r
    · exact h3 z hz
theorem repl_of {θ : Th} {F : Hp} : ∀ {zs : List (V × D)}, (∀ z ∈ zs, Rep θ F z.2 z.1) → RepL θ F (zs.map (·.2)) (zs.map (·.1))
  | [], _ => .nil
  | z :: zs, h => .cons (h z List.mem_cons_self) (repl_of fun w hw => h w (List.mem_cons_of_mem _ hw))
section
variable {X : Cx} {c : Cn} {L : List Addr} {W : WX} {f g h : ES} {a b e d tg iter : Expr} {pos p : Pos}
theorem g_srt (x : XB X c) (hm : X.mg "sorted" = none) (ha : PE X e (tEv c L W f)) (hg : Gl X "sorted" := by rfl) (hs : starEach [e] X.env = (false, eval e X.env) :: starEach [] X.env := by rfl) : PE X (.Call (.Name "sorted" p) [e] [] pos) (tEv c L W (eUn oSrt f)) := by
  refine pe_ev (pe_callB (call_srtD x.hu) hg hm (by decide +kernel) (pa_cons ha pa_nil hs) (by decide) (by decide) hs (by rfl)) fun σ H Q h => ?_
  obtain ⟨F, ρ, R, h⟩ := of_tEv h
  refine ev_bind R h fun d k v F1 H1 ef e1 rd so R1 h1 => ?_
  clear ef h so
  cases d <;> first | exact (show False from h1).elim | skip
  rename_i ds
  obtain ⟨q, xs, rfl, hq, r⟩ := rd.lst R1.sub
  replace h1 : Res c W σ ρ F1 H1 Q (srtL ds) := h1
  unfold srtL at h1
  cases tp : toPys ds with
  | none => rw [tp] at h1; exact h1.elim
  | some ps =>
    rw [tp] at h1
    obtain ⟨sb, h1⟩ := Res.ite h1
    obtain ⟨hal, hk, hdp⟩ := sortB_ok sb
    obtain ⟨ep, hpy⟩ := toPys_map tp
    obtain ⟨z1, z2, z3⟩ := repl_zip r
    let zs := xs.zip ds
    let bs : List (V × PyData) := zs.map fun z => (z.1, pyOf z.2)
    have b1 : bs.map (·.1) = xs := by rw [List.map_map]; exact z1
    have b2 : bs.map (·.2) = ps := by
      rw [List.map_map, ep]
      show zs.map (pyOf ∘ (·.2)) = _
      rw [← List.map_map]
      exact congrArg _ z2
    have hzd : ∀ z ∈ zs, z.2 ∈ ds := fun z hz => by
      have := List.mem_map_of_mem (f := fun z : V × D => z.2) hz
      rw [z2] at this
      exact this
    refine ⟨q, bs, rfl, by rw [b1, x.K]; exact .inl (.inl hq), fun b hb => ?_, by rw [b2]; exact hal, by rw [b2]; exact hk, fun b hb => ?_, fun p hp => ?_⟩
    · obtain ⟨z, hz, rfl⟩ := List.mem_map.mp hb
      rw [x.K]
      exact rep_py R1.sub (z3 z hz) (hpy _ (hzd z hz))
    · exact hdp _ (by rw [← b2]; exact List.mem_map_of_mem (f := fun z : V × PyData => z.2) hb)
    · have m1 : (zs.mergeSort fun z w => leD z.2 w.2).map (fun z => (z.1, pyOf z.2)) = bs.mergeSort (dataLe false (·.2)) := List.map_mergeSort (f := fun z : V × D => (z.1, pyOf z.2)) fun a _ b _ => rfl
      have m2 : (zs.mergeSort fun z w => leD z.2 w.2).map (·.2) = ds.mergeSort leD := by
        rw [List.map_mergeSort (f := fun z : V × D => z.2) (s := leD) fun a _ b _ => rfl]
        exact congrArg (fun l => l.mergeSort leD) z2
      have m3 : (bs.mergeSort (dataLe false (·.2))).map (·.1) = (zs.mergeSort fun z w => leD z.2 w.2).map (·.1) := by
        rw [← m1, List.map_map]
        rfl
      rw [m3]
      have rl := repl_of (θ := c.θ) (F := F1) (zs := zs.mergeSort fun z w => leD z.2 w.2) fun z hz => z3 z (List.mem_mergeSort.mp hz)
      rw [m2] at rl
      exact h1.lay R1.sub (.lst rl) hp
/-! ### min of data -/
def notNon : PyData → Bool
  | .none => false
  | _ => true
def minB (ps : List PyData) : Bool := ps.all (fun p => ps.all fun q => alike p q) && ps.all notNon && SeqAt.shaped (.list ps) && decide (PyData.depthAll ps < 50)
def oMin : D → Out (D × Kd)
  | .lst ds => match intsOf ds with
    | some ns => if ns ≠ [] then shr (.int (minI ns)) else .no
    | none => match toPys ds with
      | some (p :: ps) => if minB (p :: ps) = true then shr (fromPy (minD p ps)) else .no
      | _ => .no
  | _ => .no
theorem g_min (x : XC X c) (hm : X.mg "min" = none) (ha : PE X e (tEv c L W f)) (hg : Gl X "min" := by rfl) (hs : starEach [e] X.env = (false, eval e X.env) :: starEach [] X.env := by rfl) : PE X (.Call (.Name "min" p) [e] [] pos) (tEv c L W (eUn oMin f)) := by
  have cr : CallR X (.builtin "min") (fun vs H Q => rMin X.K vs H Q ∨ rMnD X.K vs H Q) := fun pins s σ H vs us Q I r h => h.elim (fun h => cr_min x.calm pins s σ H vs us Q I r h) fun h => call_mnD x.calm x.hu pins s σ H vs us Q I r h
  refine pe_ev (pe_callB cr hg hm (by decide +kernel) (pa_cons ha pa_nil hs) (by decide) (by decide) hs (by rfl)) fun σ H Q h => ?_
  obtain ⟨F, ρ, R, h⟩ := of_tEv h
  refine ev_bind R h fun d k v F1 H1 ef e1 rd so R1 h1 => ?_
  clear ef h so
  cases d <;> first | exact (show False from h1).elim | skip
  rename_i ds
  obtain ⟨q, xs, rfl, hq, r⟩ := rd.lst R1.sub
  replace h1 : Res c W σ ρ F1 H1 Q (match intsOf ds with
    | some ns => if ns ≠ [] then shr (.int (minI ns)) else .no
    | none => match toPys ds with
      | some (p :: ps) => if minB (p :: ps) = true then shr (fromPy (minD p ps)) else .no
      | _ => .no) := h1
  cases io : intsOf ds with
  | some ns =>
    rw [io] at h1
    cases intsOf_eq io
    replace h1 : Res c W σ ρ F1 H1 Q (if ns ≠ [] then shr (.int (minI ns)) else .no) := h1
    obtain ⟨ne, h2⟩ := Res.ite h1
    cases r.ints
    refine .inl ⟨q, ns, rfl, by rw [x.K]; exact .inl (.inl hq), List.length_pos_iff.mpr ne, fun m m1 m2 => ?_⟩
    have : m = minI ns := by
      clear h1 h2 io hq r
      have key : ∀ ns : List Int, ns ≠ [] → minI ns ∈ ns ∧ ∀ y ∈ ns, minI ns ≤ y := by
        intro ns
        induction ns with
        | nil => intro h; exact absurd rfl h
        | cons a t ih =>
          intro _
          cases t with
          | nil => exact ⟨List.mem_singleton.mpr rfl, fun y hy => by rw [List.mem_singleton.mp hy]; exact Int.le_refl _⟩
          | cons b t =>
            obtain ⟨i1, i2⟩ := ih (by simp)
            show min a (minI (b :: t)) ∈ _ ∧ ∀ y ∈ _, min a (minI (b :: t)) ≤ y
            refine ⟨?_, fun y hy => ?_⟩
            · by_cases q : a ≤ minI (b :: t)
              · rw [Int.min_eq_left q]; exact List.mem_cons_self
              · rw [Int.min_eq_right (by omega)]; exact List.mem_cons_of_mem _ i1
            · rcases List.mem_cons.mp hy with rfl | hy
              · exact Int.min_le_left _ _
              · exact Int.le_trans (Int.min_le_right _ _) (i2 y hy)
      obtain ⟨k1, k2⟩ := key ns ne
      exact Int.le_antisymm (m2 _ k1) (k2 _ m1)
    rw [this]
    exact h2.int R1.sub
  | none =>
    rw [io] at h1
    cases tp : toPys ds with
    | none => rw [tp] at h1; exact h1.elim
    | some ps =>
      cases ps with
      | nil => rw [tp] at h1; exact h1.elim
      | cons p ps =>
        rw [tp] at h1
        obtain ⟨mb, h1⟩ := Res.ite h1
        obtain ⟨mb, b4⟩ := Bool.and_eq_true_iff.mp mb
        obtain ⟨mb, b3⟩ := Bool.and_eq_true_iff.mp mb
        obtain ⟨b1, b2⟩ := Bool.and_eq_true_iff.mp mb
        refine .inr ⟨q, xs, p, ps, rfl, by rw [x.K]; exact .inl (.inl hq), by rw [x.K]; exact repl_py R1.sub r tp, ⟨fun y hy z hz => List.all_eq_true.mp (List.all_eq_true.mp b1 y hy) z hz, fun y hy z => ?_⟩, b3, of_decide_eq_true b4, fun i v hv hi => ?_⟩
        · have := List.all_eq_true.mp b2 y hy
          subst z
          exact absurd this (by decide)
        · obtain ⟨ep, hpy⟩ := toPys_map tp
          rw [ep, List.getElem?_map] at hi
          cases hd : ds[i]? with
          | none => rw [hd] at hi; cases hi
          | some dd =>
            rw [hd] at hi
            have e1 : pyOf dd = minD p ps := Option.some.inj hi
            obtain ⟨v', hv', rv'⟩ := r.get hd
            rw [hv] at hv'
            cases hv'
            have e2 := from_toPy (hpy dd (List.mem_of_getElem? hd))
            rw [e1] at e2
            rw [e2] at h1
            exact h1.sh R1.sub rv'
end
end G
/-! G: in, not in, index, count. -/
namespace G
open PySem PySem.Spec L2 PySem.W PyProof.Rows
def toV : D → V
  | .bl b => .bl b
  | .int i => .int i
  | .str s => .str s
  | _ => .non
theorem rep_flat {θ : Th} {F : Hp} {d : D} {v : V} (h : flat d = true) (r : Rep θ F d v) : v = toV d ∧ flatV v = true := by
  cases r with
  | non => exact ⟨rfl, rfl⟩
  | bl b => exact ⟨rfl, rfl⟩
  | int b => exact ⟨rfl, rfl⟩
  | str b => exact ⟨rfl, rfl⟩
  | _ => cases h
theorem rd_flat {θ : Th} {F H : Hp} {d : D} {v : V} (h : flat d = true) (r : Rd1 θ F H d v) : v = toV d ∧ flatV v = true := by
  rcases r with r | ⟨a, o, rfl, _, r⟩
  · exact rep_flat h r
  · cases r <;> cases h
theorem repl_flat {θ : Th} {F : Hp} : ∀ {ds : List D} {vs : List V}, ds.all flat = true → RepL θ F ds vs → vs = ds.map toV ∧ vs.all flatV = true
  | _, _, _, .nil => ⟨rfl, rfl⟩
  | d :: ds, _, h, .cons r t => by
    rw [List.all_cons, Bool.and_eq_true] at h
    obtain ⟨h1, h2⟩ := rep_flat h.1 r
    obtain ⟨h3, h4⟩ := repl_flat h.2 t
    exact ⟨by rw [List.map_cons, ← h1, ← h3], by rw [List.all_cons, h2, h4]; rfl⟩
/-- x in a list or tuple of flat items, in a list of data, a sign in a text -/
def inB : D → D → Option Bool
  | d, .lst ds => if (flat d && ds.all flat) = true then some (ds.any fun z => eqV (toV z) (toV d)) else match toPy d, toPys ds with
    | some p, some ps => if (SeqAt.shaped p && SeqAt.shaped (.list ps)) = true then some (ps.any fun z => PyData.eqv z p) else none
    | _, _ => none
  | d, .tup ds => if (flat d && ds.all flat) = true then some (ds.any fun z => eqV (toV z) (toV d)) else none
  | .str c, .str z => match c.cps.toList with
    | [k] => some (decide (k ∈ z.cps.toList))
    | _ => none
  | _, _ => none
def oIn (d e : D) : Out (D × Kd) := obl (inB d e)
def oNi (d e : D) : Out (D × Kd) := obl ((inB d e).map (!·))
def rInA (K : PySem.W.Frag) (neg : Bool) : R2 := fun x y H Q => rIn K neg x y H Q ∨ (∃ d ds, Dp K H x d ∧ Dp K H y (.list ds) ∧ SeqAt.shaped d = true ∧ SeqAt.shaped (.list ds) = true ∧ Q (.bl (if neg then !(ds.any fun z => PyData.eqv z d) else ds.any fun z => PyData.eqv z d)) H) ∨
  ∃ (c : Nat) (z : Str), x = .str ⟨#[c]⟩ ∧ y = .str z ∧ Q (.bl (if neg then !decide (c ∈ z.cps.toList) else decide (c ∈ z.cps.toList))) H
theorem inB_rd {K : PySem.W.Frag} {θ : Th} {F H : Hp} {d e : D} {x y : V} {b : Bool} {Q : VK} {neg : Bool} (hK : K = θ.K) (s : Sub F H) (h : inB d e = some b) (rx : Rd1 θ F H d x) (ry : Rd1 θ F H e y) (q : Q (.bl (if neg then !b else b)) H) : rInA K neg x y H Q := by
  subst hK
  cases e with
  | lst ds =>
    obtain ⟨a, xs, rfl, ha, r⟩ := ry.lst s
    replace h : (if (flat d && ds.all flat) = true then some (ds.any fun z => eqV (toV z) (toV d)) else match toPy d, toPys ds with
      | some p, some ps => if (SeqAt.shaped p && SeqAt.shaped (.list ps)) = true then some (ps.any fun z => PyData.eqv z p) else none
      | _, _ => none) = some b := h
    by_cases f : (flat d && ds.all flat) = true
    · rw [if_pos f] at h
      obtain ⟨f1, f2⟩ := Bool.and_eq_true_iff.mp f
      obtain ⟨e1, e2⟩ := rd_flat f1 rx
      obtain ⟨e3, e4⟩ := repl_flat f2 r
      refine .inl ⟨a, xs, rfl, .inl (.inl (.inl ha)), e2, e4, ?_⟩
      have eb : inV x xs = b := by
        rw [e1, e3]
        show ((ds.map toV).any fun y => eqV y (toV d)) = b
        rw [List.any_map]
        exact Option.some.inj h
      rw [eb]
      exact q
    · rw [if_neg f] at h
      cases q1 : toPy d with
      | none => rw [q1] at h; cases h
      | some p =>
        cases q2 : toPys ds with
        | none => rw [q1, q2] at h; cases h
        | some ps =>
          rw [q1, q2] at h
          replace h : (if (SeqAt.shaped p && SeqAt.shaped (.list ps)) = true then some (ps.any fun z => PyData.eqv z p) else none) = some b := h
          by_cases z : (SeqAt.shaped p && SeqAt.shaped (.list ps)) = true
          · rw [if_pos z] at h
            obtain ⟨z1, z2⟩ := Bool.and_eq_true_iff.mp z
            cases h
            exact .inr (.inl ⟨p, ps, rd_py s rx q1, .lst (.inl (.inl ha)) (repl_py s r q2), z1, z2, q⟩)
          · rw [if_neg z] at h; cases h
  | tup ds =>
    obtain ⟨a, xs, rfl, ha, r, _⟩ := ry.tup s
    replace h : (if (flat d && ds.all flat) = true then some (ds.any fun z => eqV (toV z) (toV d)) else none) = some b := h
    by_cases f : (flat d && ds.all flat) = true
    · rw [if_pos f] at h
      obtain ⟨f1, f2⟩ := Bool.and_eq_true_iff.mp f
      obtain ⟨e1, e2⟩ := rd_flat f1 rx
      obtain ⟨e3, e4⟩ := repl_flat f2 r
      refine .inl ⟨a, xs, rfl, .inr (.inl (.inl ha)), e2, e4, ?_⟩
      have eb : inV x xs = b := by
        rw [e1, e3]
        show ((ds.map toV).any fun y => eqV y (toV d)) = b
        rw [List.any_map]
        exact Option.some.inj h
      rw [eb]
      exact q
    · rw [if_neg f] at h; cases h
  | str z =>
    cases ry.str
    cases d with
    | str c =>
      cases rx.str
      obtain ⟨⟨cl⟩⟩ := c
      cases cl with
      | nil => cases h
      | cons k t =>
        cases t with
        | nil =>
          cases h
          exact .inr (.inr ⟨k, z, rfl, rfl, q⟩)
        | cons _ _ => cases h
    | _ => cases h
  | _ => cases d <;> cases h
section
variable {X : Cx} {c : Cn} {L : List Addr} {W : WX} {f g h : ES} {a b e d tg iter : Expr} {pos p : Pos}
theorem op_inA (x : XB X c) : OpR X (compareOp .In) (rInA X.K false) := fun pins s σ H v w u z Q I r1 r2 h => by
  rcases h with h | ⟨d, ds, h1, h2, h3, h4, h5⟩ | ⟨k, z, h1, h2, h3⟩
  · exact op_in_seq pins s σ H v w u _ Q I r1 r2 h
  · exact op_inD (by have := x.hu2; omega) pins s σ H v w u _ Q I r1 r2 ⟨d, ds, h1, h2, h3, h4, h5⟩
  · exact op_in_sign pins s σ H v w u _ Q I r1 r2 ⟨k, z, h1, h2, h3⟩
theorem op_niA (x : XB X c) : OpR X (compareOp .NotIn) (rInA X.K true) := fun pins s σ H v w u z Q I r1 r2 h => by
  rcases h with h | ⟨d, ds, h1, h2, h3, h4, h5⟩ | ⟨k, z, h1, h2, h3⟩
  · exact op_notIn_seq pins s σ H v w u _ Q I r1 r2 h
  · exact op_notInD (by have := x.hu2; omega) pins s σ H v w u _ Q I r1 r2 ⟨d, ds, h1, h2, h3, h4, h5⟩
  · exact op_notIn_sign pins s σ H v w u _ Q I r1 r2 ⟨k, z, h1, h2, h3⟩
theorem oc_in (x : XB X c) : OpC X c .In oIn := ⟨rInA X.K false, op_inA x, fun W σ ρ F H Q v w d e s rx ry h => by
  replace h : Res c W σ ρ F H Q (obl (inB d e)) := h
  cases q : inB d e with
  | none => rw [q] at h; exact h.elim
  | some b =>
    rw [q] at h
    exact inB_rd (neg := false) x.K s q rx ry (h.bl s)⟩
theorem oc_ni (x : XB X c) : OpC X c .NotIn oNi := ⟨rInA X.K true, op_niA x, fun W σ ρ F H Q v w d e s rx ry h => by
  replace h : Res c W σ ρ F H Q (obl ((inB d e).map (!·))) := h
  cases q : inB d e with
  | none => rw [q] at h; exact h.elim
  | some b =>
    rw [q] at h
    exact inB_rd (neg := true) x.K s q rx ry (h.bl s)⟩
theorem t_isN {j : Nat} {pos' : Pos} (ha : PE X a (tEv c L W f)) : PT X (.Compare a [.Is] [.Constant .none j pos'] pos) (tTv c L W (tBl (eUn (fun d => shr (.bl (isNon d))) f))) := by
  refine pgt_of_bool (pt_cmp (pc_isN ha) rfl) fun σ H Q h => ?_
  obtain ⟨F, ρ, R, h⟩ := of_tEv h
  refine ev_bind R h fun d k x F1 H1 _ e1 rd1 _ R1 h1 => ?_
  have e : decide (x = V.non) = isNon d := by
    rcases rd1 with r | ⟨_, _, rfl, _, r⟩ <;> cases r <;> rfl
  rw [e]
  exact h1.bl R1.sub
theorem t_notN {j : Nat} {pos' : Pos} (ha : PE X a (tEv c L W f)) : PT X (.Compare a [.IsNot] [.Constant .none j pos'] pos) (tTv c L W (tBl (eUn (fun d => shr (.bl (!isNon d))) f))) := by
  refine pgt_of_bool (pt_cmp (pc_notN ha) rfl) fun σ H Q h => ?_
  obtain ⟨F, ρ, R, h⟩ := of_tEv h
  refine ev_bind R h fun d k x F1 H1 _ e1 rd1 _ R1 h1 => ?_
  have e : decide (x = V.non) = isNon d := by
    rcases rd1 with r | ⟨_, _, rfl, _, r⟩ <;> cases r <;> rfl
  rw [e]
  exact h1.bl R1.sub
/-! ### xs.index(e), xs.count(e) -/
def idxOf (ps : List PyData) (p : PyData) : Nat → Option Nat
  | n => match ps with
    | [] => none
    | z :: zs => if PyData.eqv z p = true then some n else idxOf zs p (n + 1)
/-- a list's method of one argument that changes nothing -/
def eLm (op : List D → D → Out (D × Kd)) (f g : ES) : ES := fun ρ => (f ρ).bind fun x => match x.1 with
  | .lst ds => (g ρ).bind fun y => op ds y.1
  | _ => .no
def oIdx (ds : List D) (e : D) : Out (D × Kd) := match toPys ds, toPy e with
  | some ps, some p => if (SeqAt.shaped (.list ps) && SeqAt.shaped p) = true then (match idxOf ps p 0 with
    | some j => shr (.int (j : Nat))
    | none => .no) else .no
  | _, _ => .no
def oCnt (ds : List D) (e : D) : Out (D × Kd) := match intsOf ds, e with
  | some ns, .int k => shr (.int (ns.count k : Nat))
  | _, _ => .no
theorem idxOf_ok : ∀ {ps : List PyData} {p : PyData} {n j : Nat}, idxOf ps p n = some j → ∃ i z, j = n + i ∧ ps[i]? = some z ∧ PyData.eqv z p = true ∧ ∀ (m : Nat) (z' : PyData), m < i → ps[m]? = some z' → PyData.eqv z' p = false
  | [], _, _, _, h => by cases h
  | z :: zs, p, n, j, h => by
    replace h : (if PyData.eqv z p = true then some n else idxOf zs p (n + 1)) = some j := h
    by_cases q : PyData.eqv z p = true
    · rw [if_pos q] at h
      cases h
      exact ⟨0, z, rfl, rfl, q, fun m _ hm => absurd hm (Nat.not_lt_zero _)⟩
    · rw [if_neg q] at h
      obtain ⟨i, z1, e1, e2, e3, e4⟩ := idxOf_ok h
      refine ⟨i + 1, z1, by omega, by simpa using e2, e3, fun m z' hm hz => ?_⟩
      cases m with
      | zero =>
        simp at hz
        subst hz
        exact Bool.eq_false_iff.mpr q
      | succ m => exact e4 m z' (by omega) (by simpa using hz)
theorem g_idx {apos cpos : Pos} (x : XB X c) (ha : PE X a (tEv c L W f)) (hb : PE X b (tEv c L W g))
    (hbase : attributeBase a "index" X.env (eval a X.env) = eval a X.env := by rfl)
    (hfew : ((backTo cpos (starEach [b] X.env)).all (fun x => !x.1) && (backToKw cpos (keywordEach [] X.env)).all (fun x => x.1.isSome)
      && decide ([b].length + ([] : List Keyword).length + (if ([] : List Keyword).isEmpty then 0 else 1) < 30)) = true := by rfl)
    (hline : (apos.endLine == cpos.line) = true := by rfl) (hst : starEach [b] X.env = (false, eval b X.env) :: starEach [] X.env := by rfl) : PE X (.Call (.Attribute a "index" apos) [b] [] cpos) (tEv c L W (eLm oIdx f g)) := by
  refine pe_ev (pe_bm PySem.F.plainAttrs_list PySem.F.slot_list_index PySem.F.type_list_index (mt_indexD (by have := x.hu2; omega)) ha (pa_cons hb pa_nil hst) hbase hfew hline hst rfl) fun σ H Q h => ?_
  obtain ⟨F, ρ, R, h⟩ := of_tEv h
  refine ev_bind R h fun d k v F1 H1 ef e1 rd1 so R1 h1 => ?_
  clear ef h so
  cases d <;> first | exact (show False from h1).elim | skip
  rename_i ds
  obtain ⟨q, xs, rfl, hq, r⟩ := rd1.lst R1.sub
  refine ⟨.inl ⟨rfl, xs, by rw [x.K]; exact .inl (.inl hq)⟩, ?_⟩
  replace h1 : Res c W σ ρ F1 H1 Q ((g ρ).bind fun y => oIdx ds y.1) := h1
  refine ev_bind R1 h1 fun d2 k2 y F2 H2 _ e2 rd2 _ R2 h2 => ?_
  replace h2 : Res c W σ ρ F2 H2 Q (match toPys ds, toPy d2 with
    | some ps, some p => if (SeqAt.shaped (.list ps) && SeqAt.shaped p) = true then (match idxOf ps p 0 with
      | some j => shr (.int (j : Nat))
      | none => .no) else .no
    | _, _ => .no) := h2
  cases q1 : toPys ds with
  | none => rw [q1] at h2; exact h2.elim
  | some ps =>
    cases q2 : toPy d2 with
    | none => rw [q1, q2] at h2; exact h2.elim
    | some p =>
      rw [q1, q2] at h2
      obtain ⟨sh, h2⟩ := Res.ite h2
      obtain ⟨s1, s2⟩ := Bool.and_eq_true_iff.mp sh
      cases q3 : idxOf ps p 0 with
      | none => rw [q3] at h2; exact h2.elim
      | some j =>
        rw [q3] at h2
        obtain ⟨i, z, z1, z2, z3, z4⟩ := idxOf_ok q3
        rw [Nat.zero_add] at z1
        subst z1
        refine ⟨q, y, p, ps, j, z, rfl, rfl, ?_, ?_, s1, s2, z2, z3, z4, h2.int R2.sub⟩
        · rw [x.K]
          exact .lst (.inl (.inl (e2.hh _ _ hq))) (repl_py R2.sub (r.mono e2.ff) q1)
        · rw [x.K]
          exact rd_py R2.sub rd2 q2
theorem g_cnt {apos cpos : Pos} (x : XB X c) (ha : PE X a (tEv c L W f)) (hb : PE X b (tEv c L W g))
    (hbase : attributeBase a "count" X.env (eval a X.env) = eval a X.env := by rfl)
    (hfew : ((backTo cpos (starEach [b] X.env)).all (fun x => !x.1) && (backToKw cpos (keywordEach [] X.env)).all (fun x => x.1.isSome)
      && decide ([b].length + ([] : List Keyword).length + (if ([] : List Keyword).isEmpty then 0 else 1) < 30)) = true := by rfl)
    (hline : (apos.endLine == cpos.line) = true := by rfl) (hst : starEach [b] X.env = (false, eval b X.env) :: starEach [] X.env := by rfl) : PE X (.Call (.Attribute a "count" apos) [b] [] cpos) (tEv c L W (eLm oCnt f g)) := by
  refine pe_ev (pe_bm PySem.F.plainAttrs_list PySem.F.slot_list_count PySem.F.type_list_count mt_lcount ha (pa_cons hb pa_nil hst) hbase hfew hline hst rfl) fun σ H Q h => ?_
  obtain ⟨F, ρ, R, h⟩ := of_tEv h
  refine ev_bind R h fun d k v F1 H1 ef e1 rd1 so R1 h1 => ?_
  clear ef h so
  cases d <;> first | exact (show False from h1).elim | skip
  rename_i ds
  obtain ⟨q, xs, rfl, hq, r⟩ := rd1.lst R1.sub
  refine ⟨.inl ⟨rfl, xs, by rw [x.K]; exact .inl (.inl hq)⟩, ?_⟩
  replace h1 : Res c W σ ρ F1 H1 Q ((g ρ).bind fun y => oCnt ds y.1) := h1
  refine ev_bind R1 h1 fun d2 k2 y F2 H2 ef e2 rd2 so R2 h2 => ?_
  clear ef h1 so
  replace h2 : Res c W σ ρ F2 H2 Q (oCnt ds d2) := h2
  unfold oCnt at h2
  cases q1 : intsOf ds with
  | none => rw [q1] at h2; exact h2.elim
  | some ns =>
    cases intsOf_eq q1
    rw [q1] at h2
    cases d2 <;> first | exact (show False from h2).elim | skip
    cases rd2.int
    cases r.ints
    exact ⟨q, ns, _, rfl, rfl, .inl (.inl (e2.hh _ _ hq)), h2.int R2.sub⟩
end
end G
namespace GD
open PySem L2 G
def S_along_row : SS := sSeq (G.sIf (G.tOr (tBl (eBin oEq (eVar 2) (eC (.int 0)))) (tBl (eBin oEq (eVar 2) (eM [(20, R_Cloth_tall)] (eVar 0) [])))) (sRet (eLst [])) (sSkip)) (sSeq (G.sIf (G.tAnd (tBl (eBin oLt (eVar 1) (eM [(20, R_Cloth_wide)] (eVar 0) []))) (tTru (eM [(20, R_Cloth_stitched)] (eVar 0) [eC (.str "row"), eBin oSub (eVar 2) (eC (.int 1)), eVar 1]))) (sRet (eLst [eTup [eBin oAdd (eVar 1) (eC (.int 1)), eVar 2]])) (sSkip)) (sSeq (G.sIf (G.tAnd (tBl (eBin oGt (eVar 1) (eC (.int 0)))) (tTru (eM [(20, R_Cloth_stitched)] (eVar 0) [eC (.str "row"), eBin oSub (eVar 2) (eC (.int 1)), eBin oSub (eVar 1) (eC (.int 1))]))) (sRet (eLst [eTup [eBin oSub (eVar 1) (eC (.int 1)), eVar 2]])) (sSkip)) (sRet (eLst []))))
def R_along_row : List D → Out (D × Bool) := denF 3 S_along_row
def S_along_column : SS := sSeq (G.sIf (G.tOr (tBl (eBin oEq (eVar 1) (eC (.int 0)))) (tBl (eBin oEq (eVar 1) (eM [(20, R_Cloth_wide)] (eVar 0) [])))) (sRet (eLst [])) (sSkip)) (sSeq (G.sIf (G.tAnd (tBl (eBin oLt (eVar 2) (eM [(20, R_Cloth_tall)] (eVar 0) []))) (tTru (eM [(20, R_Cloth_stitched)] (eVar 0) [eC (.str "col"), eBin oSub (eVar 1) (eC (.int 1)), eVar 2]))) (sRet (eLst [eTup [eVar 1, eBin oAdd (eVar 2) (eC (.int 1))]])) (sSkip)) (sSeq (G.sIf (G.tAnd (tBl (eBin oGt (eVar 2) (eC (.int 0)))) (tTru (eM [(20, R_Cloth_stitched)] (eVar 0) [eC (.str "col"), eBin oSub (eVar 1) (eC (.int 1)), eBin oSub (eVar 2) (eC (.int 1))]))) (sRet (eLst [eTup [eVar 1, eBin oSub (eVar 2) (eC (.int 1))]])) (sSkip)) (sRet (eLst []))))
def R_along_column : List D → Out (D × Bool) := denF 3 S_along_column
def S_joined : SS := sSeq (G.sTg (.tup [.one 2, .one 3]) (eVar 1)) (sSeq (G.sIf (G.tOr (tBl (eBin oLt (eVar 2) (eC (.int 0)))) (G.tOr (tBl (eBin oLt (eVar 3) (eC (.int 0)))) (G.tOr (tBl (eBin oGt (eVar 2) (eM [(20, R_Cloth_wide)] (eVar 0) []))) (tBl (eBin oGt (eVar 3) (eM [(20, R_Cloth_tall)] (eVar 0) [])))))) (sRaise 6) (sSkip)) (sRet (eUn oSrt (eBin oAdd (eFn R_along_row [eVar 0, eVar 2, eVar 3]) (eFn R_along_column [eVar 0, eVar 2, eVar 3])))))
def R_joined : List D → Out (D × Bool) := denF 4 S_joined
def S__law_near_b1 : SS := G.sIf (G.tAnd (tBl (eChain oLe oLt (eC (.int 0)) (eVar 6) (eVar 3))) (tTru (eFn R__law_sewn [eVar 0, eC (.str "row"), eBin oSub (eVar 2) (eC (.int 1)), eVar 6]))) (sOwL 5 kAp (eTup [eBin oSub (eBin oAdd (eBin oMul (eC (.int 2)) (eVar 6)) (eC (.int 1))) (eVar 1), eVar 2])) (sSkip)
def S__law_near_b2 : SS := G.sIf (G.tAnd (tBl (eChain oLe oLt (eC (.int 0)) (eVar 6) (eVar 4))) (tTru (eFn R__law_sewn [eVar 0, eC (.str "col"), eBin oSub (eVar 1) (eC (.int 1)), eVar 6]))) (sOwL 5 kAp (eTup [eVar 1, eBin oSub (eBin oAdd (eBin oMul (eC (.int 2)) (eVar 6)) (eC (.int 1))) (eVar 2)])) (sSkip)
def S__law_near : SS := sSeq (G.sAsg false 3 (eBin oAdd (eBi .len [eBin oIx (eVar 0) (eC (.int 1))]) (eC (.int 1)))) (sSeq (G.sAsg false 4 (eBin oAdd (eBi .len [eBin oIx (eVar 0) (eC (.int 2))]) (eC (.int 1)))) (sSeq (G.sAsg true 5 (eLst [])) (sSeq (G.sIf (tBl (eChain oLt oLt (eC (.int 0)) (eVar 2) (eVar 4))) (G.sFor (itE true (eTup [eBin oSub (eVar 1) (eC (.int 1)), eVar 1])) (.one 6) S__law_near_b1) (sSkip)) (sSeq (G.sIf (tBl (eChain oLt oLt (eC (.int 0)) (eVar 1) (eVar 3))) (G.sFor (itE true (eTup [eBin oSub (eVar 2) (eC (.int 1)), eVar 2])) (.one 6) S__law_near_b2) (sSkip)) (sRet (eUn oSrt (eVar 5)))))))
def R__law_near : List D → Out (D × Bool) := denF 7 S__law_near
def S_followed_b1 : SS := sSeq (sOwL 3 kAp (eVar 5)) (sSeq (G.sAsg false 6 (eLc (itE false (eFn R_joined [eVar 0, eVar 5])) (.one 7) (tBl (eBin oNe (eVar 7) (eVar 4))) (eVar 7) [7])) (sSeq (G.sAsg false 4 (eVar 5)) (sSeq (G.sAsg false 5 (eC .non)) (G.sIf (tBl (eBin oNe (eVar 6) (eLst []))) (G.sAsg false 5 (eBin oIx (eVar 6) (eC (.int 0)))) (sSkip)))))
def T_followed_b2 : TSm := G.tAnd (tBl (eUn (fun d => shr (.bl (!isNon d))) (eVar 5))) (tBl (eBin oNe (eVar 5) (eVar 1)))
def S_followed : SS := sSeq (G.sAsg true 3 (eLst [eVar 1])) (sSeq (G.sAsg false 4 (eVar 1)) (sSeq (G.sAsg false 5 (eVar 2)) (sSeq (G.sWhile T_followed_b2 S_followed_b1) (sSeq (sFrz 3) (sRet (eTup [eBin oEq (eVar 5) (eVar 1), eVar 3]))))))
def R_followed : List D → Out (D × Bool) := denF 8 S_followed
def S_from_least : SS := sSeq (G.sAsg false 1 (eLm oIdx (eVar 0) (eUn oMin (eVar 0)))) (sSeq (G.sAsg false 2 (eBin oAdd (eSl (eVar 0) (some (eVar 1)) none) (eSl (eVar 0) none (some (eVar 1))))) (sSeq (G.sIf (tBl (eBin oNe (eBin oIx (eBin oIx (eVar 2) (eC (.int 1))) (eC (.int 1))) (eBin oIx (eBin oIx (eVar 2) (eC (.int 0))) (eC (.int 1))))) (sRet (eBin oAdd (eSl (eVar 2) none (some (eC (.int 1)))) (eUn oRev (eSl (eVar 2) (some (eC (.int 1))) none)))) (sSkip)) (sRet (eVar 2))))
def R_from_least : List D → Out (D × Bool) := denF 3 S_from_least
def S_seam : SS := sSeq (G.sAsg false 2 (eFn R_joined [eVar 0, eVar 1])) (sSeq (G.sIf (tBl (eBin oEq (eVar 2) (eLst []))) (sRet (eC .non)) (sSkip)) (sSeq (G.sTg (.tup [.one 3, .one 4]) (eFn R_followed [eVar 0, eVar 1, eBin oIx (eVar 2) (eC (.int 0))])) (sSeq (G.sIf (tTru (eVar 3)) (sRet (eTup [eC (.bl true), eFn R_from_least [eVar 4]])) (sSkip)) (sSeq (G.sIf (tBl (eBin oEq (eBi .len [eVar 2]) (eC (.int 2)))) (G.sAsg false 4 (eBin oAdd (eUn oRev (eVar 4)) (eSl (eBin oIx (eFn R_followed [eVar 0, eVar 1, eBin oIx (eVar 2) (eC (.int 1))]) (eC (.int 1))) (some (eC (.int 1))) none))) (sSkip)) (sSeq (G.sIf (tBl (eBin oLt (eBin oIx (eVar 4) (eUn oNeg (eC (.int 1)))) (eBin oIx (eVar 4) (eC (.int 0))))) (G.sAsg false 4 (eUn oRev (eVar 4))) (sSkip)) (sRet (eTup [eC (.bl false), eVar 4])))))))
def R_seam : List D → Out (D × Bool) := denF 5 S_seam
end GD
/-! G: own trees: the slots. -/
namespace G
open PySem PySem.Spec L2
section
variable {θ : Th} {F0 B F F' H H' : Hp} {L : List Addr} {σ : L2.St} {ρ : Sl} {i : Nat} {k : Sh} {d : D} {v : V} {a : Addr} {o : HO} {Z : Nat → List Addr} {S : List Addr}
theorem set_some {x z : Slot} {j : Nat} (h : (ρ.set i x)[j]? = some z) : (j = i ∧ z = x) ∨ (j ≠ i ∧ ρ[j]? = some z) := by
  by_cases q : i = j
  · subst q
    by_cases l : i < ρ.length
    · rw [List.getElem?_set_self l] at h
      exact .inl ⟨rfl, (Option.some.inj h).symm⟩
    · rw [List.getElem?_eq_none (by simpa using l)] at h
      cases h
  · rw [List.getElem?_set_ne q] at h
    exact .inr ⟨fun e => q e.symm, h⟩
def bare : Slot → Bool
  | .un => true
  | .pv _ _ => true
  | _ => false
theorem Owner.set_bare {x : Slot} {j : Nat} (hx : bare x = true) (h : Owner (ρ.set i x) j) : j ≠ i ∧ Owner ρ j := by
  rcases h with ⟨d, h⟩ | ⟨k, ds, h⟩
  · rcases set_some h with ⟨_, z⟩ | ⟨q, z⟩
    · subst z; cases hx
    · exact ⟨q, .inl ⟨d, z⟩⟩
  · rcases set_some h with ⟨_, z⟩ | ⟨q, z⟩
    · subst z; cases hx
    · exact ⟨q, .inr ⟨k, ds, z⟩⟩
/-- a slot of which nothing is known, or that has an own tree -/
theorem Rel.reslot {x : Slot} {w : Option V} (R : Rel θ F0 B L F H σ ρ) (hx : bare x = true) (hp : ∃ Z, PvAll θ B F H (σ.set i w) (ρ.set i x) Z) : Rel θ F0 B L F H (σ.set i w) (ρ.set i x) := by
  have ne : ∀ {j : Nat}, j ≠ i → (σ.set i w)[j]? = σ[j]? := fun {j} h => List.getElem?_set_ne fun e => h e.symm
  refine ⟨R.sub, R.kp, R.f0, R.fn, by simpa using R.len, fun j e h => ?_, fun j e h => ?_, fun j e h => ?_, fun j l e e' b hn h1 h2 h3 => ?_, fun j l ds h => ?_, fun j h => ?_, hp⟩
  · rcases set_some h with ⟨_, z⟩ | ⟨q, z⟩
    · subst z; cases hx
    · rw [ne q]; exact R.va j e z
  · rcases set_some h with ⟨_, z⟩ | ⟨q, z⟩
    · subst z; cases hx
    · rw [ne q]; exact R.ow j e z
  · rcases set_some h with ⟨_, z⟩ | ⟨q, z⟩
    · subst z; cases hx
    · exact R.fu j e z
  · rcases set_some h1 with ⟨_, z⟩ | ⟨q1, z1⟩
    · subst z; cases hx
    rcases set_some h2 with ⟨_, z⟩ | ⟨q2, z2⟩
    · subst z; cases hx
    rw [ne q1] at h3
    rw [ne q2]
    exact R.dj j l e e' b hn z1 z2 h3
  · rcases set_some h with ⟨_, z⟩ | ⟨q, z⟩
    · subst z; cases hx
    · obtain ⟨⟨b, o, g1, g2, g3, g4, g5, g6, g7⟩, g8⟩ := R.me j l ds z
      refine ⟨⟨b, o, by rw [ne q]; exact g1, g2, g3, g4, g5, g6, fun m e hm => ?_⟩, fun m k' ds' hm hz => ?_⟩
      · rcases set_some hm with ⟨_, z⟩ | ⟨q2, z⟩
        · subst z; cases hx
        · rw [ne q2]; exact g7 m e z
      · rcases set_some hz with ⟨_, z⟩ | ⟨q2, z⟩
        · subst z; cases hx
        · exact g8 m k' ds' hm z
  · rcases set_some h with ⟨_, z⟩ | ⟨q, z⟩
    · subst z; cases hx
    · rw [ne q]; exact R.xc j z
theorem PvAll.drop {w : Option V} (hZ : PvAll θ B F H σ ρ Z) : PvAll θ B F H (σ.set i w) (ρ.set i .un) Z :=
  hZ.step (.refl _) (fun _ _ h => h) (fun j k d h => by
    rcases set_some h with ⟨_, z⟩ | ⟨q, z⟩
    · cases z
    · exact ⟨z, List.getElem?_set_ne (Ne.symm q), fun b hb => ⟨rfl, ((hZ j k d z).2.2.1 b hb).1⟩⟩) fun j k d l b h ho hs => by
    rcases set_some h with ⟨_, z⟩ | ⟨q, z⟩
    · cases z
    · obtain ⟨q2, ho⟩ := ho.set_bare rfl
      rw [List.getElem?_set_ne (Ne.symm q2)] at hs
      exact (hZ j k d z).2.2.2.1 l b ho hs
theorem set_same {w : Option V} (h : σ[i]? = some w) : σ.set i w = σ := List.ext_getElem? fun j => by
  by_cases q : i = j
  · subst q
    rw [List.getElem?_set_self (List.getElem?_eq_some_iff.mp h).1, h]
  · rw [List.getElem?_set_ne q]
/-- an object that no slot owns changes -/
theorem Rel.poke (R : Rel θ F0 B L F H σ ρ) (nF : F a = none) (nB : B a = none) (no : ∀ j : Nat, Owner ρ j → σ[j]? ≠ some (some (.ref a))) (hp : ∃ Z, PvAll θ B F (upd H a o) σ ρ Z) : Rel θ F0 B L F (upd H a o) σ ρ := by
  have keep : ∀ {b : Addr} {u : HO}, F b = some u → b ≠ a := fun h z => by
    subst z
    rw [nF] at h
    cases h
  have keepB : ∀ {b : Addr} {u : HO}, B b = some u → b ≠ a := fun h z => by
    subst z
    rw [nB] at h
    cases h
  refine ⟨fun b u h => by rw [upd_ne (keep h)]; exact R.sub b u h, fun b u h => by rw [upd_ne (keepB h)]; exact R.kp b u h, R.f0, R.fn, R.len, R.va, fun j e h => ?_, R.fu, R.dj, fun j l ds h => ?_, R.xc, hp⟩
  · obtain ⟨b, o2, g1, g2, g3⟩ := R.ow j e h
    exact ⟨b, o2, g1, by rw [upd_ne fun z => by subst z; exact no j (.inl ⟨e, h⟩) g1]; exact g2, g3⟩
  · obtain ⟨⟨b, o2, g1, g2, g3⟩, g8⟩ := R.me j l ds h
    exact ⟨⟨b, o2, g1, by rw [upd_ne fun z => by subst z; exact no j (.inr ⟨l, ds, h⟩) g1]; exact g2, g3⟩, g8⟩
/-- an object of slot i's tree changes; the tree is then another one -/
theorem PvAll.upd {k' : Sh} {d' : D} {S' : List Addr} (hZ : PvAll θ B F H σ ρ Z) (hi : ρ[i]? = some (.pv k d)) (hs : σ[i]? = some (some v)) (ha : a ∈ Z i) (T : Tr θ B F (upd H a o) k' d' v S') (nd : S'.Nodup)
    (hS : ∀ b ∈ S', b ∈ Z i ∨ (F b = none ∧ B b = none ∧ (∀ j : Nat, Owner ρ j → σ[j]? ≠ some (some (.ref b))) ∧ ∀ (j : Nat) (k : Sh) (d : D), j ≠ i → ρ[j]? = some (.pv k d) → b ∉ Z j)) : ∃ Z', PvAll θ B F (upd H a o) σ (ρ.set i (.pv k' d')) Z' := by
  refine ⟨fun j => if j = i then S' else Z j, fun j l e h => ?_⟩
  have own : ∀ {m : Nat}, Owner (ρ.set i (.pv k' d')) m → Owner ρ m := fun h => (h.set_bare rfl).2
  rcases set_some h with ⟨rfl, z⟩ | ⟨q, z⟩
  · cases z
    dsimp only
    rw [if_pos rfl]
    obtain ⟨_, _, f, ow, pw⟩ := hZ j k d hi
    refine ⟨⟨v, hs, T⟩, nd, fun b hb => ?_, fun m b ho hm hb => ?_, fun m k2 d2 hm hp => ?_⟩
    · rcases hS b hb with g | ⟨g1, g2, _⟩
      · exact f b g
      · exact ⟨g1, g2⟩
    · rcases hS b hb with g | ⟨_, _, g3, _⟩
      · exact ow m b (own ho) hm g
      · exact g3 m (own ho) hm
    · rcases set_some hp with ⟨z, _⟩ | ⟨_, z⟩
      · exact absurd z hm
      · rw [if_neg hm]
        intro b hb hb2
        rcases hS b hb2 with g | ⟨_, _, _, g4⟩
        · exact pw m k2 d2 hm z b hb g
        · exact g4 m k2 d2 hm z hb
  · dsimp only
    rw [if_neg q]
    obtain ⟨⟨w, g1, t⟩, g2, f, ow, pw⟩ := hZ j l e z
    obtain ⟨⟨_, _, ti⟩, _, _, _, pwi⟩ := hZ i k d hi
    obtain ⟨oa, hoa, nta⟩ := ti.some a ha
    have ne : ∀ b ∈ Z j, b ≠ a := fun b hb z2 => by
      subst z2
      exact pwi j l e q z b hb ha
    refine ⟨⟨w, g1, t.keep (.refl _) (fun b xs hx => ?_) fun b hb => upd_ne (ne b hb)⟩, g2, f, fun m b ho hm => ow m b (own ho) hm, fun m k2 d2 hm hp => ?_⟩
    · rw [upd_ne fun z2 => ?_]
      · exact hx
      · subst z2
        rw [hoa] at hx
        cases hx
        exact nta _ rfl
    · rcases set_some hp with ⟨rfl, z2⟩ | ⟨q2, z2⟩
      · rw [if_pos rfl]
        intro b hb hb2
        rcases hS b hb with g | ⟨_, _, _, g4⟩
        · exact pw m k d hm hi b g hb2
        · exact g4 j l e q z hb2
      · rw [if_neg q2]
        exact pw m k2 d2 hm z2
/-- .. the whole step -/
theorem Rel.pvMut {k' : Sh} {d' : D} {S' : List Addr} (R : Rel θ F0 B L F H σ ρ) (hZ : PvAll θ B F H σ ρ Z) (hi : ρ[i]? = some (.pv k d)) (hs : σ[i]? = some (some v)) (ha : a ∈ Z i) (T : Tr θ B F (upd H a o) k' d' v S') (nd : S'.Nodup)
    (hS : ∀ b ∈ S', b ∈ Z i ∨ (F b = none ∧ B b = none ∧ (∀ j : Nat, Owner ρ j → σ[j]? ≠ some (some (.ref b))) ∧ ∀ (j : Nat) (k : Sh) (d : D), j ≠ i → ρ[j]? = some (.pv k d) → b ∉ Z j)) : Rel θ F0 B L F (upd H a o) σ (ρ.set i (.pv k' d')) := by
  obtain ⟨⟨_, _, ti⟩, _, f, ow, _⟩ := hZ i k d hi
  have R1 : Rel θ F0 B L F H σ (ρ.set i .un) := by
    have := R.reslot (i := i) (x := .un) (w := some v) rfl ⟨Z, by rw [set_same hs]; exact set_same hs ▸ hZ.drop (i := i) (w := some v)⟩
    rwa [set_same hs] at this
  have un : ∀ {j : Nat}, Owner (ρ.set i .un) j → Owner ρ j := fun h => (h.set_bare rfl).2
  have fin := PvAll.upd hZ hi hs ha T nd hS
  have R2 : Rel θ F0 B L F (upd H a o) σ (ρ.set i .un) := R1.poke (f a ha).1 (f a ha).2 (fun j ho hj => ow j a (un ho) hj ha) (by
    obtain ⟨Z', h'⟩ := fin
    have h2 := h'.drop (i := i) (w := some v)
    rw [set_same hs, List.set_set] at h2
    exact ⟨Z', h2⟩)
  have R3 := R2.reslot (i := i) (x := .pv k' d') (w := some v) rfl (by rw [set_same hs, List.set_set]; exact fin)
  rwa [set_same hs, List.set_set] at R3
/-- a slot takes a new tree -/
theorem Rel.setPv (R : Rel θ F0 B L F H σ ρ) (e : Ext F H F' H') (t : Tr θ B F' H' k d v S) (nd : S.Nodup) (fr : ∀ b ∈ S, H b = none ∧ F' b = none) : Rel θ F0 B L F' H' (σ.set i (some v)) (ρ.set i (.pv k d)) := by
  obtain ⟨Z, h0⟩ := R.pv
  have hZ := h0.ext e
  have R1 := R.ext e
  refine R1.reslot rfl ⟨fun j => if j = i then S else Z j, fun j l e2 h => ?_⟩
  have nb : ∀ b ∈ S, B b = none := fun b hb => by
    cases q : B b with
    | none => rfl
    | some u => rcases R.kp b u q with y | ⟨_, _, _, y⟩ <;> (rw [(fr b hb).1] at y; cases y)
  have old : ∀ {j : Nat} {l : Sh} {e2 : D}, ρ[j]? = some (.pv l e2) → ∀ b ∈ Z j, b ∉ S := fun {j l e2} hp b hb hb2 => by
    obtain ⟨⟨w, _, t⟩, _⟩ := h0 j l e2 hp
    obtain ⟨u, hu, _⟩ := t.some b hb
    rw [(fr b hb2).1] at hu
    cases hu
  have ownO : ∀ {j : Nat} {b : Addr}, Owner ρ j → σ[j]? = some (some (.ref b)) → b ∉ S := fun {j b} ho hs hb => by
    have : ∃ u, H b = some u := by
      rcases ho with ⟨e2, he⟩ | ⟨l, ds, he⟩
      · obtain ⟨b2, u, g1, g2, _⟩ := R.ow j e2 he
        rw [hs] at g1
        cases g1
        exact ⟨u, g2⟩
      · obtain ⟨⟨b2, u, g1, g2, _⟩, _⟩ := R.me j l ds he
        rw [hs] at g1
        cases g1
        exact ⟨u, g2⟩
    obtain ⟨u, hu⟩ := this
    rw [(fr b hb).1] at hu
    cases hu
  rcases set_some h with ⟨rfl, z⟩ | ⟨q, z⟩
  · cases z
    dsimp only
    rw [if_pos rfl]
    have hi : j < σ.length := by
      have := (List.getElem?_eq_some_iff.mp h).1
      rw [List.length_set] at this
      rw [R.len]
      exact this
    refine ⟨⟨v, List.getElem?_set_self hi, t⟩, nd, fun b hb => ⟨(fr b hb).2, nb b hb⟩, fun m b ho hs => ?_, fun m k2 d2 hm hp => ?_⟩
    · obtain ⟨q2, ho⟩ := ho.set_bare rfl
      rw [List.getElem?_set_ne (Ne.symm q2)] at hs
      exact ownO ho hs
    · rcases set_some hp with ⟨z, _⟩ | ⟨_, z⟩
      · exact absurd z hm
      · rw [if_neg hm]
        exact old z
  · dsimp only
    rw [if_neg q]
    obtain ⟨⟨w, g1, t1⟩, g2, f, ow, pw⟩ := hZ j l e2 z
    refine ⟨⟨w, by rw [List.getElem?_set_ne (Ne.symm q)]; exact g1, t1⟩, g2, f, fun m b ho hs => ?_, fun m k2 d2 hm hp => ?_⟩
    · obtain ⟨q2, ho⟩ := ho.set_bare rfl
      rw [List.getElem?_set_ne (Ne.symm q2)] at hs
      exact ow m b ho hs
    · rcases set_some hp with ⟨rfl, z2⟩ | ⟨q2, z2⟩
      · rw [if_pos rfl]
        exact fun b hb hb2 => old z b hb2 hb
      · rw [if_neg q2]
        exact pw m k2 d2 hm z2
/-! ### roots as trees -/
theorem repl_trl : ∀ {n : Nat} {ds : List D} {vs : List V}, RepL θ F ds vs → TrL θ B F H (fun _ => .lf) n ds vs []
  | _, _, _, .nil => .nil
  | _, _, _, .cons r t => .cons (S1 := []) (.lf r) (repl_trl t)
def sh1 : Sh := .nd fun _ => .lf
def sh2 : Sh := .nd fun _ => sh1
theorem root_tr (ha : H a = some o) (r : Root θ F d o) (fu : Full θ d) : Tr θ B F H sh1 d (.ref a) [a] := by
  cases r with
  | lst r => exact .lst ha (repl_trl r)
  | dK l r => exact .dK ha l (repl_trl r)
  | dT l r => exact .dT ha l (repl_trl r)
  | @obj c dx xs ds l r =>
    have fu : ds.length = (θ.fld c).length := fu
    rw [fu, List.take_length] at ha
    exact .obj ha fu.symm (repl_trl r)
theorem TrL.append {k : Nat → Sh} : ∀ {n : Nat} {ds es : List D} {xs ys : List V} {S T : List Addr}, TrL θ B F H k n ds xs S → TrL θ B F H k (n + ds.length) es ys T → TrL θ B F H k n (ds ++ es) (xs ++ ys) (S ++ T)
  | n, _, es, _, ys, _, T, .nil, t => by simpa using t
  | n, _, es, _, ys, _, T, .cons (ds := ds) h r, t => by
    rw [List.cons_append, List.cons_append, List.append_assoc]
    refine .cons h (TrL.append r ?_)
    rw [List.length_cons] at t
    rw [show n + 1 + ds.length = n + (ds.length + 1) by omega]
    exact t
theorem Rel.frzP (R : Rel θ F0 B L F H σ ρ) (hi : ρ[i]? = some (.pv k d)) : ∃ F2, Same F F2 ∧ Rel θ F0 B L F2 H σ (ρ.set i (.va d)) := by
  obtain ⟨Z, hZ⟩ := R.pv
  obtain ⟨⟨v, hs, t⟩, _, f, ow, pw⟩ := hZ i k d hi
  obtain ⟨N, hN, rep⟩ := frz_tr t
  have nf : ∀ b ∈ N, ∀ u, H b = some u → ∀ o w, u ≠ .frz o w := fun b hb u hu o w z => by
    subst z
    rcases hN b hb with g | ⟨_, xs, g⟩
    · have key : ∀ {k : Sh} {d : D} {v : V} {S : List Addr}, Tr θ B F H k d v S → True := fun _ => trivial
      obtain ⟨u2, h2, h3⟩ := t.some b g
      rw [hu] at h2
      cases h2
      exact t.nofrz b g o w hu
    · rw [hu] at g; cases g
  have other : ∀ {a : Addr} {o : HO}, (∀ xs, o ≠ .tup xs) → H a = some o → a ∉ Z i → F a = none → addN F H N a = none := fun {a o} h1 h2 h3 h4 => by
    cases q : addN F H N a with
    | none => rfl
    | some u =>
      rcases addN_some q with z | ⟨_, z, _⟩
      · rw [h4] at z; cases z
      · rcases hN a z with g | ⟨_, xs, g⟩
        · exact absurd g h3
        · rw [h2] at g; cases g; exact absurd rfl (h1 _)
  refine ⟨addN F H N, addN_same, ?_⟩
  have R2 := R.put (F' := addN F H N) (H' := H) (i := i) (v := v) (sl := .va d) (fun b u h => ?_) R.kp addN_same (fun b u h => ?_) (fun j b o hj ho hb h3 h4 => ⟨h3, ?_⟩) (fun e h => ?_) (fun _ h => by cases h) (fun _ _ h => by cases h) (fun Z2 hZ2 j k2 d2 hj hp b hb => ⟨rfl, ?_, fun z => by rcases z with ⟨_, z⟩ | ⟨_, _, z⟩ <;> cases z⟩)
  · rwa [set_same hs] at R2
  · rcases addN_some h with z | ⟨_, _, z⟩
    · exact R.sub b u z
    · exact .inl z
  · rcases addN_some h with z | ⟨_, z, _⟩
    · exact R.fn b u z
    · rcases hN b z with g | ⟨g, _⟩
      · exact .inr (f b g).2
      · exact .inr g
  · refine other (fun xs z => ?_) h3 (ow j b ho hb) h4
    subst z
    rcases ho with ⟨e, he⟩ | ⟨l, ds, he⟩
    · obtain ⟨b2, o2, g1, g2, _, _, g5⟩ := R.ow j e he
      rw [hb] at g1
      cases g1
      rw [h3] at g2
      cases g2
      cases g5
    · obtain ⟨⟨b2, o2, g1, g2, _, _, g5, _⟩, _⟩ := R.me j l ds he
      rw [hb] at g1
      cases g1
      rw [h3] at g2
      cases g2
      cases g5
  · cases h
    exact rep _ addN_same fun b hb u hu => addN_at R.sub hb hu (nf b hb u hu)
  · obtain ⟨⟨w, g1, t2⟩, _, f2, _, pw2⟩ := hZ2 j k2 d2 hp
    obtain ⟨u, hu, nt⟩ := t2.some b hb
    have : b ∉ Z i := fun z => by
      obtain ⟨⟨v3, g3, t3⟩, _⟩ := hZ2 i k d hi
      rw [hs] at g3
      cases g3
      have e := t.det t3
      rw [e] at z
      exact pw2 i k d (Ne.symm hj) hi b z hb
    rw [(f2 b hb).1]
    exact other nt hu this (f2 b hb).1
end
end G
/-! G: own trees: freezing, reading for a while. -/
namespace G
open PySem PySem.Spec L2
/-- a slot's own is no more its own -/
def sFrzA (i : Nat) : SS := fun ρ => match ρ[i]? with
  | some (.ow d) => .nx (ρ.set i (.va d))
  | some (.pv _ d) => .nx (ρ.set i (.va d))
  | _ => .nx ρ
/-- what may be read out of a tree that stays own -/
def outOk (r : D) (k : Kd) : Bool := flat r || (match k with
  | .fr => newD r
  | _ => false)
def eBor (i : Nat) (f : ES) : ES := fun ρ => match ρ[i]? with
  | some (.pv _ d) => (match f (ρ.set i (.va d)) with
    | .ok (r, k) => if outOk r k = true ∧ k.solid = true then .ok (r, k) else .no
    | .ex n fs => if fs = [] then .ex n [] else .no
    | .no => .no)
  | _ => f ρ
def tBor (i : Nat) (t : TSm) : TSm := fun ρ => match ρ[i]? with
  | some (.pv _ d) => (match t (ρ.set i (.va d)) with
    | .ok b => .ok b
    | .ex n fs => if fs = [] then .ex n [] else .no
    | .no => .no)
  | _ => t ρ
section
variable {X : Cx} {c : Cn} {L : List Addr} {W : WX} {f g : ES} {a b e tg iter : Expr} {pos p : Pos} {tst : TSm} {F F1 F2 H H1 : Hp} {σ : L2.St} {ρ : Sl} {En : Ends}
theorem gs_frzA {st : Stmt} {u : SS} (i : Nat) (h : PS X st (tSv c L W u)) : PS X st (tSv c L W (sSeq (sFrzA i) u)) := by
  refine ps_ev h fun E σ H h => ?_
  obtain ⟨F, ρ, R, h⟩ := h
  replace h : ResS c L W F E (match sFrzA i ρ with
    | .nx ρ' => u ρ'
    | o => o) := h
  unfold sFrzA at h
  cases q : ρ[i]? with
  | none => rw [q] at h; exact ⟨F, ρ, R, h⟩
  | some sl =>
    rw [q] at h
    cases sl with
    | ow d =>
      obtain ⟨F2, e, R2⟩ := R.frz q
      exact ⟨F2, _, R2, ResS.mono h e⟩
    | pv k d =>
      obtain ⟨F2, e, R2⟩ := R.frzP q
      exact ⟨F2, _, R2, ResS.mono h e⟩
    | un => exact ⟨F, ρ, R, h⟩
    | va d => exact ⟨F, ρ, R, h⟩
    | me n ds => exact ⟨F, ρ, R, h⟩
    | xc => exact ⟨F, ρ, R, h⟩
theorem pg_bor (i : Nat) (h : PE X e (tEv c L W f)) : PE X e (tEv c L W (eBor i f)) := by
  refine pe_ev h fun σ H Q h => ?_
  obtain ⟨F, ρ, R, h⟩ := of_tEv h
  unfold eBor at h
  cases q : ρ[i]? with
  | none => rw [q] at h; exact tEv_of R h
  | some sl =>
    rw [q] at h
    cases sl with
    | pv k d =>
      obtain ⟨F2, s2, R2⟩ := R.frzP q
      refine tEv_of R2 ?_
      replace h : Res c W σ ρ F H Q (match f (ρ.set i (.va d)) with
        | .ok (r, k) => if outOk r k = true ∧ k.solid = true then .ok (r, k) else .no
        | .ex n fs => if fs = [] then .ex n [] else .no
        | .no => .no) := h
      cases y : f (ρ.set i (.va d)) with
      | no => rw [y] at h; exact h
      | ex n fs =>
        rw [y] at h
        obtain ⟨rfl, h⟩ := Res.ite h
        exact fun cls dd F' H' e hv => h cls dd _ H' (newN_ext R.sub s2 e) hv
      | ok z =>
        obtain ⟨r, kd⟩ := z
        rw [y] at h
        obtain ⟨⟨z1, z2⟩, h⟩ := Res.ite h
        intro v F' H' e hv
        refine h v (newN F F' H) H' (newN_ext R.sub s2 e) ?_
        cases kd with
        | «at» j => cases z2
        | sh =>
          rcases Bool.or_eq_true_iff.mp z1 with z | z
          · exact Rep.flat z hv
          · cases z
        | fr =>
          rcases Bool.or_eq_true_iff.mp z1 with z | z
          · exact (hv.notFlat z).elim
          · exact hv.new z
        | tr n =>
          rcases Bool.or_eq_true_iff.mp z1 with z | z
          · exact (show TrV c.θ F' H H' n r v from hv).flat' z
          · cases z
    | un => exact tEv_of R h
    | va d => exact tEv_of R h
    | ow d => exact tEv_of R h
    | me n ds => exact tEv_of R h
    | xc => exact tEv_of R h
theorem pgt_bor (i : Nat) (h : PT X e (tTv c L W tst)) : PT X e (tTv c L W (tBor i tst)) := by
  refine pt_ev h fun σ H Q h => ?_
  obtain ⟨F, ρ, R, h⟩ := of_tTv h
  unfold tBor at h
  cases q : ρ[i]? with
  | none => rw [q] at h; exact tTv_of R h
  | some sl =>
    rw [q] at h
    cases sl with
    | pv k d =>
      obtain ⟨F2, s2, R2⟩ := R.frzP q
      refine tTv_of R2 ?_
      replace h : ResT c W σ F H Q (match tst (ρ.set i (.va d)) with
        | .ok b => .ok b
        | .ex n fs => if fs = [] then .ex n [] else .no
        | .no => .no) := h
      cases y : tst (ρ.set i (.va d)) with
      | no => rw [y] at h; exact h
      | ex n fs =>
        rw [y] at h
        by_cases z : fs = []
        · subst z
          exact fun cls dd F' H' e hv => h cls dd _ H' (newN_ext R.sub s2 e) hv
        · replace h : ResT c W σ F H Q (if fs = [] then .ex n [] else .no) := h
          rw [if_neg z] at h
          exact h.elim
      | ok b =>
        rw [y] at h
        exact fun F' H' e => h _ H' (newN_ext R.sub s2 e)
    | un => exact tTv_of R h
    | va d => exact tTv_of R h
    | ow d => exact tTv_of R h
    | me n ds => exact tTv_of R h
    | xc => exact tTv_of R h
end
end G
/-! G: own trees: made by a comprehension, by a display; a nested store. -/
namespace G
open PySem PySem.Spec L2
/-- a comprehension whose items are fresh -/
def lcF (tg : Tg) (t : TSm) (e : ES) (ρ : Sl) : List D → List D → Out (List D)
  | acc, [] => .ok acc
  | acc, d :: ds => match tgSet tg d ρ with
    | none => .no
    | some ρ1 => match t ρ1 with
      | .ok true => match e ρ1 with
        | .ok (y, .fr) => if acc.length < SZ then lcF tg t e ρ (acc ++ [y]) ds else .no
        | _ => .no
      | .ok false => lcF tg t e ρ acc ds
      | _ => .no
def sSetLcP (i : Nat) (it : IS) (tg : Tg) (t : TSm) (e : ES) (vs : List Nat) : SS := fun ρ => sWith ((it ρ).bind fun ds => lcF tg t e (wipeS ρ vs) [] ds) ρ fun r => .nx (ρ.set i (.pv sh2 (.lst r)))
theorem lcF_ex {tg : Tg} {t : TSm} {e : ES} {ρ : Sl} {n : Nat} {fs : List D} : ∀ {ds acc : List D}, lcF tg t e ρ acc ds ≠ .ex n fs
  | [], acc, h => by cases h
  | d :: ds, acc, h => by
    unfold lcF at h
    cases q : tgSet tg d ρ with
    | none => rw [q] at h; cases h
    | some ρ1 =>
      rw [q] at h
      dsimp only at h
      cases q2 : t ρ1 with
      | no => rw [q2] at h; cases h
      | ex => rw [q2] at h; cases h
      | ok b =>
        rw [q2] at h
        cases b with
        | false => exact lcF_ex h
        | true =>
          dsimp only at h
          cases q3 : e ρ1 with
          | no => rw [q3] at h; cases h
          | ex => rw [q3] at h; cases h
          | ok y =>
            obtain ⟨y, k⟩ := y
            rw [q3] at h
            cases k with
            | sh => cases h
            | «at» _ => cases h
            | tr _ => cases h
            | fr =>
              dsimp only at h
              split at h
              · exact lcF_ex h
              · cases h
theorem lcF_turn {tg : Tg} {t : TSm} {e : ES} {ρ : Sl} {d : D} {ds acc r : List D} (h : lcF tg t e ρ acc (d :: ds) = .ok r) : ∃ ρ1 b, tgSet tg d ρ = some ρ1 ∧ t ρ1 = .ok b ∧
    ((b = false ∧ lcF tg t e ρ acc ds = .ok r) ∨ (b = true ∧ ∃ y, e ρ1 = .ok (y, .fr) ∧ acc.length < SZ ∧ lcF tg t e ρ (acc ++ [y]) ds = .ok r)) := by
  unfold lcF at h
  cases q : tgSet tg d ρ with
  | none => rw [q] at h; cases h
  | some ρ1 =>
    rw [q] at h
    dsimp only at h
    cases q2 : t ρ1 with
    | no => rw [q2] at h; cases h
    | ex => rw [q2] at h; cases h
    | ok b =>
      rw [q2] at h
      refine ⟨ρ1, b, rfl, q2, ?_⟩
      cases b with
      | false => exact .inl ⟨rfl, h⟩
      | true =>
        dsimp only at h
        cases q3 : e ρ1 with
        | no => rw [q3] at h; cases h
        | ex => rw [q3] at h; cases h
        | ok y =>
          obtain ⟨y, k⟩ := y
          rw [q3] at h
          cases k with
          | sh => cases h
          | «at» _ => cases h
          | tr _ => cases h
          | fr =>
            dsimp only at h
            split at h
            · rename_i z
              exact .inr ⟨rfl, y, rfl, z, h⟩
            · cases h
/-- trees stay where the heap grows -/
theorem trl_ext {θ : Th} {B F F' H H' : Hp} {k : Nat → Sh} {n : Nat} {ds : List D} {vs : List V} {S : List Addr} (e : Ext F H F' H') (t : TrL θ B F H k n ds vs S) : TrL θ B F' H' k n ds vs S :=
  t.keep e.ff (fun _ _ h => e.hh _ _ h) fun b hb => by
    obtain ⟨o, ho, _⟩ := t.some b hb
    rw [e.hh _ _ ho, ho]
section
variable {X : Cx} {c : Cn} {L : List Addr} {W : WX} {f g : ES} {a b e tg iter elt : Expr} {pos p : Pos} {s : IS} {t : Tg} {tst : TSm} {F F1 F2 H H1 : Hp} {σ : L2.St} {ρ : Sl} {En : Ends} {vs : List Nat}
theorem rd_lcP {i : Nat} (hv : ∀ i ∈ tgIdx t, i ∈ vs) (R : Rel c.θ c.F0 c.B L F H σ ρ) (h : ResS c L W F En (sSetLcP i s t tst f vs ρ)) : tLc (tIv c L W false s) (gTv c L t) (tTv c L WF tst) (tEv c L WF f) vs σ H (fun x H' => En.nx (σ.set i (some x)) H') := by
  refine ⟨F, ρ, R, ?_⟩
  replace h : ResS c L W F En (sWith ((s ρ).bind fun ds => lcF t tst f (wipeS ρ vs) [] ds) ρ fun r => .nx (ρ.set i (.pv sh2 (.lst r)))) := h
  cases q : s ρ with
  | no => rw [q] at h; exact h
  | ex n fs =>
    rw [q] at h
    exact fun cls dd F' H' e hv => h cls dd σ F' H' e.ff (R.ext e) hv
  | ok ds =>
    rw [q] at h
    intro J F1 H1 e1 wk D hD
    rw [bind_ok] at h
    cases q2 : lcF t tst f (wipeS ρ vs) [] ds with
    | no => rw [q2] at h; exact h.elim
    | ex n fs => exact absurd q2 lcF_ex
    | ok r =>
      rw [q2] at h
      replace h : ResS c L W F En (.nx (ρ.set i (.pv sh2 (.lst r)))) := h
      have h := ResS.mono h e1.ff
      refine ⟨fun i m H2 => m = ds.length - i ∧ i ≤ ds.length ∧ ∃ F2 acc ad S, Ext F1 H1 F2 H2 ∧ H2 D = some (.lst acc) ∧ F2 D = none ∧ TrL c.θ c.B F2 H2 (fun _ => sh1) 0 ad acc S ∧ S.Nodup ∧ D ∉ S ∧ (∀ b ∈ S, H1 b = none ∧ F2 b = none) ∧ lcF t tst f (wipeS ρ vs) ad (ds.drop i) = .ok r,
        ⟨ds.length, rfl, Nat.zero_le _, F1, [], [], [], Ext.lay e1.sub hD, upd_same, e1.sub.free hD, .nil, List.nodup_nil, (fun z => by cases z), (fun _ z => by cases z), q2⟩, ?_⟩
      rintro j m H2 ⟨rfl, hi, F2, acc, ad, S, e2, hacc, nf, rp, nd, nD, fS, hl⟩
      by_cases lt : j < ds.length
      · have hd : ds[j]? = some ds[j] := List.getElem?_eq_getElem lt
        rw [List.drop_eq_getElem_cons lt] at hl
        obtain ⟨ρ1, b, t1, t2, t3⟩ := lcF_turn hl
        obtain ⟨g1, g2⟩ := wk.go F2 H2 j ds[j] e2.ff e2.sub (fun _ => e2.hh) hd
        refine .inr ⟨g1, fun H' => ∃ F2 acc ad S, Ext F1 H1 F2 H' ∧ H' D = some (.lst acc) ∧ F2 D = none ∧ TrL c.θ c.B F2 H' (fun _ => sh1) 0 ad acc S ∧ S.Nodup ∧ D ∉ S ∧ (∀ b ∈ S, H1 b = none ∧ F2 b = none) ∧ lcF t tst f (wipeS ρ vs) ad (ds.drop (j + 1)) = .ok r, fun H' nx => ⟨ds.length - (j + 1), by omega, rfl, lt, nx⟩, fun x H' hy => ?_⟩
        obtain ⟨F3, e3, r3⟩ := g2 x H' hy
        refine ⟨F3, wipeS ρ vs, ds[j], ρ1, ((R.wipe vs).ext ((e1.trans e2).trans e3)), r3, t1, fun σ2 R2 ag => ⟨(ag.wipe hv).trans (wipe_wipe σ vs), ?_⟩⟩
        refine tTv_of R2 ?_
        rw [t2]
        intro F4 H4 e4
        have e34 := e3.trans e4
        have nf4 : F4 D = none := e34.none nf hacc
        have acc4 : H4 D = some (.lst acc) := e34.hh _ _ hacc
        have fS4 : ∀ b ∈ S, H1 b = none ∧ F4 b = none := fun b hb => by
          obtain ⟨o, ho, _⟩ := rp.some b hb
          exact ⟨(fS b hb).1, e34.none (fS b hb).2 ho⟩
        have rp4 := trl_ext e34 rp
        rcases t3 with ⟨rfl, t3⟩ | ⟨rfl, y, t4, t6, t7⟩
        · exact iteF ⟨F4, acc, ad, S, e2.trans e34, acc4, nf4, rp4, nd, nD, fS4, t3⟩
        · refine iteT (tEv_of (R2.ext e4) ?_)
          rw [t4]
          intro v F5 H5 e5 hv5
          obtain ⟨fu, av, o, rfl, nav, hav, nfav, ro, _⟩ := hv5
          have rp5 := trl_ext e5 rp4
          have nS : av ∉ S := fun z => by
            obtain ⟨u, hu, _⟩ := rp4.some av z
            rw [nav] at hu
            cases hu
          have nDv : av ≠ D := fun z => by
            subst z
            rw [acc4] at nav
            cases nav
          refine ⟨acc, e5.hh _ _ acc4, ?_, F5, acc ++ [.ref av], ad ++ [y], S ++ [av], ((e2.trans e34).trans e5).mut (e5.none nf4 acc4) hD, upd_same, e5.none nf4 acc4, ?_, ?_, ?_, fun b hb => ?_, t7⟩
          · rw [rp.length]
            exact Nat.lt_of_lt_of_le t6 SZ_le
          · have nt : ∀ b xs, H5 b = some (.tup xs) → upd H5 D (.lst (acc ++ [.ref av])) b = some (.tup xs) := fun b xs hb => by
              rw [upd_ne fun z => ?_]
              · exact hb
              · subst z
                rw [e5.hh _ _ acc4] at hb
                cases hb
            have k1 := rp5.keep (H' := upd H5 D (.lst (acc ++ [.ref av]))) (.refl _) nt fun b hb => upd_ne fun z => nD (z ▸ hb)
            have k2 := (root_tr (B := c.B) hav ro fu).keep (H' := upd H5 D (.lst (acc ++ [.ref av]))) (.refl _) nt fun b hb => by
              rw [List.mem_singleton.mp hb]
              exact upd_ne nDv
            have := TrL.append k1 (.cons (S1 := [av]) (S2 := []) (show Tr c.θ c.B F5 _ ((fun _ => sh1) (0 + ad.length)) y (.ref av) [av] from k2) .nil)
            rwa [List.append_nil] at this
          · exact List.nodup_append.mpr ⟨nd, by simp, fun x hx y hy => by
              rw [List.mem_singleton.mp hy]
              intro z
              subst z
              exact nS hx⟩
          · intro z
            rcases List.mem_append.mp z with z | z
            · exact nD z
            · exact nDv (List.mem_singleton.mp z).symm
          · rcases List.mem_append.mp hb with hb | hb
            · obtain ⟨u, hu, _⟩ := rp4.some b hb
              exact ⟨(fS b hb).1, e5.none (fS4 b hb).2 hu⟩
            · rw [List.mem_singleton.mp hb]
              exact ⟨((e2.trans e34).hh.free nav), nfav⟩
      · have ei : j = ds.length := by omega
        subst ei
        rw [List.drop_length] at hl
        cases hl
        refine .inl ⟨wk.stop F2 H2 e2.ff e2.sub (fun _ => e2.hh), ?_⟩
        refine h _ F2 H2 e2.ff (R.setPv (e1.trans e2) (S := D :: S) (.lst hacc rp) (List.nodup_cons.mpr ⟨nD, nd⟩) fun b hb => ?_)
        rcases List.mem_cons.mp hb with rfl | hb
        · exact ⟨e1.hh.free hD, nf⟩
        · exact ⟨e1.hh.free (fS b hb).1, (fS b hb).2⟩
theorem gs_setLcP {i : Nat} {y : Str} {py : Pos} {ifs : List Expr} {scope : Scope} {ow : List (Str × Nat)} {spos : Pos} (hv : ∀ j ∈ tgIdx t, j ∈ ow.map (·.2)) (hc : X.calm = true) (hN : X.N.Nodup) (hy : X.N[i]? = some y) (hyl : X.env.scope.names.lookup y = some .local)
    (hsw : swapsWith (.ListComp elt [⟨tg, iter, ifs, 0⟩] scope pos) (some (.Name y py)) spos.line X.env = pure true) (hi : PI X tg iter (tIv c L W false s)) (ok : BlkOk X.N X.env.scope scope ow)
    (hg : ∀ (s : Shared) (H : Hp) (C : Addr) (cl : List (Str × Addr)) (fp : List Addr), PG (X.blk s H scope (compEnvC scope cl C X.env) fp) tg (gTv c L t)) (ht : ∀ (s : Shared) (H : Hp) (C : Addr) (cl : List (Str × Addr)) (fp : List Addr), PTs (X.blk s H scope (compEnvC scope cl C X.env) fp) ifs (tTv c L WF tst))
    (he : ∀ (s : Shared) (H : Hp) (C : Addr) (cl : List (Str × Addr)) (fp : List Addr), PE (X.blk s H scope (compEnvC scope cl C X.env) fp) elt (tEv c L WF f)) (hs : ∀ x, foldedSetIterable iter X.env x = pure x) : PS X (.Assign [.Name y py] (.ListComp elt [⟨tg, iter, ifs, 0⟩] scope pos) spos) (tSv c L W (sSetLcP i s t tst f (ow.map (·.2)))) := by
  refine ps_ev (ps_setLc hc hN hy hyl hsw hi ok hg ht he hs) fun E σ H h => ?_
  obtain ⟨F, ρ, R, h⟩ := h
  exact rd_lcP hv R h
end
end G
/-! G: own trees: stores into items. -/
namespace G
open PySem PySem.Spec L2
section
variable {θ : Th} {B F H : Hp}
/-- an item of a tree; how the tree goes on where the item's objects change -/
theorem trl_item : ∀ {k : Nat → Sh} {n j : Nat} {ds : List D} {d : D} {vs : List V} {S : List Addr}, TrL θ B F H k n ds vs S → S.Nodup → ds[j]? = some d → ∃ v Sj, vs[j]? = some v ∧ Tr θ B F H (k (n + j)) d v Sj ∧ Sj.Nodup ∧ (∀ x ∈ Sj, x ∈ S) ∧
    ∀ (b : Addr) (o : HO) (d' : D), b ∈ Sj → (∀ xs, H b ≠ some (.tup xs)) → Tr θ B F (upd H b o) (k (n + j)) d' v Sj → TrL θ B F (upd H b o) k n (ds.set j d') vs S
  | _, _, _, _, _, _, _, .nil, _, h => by simp at h
  | k, n, 0, _, d, _, _, .cons (S1 := S1) (S2 := S2) (ds := ds) (v := v) h t, nd, hd => by
    simp at hd
    subst hd
    obtain ⟨n1, n2, dj⟩ := List.nodup_append.mp nd
    refine ⟨v, S1, rfl, h, n1, fun x hx => List.mem_append_left _ hx, fun b o d' hb nt T => ?_⟩
    rw [List.set_cons_zero]
    refine .cons T (t.keep (.refl _) (fun b2 xs h2 => ?_) fun b2 hb2 => upd_ne fun z => dj b hb b2 hb2 z.symm)
    rw [upd_ne fun z => ?_]
    · exact h2
    · subst z
      exact nt _ h2
  | k, n, j + 1, _, d, _, _, .cons (S1 := S1) (S2 := S2) (ds := ds) (v := v0) (d := d0) h t, nd, hd => by
    obtain ⟨n1, n2, dj⟩ := List.nodup_append.mp nd
    obtain ⟨v, Sj, g1, g2, g3, g4, g5⟩ := trl_item (j := j) t n2 (by simpa using hd)
    rw [show n + 1 + j = n + (j + 1) by omega] at g2 g5
    refine ⟨v, Sj, by simpa using g1, g2, g3, fun x hx => List.mem_append_right _ (g4 x hx), fun b o d' hb nt T => ?_⟩
    rw [List.set_cons_succ]
    refine .cons (h.keep (.refl _) (fun b2 xs h2 => ?_) fun b2 hb2 => upd_ne fun z => dj b2 hb2 b (g4 b hb) z) (g5 b o d' hb nt T)
    rw [upd_ne fun z => ?_]
    · exact h2
    · subst z
      exact nt _ h2
/-- a leaf among the items changes -/
theorem trl_setLf : ∀ {k : Nat → Sh} {n j : Nat} {ds : List D} {d : D} {v : V} {vs : List V} {S : List Addr}, TrL θ B F H k n ds vs S → k (n + j) = .lf → Rep θ F d v → TrL θ B F H k n (ds.set j d) (vs.set j v) S
  | _, _, _, _, _, _, _, _, .nil, _, _ => .nil
  | k, n, 0, _, d, v, _, _, .cons (S1 := S1) (S2 := S2) h t, hk, r => by
    rw [List.set_cons_zero, List.set_cons_zero]
    rw [Nat.add_zero] at hk
    have e : S1 = [] := by
      rw [hk] at h
      cases h
      rfl
    subst e
    exact .cons (S1 := []) (by rw [hk]; exact .lf r) t
  | k, n, j + 1, _, d, v, _, _, .cons h t, hk, r => by
    rw [List.set_cons_succ, List.set_cons_succ]
    exact .cons h (trl_setLf t (by rw [← hk]; congr 1; omega) r)
/-- .. comes at the end -/
theorem trl_snoc {k : Nat → Sh} {n : Nat} {ds : List D} {d : D} {v : V} {vs : List V} {S : List Addr} (t : TrL θ B F H k n ds vs S) (hk : k (n + ds.length) = .lf) (r : Rep θ F d v) : TrL θ B F H k n (ds ++ [d]) (vs ++ [v]) S := by
  have := TrL.append t (.cons (S1 := []) (S2 := []) (show Tr θ B F H (k (n + ds.length)) d v [] by rw [hk]; exact .lf r) .nil)
  simpa using this
end
/-- the list at place i of a tree -/
def row2 : Sh → List D → D → Option ((Nat → Sh) × Nat × List D)
  | .nd k1, ds, .int n => match ixN ds.length n with
    | some p => match k1 p, ds[p]? with
      | .nd k2, some (.lst es) => some (k2, p, es)
      | _, _ => none
    | none => none
  | _, _, _ => none
def set2 (k : Nat → Sh) (es : List D) (j v : D) : Option (List D) := match j with
  | .int m => match ixN es.length m with
    | some q => match k q with
      | .lf => some (es.set q v)
      | _ => none
    | none => none
  | _ => none
def app2 (k : Nat → Sh) (es : List D) (v : D) : Option (List D) := match k es.length with
  | .lf => if es.length < SZ then some (es ++ [v]) else none
  | _ => none
/-- x[fi][fj] = fv -/
def sPut2 (i : Nat) (fi fj fv : ES) : SS := fun ρ => match ρ[i]? with
  | some (.pv k (.lst ds)) => sWith (fv ρ) ρ fun v => if v.2.solid then sWith (fi ρ) ρ fun a => (match row2 k ds a.1 with
    | some (k2, p, es) => sWith (fj ρ) ρ fun b => (match set2 k2 es b.1 v.1 with
      | some es' => .nx (ρ.set i (.pv k (.lst (ds.set p (.lst es')))))
      | none => .no)
    | none => .no) else .no
  | _ => .no
/-- x[fi].append(fv) -/
def sApp2 (i : Nat) (fi fv : ES) : SS := fun ρ => match ρ[i]? with
  | some (.pv k (.lst ds)) => sWith (fi ρ) ρ fun a => (match row2 k ds a.1 with
    | some (k2, p, es) => sWith (fv ρ) ρ fun v => if v.2.solid then (match app2 k2 es v.1 with
      | some es' => .nx (ρ.set i (.pv k (.lst (ds.set p (.lst es')))))
      | none => .no) else .no
    | none => .no)
  | _ => .no
/-- x[fi].clear() -/
def sClr2 (i : Nat) (fi : ES) : SS := fun ρ => match ρ[i]? with
  | some (.pv k (.lst ds)) => sWith (fi ρ) ρ fun a => (match row2 k ds a.1 with
    | some (_, p, _) => .nx (ρ.set i (.pv k (.lst (ds.set p (.lst [])))))
    | none => .no)
  | _ => .no
theorem row2_inv {k : Sh} {i : D} {ds es : List D} {k2 : Nat → Sh} {p : Nat} (h : row2 k ds i = some (k2, p, es)) : ∃ k1 n, k = .nd k1 ∧ i = .int n ∧ ixN ds.length n = some p ∧ k1 p = .nd k2 ∧ ds[p]? = some (.lst es) := by
  unfold row2 at h
  split at h
  · rename_i k1 n
    split at h
    · rename_i p' hp
      split at h
      · rename_i k2' es' h1 h2
        cases h
        exact ⟨k1, n, rfl, rfl, hp, h1, h2⟩
      · cases h
    · cases h
  · cases h
theorem ixN_at {n : Nat} {i : Int} {j : Nat} (h : ixN n i = some j) {α : Type} {xs : List α} (hl : xs.length = n) {x : α} (hx : xs[j]? = some x) : atI xs i = some x := by
  unfold atI
  rw [hl, h]
  exact hx
section
variable {X : Cx} {c : Cn} {L : List Addr} {W : WX} {f g h : ES} {a b e o ix jx tg iter : Expr} {pos p p2 : Pos} {F F1 H H1 : Hp} {σ : L2.St} {ρ : Sl} {En : Ends}
/-- a list within a tree: where it lies, how it changes -/
theorem row_core {i : Nat} {k : Sh} {ds es : List D} {di : D} {k2 : Nat → Sh} {p : Nat} (R : Rel c.θ c.F0 c.B L F H σ ρ) (hi : ρ[i]? = some (.pv k (.lst ds))) (hp : row2 k ds di = some (k2, p, es)) :
    ∃ (a : Addr) (xs : List V) (n : Int) (b : Addr) (ys : List V) (S2 : List Addr), σ[i]? = some (some (.ref a)) ∧ H a = some (.lst xs) ∧ di = .int n ∧ atI xs n = some (.ref b) ∧ H b = some (.lst ys) ∧ TrL c.θ c.B F H k2 0 es ys S2 ∧ b ∉ S2 ∧
      ∀ (es' : List D) (ys' : List V), (∀ H', (∀ b xs, H b = some (.tup xs) → H' b = some (.tup xs)) → (∀ b ∈ S2, H' b = H b) → TrL c.θ c.B F H' k2 0 es' ys' S2) → Rel c.θ c.F0 c.B L F (upd H b (.lst ys')) σ (ρ.set i (.pv k (.lst (ds.set p (.lst es'))))) := by
  obtain ⟨k1, n, rfl, rfl, h1, h2, h3⟩ := row2_inv hp
  obtain ⟨Z, hZ⟩ := R.pv
  obtain ⟨⟨v, hs, t⟩, nd, f, ow, pw⟩ := hZ i _ _ hi
  generalize hz : Z i = S at t nd
  cases t with
  | fl z _ => cases z
  | @lst _ a xs _ S1 ha tl =>
    obtain ⟨nda, nd1⟩ := List.nodup_cons.mp nd
    obtain ⟨v2, Sj, g1, g2, g3, g4, g5⟩ := trl_item tl nd1 h3
    rw [Nat.zero_add, h2] at g2 g5
    cases g2 with
    | fl z _ => cases z
    | @lst _ b ys _ S2 hb tb =>
      have lx := tl.length
      obtain ⟨nb2, _⟩ := List.nodup_cons.mp g3
      have bS1 : b ∈ S1 := g4 b List.mem_cons_self
      have ne : a ≠ b := fun z => nda (z ▸ bS1)
      have nt : ∀ xs, H b ≠ some (.tup xs) := fun xs z => by rw [hb] at z; cases z
      refine ⟨a, xs, n, b, ys, S2, hs, ha, rfl, ixN_at h1 lx g1, hb, tb, nb2, fun es' ys' hT => ?_⟩
      have T2 : Tr c.θ c.B F (upd H b (.lst ys')) (.nd k2) (.lst es') (.ref b) (b :: S2) := by
        refine .lst upd_same (hT _ (fun b2 xs2 z => ?_) fun b2 hb2 => upd_ne fun z => nb2 (z ▸ hb2))
        rw [upd_ne fun z2 => ?_]
        · exact z
        · subst z2
          exact absurd z (nt _)
      have T1 : Tr c.θ c.B F (upd H b (.lst ys')) (.nd k1) (.lst (ds.set p (.lst es'))) (.ref a) (a :: S1) :=
        .lst (by rw [upd_ne ne]; exact ha) (g5 b _ _ List.mem_cons_self nt T2)
      exact R.pvMut hZ hi hs (by rw [hz]; exact List.mem_cons_of_mem _ bS1) T1 nd fun x hx => .inl (by rw [hz]; exact hx)
theorem set2_inv {k : Nat → Sh} {es es' : List D} {j v : D} (h : set2 k es j v = some es') : ∃ m q, j = .int m ∧ ixN es.length m = some q ∧ k q = .lf ∧ es' = es.set q v := by
  unfold set2 at h
  split at h
  · rename_i m
    split at h
    · rename_i q hq
      split at h
      · rename_i h3
        cases h
        exact ⟨m, q, rfl, hq, h3, rfl⟩
      · cases h
    · cases h
  · cases h
theorem gs_put2 {i : Nat} {x : Str} {pos' pos2 : Pos} (K : X.K = c.θ.K) (hb : PE X ix (tEv c L W f)) (hj : PE X jx (tEv c L W g)) (ha : PE X e (tEv c L W h)) (hpl : PlainIx ix)
    (hs : swapsWithSole [.Subscript (.Subscript (.Name x p) ix pos2) jx pos'] e pos.line X.env = pure false) (hw : swappedStores [.Subscript (.Subscript (.Name x p) ix pos2) jx pos'] e X.env = pure none)
    (h1 : (assignEach [.Subscript (.Subscript (.Name x p) ix pos2) jx pos'] X.env).map (·.2) = [assign (.Subscript (.Subscript (.Name x p) ix pos2) jx pos') X.env])
    (has : ∀ v, assign (.Subscript (.Subscript (.Name x p) ix pos2) jx pos') X.env v = (do
      let ov ← holding [v] (eval (.Subscript (.Name x p) ix pos2) X.env)
      let iv ← holding [v, ov] (eval jx X.env)
      standAt pos'
      holding [v, ov, iv] (setItem ov iv v)
      release [v, ov, iv] []))
    (hx : Loc X.env.scope x) (hf : X.fn x = true ∨ X.env.scope.names.lookup x = some .local := by exact Or.inl rfl) (hi : X.N[i]? = some x := by rfl) (hd : (x == ("__debug__" : Str)) = false := by decide) (hcd : (x == ("__classdict__" : Str)) = false := by decide) :
    PS X (.Assign [.Subscript (.Subscript (.Name x p) ix pos2) jx pos'] e pos) (tSv c L W (sPut2 i f g h)) := by
  refine ps_ev (ps_asg ha (pg_sub (pe_ix ix_list (pe_var hi (vis_of hx) hd hcd) hb hpl) hj set_list has) hs hw h1) fun E σ H hh => ?_
  obtain ⟨F, ρ, R, hh⟩ := hh
  unfold sPut2 at hh
  cases q : ρ[i]? with
  | none => rw [q] at hh; exact hh.elim
  | some sl =>
    rw [q] at hh
    cases sl with
    | pv k d0 =>
      cases d0 <;> first | exact (show False from hh).elim | skip
      rename_i ds
      replace hh : ResS c L W F E (sWith (h ρ) ρ fun v => if v.2.solid then sWith (f ρ) ρ fun a => (match row2 k ds a.1 with
        | some (k2, p, es) => sWith (g ρ) ρ fun b => (match set2 k2 es b.1 v.1 with
          | some es' => .nx (ρ.set i (.pv k (.lst (ds.set p (.lst es')))))
          | none => .no)
        | none => .no) else .no) := hh
      refine sv_with R hh fun d kd v F1 H1 ef e1 hv R1 h2 => ?_
      clear ef hh
      replace h2 : ResS c L W F1 E (if kd.solid = true then sWith (f ρ) ρ fun a => (match row2 k ds a.1 with
        | some (k2, p, es) => sWith (g ρ) ρ fun b => (match set2 k2 es b.1 d with
          | some es' => .nx (ρ.set i (.pv k (.lst (ds.set p (.lst es')))))
          | none => .no)
        | none => .no) else .no) := h2
      by_cases so : kd.solid = true
      · rw [if_pos so] at h2
        obtain ⟨F2, e2, s2, rp⟩ := Val.sol R e1 hv so
        have R2 := R.ext e2
        have h2 := ResS.mono h2 s2
        have sv : ∃ w, σ[i]? = some (some w) := by
          obtain ⟨Z, hZ⟩ := R.pv
          obtain ⟨⟨w, hw, _⟩, _⟩ := hZ i _ _ q
          exact ⟨w, hw⟩
        obtain ⟨w, hw⟩ := sv
        refine ⟨w, hw, ?_⟩
        refine sv_with R2 h2 fun di ki vi F3 H3 ef3 e3 hv3 R3 h3 => ?_
        clear ef3 h2
        obtain ⟨F4, e4, s4, rdi, _⟩ := Val.use R2 e3 hv3
        have R4 := R2.ext e4
        have h3' := ResS.mono h3 s4
        clear h3
        replace h3' : ResS c L W F4 E (match row2 k ds di with
          | some (k2, p, es) => sWith (g ρ) ρ fun b => (match set2 k2 es b.1 d with
            | some es' => .nx (ρ.set i (.pv k (.lst (ds.set p (.lst es')))))
            | none => .no)
          | none => .no) := h3'
        cases rw2 : row2 k ds di with
        | none => rw [rw2] at h3'; exact h3'.elim
        | some z =>
          obtain ⟨k2, pp, es⟩ := z
          rw [rw2] at h3'
          obtain ⟨aa, xs, n, bb, ys, S2, z1, z2, rfl, z4, z5, z6, z7, z8⟩ := row_core R4 q rw2
          rw [hw] at z1
          cases z1
          refine ⟨aa, xs, n, .ref bb, rfl, rdi.int, by rw [K]; exact .inl (.inl z2), z4, ?_⟩
          have h3 : ResS c L W F4 E (sWith (g ρ) ρ fun b => (match set2 k2 es b.1 d with
            | some es' => .nx (ρ.set i (.pv k (.lst (ds.set pp (.lst es')))))
            | none => .no)) := h3'
          clear h3'
          refine sv_with R4 h3 fun dj kj vj F5 H5 ef5 e5 hv5 R5 h5 => ?_
          clear ef5 h3
          obtain ⟨F6, e6, s6, rdj, _⟩ := Val.use R4 e5 hv5
          have R6 := R4.ext e6
          have h6 := ResS.mono h5 s6
          clear h5
          replace h6 : ResS c L W F6 E (match set2 k2 es dj d with
            | some es' => .nx (ρ.set i (.pv k (.lst (ds.set pp (.lst es')))))
            | none => .no) := h6
          cases st2 : set2 k2 es dj d with
          | none => rw [st2] at h6; exact h6.elim
          | some es' =>
            rw [st2] at h6
            obtain ⟨m, qq, rfl, q1, q2, rfl⟩ := set2_inv st2
            obtain ⟨aa', xs', n', bb', ys', S2', y1, y2, y3, y4, y5, y6, y7, y8⟩ := row_core R6 q rw2
            rw [hw] at y1
            cases y1
            cases y3
            rw [e6.hh _ _ z2] at y2
            cases y2
            rw [z4] at y4
            cases y4
            refine ⟨bb, ys', m, qq, rfl, rdj.int, y5, by rw [y6.length]; exact q1, ?_⟩
            exact h6 σ F6 _ (.refl _) (y8 _ _ fun H' t1 t2 => trl_setLf (y6.keep (.refl _) t1 t2) (by rw [Nat.zero_add]; exact q2) ((rp.mono e4.ff).mono e6.ff))
      · rw [if_neg so] at h2
        exact h2.elim
    | un => exact hh.elim
    | va d => exact hh.elim
    | ow d => exact hh.elim
    | me n ds => exact hh.elim
    | xc => exact hh.elim
end
end G
/-! G: own trees: made by a display, put to; a fresh list changed and dropped. -/
namespace G
open PySem PySem.Spec L2
def okK (d : D) : Kd → Bool
  | .fr => true
  | .sh => flat d
  | _ => false
def okP (xs : List (D × Kd)) : Bool := xs.all fun x => okK x.1 x.2
def sSetLstP (i : Nat) (fs : List ES) : SS := fun ρ => sWith (eArgs fs ρ) ρ fun xs => if okP xs = true ∧ xs.length ≤ SZ then .nx (ρ.set i (.pv sh2 (.lst (xs.map (·.1))))) else .no
def tAvP (c : Cn) (L : List Addr) (W : WX) (fs : List ES) : TA := fun σ H Q => ∃ F ρ, Rel c.θ c.F0 c.B L F H σ ρ ∧ match eArgs fs ρ with
  | .ok xs => okP xs = true ∧ ∀ vs F' H' S, Ext F H F' H' → (∀ n, TrL c.θ c.B F' H' (fun _ => sh1) n (xs.map (·.1)) vs S) → S.Nodup → (∀ b ∈ S, H b = none ∧ F' b = none) → Q vs H'
  | .ex n fs => ∀ cls dd F' H', Ext F H F' H' → ExV c.θ n fs cls dd F' H' → W cls dd σ H'
  | .no => False
/-- x.append(fv), fv a fresh list -/
def sAppP (i : Nat) (f : ES) : SS := fun ρ => match ρ[i]? with
  | some (.pv (.nd k) (.lst ds)) => sWith (f ρ) ρ fun v => (match v with
    | (.lst es, .fr) => (match k ds.length with
      | .nd _ => if es.all flat = true ∧ ds.length < SZ then .nx (ρ.set i (.pv (.nd k) (.lst (ds ++ [.lst es])))) else .no
      | _ => .no)
    | _ => .no)
  | _ => .no
/-- o.append(e), o.clear() of a fresh list that nobody keeps -/
def sAppF (f g : ES) : SS := fun ρ => sWith (f ρ) ρ fun x => (match x with
  | (.lst ds, .fr) => sWith (g ρ) ρ fun _ => if ds.length < SZ then .nx ρ else .no
  | _ => .no)
def sClrF (f : ES) : SS := fun ρ => sWith (f ρ) ρ fun x => (match x with
  | (.lst _, .fr) => .nx ρ
  | _ => .no)
theorem flat_trl {θ : Th} {B F H : Hp} {k : Nat → Sh} {ds : List D} : ∀ {n : Nat} {vs : List V}, ds.all flat = true → RepL θ F ds vs → TrL θ B F H k n ds vs [] := by
  induction ds with
  | nil =>
    intro n vs _ h
    cases h
    exact .nil
  | cons d ds ih =>
    intro n vs h r
    cases r with
    | cons r t =>
      rw [List.all_cons, Bool.and_eq_true] at h
      refine .cons (S1 := []) ?_ (ih h.2 t)
      cases k n with
      | lf => exact .lf r
      | nd k2 => exact .fl h.1 r
section
variable {X : Cx} {c : Cn} {L : List Addr} {W : WX} {f g h : ES} {a b e o ix jx tg iter : Expr} {pos p p2 : Pos} {es : List Expr} {fs : List ES} {F F1 H H1 : Hp} {σ : L2.St} {ρ : Sl} {En : Ends}
theorem pgaP_nil : PA X [] (tAvP c L W []) := by
  refine ⟨fun pos pins s σ H Q I h => pa_nil.run pos pins s σ H Q I ?_⟩
  obtain ⟨F, ρ, R, h⟩ := h
  exact h.2 [] F H [] (Ext.refl R.sub) (fun _ => .nil) List.nodup_nil fun _ z => by cases z
theorem pgaP_cons (ha : PE X e (tEv c L W f)) (hr : PA X es (tAvP c L W fs)) (hs : starEach (e :: es) X.env = (false, eval e X.env) :: starEach es X.env := by rfl) : PA X (e :: es) (tAvP c L W (f :: fs)) := by
  refine ⟨fun pos pins s σ H Q I h => (pa_cons ha hr hs).run pos pins s σ H Q I ?_⟩
  obtain ⟨F, ρ, R, h⟩ := h
  refine ⟨F, ρ, R, ?_⟩
  unfold eArgs at h
  cases hf : f ρ with
  | no => rw [hf] at h; exact h
  | ex n fs => rw [hf] at h; exact h
  | ok x =>
    obtain ⟨d, k⟩ := x
    rw [hf] at h
    intro v F1 H1 e1 hv
    refine ⟨F1, ρ, R.ext e1, ?_⟩
    have h : match (eArgs fs ρ).bind fun xs => Out.ok ((d, k) :: xs) with
      | .ok xs => okP xs = true ∧ ∀ vs F' H' S, Ext F H F' H' → (∀ n, TrL c.θ c.B F' H' (fun _ => sh1) n (xs.map (·.1)) vs S) → S.Nodup → (∀ b ∈ S, H b = none ∧ F' b = none) → Q vs H'
      | .ex n fs => ∀ cls dd F' H', Ext F H F' H' → ExV c.θ n fs cls dd F' H' → W cls dd σ H'
      | .no => False := h
    cases hg : eArgs fs ρ with
    | no => rw [hg] at h; exact h
    | ex n gs =>
      rw [hg] at h
      exact fun cls dd F' H' e3 => h cls dd F' H' (e1.trans e3)
    | ok xs =>
      rw [hg] at h
      obtain ⟨h1, h2⟩ := h
      have h1 : (okK d k && okP xs) = true := h1
      obtain ⟨k1, k2⟩ := Bool.and_eq_true_iff.mp h1
      refine ⟨k2, fun vs F' H' S e3 ht nd fr => ?_⟩
      cases k with
      | «at» i => cases k1
      | tr i => cases k1
      | sh =>
        refine h2 (v :: vs) F' H' S (e1.trans e3) (fun n => ?_) nd fun b hb => ⟨e1.hh.free (fr b hb).1, (fr b hb).2⟩
        exact .cons (S1 := []) (.fl k1 ((show Rep c.θ F1 d v from hv).mono e3.ff)) (ht (n + 1))
      | fr =>
        obtain ⟨fu, av, o, rfl, nav, hav, nfav, ro, _⟩ := (show FrV c.θ F1 H H1 d v from hv)
        have ex2 : F' av = none := e3.none nfav hav
        refine h2 (.ref av :: vs) F' H' (av :: S) (e1.trans e3) (fun n => ?_) (List.nodup_cons.mpr ⟨fun z => ?_, nd⟩) fun b hb => ?_
        · exact .cons (S1 := [av]) (root_tr (e3.hh _ _ hav) (ro.mono e3.ff) fu) (ht (n + 1))
        · rw [(fr av z).1] at hav
          cases hav
        · rcases List.mem_cons.mp hb with rfl | hb
          · exact ⟨nav, ex2⟩
          · exact ⟨e1.hh.free (fr b hb).1, (fr b hb).2⟩
theorem gs_setLstP {i : Nat} {x : Str} {pos' : Pos} (hN : X.N.Nodup) (ha : PA X es (tAvP c L W fs)) (hx : Loc X.env.scope x) (hf : X.fn x = true ∨ X.env.scope.names.lookup x = some .local := by exact Or.inl rfl) (hi : X.N[i]? = some x := by rfl) (hs : swapsWith (.List es pos) (some (.Name x pos')) p.line X.env = pure false := by rfl) :
    PS X (.Assign [.Name x pos'] (.List es pos) p) (tSv c L W (sSetLstP i fs)) := by
  refine ps_ev (ps_set hN hi hx (pe_lst ha) hs hf) fun E σ H h => ?_
  obtain ⟨F, ρ, R, h⟩ := h
  replace h : ResS c L W F E (sWith (eArgs fs ρ) ρ fun xs => if okP xs = true ∧ xs.length ≤ SZ then .nx (ρ.set i (.pv sh2 (.lst (xs.map (·.1))))) else .no) := h
  refine ⟨F, ρ, R, ?_⟩
  cases q : eArgs fs ρ with
  | no => rw [q] at h; exact h
  | ex n gs =>
    rw [q] at h
    exact fun cls dd F' H' e hv => h cls dd σ F' H' e.ff (R.ext e) hv
  | ok xs =>
    rw [q] at h
    replace h : ResS c L W F E (if okP xs = true ∧ xs.length ≤ SZ then .nx (ρ.set i (.pv sh2 (.lst (xs.map (·.1))))) else .no) := h
    by_cases z : okP xs = true ∧ xs.length ≤ SZ
    · rw [if_pos z] at h
      refine ⟨z.1, fun vs F' H' S e ht nd fr => ⟨?_, fun l hl => ?_⟩⟩
      · rw [(ht 0).length, List.length_map]
        exact Nat.le_trans z.2 SZ_le
      · have e2 := e.trans (Ext.lay (o := .lst vs) e.sub hl)
        have nS : l ∉ S := fun zz => by
          obtain ⟨u, hu, _⟩ := (ht 0).some l zz
          rw [hl] at hu
          cases hu
        refine h _ F' _ e.ff (R.setPv e2 (S := l :: S) (.lst upd_same (trl_ext (Ext.lay e.sub hl) (ht 0))) (List.nodup_cons.mpr ⟨nS, nd⟩) fun b hb => ?_)
        rcases List.mem_cons.mp hb with rfl | hb
        · exact ⟨e.hh.free hl, e.sub.free hl⟩
        · exact fr b hb
    · rw [if_neg z] at h
      exact h.elim
theorem gs_appP {i : Nat} {x : Str} {apos cpos : Pos} (K : X.K = c.θ.K) (ha : PE X e (tEv c L W f)) (hx : Loc X.env.scope x) (hf : X.fn x = true ∨ X.env.scope.names.lookup x = some .local := by exact Or.inl rfl) (hi : X.N[i]? = some x := by rfl) (hd : (x == ("__debug__" : Str)) = false := by decide) (hcd : (x == ("__classdict__" : Str)) = false := by decide)
    (hs : swapsWith (.Call (.Attribute (.Name x p) "append" apos) [e] [] cpos) none pos.line X.env = pure false := by rfl)
    (hbase : attributeBase (.Name x p) "append" X.env (eval (.Name x p) X.env) = eval (.Name x p) X.env := by rfl)
    (hfew : ((backTo cpos (starEach [e] X.env)).all (fun x => !x.1) && (backToKw cpos (keywordEach [] X.env)).all (fun x => x.1.isSome)
      && decide ([e].length + ([] : List Keyword).length + (if ([] : List Keyword).isEmpty then 0 else 1) < 30)) = true := by rfl)
    (hline : (apos.endLine == cpos.line) = true := by rfl) (hst : starEach [e] X.env = (false, eval e X.env) :: starEach [] X.env := by rfl) : PS X (.Expr (.Call (.Attribute (.Name x p) "append" apos) [e] [] cpos) pos) (tSv c L W (sAppP i f)) := by
  refine ps_ev (ps_expr (pe_bm PySem.F.plainAttrs_list PySem.F.slot_list_append PySem.F.type_list_append mt_append (pe_var hi (vis_of hx) hd hcd) (pa_cons ha pa_nil hst) hbase hfew hline hst rfl) hs) fun E σ H h => ?_
  obtain ⟨F, ρ, R, h⟩ := h
  unfold sAppP at h
  cases q : ρ[i]? with
  | none => rw [q] at h; exact h.elim
  | some sl =>
    rw [q] at h
    cases sl with
    | pv sh d0 =>
      cases sh with
      | lf => exact h.elim
      | nd k =>
        cases d0 <;> first | exact (show False from h).elim | skip
        rename_i ds
        replace h : ResS c L W F E (sWith (f ρ) ρ fun v => (match v with
          | (.lst es, .fr) => (match k ds.length with
            | .nd _ => if es.all flat = true ∧ ds.length < SZ then .nx (ρ.set i (.pv (.nd k) (.lst (ds ++ [.lst es])))) else .no
            | _ => .no)
          | _ => .no)) := h
        obtain ⟨Z0, hZ0⟩ := R.pv
        obtain ⟨⟨w, hw, t0⟩, _⟩ := hZ0 i _ _ q
        generalize Z0 i = S00 at t0
        cases t0 with
        | fl z _ => cases z
        | @lst _ aa xs _ S0 ha0 tl0 =>
          refine ⟨_, hw, .inl ⟨rfl, xs, by rw [K]; exact .inl (.inl ha0)⟩, ?_⟩
          refine sv_with R h fun d kd v F1 H1 ef e1 hv R1 h1 => ?_
          clear ef h
          cases d <;> first | exact (show False from h1).elim | skip
          rename_i es
          cases kd <;> first | exact (show False from h1).elim | skip
          replace h1 : ResS c L W F1 E (match k ds.length with
            | .nd _ => if es.all flat = true ∧ ds.length < SZ then .nx (ρ.set i (.pv (.nd k) (.lst (ds ++ [.lst es])))) else .no
            | _ => .no) := h1
          cases hk : k ds.length with
          | lf => rw [hk] at h1; exact h1.elim
          | nd k2 =>
            rw [hk] at h1
            have h2 : ResS c L W F1 E (if es.all flat = true ∧ ds.length < SZ then .nx (ρ.set i (.pv (.nd k) (.lst (ds ++ [.lst es])))) else .no) := h1
            by_cases z : es.all flat = true ∧ ds.length < SZ
            · rw [if_pos z] at h2
              obtain ⟨fu, av, o, rfl, nav, hav, nfav, ro, _⟩ := (show FrV c.θ F1 H H1 (.lst es) v from hv)
              cases ro with
              | @lst ys _ rl =>
              obtain ⟨Z, hZ⟩ := R1.pv
              obtain ⟨⟨w1, hw1, t1⟩, nd1, f1, ow1, pw1⟩ := hZ i _ _ q
              rw [hw] at hw1
              cases hw1
              generalize hz : Z i = S at t1 nd1
              cases t1 with
              | fl z _ => cases z
              | @lst _ _ xs1 _ S1 ha1 tl1 =>
                have ex : xs1 = xs := by rw [e1.hh _ _ ha0] at ha1; cases ha1; rfl
                subst ex
                refine ⟨aa, xs1, .ref av, rfl, rfl, ha1, by rw [tl1.length]; exact Nat.lt_of_lt_of_le z.2 SZ_le, ?_⟩
                obtain ⟨nda, ndS⟩ := List.nodup_cons.mp nd1
                have nava : av ≠ aa := fun zz => by
                  subst zz
                  rw [ha0] at nav
                  cases nav
                have navS : av ∉ S1 := fun zz => by
                  obtain ⟨u, hu⟩ := R.pvOld e1 hZ q (b := av) (by rw [hz]; exact List.mem_cons_of_mem _ zz)
                  rw [nav] at hu
                  cases hu
                have nt : ∀ b xs, H1 b = some (.tup xs) → upd H1 aa (.lst (xs1 ++ [.ref av])) b = some (.tup xs) := fun b xs hb => by
                  rw [upd_ne fun z2 => ?_]
                  · exact hb
                  · subst z2
                    rw [ha1] at hb
                    cases hb
                have T : Tr c.θ c.B F1 (upd H1 aa (.lst (xs1 ++ [.ref av]))) (.nd k) (.lst (ds ++ [.lst es])) (.ref aa) (aa :: (S1 ++ [av])) := by
                  refine .lst upd_same ?_
                  have k1 := tl1.keep (H' := upd H1 aa (.lst (xs1 ++ [.ref av]))) (.refl _) nt fun b hb => upd_ne fun z2 => nda (z2 ▸ hb)
                  have k3 : Tr c.θ c.B F1 (upd H1 aa (.lst (xs1 ++ [.ref av]))) (k (0 + ds.length)) (.lst es) (.ref av) [av] := by
                    rw [Nat.zero_add, hk]
                    exact .lst (by rw [upd_ne nava]; exact hav) (flat_trl z.1 rl)
                  have := TrL.append k1 (.cons (S1 := [av]) (S2 := []) k3 .nil)
                  rwa [List.append_nil] at this
                refine h2 σ F1 _ (.refl _) (R1.pvMut hZ q hw (by rw [hz]; exact List.mem_cons_self) T ?_ fun b hb => ?_)
                · refine List.nodup_cons.mpr ⟨fun zz => ?_, List.nodup_append.mpr ⟨ndS, by simp, fun x hx y hy => by
                    rw [List.mem_singleton.mp hy]
                    intro z2
                    subst z2
                    exact navS hx⟩⟩
                  rcases List.mem_append.mp zz with z2 | z2
                  · exact nda z2
                  · exact nava (List.mem_singleton.mp z2).symm
                · rcases List.mem_cons.mp hb with rfl | hb
                  · exact .inl (by rw [hz]; exact List.mem_cons_self)
                  rcases List.mem_append.mp hb with hb | hb
                  · exact .inl (by rw [hz]; exact List.mem_cons_of_mem _ hb)
                  · rw [List.mem_singleton.mp hb]
                    refine .inr ⟨nfav, R.noneB nav, fun j ho hs2 => ?_, fun j k' d' hj hp hb2 => ?_⟩
                    · obtain ⟨u, hu⟩ := R.owner ho hs2
                      rw [nav] at hu
                      cases hu
                    · obtain ⟨u, hu⟩ := R.pvOld e1 hZ hp hb2
                      rw [nav] at hu
                      cases hu
            · rw [if_neg z] at h2
              exact h2.elim
    | un => exact h.elim
    | va d => exact h.elim
    | ow d => exact h.elim
    | me n ds => exact h.elim
    | xc => exact h.elim
/-- an object that nobody knows changes -/
theorem Rel.pokeNew {av : Addr} {o' : HO} {u : HO} (R : Rel c.θ c.F0 c.B L F H σ ρ) (e : Ext F H F1 H1) (nav : H av = none) (hav : H1 av = some u) (nt : ∀ xs, u ≠ .tup xs) (nf : F1 av = none) : Rel c.θ c.F0 c.B L F1 (upd H1 av o') σ ρ := by
  have R1 := R.ext e
  refine R1.poke nf (R.noneB nav) (fun j ho hs => ?_) ?_
  · obtain ⟨w, hw⟩ := R.owner ho hs
    rw [nav] at hw
    cases hw
  · obtain ⟨Z, hZ⟩ := R1.pv
    have ne : ∀ {j : Nat} {k : Sh} {d : D}, ρ[j]? = some (.pv k d) → ∀ b ∈ Z j, b ≠ av := fun {j k d} hp b hb z => by
      subst z
      obtain ⟨w, hw⟩ := R.pvOld e hZ hp hb
      rw [nav] at hw
      cases hw
    refine ⟨Z, hZ.step (.refl _) (fun b xs hb => ?_) (fun j k d hp => ⟨hp, rfl, fun b hb => ⟨upd_ne (ne hp b hb), ((hZ j k d hp).2.2.1 b hb).1⟩⟩) fun j k d l b hp ho hs => (hZ j k d hp).2.2.2.1 l b ho hs⟩
    rw [upd_ne fun z => ?_]
    · exact hb
    · subst z
      rw [hav] at hb
      cases hb
      exact nt _ rfl
theorem gs_appF {apos cpos : Pos} (K : X.K = c.θ.K) (ho : PE X a (tEv c L W f)) (ha : PE X e (tEv c L W g))
    (hs : swapsWith (.Call (.Attribute a "append" apos) [e] [] cpos) none pos.line X.env = pure false := by rfl)
    (hbase : attributeBase a "append" X.env (eval a X.env) = eval a X.env := by rfl)
    (hfew : ((backTo cpos (starEach [e] X.env)).all (fun x => !x.1) && (backToKw cpos (keywordEach [] X.env)).all (fun x => x.1.isSome)
      && decide ([e].length + ([] : List Keyword).length + (if ([] : List Keyword).isEmpty then 0 else 1) < 30)) = true := by rfl)
    (hline : (apos.endLine == cpos.line) = true := by rfl) (hst : starEach [e] X.env = (false, eval e X.env) :: starEach [] X.env := by rfl) : PS X (.Expr (.Call (.Attribute a "append" apos) [e] [] cpos) pos) (tSv c L W (sAppF f g)) := by
  refine ps_ev (ps_expr (pe_bm PySem.F.plainAttrs_list PySem.F.slot_list_append PySem.F.type_list_append mt_append ho (pa_cons ha pa_nil hst) hbase hfew hline hst rfl) hs) fun E σ H h => ?_
  obtain ⟨F, ρ, R, h⟩ := h
  refine sv_with R h fun d kd v F1 H1 ef e1 hv R1 h1 => ?_
  clear ef h
  cases d <;> first | exact (show False from h1).elim | skip
  rename_i ds
  cases kd <;> first | exact (show False from h1).elim | skip
  obtain ⟨fu, av, o, rfl, nav, hav, nfav, ro, _⟩ := (show FrV c.θ F1 H H1 (.lst ds) v from hv)
  cases ro with
  | @lst xs _ rl =>
  refine ⟨.inl ⟨rfl, xs, by rw [K]; exact .inl (.inl hav)⟩, ?_⟩
  replace h1 : ResS c L W F1 E (sWith (g ρ) ρ fun _ => if ds.length < SZ then .nx ρ else .no) := h1
  refine sv_with R1 h1 fun d2 kd2 v2 F2 H2 ef2 e2 hv2 R2 h2 => ?_
  replace h2 : ResS c L W F2 E (if ds.length < SZ then .nx ρ else .no) := h2
  by_cases z : ds.length < SZ
  · rw [if_pos z] at h2
    refine ⟨av, xs, v2, rfl, rfl, e2.hh _ _ hav, by rw [rl.length]; exact Nat.lt_of_lt_of_le z SZ_le, ?_⟩
    exact h2 σ F2 _ (.refl _) (R.pokeNew (e1.trans e2) nav (e2.hh _ _ hav) (fun _ z => by cases z) (e2.none nfav hav))
  · rw [if_neg z] at h2
    exact h2.elim
theorem gs_clrF {apos cpos : Pos} (K : X.K = c.θ.K) (ho : PE X a (tEv c L W f))
    (hs : swapsWith (.Call (.Attribute a "clear" apos) [] [] cpos) none pos.line X.env = pure false := by rfl)
    (hbase : attributeBase a "clear" X.env (eval a X.env) = eval a X.env := by rfl)
    (hline : (apos.endLine == cpos.line) = true := by rfl) : PS X (.Expr (.Call (.Attribute a "clear" apos) [] [] cpos) pos) (tSv c L W (sClrF f)) := by
  refine ps_ev (ps_expr (pe_bm0 PySem.F.plainAttrs_list PySem.F.slot_list_clear PySem.F.type_list_clear mt_clear ho hbase hline) hs) fun E σ H h => ?_
  obtain ⟨F, ρ, R, h⟩ := h
  refine sv_with R h fun d kd v F1 H1 ef e1 hv R1 h1 => ?_
  clear ef h
  cases d <;> first | exact (show False from h1).elim | skip
  rename_i ds
  cases kd <;> first | exact (show False from h1).elim | skip
  obtain ⟨fu, av, o, rfl, nav, hav, nfav, ro, _⟩ := (show FrV c.θ F1 H H1 (.lst ds) v from hv)
  cases ro with
  | @lst xs _ rl =>
  refine ⟨.inl ⟨rfl, xs, by rw [K]; exact .inl (.inl hav)⟩, av, xs, rfl, rfl, hav, ?_⟩
  exact h1 σ F1 _ (.refl _) (R.pokeNew e1 nav hav (fun _ z => by cases z) nfav)
end
end G
namespace GD
open PySem L2 G
def S__law_row_v2 : SS := sSeq (G.sAsg false 2 (eBin oAdd (eBin oAdd (eBin oIx (eVar 0) (eC (.int 0))) (eBin oMul (eC (.int 1000003)) (eBin oIx (eVar 0) (eC (.int 1))))) (eBin oMul (eBin oMul (eC (.int 1000003)) (eC (.int 1000003))) (eBin oIx (eVar 0) (eC (.int 2)))))) (sSeq (G.sIf (tBl (eBin oEq (eBin oMod (eBin oIx (eVar 0) (eC (.int 3))) (eC (.int 5))) (eC (.int 3)))) (G.sAsg false 2 (eUn oNeg (eBin oMod (eBin oIx (eVar 0) (eC (.int 0))) (eC (.int 2))))) (sSkip)) (sSeq (G.sAsg true 3 (eFn R__law_bits [eVar 2, eVar 1])) (sSeq (G.sIf (tBl (eBin oEq (eBin oMod (eBin oIx (eVar 0) (eC (.int 3))) (eC (.int 5))) (eC (.int 4)))) (G.sAsg true 3 (eLc (itR1 (eVar 1)) (.one 4) (tYes) (eBin oIx (eVar 3) (eBin oMod (eVar 4) (eBin oAdd (eC (.int 1)) (eBin oMod (eBin oIx (eVar 0) (eC (.int 1))) (eC (.int 4)))))) [4])) (sSkip)) (sRet (eVar 3)))))
def R__law_row_v2 : List D → Out (D × Bool) := denF 5 S__law_row_v2
def S__law_even_b1 : SS := sSeq (G.sAsg false 4 (eLst [eBin oIx (eBin oIx (eVar 0) (eBin oSub (eVar 2) (eC (.int 1)))) (eBin oSub (eVar 3) (eC (.int 1))), eBin oIx (eBin oIx (eVar 0) (eBin oSub (eVar 2) (eC (.int 1)))) (eVar 3), eBin oIx (eBin oIx (eVar 0) (eVar 2)) (eBin oSub (eVar 3) (eC (.int 1))), eBin oIx (eBin oIx (eVar 0) (eVar 2)) (eVar 3)])) (G.sIf (tBl (eBin oIn (eLm oCnt (eVar 4) (eC (.int 1))) (eTup [eC (.int 0), eC (.int 2), eC (.int 4)]))) (sOwL 1 kAp (eTup [eBin oSub (eVar 3) (eC (.int 1)), eBin oSub (eVar 2) (eC (.int 1))])) (sSkip))
def S__law_even_b2 : SS := G.sFor (itR2 (eC (.int 1)) (eBi .len [eBin oIx (eVar 0) (eC (.int 0))])) (.one 3) S__law_even_b1
def S__law_even : SS := sSeq (G.sAsg true 1 (eLst [])) (sSeq (G.sFor (itR2 (eC (.int 1)) (eBi .len [eVar 0])) (.one 2) S__law_even_b2) (sRet (eVar 1)))
def R__law_even : List D → Out (D × Bool) := denF 5 S__law_even
def S_ask_table_b1 : SS := G.sIf (G.tOr (tBl (eBin oLt (eBi .len [eVar 1]) (eC (.int 1)))) (G.tOr (tBl (eBin oGt (eBi .len [eVar 1]) (eC (.int 40)))) (tBl (eBin oNe (eBi .len [eVar 1]) (eBi .len [eBin oIx (eVar 0) (eC (.int 0))]))))) (sRaise 1) (sSkip)
def S_ask_table_b2 : SS := sDrop (eFn R_ask_bits [eVar 1])
def S_ask_table : SS := sSeq (G.sIf (G.tOr (tBl (eBin oLt (eBi .len [eVar 0]) (eC (.int 1)))) (tBl (eBin oGt (eBi .len [eVar 0]) (eC (.int 40))))) (sRaise 1) (sSkip)) (sSeq (G.sFor (itE true (eVar 0)) (.one 1) S_ask_table_b1) (G.sFor (itE true (eVar 0)) (.one 1) S_ask_table_b2))
def R_ask_table : List D → Out (D × Bool) := denF 2 S_ask_table
def S_even_blocks_b1 : SS := sSeq (G.sAsg false 4 (eBin oAdd (eBin oAdd (eBin oAdd (eBin oIx (eBin oIx (eVar 0) (eVar 2)) (eVar 3)) (eBin oIx (eBin oIx (eVar 0) (eVar 2)) (eBin oAdd (eVar 3) (eC (.int 1))))) (eBin oIx (eBin oIx (eVar 0) (eBin oAdd (eVar 2) (eC (.int 1)))) (eVar 3))) (eBin oIx (eBin oIx (eVar 0) (eBin oAdd (eVar 2) (eC (.int 1)))) (eBin oAdd (eVar 3) (eC (.int 1)))))) (G.sIf (tBl (eBin oEq (eBin oMod (eVar 4) (eC (.int 2))) (eC (.int 0)))) (sOwL 1 kAp (eTup [eVar 3, eVar 2])) (sSkip))
def S_even_blocks_b2 : SS := G.sFor (itR1 (eBin oSub (eBi .len [eBin oIx (eVar 0) (eC (.int 0))]) (eC (.int 1)))) (.one 3) S_even_blocks_b1
def S_even_blocks : SS := sSeq (sDrop (eFn R_ask_table [eVar 0])) (sSeq (G.sAsg true 1 (eLst [])) (sSeq (G.sFor (itR1 (eBin oSub (eBi .len [eVar 0]) (eC (.int 1)))) (.one 2) S_even_blocks_b2) (sRet (eVar 1))))
def R_even_blocks : List D → Out (D × Bool) := denF 5 S_even_blocks
def S__law_loop_v2 : SS := sSeq (G.sAsg false 1 (eBin oAdd (eC (.int 2)) (eBin oMul (eC (.int 2)) (eBin oMod (eBin oIx (eVar 0) (eC (.int 1))) (eBin oIx (eLst [eC (.int 4), eC (.int 4), eC (.int 8), eC (.int 20), eC (.int 3)]) (eBin oMod (eBin oIx (eVar 0) (eC (.int 0))) (eC (.int 5)))))))) (sSeq (G.sAsg false 2 (eBin oAdd (eC (.int 2)) (eBin oMul (eC (.int 2)) (eBin oMod (eBin oIx (eVar 0) (eC (.int 2))) (eBin oIx (eLst [eC (.int 4), eC (.int 8), eC (.int 4), eC (.int 3), eC (.int 20)]) (eBin oMod (eBin oIx (eVar 0) (eC (.int 0))) (eC (.int 5)))))))) (sRet (eTup [eFn R__law_row_v2 [eSl (eVar 0) (some (eC (.int 3))) none, eVar 1], eFn R__law_row_v2 [eSl (eVar 0) (some (eC (.int 7))) none, eVar 2]])))
def R__law_loop_v2 : List D → Out (D × Bool) := denF 3 S__law_loop_v2
def S_Ring_cols : SS := sRet (eBi .list [eUn (oFld (fxT [(21, 0)])) (eVar 0)])
def R_Ring_cols : List D → Out (D × Bool) := denF 1 S_Ring_cols
def S_Ring_rows : SS := sRet (eBi .list [eUn (oFld (fxT [(21, 1)])) (eVar 0)])
def R_Ring_rows : List D → Out (D × Bool) := denF 1 S_Ring_rows
end GD
namespace GD
open PySem L2 G
end GD
/-! G: own trees: x[i].append(v), x[i].clear(), x.clear(); comprehensions that give a new tree; defs that give one. -/
namespace G
open PySem PySem.Spec L2
/-- x.clear() -/
def sClrP (i : Nat) : SS := fun ρ => match ρ[i]? with
  | some (.pv (.nd k) (.lst _)) => .nx (ρ.set i (.pv (.nd k) (.lst [])))
  | _ => .no
/-- [fresh for ..]: a new tree -/
def eLcF (it : IS) (tg : Tg) (t : TSm) (e : ES) (vs : List Nat) : ES := fun ρ => (it ρ).bind fun ds => (lcF tg t e (wipeS ρ vs) [] ds).bind fun r => .ok (.lst r, .tr 2)
/-- x = a new tree -/
def sAsgT (i : Nat) (f : ES) : SS := fun ρ => sWith (f ρ) ρ fun x => match x.2 with
  | .tr n => if i < ρ.length then .nx (ρ.set i (.pv (shn n) x.1)) else .no
  | _ => .no
section
variable {X : Cx} {c : Cn} {L : List Addr} {W : WX} {f g h : ES} {a b e o ix jx tg iter elt : Expr} {pos p p2 : Pos} {F F1 H H1 : Hp} {σ : L2.St} {ρ : Sl} {En : Ends} {s : IS} {t : Tg} {tst : TSm} {vs : List Nat}
theorem app2_inv {k : Nat → Sh} {es es' : List D} {v : D} (h : app2 k es v = some es') : k es.length = .lf ∧ es.length < SZ ∧ es' = es ++ [v] := by
  unfold app2 at h
  split at h
  · rename_i h1
    split at h
    · rename_i h2
      cases h
      exact ⟨h1, h2, rfl⟩
    · cases h
  · cases h
theorem gs_app2 {i : Nat} {x : Str} {pos2 apos cpos : Pos} (K : X.K = c.θ.K) (hb : PE X ix (tEv c L W f)) (ha : PE X e (tEv c L W g)) (hpl : PlainIx ix)
    (hx : Loc X.env.scope x) (hf : X.fn x = true ∨ X.env.scope.names.lookup x = some .local := by exact Or.inl rfl) (hi : X.N[i]? = some x := by rfl) (hd : (x == ("__debug__" : Str)) = false := by decide) (hcd : (x == ("__classdict__" : Str)) = false := by decide)
    (hs : swapsWith (.Call (.Attribute (.Subscript (.Name x p) ix pos2) "append" apos) [e] [] cpos) none pos.line X.env = pure false := by rfl)
    (hbase : attributeBase (.Subscript (.Name x p) ix pos2) "append" X.env (eval (.Subscript (.Name x p) ix pos2) X.env) = eval (.Subscript (.Name x p) ix pos2) X.env := by rfl)
    (hfew : ((backTo cpos (starEach [e] X.env)).all (fun x => !x.1) && (backToKw cpos (keywordEach [] X.env)).all (fun x => x.1.isSome)
      && decide ([e].length + ([] : List Keyword).length + (if ([] : List Keyword).isEmpty then 0 else 1) < 30)) = true := by rfl)
    (hline : (apos.endLine == cpos.line) = true := by rfl) (hst : starEach [e] X.env = (false, eval e X.env) :: starEach [] X.env := by rfl) : PS X (.Expr (.Call (.Attribute (.Subscript (.Name x p) ix pos2) "append" apos) [e] [] cpos) pos) (tSv c L W (sApp2 i f g)) := by
  refine ps_ev (ps_expr (pe_bm PySem.F.plainAttrs_list PySem.F.slot_list_append PySem.F.type_list_append mt_append (pe_ix ix_list (pe_var hi (vis_of hx) hd hcd) hb hpl) (pa_cons ha pa_nil hst) hbase hfew hline hst rfl) hs) fun E σ H hh => ?_
  obtain ⟨F, ρ, R, hh⟩ := hh
  unfold sApp2 at hh
  cases q : ρ[i]? with
  | none => rw [q] at hh; exact hh.elim
  | some sl =>
    rw [q] at hh
    cases sl with
    | pv k d0 =>
      cases d0 <;> first | exact (show False from hh).elim | skip
      rename_i ds
      replace hh : ResS c L W F E (sWith (f ρ) ρ fun a => (match row2 k ds a.1 with
        | some (k2, p, es) => sWith (g ρ) ρ fun v => if v.2.solid then (match app2 k2 es v.1 with
          | some es' => .nx (ρ.set i (.pv k (.lst (ds.set p (.lst es')))))
          | none => .no) else .no
        | none => .no)) := hh
      have sv : ∃ w, σ[i]? = some (some w) := by
        obtain ⟨Z, hZ⟩ := R.pv
        obtain ⟨⟨w, hw, _⟩, _⟩ := hZ i _ _ q
        exact ⟨w, hw⟩
      obtain ⟨w, hw⟩ := sv
      refine ⟨w, hw, ?_⟩
      refine sv_with R hh fun di ki vi F3 H3 ef3 e3 hv3 R3 h3 => ?_
      clear ef3 hh
      obtain ⟨F4, e4, s4, rdi, _⟩ := Val.use R e3 hv3
      have R4 := R.ext e4
      have h3' := ResS.mono h3 s4
      clear h3
      replace h3' : ResS c L W F4 E (match row2 k ds di with
        | some (k2, p, es) => sWith (g ρ) ρ fun v => if v.2.solid then (match app2 k2 es v.1 with
          | some es' => .nx (ρ.set i (.pv k (.lst (ds.set p (.lst es')))))
          | none => .no) else .no
        | none => .no) := h3'
      cases rw2 : row2 k ds di with
      | none => rw [rw2] at h3'; exact h3'.elim
      | some z =>
        obtain ⟨k2, pp, es⟩ := z
        rw [rw2] at h3'
        obtain ⟨aa, xs, n, bb, ys, S2, z1, z2, rfl, z4, z5, z6, z7, z8⟩ := row_core R4 q rw2
        rw [hw] at z1
        cases z1
        refine ⟨aa, xs, n, .ref bb, rfl, rdi.int, by rw [K]; exact .inl (.inl z2), z4, .inl ⟨rfl, ys, by rw [K]; exact .inl (.inl z5)⟩, ?_⟩
        have h3 : ResS c L W F4 E (sWith (g ρ) ρ fun v => if v.2.solid then (match app2 k2 es v.1 with
          | some es' => .nx (ρ.set i (.pv k (.lst (ds.set pp (.lst es')))))
          | none => .no) else .no) := h3'
        clear h3'
        refine sv_with R4 h3 fun d kd v F5 H5 ef5 e5 hv5 R5 h5 => ?_
        clear ef5 h3
        replace h5 : ResS c L W F5 E (if kd.solid = true then (match app2 k2 es d with
          | some es' => .nx (ρ.set i (.pv k (.lst (ds.set pp (.lst es')))))
          | none => .no) else .no) := h5
        obtain ⟨so, h5⟩ := ResS.ite h5
        obtain ⟨F6, e6, s6, rp⟩ := Val.sol R4 e5 hv5 so
        have R6 := R4.ext e6
        have h6 := ResS.mono h5 s6
        clear h5
        cases ap2 : app2 k2 es d with
        | none => rw [ap2] at h6; exact h6.elim
        | some es' =>
          rw [ap2] at h6
          obtain ⟨q1, q2, rfl⟩ := app2_inv ap2
          obtain ⟨aa', xs', n', bb', ys', S2', y1, y2, y3, y4, y5, y6, y7, y8⟩ := row_core R6 q rw2
          rw [hw] at y1
          cases y1
          cases y3
          rw [e6.hh _ _ z2] at y2
          cases y2
          rw [z4] at y4
          cases y4
          refine ⟨bb, ys', v, rfl, rfl, y5, by rw [y6.length]; exact Nat.lt_of_lt_of_le q2 SZ_le, ?_⟩
          exact h6 σ F6 _ (.refl _) (y8 _ _ fun H' t1 t2 => trl_snoc (y6.keep (.refl _) t1 t2) (by rw [Nat.zero_add]; exact q1) rp)
    | un => exact hh.elim
    | va d => exact hh.elim
    | ow d => exact hh.elim
    | me n ds => exact hh.elim
    | xc => exact hh.elim
theorem gs_clrP {i : Nat} {x : Str} {apos cpos : Pos} (K : X.K = c.θ.K) (hx : Loc X.env.scope x) (hf : X.fn x = true ∨ X.env.scope.names.lookup x = some .local := by exact Or.inl rfl) (hi : X.N[i]? = some x := by rfl) (hd : (x == ("__debug__" : Str)) = false := by decide) (hcd : (x == ("__classdict__" : Str)) = false := by decide)
    (hs : swapsWith (.Call (.Attribute (.Name x p) "clear" apos) [] [] cpos) none pos.line X.env = pure false := by rfl)
    (hbase : attributeBase (.Name x p) "clear" X.env (eval (.Name x p) X.env) = eval (.Name x p) X.env := by rfl)
    (hline : (apos.endLine == cpos.line) = true := by rfl) : PS X (.Expr (.Call (.Attribute (.Name x p) "clear" apos) [] [] cpos) pos) (tSv c L W (sClrP i)) := by
  refine ps_ev (ps_expr (pe_bm0 PySem.F.plainAttrs_list PySem.F.slot_list_clear PySem.F.type_list_clear mt_clear (pe_var hi (vis_of hx) hd hcd) hbase hline) hs) fun E σ H h => ?_
  obtain ⟨F, ρ, R, h⟩ := h
  unfold sClrP at h
  cases q : ρ[i]? with
  | none => rw [q] at h; exact h.elim
  | some sl =>
    rw [q] at h
    cases sl with
    | pv sh d0 =>
      cases sh with
      | lf => exact h.elim
      | nd k =>
        cases d0 <;> first | exact (show False from h).elim | skip
        rename_i ds
        obtain ⟨Z, hZ⟩ := R.pv
        obtain ⟨⟨w, hw, t0⟩, nd0, f0, ow0, pw0⟩ := hZ i _ _ q
        generalize hz : Z i = S at t0 nd0
        cases t0 with
        | fl z _ => cases z
        | @lst _ aa xs _ S1 ha tl =>
          refine ⟨_, hw, .inl ⟨rfl, xs, by rw [K]; exact .inl (.inl ha)⟩, aa, xs, rfl, rfl, ha, ?_⟩
          refine h σ F _ (.refl _) (R.pvMut hZ q hw (by rw [hz]; exact List.mem_cons_self) (S' := [aa]) (.lst upd_same .nil) (by simp) fun b hb => ?_)
          rw [List.mem_singleton.mp hb]
          exact .inl (by rw [hz]; exact List.mem_cons_self)
    | un => exact h.elim
    | va d => exact h.elim
    | ow d => exact h.elim
    | me n ds => exact h.elim
    | xc => exact h.elim
/-! ### a comprehension as a new tree -/
theorem rd_lcF (hv : ∀ i ∈ tgIdx t, i ∈ vs) {Q : VK} (R : Rel c.θ c.F0 c.B L F H σ ρ) (h : Res c W σ ρ F H Q (eLcF s t tst f vs ρ)) : tLc (tIv c L W false s) (gTv c L t) (tTv c L WF tst) (tEv c L WF f) vs σ H Q := by
  refine ⟨F, ρ, R, ?_⟩
  replace h : Res c W σ ρ F H Q ((s ρ).bind fun ds => (lcF t tst f (wipeS ρ vs) [] ds).bind fun r => .ok (.lst r, .tr 2)) := h
  cases q : s ρ with
  | no => rw [q] at h; exact h
  | ex n fs => rw [q] at h; exact h
  | ok ds =>
    rw [q] at h
    intro J F1 H1 e1 wk D hD
    rw [bind_ok] at h
    cases q2 : lcF t tst f (wipeS ρ vs) [] ds with
    | no => rw [q2] at h; exact h.elim
    | ex n fs => exact absurd q2 lcF_ex
    | ok r =>
      rw [q2] at h
      have h := Res.mono h e1
      refine ⟨fun i m H2 => m = ds.length - i ∧ i ≤ ds.length ∧ ∃ F2 acc ad S, Ext F1 H1 F2 H2 ∧ H2 D = some (.lst acc) ∧ F2 D = none ∧ TrL c.θ H1 F2 H2 (fun _ => sh1) 0 ad acc S ∧ S.Nodup ∧ D ∉ S ∧ (∀ b ∈ S, H1 b = none ∧ F2 b = none) ∧ lcF t tst f (wipeS ρ vs) ad (ds.drop i) = .ok r,
        ⟨ds.length, rfl, Nat.zero_le _, F1, [], [], [], Ext.lay e1.sub hD, upd_same, e1.sub.free hD, .nil, List.nodup_nil, (fun z => by cases z), (fun _ z => by cases z), q2⟩, ?_⟩
      rintro j m H2 ⟨rfl, hi, F2, acc, ad, S, e2, hacc, nf, rp, nd, nD, fS, hl⟩
      by_cases lt : j < ds.length
      · have hd : ds[j]? = some ds[j] := List.getElem?_eq_getElem lt
        rw [List.drop_eq_getElem_cons lt] at hl
        obtain ⟨ρ1, b, t1, t2, t3⟩ := lcF_turn hl
        obtain ⟨g1, g2⟩ := wk.go F2 H2 j ds[j] e2.ff e2.sub (fun _ => e2.hh) hd
        refine .inr ⟨g1, fun H' => ∃ F2 acc ad S, Ext F1 H1 F2 H' ∧ H' D = some (.lst acc) ∧ F2 D = none ∧ TrL c.θ H1 F2 H' (fun _ => sh1) 0 ad acc S ∧ S.Nodup ∧ D ∉ S ∧ (∀ b ∈ S, H1 b = none ∧ F2 b = none) ∧ lcF t tst f (wipeS ρ vs) ad (ds.drop (j + 1)) = .ok r, fun H' nx => ⟨ds.length - (j + 1), by omega, rfl, lt, nx⟩, fun x H' hy => ?_⟩
        obtain ⟨F3, e3, r3⟩ := g2 x H' hy
        refine ⟨F3, wipeS ρ vs, ds[j], ρ1, ((R.wipe vs).ext ((e1.trans e2).trans e3)), r3, t1, fun σ2 R2 ag => ⟨(ag.wipe hv).trans (wipe_wipe σ vs), ?_⟩⟩
        refine tTv_of R2 ?_
        rw [t2]
        intro F4 H4 e4
        have e34 := e3.trans e4
        have nf4 : F4 D = none := e34.none nf hacc
        have acc4 : H4 D = some (.lst acc) := e34.hh _ _ hacc
        have fS4 : ∀ b ∈ S, H1 b = none ∧ F4 b = none := fun b hb => by
          obtain ⟨o, ho, _⟩ := rp.some b hb
          exact ⟨(fS b hb).1, e34.none (fS b hb).2 ho⟩
        have rp4 := trl_ext e34 rp
        rcases t3 with ⟨rfl, t3⟩ | ⟨rfl, y, t4, t6, t7⟩
        · exact iteF ⟨F4, acc, ad, S, e2.trans e34, acc4, nf4, rp4, nd, nD, fS4, t3⟩
        · refine iteT (tEv_of (R2.ext e4) ?_)
          rw [t4]
          intro v F5 H5 e5 hv5
          obtain ⟨fu, av, o, rfl, nav, hav, nfav, ro, _⟩ := hv5
          have rp5 := trl_ext e5 rp4
          have nS : av ∉ S := fun z => by
            obtain ⟨u, hu, _⟩ := rp4.some av z
            rw [nav] at hu
            cases hu
          have nDv : av ≠ D := fun z => by
            subst z
            rw [acc4] at nav
            cases nav
          refine ⟨acc, e5.hh _ _ acc4, ?_, F5, acc ++ [.ref av], ad ++ [y], S ++ [av], ((e2.trans e34).trans e5).mut (e5.none nf4 acc4) hD, upd_same, e5.none nf4 acc4, ?_, ?_, ?_, fun b hb => ?_, t7⟩
          · rw [rp.length]
            exact Nat.lt_of_lt_of_le t6 SZ_le
          · have nt : ∀ b xs, H5 b = some (.tup xs) → upd H5 D (.lst (acc ++ [.ref av])) b = some (.tup xs) := fun b xs hb => by
              rw [upd_ne fun z => ?_]
              · exact hb
              · subst z
                rw [e5.hh _ _ acc4] at hb
                cases hb
            have k1 := rp5.keep (H' := upd H5 D (.lst (acc ++ [.ref av]))) (.refl _) nt fun b hb => upd_ne fun z => nD (z ▸ hb)
            have k2 := (root_tr (B := H1) hav ro fu).keep (H' := upd H5 D (.lst (acc ++ [.ref av]))) (.refl _) nt fun b hb => by
              rw [List.mem_singleton.mp hb]
              exact upd_ne nDv
            have := TrL.append k1 (.cons (S1 := [av]) (S2 := []) (show Tr c.θ H1 F5 _ ((fun _ => sh1) (0 + ad.length)) y (.ref av) [av] from k2) .nil)
            rwa [List.append_nil] at this
          · exact List.nodup_append.mpr ⟨nd, by simp, fun x hx y hy => by
              rw [List.mem_singleton.mp hy]
              intro z
              subst z
              exact nS hx⟩
          · intro z
            rcases List.mem_append.mp z with z | z
            · exact nD z
            · exact nDv (List.mem_singleton.mp z).symm
          · rcases List.mem_append.mp hb with hb | hb
            · obtain ⟨u, hu, _⟩ := rp4.some b hb
              exact ⟨(fS b hb).1, e5.none (fS4 b hb).2 hu⟩
            · rw [List.mem_singleton.mp hb]
              exact ⟨((e2.trans e34).hh.free nav), nfav⟩
      · have ei : j = ds.length := by omega
        subst ei
        rw [List.drop_length] at hl
        cases hl
        refine .inl ⟨wk.stop F2 H2 e2.ff e2.sub (fun _ => e2.hh), ?_⟩
        refine h _ F2 H2 e2 ⟨D :: S, .lst hacc rp, List.nodup_cons.mpr ⟨nD, nd⟩, fun b hb => ?_⟩
        rcases List.mem_cons.mp hb with rfl | hb
        · exact ⟨hD, nf⟩
        · exact fS b hb
theorem pg_lcF {ifs : List Expr} {scope : Scope} {own : List (Str × Nat)} (hv : ∀ i ∈ tgIdx t, i ∈ own.map (·.2)) (hc : X.calm = true) (hN : X.N.Nodup) (hi : PI X tg iter (tIv c L W false s)) (ok : BlkOk X.N X.env.scope scope own)
    (hg : ∀ (s : Shared) (H : Hp) (C : Addr) (cl : List (Str × Addr)) (fp : List Addr), PG (X.blk s H scope (compEnvC scope cl C X.env) fp) tg (gTv c L t)) (ht : ∀ (s : Shared) (H : Hp) (C : Addr) (cl : List (Str × Addr)) (fp : List Addr), PTs (X.blk s H scope (compEnvC scope cl C X.env) fp) ifs (tTv c L WF tst))
    (he : ∀ (s : Shared) (H : Hp) (C : Addr) (cl : List (Str × Addr)) (fp : List Addr), PE (X.blk s H scope (compEnvC scope cl C X.env) fp) elt (tEv c L WF f)) (hs : ∀ x, foldedSetIterable iter X.env x = pure x) : PE X (.ListComp elt [⟨tg, iter, ifs, 0⟩] scope pos) (tEv c L W (eLcF s t tst f (own.map (·.2)))) :=
  pe_ev (pe_lc hc hN hi ok hg ht he hs) fun σ H Q h => by
    obtain ⟨F, ρ, R, h⟩ := of_tEv h
    exact rd_lcF hv R h
/-! ### a new tree taken -/
theorem gs_setT {i : Nat} {x : Str} {pos' : Pos} (hN : X.N.Nodup) (ha : PE X e (tEv c L W f)) (hx : Loc X.env.scope x) (hf : X.fn x = true ∨ X.env.scope.names.lookup x = some .local := by exact Or.inl rfl) (hi : X.N[i]? = some x := by rfl) (hs : swapsWith e (some (.Name x pos')) pos.line X.env = pure false := by rfl) :
    PS X (.Assign [.Name x pos'] e pos) (tSv c L W (sAsgT i f)) := by
  refine ps_ev (ps_set hN hi hx ha hs hf) fun E σ H h => ?_
  obtain ⟨F, ρ, R, h⟩ := h
  refine sv_with R h fun d kd x F1 H1 ef e1 hv R1 h1 => ?_
  cases kd with
  | tr n =>
    obtain ⟨lt, h1⟩ := ResS.ite (show ResS c L W F1 E (if i < ρ.length then .nx (ρ.set i (.pv (shn n) d)) else .no) from h1)
    obtain ⟨S, t, nd, fr⟩ := (show TrV c.θ F1 H H1 n d x from hv)
    exact h1 _ F1 H1 (.refl _) (R.setPv e1 (t.base fun _ z => R.noneB z) nd fr)
  | sh => exact h1.elim
  | fr => exact h1.elim
  | «at» j => exact h1.elim
end
end G
/-! G: defs that give new trees: by their return, or because what is told is none of what was handed in. -/
namespace G
open PySem PySem.Spec L2
def ResTr (θ : Th) (n : Nat) (F H : Hp) (Q : VK) (E : XK) : Out D → Prop
  | .ok d => ∀ v F' H', Ext F H F' H' → TrV θ F' H H' n d v → Q v H'
  | .ex k fs => ∀ cls dd F' H', Ext F H F' H' → ExV θ k fs cls dd F' H' → E cls dd H'
  | .no => False
/-- a def whose value on ds is the new tree S ds -/
def spP (θ : Th) (m n : Nat) (S : List D → Out D) : Sp := fun vs H Q E => vs.length = m ∧ ∃ F ds, Sub F H ∧ RepL θ F ds vs ∧ ResTr θ n F H Q E (S ds)
def denP (N n : Nat) (u : SS) (ds : List D) : Out D := match u (slots N ds) with
  | .nx _ => .ok .non
  | .rt d .sh => if flat d = true then .ok d else .no
  | .rt d (.tr k) => if k = n then .ok d else .no
  | .ex k fs _ => .ex k fs
  | _ => .no
section
variable {θ : Th} {F H F' H' B : Hp}
theorem TrV.ofFlat {n : Nat} {d : D} {v : V} (h : G.flat d = true) (r : Rep θ F' d v) : TrV θ F' H H' n d v := by
  cases n with
  | zero => exact ⟨[], .lf r, List.nodup_nil, fun _ h => by cases h⟩
  | succ n => exact ⟨[], .fl h r, List.nodup_nil, fun _ h => by cases h⟩
theorem body_ofP {N : List Str} {m n : Nat} {u : SS} {vs : List V} {Q : VK} {E : XK} (h : spP θ m n (denP N.length n u) vs H Q E) : ∃ F, tSv ⟨θ, F, H⟩ [] (fun cls d _ H => E cls d H) u (EnF Q) (L2.start N vs) H := by
  obtain ⟨hl, F, ds, s, r, hf⟩ := h
  refine ⟨F, F, _, start_rel s r, ?_⟩
  unfold denP at hf
  cases q : u (slots N.length ds) with
  | nx ρ' =>
    rw [q] at hf
    exact fun σ' F' H' e R => hf .non F' H' ⟨R.sub, e, R.same0, R.fn⟩ (.ofFlat rfl .non)
  | bk ρ' => rw [q] at hf; exact hf.elim
  | ct ρ' => rw [q] at hf; exact hf.elim
  | rt d k =>
    rw [q] at hf
    cases k with
    | sh =>
      replace hf : ResTr θ n F H Q E (if G.flat d = true then .ok d else .no) := hf
      by_cases z : G.flat d = true
      · rw [if_pos z] at hf
        exact fun v σ' ρ' F' H' e R hv => hf v F' H' ⟨R.sub, e, R.same0, R.fn⟩ (.ofFlat z hv)
      · rw [if_neg z] at hf
        exact hf.elim
    | fr => exact hf.elim
    | «at» i => exact hf.elim
    | tr k =>
      replace hf : ResTr θ n F H Q E (if k = n then .ok d else .no) := hf
      by_cases z : k = n
      · subst z
        rw [if_pos rfl] at hf
        exact fun v σ' ρ' F' H' e R hv => hf v F' H' ⟨R.sub, e, R.same0, R.fn⟩ hv
      · rw [if_neg z] at hf
        exact hf.elim
  | ex n fs ρ' =>
    rw [q] at hf
    exact fun cls dd σ' F' H' e R hv => hf cls dd F' H' ⟨R.sub, e, R.same0, R.fn⟩ hv
  | no => rw [q] at hf; exact hf.elim
end
section
variable {P : Program} {w : World} {K : PySem.W.Frag} {mg : Str → Option Value} {base : Heap} {x qual : Str} {params : Arguments} {body : List Stmt} {scope : Scope} {f : Addr} {fd : FuncData} {θ : Th}
theorem fnP_ok {N ps : List Str} {k m n : Nat} {u : SS} (F : FunD K x qual params body scope [] [] f fd) (S : FnScope N ps scope) (hm : m = ps.length)
    (hb : ∀ (cdv : Value) (A : Around) (outer : List Env) (s : Shared) (H : Hp) (E : XK) (F0 B : Hp) (L : List Addr), BodyOk (BX P w K mg base N qual scope f cdv A outer s H E) (fun cls d _ H => E cls d H) k → PSs (BX P w K mg base N qual scope f cdv A outer s H E) body (tSv ⟨θ, F0, B⟩ L (fun cls d _ H => E cls d H) u)) :
    FnOk P w K mg base (L2N.CX P w) (k + 1) f fd ps (spP θ m n (denP N.length n u)) := by
  refine F.ok S (fun vs H Q E h => by rw [h.1, hm]) fun cdv A outer s H vs Q E hr h => ?_
  obtain ⟨F0, h⟩ := body_ofP h
  exact ⟨_, hb cdv A outer s H E F0 H [] ⟨L2N.takes_of rfl rfl rfl rfl, passes_of rfl, hr⟩, h⟩
end
/-! ### what is told is none of what was handed in -/
mutual
/-- flat values, and lists and tuples of them -/
def dataD : D → Bool
  | .non => true
  | .bl _ => true
  | .int _ => true
  | .str _ => true
  | .lst ds => dataL ds
  | .tup ds => dataL ds
  | _ => false
def dataL : List D → Bool
  | [] => true
  | d :: ds => dataD d && dataL ds
end
mutual
/-- .. without lists -/
def noLst : D → Bool
  | .non => true
  | .bl _ => true
  | .int _ => true
  | .str _ => true
  | .tup ds => noLsts ds
  | _ => false
def noLsts : List D → Bool
  | [] => true
  | d :: ds => noLst d && noLsts ds
end
mutual
/-- the objects of a value -/
def subs : D → List D
  | .lst ds => .lst ds :: subsL ds
  | .tup ds => .tup ds :: subsL ds
  | .obj c ds => .obj c ds :: subsL ds
  | _ => []
def subsL : List D → List D
  | [] => []
  | d :: ds => subs d ++ subsL ds
end
def argD : D → Bool
  | .obj _ fs => dataL fs
  | d => dataD d
/-- the lists of a value, n deep -/
def trN : Nat → D → List D
  | 0, _ => []
  | n + 1, .lst ds => .lst ds :: (ds.map (trN n)).flatten
  | n + 1, .tup ds => (ds.map (trN n)).flatten
  | _ + 1, _ => []
/-- its tuples -/
def tuN : Nat → D → List D
  | 0, _ => []
  | n + 1, .lst ds => (ds.map (tuN n)).flatten
  | n + 1, .tup ds => .tup ds :: (ds.map (tuN n)).flatten
  | _ + 1, _ => []
/-- no lists below -/
def okT : Nat → D → Bool
  | 0, d => noLst d
  | n + 1, .lst ds => ds.all (okT n)
  | n + 1, .tup ds => ds.all (okT n)
  | _ + 1, d => flat d
structure ToldOk (n : Nat) (ds : List D) (d : D) : Prop where
  args : ∀ e ∈ ds, argD e = true
  ok : okT n d = true
  data : dataD d = true
  nd : (trN n d).Nodup
  dis : ∀ e ∈ trN n d ++ tuN n d, e ∉ subsL ds
open Classical in
noncomputable def told (n : Nat) (R : List D → Out (D × Bool)) (ds : List D) : Out D := match R ds with
  | .ok (d, _) => if ToldOk n ds d then .ok d else .no
  | .ex k fs => .ex k fs
  | .no => .no
section
variable {θ : Th} {F H F' H' B : Hp}
mutual
theorem Rep.inj : ∀ {d e : D} {v : V}, dataD d = true → dataD e = true → Rep θ F d v → Rep θ F e v → d = e
  | _, _, _, _, _, .non, g => by cases g; rfl
  | _, _, _, _, _, .bl _, g => by cases g; rfl
  | _, _, _, _, _, .int _, g => by cases g; rfl
  | _, _, _, _, _, .str _, g => by cases g; rfl
  | _, _, _, hd, he, .lst h r, g => by
    cases g with
    | lst h2 r2 =>
      rw [h] at h2
      cases h2
      rw [RepL.inj hd he r r2]
    | tup h2 r2 => rw [h] at h2; cases h2
    | dK _ _ _ => cases he
    | dT _ _ _ => cases he
    | obj _ _ _ => cases he
    | frl _ => cases he
    | hx _ => cases he
  | _, _, _, hd, he, .tup h r, g => by
    cases g with
    | tup h2 r2 =>
      rw [h] at h2
      cases h2
      rw [RepL.inj hd he r r2]
    | lst h2 r2 => rw [h] at h2; cases h2
    | dK _ _ _ => cases he
    | dT _ _ _ => cases he
    | obj _ _ _ => cases he
    | frl _ => cases he
    | hx _ => cases he
  | _, _, _, hd, _, .dK _ _ _, _ => by cases hd
  | _, _, _, hd, _, .dT _ _ _, _ => by cases hd
  | _, _, _, hd, _, .obj _ _ _, _ => by cases hd
  | _, _, _, hd, _, .frl _, _ => by cases hd
  | _, _, _, hd, _, .hx _, _ => by cases hd
theorem RepL.inj : ∀ {ds es : List D} {vs : List V}, dataL ds = true → dataL es = true → RepL θ F ds vs → RepL θ F es vs → ds = es
  | _, _, _, _, _, .nil, g => by cases g; rfl
  | _, _, _, hd, he, .cons h t, g => by
    cases g with
    | cons h2 t2 =>
      obtain ⟨a1, a2⟩ := Bool.and_eq_true_iff.mp hd
      obtain ⟨b1, b2⟩ := Bool.and_eq_true_iff.mp he
      rw [Rep.inj a1 b1 h h2, RepL.inj a2 b2 t t2]
end
theorem Sub.lstH {a : Addr} {xs : List V} (s : Sub F H) (h : F a = some (.lst xs)) : H a = some (.lst xs) := by
  rcases s a _ h with z | ⟨z, _⟩
  · exact z
  · cases z
theorem Sub.tupH {a : Addr} {xs : List V} (s : Sub F H) (h : F a = some (.tup xs)) : H a = some (.tup xs) := by
  rcases s a _ h with z | ⟨z, _⟩
  · exact z
  · cases z
mutual
/-- data where the heap is read -/
theorem Rep.inH (s : Sub F H) : ∀ {d : D} {v : V}, dataD d = true → Rep θ F d v → Rep θ H d v
  | _, _, _, .non => .non
  | _, _, _, .bl b => .bl b
  | _, _, _, .int b => .int b
  | _, _, _, .str b => .str b
  | _, _, hd, .lst h r => .lst (s.lstH h) (RepL.inH s hd r)
  | _, _, hd, .tup h r => .tup (s.tupH h) (RepL.inH s hd r)
  | _, _, hd, .dK _ _ _ => by cases hd
  | _, _, hd, .dT _ _ _ => by cases hd
  | _, _, hd, .obj _ _ _ => by cases hd
  | _, _, hd, .frl _ => by cases hd
  | _, _, hd, .hx _ => by cases hd
theorem RepL.inH (s : Sub F H) : ∀ {ds : List D} {vs : List V}, dataL ds = true → RepL θ F ds vs → RepL θ H ds vs
  | _, _, _, .nil => .nil
  | _, _, hd, .cons h t => by
    obtain ⟨a1, a2⟩ := Bool.and_eq_true_iff.mp hd
    exact .cons (Rep.inH s a1 h) (RepL.inH s a2 t)
end
open Classical in
/-- F where one of these lies -/
noncomputable def keepF (θ : Th) (F : Hp) (T : List D) : Hp := fun b => if ∃ e ∈ T, Rep θ F e (.ref b) then F b else none
theorem keepF_le {T : List D} : Same (keepF θ F T) F := fun b u h => by
  unfold keepF at h
  split at h
  · exact h
  · cases h
theorem keepF_at {T : List D} {e : D} {b : Addr} {u : HO} (he : e ∈ T) (r : Rep θ F e (.ref b)) (h : F b = some u) : keepF θ F T b = some u := by
  unfold keepF
  rw [if_pos ⟨e, he, r⟩]
  exact h
mutual
theorem Rep.keepD {T : List D} : ∀ {d : D} {v : V}, dataD d = true → (∀ e ∈ subs d, e ∈ T) → Rep θ F d v → Rep θ (keepF θ F T) d v
  | _, _, _, _, .non => .non
  | _, _, _, _, .bl b => .bl b
  | _, _, _, _, .int b => .int b
  | _, _, _, _, .str b => .str b
  | _, _, hd, hT, .lst h r => .lst (keepF_at (hT _ List.mem_cons_self) (.lst h r) h) (RepL.keepD hd (fun e he => hT e (List.mem_cons_of_mem _ he)) r)
  | _, _, hd, hT, .tup h r => .tup (keepF_at (hT _ List.mem_cons_self) (.tup h r) h) (RepL.keepD hd (fun e he => hT e (List.mem_cons_of_mem _ he)) r)
  | _, _, hd, _, .dK _ _ _ => by cases hd
  | _, _, hd, _, .dT _ _ _ => by cases hd
  | _, _, hd, _, .obj _ _ _ => by cases hd
  | _, _, hd, _, .frl _ => by cases hd
  | _, _, hd, _, .hx _ => by cases hd
theorem RepL.keepD {T : List D} : ∀ {ds : List D} {vs : List V}, dataL ds = true → (∀ e ∈ subsL ds, e ∈ T) → RepL θ F ds vs → RepL θ (keepF θ F T) ds vs
  | _, _, _, _, .nil => .nil
  | _, _, hd, hT, .cons h t => by
    obtain ⟨a1, a2⟩ := Bool.and_eq_true_iff.mp hd
    exact .cons (Rep.keepD a1 (fun e he => hT e (List.mem_append_left _ he)) h) (RepL.keepD a2 (fun e he => hT e (List.mem_append_right _ he)) t)
end
theorem Rep.keepA {T : List D} {d : D} {v : V} (hd : argD d = true) (hT : ∀ e ∈ subs d, e ∈ T) (r : Rep θ F d v) : Rep θ (keepF θ F T) d v := by
  cases r with
  | obj h l r => exact .obj (keepF_at (hT _ List.mem_cons_self) (.obj h l r) h) l (RepL.keepD hd (fun e he => hT e (List.mem_cons_of_mem _ he)) r)
  | non => exact .non
  | bl b => exact .bl b
  | int b => exact .int b
  | str b => exact .str b
  | lst h r => exact Rep.keepD hd hT (.lst h r)
  | tup h r => exact Rep.keepD hd hT (.tup h r)
  | dK _ _ _ => cases hd
  | dT _ _ _ => cases hd
  | frl _ => cases hd
  | hx _ => cases hd
theorem RepL.keepA {T : List D} : ∀ {ds : List D} {vs : List V}, (∀ e ∈ ds, argD e = true) → (∀ e ∈ subsL ds, e ∈ T) → RepL θ F ds vs → RepL θ (keepF θ F T) ds vs
  | _, _, _, _, .nil => .nil
  | _, _, hd, hT, .cons h t => .cons (Rep.keepA (hd _ List.mem_cons_self) (fun e he => hT e (List.mem_append_left _ he)) h) (RepL.keepA (fun e he => hd e (List.mem_cons_of_mem _ he)) (fun e he => hT e (List.mem_append_right _ he)) t)
/-- all objects of an argument are data or the instance itself -/
theorem subs_data : ∀ {ds : List D}, dataL ds = true → ∀ e ∈ subsL ds, dataD e = true := by
  have key : ∀ (n : Nat) (ds : List D), sizeOf ds ≤ n → dataL ds = true → ∀ e ∈ subsL ds, dataD e = true := by
    intro n
    induction n with
    | zero => intro ds h; cases ds <;> simp at h
    | succ n ih =>
      intro ds h hd e he
      cases ds with
      | nil => cases he
      | cons d ds =>
        obtain ⟨a1, a2⟩ := Bool.and_eq_true_iff.mp hd
        simp only [List.cons.sizeOf_spec] at h
        rcases List.mem_append.mp (show e ∈ subs d ++ subsL ds from he) with z | z
        · cases d with
          | lst xs =>
            rcases List.mem_cons.mp (show e ∈ D.lst xs :: subsL xs from z) with rfl | z
            · exact a1
            · exact ih xs (by simp only [D.lst.sizeOf_spec] at h; omega) a1 e z
          | tup xs =>
            rcases List.mem_cons.mp (show e ∈ D.tup xs :: subsL xs from z) with rfl | z
            · exact a1
            · exact ih xs (by simp only [D.tup.sizeOf_spec] at h; omega) a1 e z
          | obj c xs => cases a1
          | _ => cases z
        · exact ih ds (by omega) a2 e z
  exact fun {ds} h => key _ ds (Nat.le_refl _) h
theorem subsA_data : ∀ {ds : List D}, (∀ e ∈ ds, argD e = true) → ∀ e ∈ subsL ds, dataD e = true ∨ ∃ c fs, e = .obj c fs
  | [], _, e, he => by cases he
  | d :: ds, hd, e, he => by
    have h1 := hd d List.mem_cons_self
    rcases List.mem_append.mp (show e ∈ subs d ++ subsL ds from he) with z | z
    · cases d with
      | lst xs =>
        rcases List.mem_cons.mp (show e ∈ D.lst xs :: subsL xs from z) with rfl | z
        · exact .inl h1
        · exact .inl (subs_data h1 e z)
      | tup xs =>
        rcases List.mem_cons.mp (show e ∈ D.tup xs :: subsL xs from z) with rfl | z
        · exact .inl h1
        · exact .inl (subs_data h1 e z)
      | obj c xs =>
        rcases List.mem_cons.mp (show e ∈ D.obj c xs :: subsL xs from z) with rfl | z
        · exact .inr ⟨c, xs, rfl⟩
        · exact .inl (subs_data h1 e z)
      | _ => cases z
    · exact subsA_data (fun e he => hd e (List.mem_cons_of_mem _ he)) e z
/-- lists at their places -/
inductive All2 (θ : Th) (F : Hp) : List Addr → List D → Prop
  | nil : All2 θ F [] []
  | cons {b : Addr} {e : D} {S : List Addr} {T : List D} : Rep θ F e (.ref b) → All2 θ F S T → All2 θ F (b :: S) (e :: T)
theorem All2.append {S S' : List Addr} {T T' : List D} (h : All2 θ F S T) (h' : All2 θ F S' T') : All2 θ F (S ++ S') (T ++ T') := by
  induction h with
  | nil => exact h'
  | cons r _ ih => exact .cons r ih
theorem All2.mem {S : List Addr} {T : List D} (h : All2 θ F S T) {b : Addr} (hb : b ∈ S) : ∃ e ∈ T, Rep θ F e (.ref b) := by
  induction h with
  | nil => cases hb
  | cons r _ ih =>
    rcases List.mem_cons.mp hb with rfl | hb
    · exact ⟨_, List.mem_cons_self, r⟩
    · obtain ⟨e, he, r⟩ := ih hb
      exact ⟨e, List.mem_cons_of_mem _ he, r⟩
theorem All2.nodup {S : List Addr} {T : List D} (h : All2 θ F S T) (nd : T.Nodup) (hd : ∀ e ∈ T, dataD e = true) : S.Nodup := by
  induction h with
  | nil => exact List.nodup_nil
  | cons r t ih =>
    obtain ⟨n1, n2⟩ := List.nodup_cons.mp nd
    refine List.nodup_cons.mpr ⟨fun hb => ?_, ih n2 fun e he => hd e (List.mem_cons_of_mem _ he)⟩
    obtain ⟨e, he, r2⟩ := t.mem hb
    have := Rep.inj (hd _ List.mem_cons_self) (hd e (List.mem_cons_of_mem _ he)) r r2
    subst this
    exact n1 he
theorem data_mem : ∀ {ds : List D}, dataL ds = true → ∀ e ∈ ds, dataD e = true
  | [], _, _, he => by cases he
  | d :: ds, h, e, he => by
    obtain ⟨a1, a2⟩ := Bool.and_eq_true_iff.mp h
    rcases List.mem_cons.mp he with rfl | he
    · exact a1
    · exact data_mem a2 e he
theorem trN_data : ∀ {n : Nat} {d : D}, dataD d = true → ∀ e ∈ trN n d ++ tuN n d, dataD e = true ∧ ((∃ xs, e = .lst xs) ∨ ∃ xs, e = .tup xs)
  | 0, _, _, e, he => by cases he
  | n + 1, .lst ds, h, e, he => by
    have k : ∀ x ∈ ds, ∀ e ∈ trN n x ++ tuN n x, dataD e = true ∧ ((∃ xs, e = .lst xs) ∨ ∃ xs, e = .tup xs) := fun x hx => trN_data (data_mem h x hx)
    simp only [trN, tuN, List.cons_append, List.mem_cons, List.mem_append, List.mem_flatten, List.mem_map] at he
    rcases he with rfl | ⟨l, ⟨x, hx, rfl⟩, hl⟩ | ⟨l, ⟨x, hx, rfl⟩, hl⟩
    · exact ⟨h, .inl ⟨_, rfl⟩⟩
    · exact k x hx e (List.mem_append_left _ hl)
    · exact k x hx e (List.mem_append_right _ hl)
  | n + 1, .tup ds, h, e, he => by
    have k : ∀ x ∈ ds, ∀ e ∈ trN n x ++ tuN n x, dataD e = true ∧ ((∃ xs, e = .lst xs) ∨ ∃ xs, e = .tup xs) := fun x hx => trN_data (data_mem h x hx)
    simp only [trN, tuN, List.mem_cons, List.mem_append, List.mem_flatten, List.mem_map] at he
    rcases he with ⟨l, ⟨x, hx, rfl⟩, hl⟩ | rfl | ⟨l, ⟨x, hx, rfl⟩, hl⟩
    · exact k x hx e (List.mem_append_left _ hl)
    · exact ⟨h, .inr ⟨_, rfl⟩⟩
    · exact k x hx e (List.mem_append_right _ hl)
  | n + 1, .non, _, e, he => by cases he
  | n + 1, .bl _, _, e, he => by cases he
  | n + 1, .int _, _, e, he => by cases he
  | n + 1, .str _, _, e, he => by cases he
/-- the tree -/
theorem told_tr {F2 : Hp} (s : Sub F' H') (lf : ∀ {d : D} {v : V}, noLst d = true → Rep θ F' d v → Rep θ F2 d v) : ∀ {n : Nat} {d : D} {v : V}, okT n d = true → (∀ e ∈ tuN n d, ∀ b, Rep θ F' e (.ref b) → H b = none) → Rep θ F' d v → ∃ S, Tr θ H F2 H' (shn n) d v S ∧ All2 θ F' S (trN n d)
  | 0, d, v, ok, _, r => ⟨[], .lf (lf ok r), .nil⟩
  | n + 1, d, v, ok, tu, r => by
    have list : ∀ {ds : List D} {m : Nat} {vs : List V}, ds.all (okT n) = true → (∀ e ∈ (ds.map (tuN n)).flatten, ∀ b, Rep θ F' e (.ref b) → H b = none) → RepL θ F' ds vs → ∃ S, TrL θ H F2 H' (fun _ => shn n) m ds vs S ∧ All2 θ F' S (ds.map (trN n)).flatten := by
      intro ds
      induction ds with
      | nil => intro m vs _ _ r; cases r; exact ⟨[], .nil, .nil⟩
      | cons d ds ih =>
        intro m vs ok tu r
        cases r with
        | cons r t =>
          obtain ⟨a1, a2⟩ := Bool.and_eq_true_iff.mp (show (okT n d && ds.all (okT n)) = true by rw [List.all_cons] at ok; exact ok)
          obtain ⟨S1, t1, l1⟩ := told_tr s lf a1 (fun e he => tu e (by rw [List.map_cons, List.flatten_cons]; exact List.mem_append_left _ he)) r
          obtain ⟨S2, t2, l2⟩ := ih (m := m + 1) a2 (fun e he => tu e (by rw [List.map_cons, List.flatten_cons]; exact List.mem_append_right _ he)) t
          exact ⟨S1 ++ S2, .cons t1 t2, by rw [List.map_cons, List.flatten_cons]; exact l1.append l2⟩
    cases r with
    | lst h r =>
      obtain ⟨S, t, l⟩ := list (m := 0) ok (fun e he => tu e he) r
      exact ⟨_ :: S, .lst (s.lstH h) t, .cons (.lst h r) l⟩
    | tup h r =>
      obtain ⟨S, t, l⟩ := list (m := 0) ok (fun e he => tu e (List.mem_cons_of_mem _ he)) r
      exact ⟨S, .tup (s.tupH h) (tu _ List.mem_cons_self _ (.tup h r)) t, l⟩
    | non => exact ⟨[], .fl rfl .non, .nil⟩
    | bl b => exact ⟨[], .fl rfl (.bl b), .nil⟩
    | int b => exact ⟨[], .fl rfl (.int b), .nil⟩
    | str b => exact ⟨[], .fl rfl (.str b), .nil⟩
    | dK _ _ _ => cases ok
    | dT _ _ _ => cases ok
    | obj _ _ _ => cases ok
    | frl _ => cases ok
    | hx _ => cases ok
theorem trN_lst : ∀ {n : Nat} {d : D}, ∀ e ∈ trN n d, ∃ xs, e = .lst xs
  | 0, _, e, he => by cases he
  | n + 1, .lst ds, e, he => by
    rcases List.mem_cons.mp he with rfl | he
    · exact ⟨_, rfl⟩
    · simp only [List.mem_flatten, List.mem_map] at he
      obtain ⟨l, ⟨x, _, rfl⟩, hl⟩ := he
      exact trN_lst e hl
  | n + 1, .tup ds, e, he => by
    simp only [trN, List.mem_flatten, List.mem_map] at he
    obtain ⟨l, ⟨x, _, rfl⟩, hl⟩ := he
    exact trN_lst e hl
  | n + 1, .non, e, he => by cases he
  | n + 1, .bl _, e, he => by cases he
  | n + 1, .int _, e, he => by cases he
  | n + 1, .str _, e, he => by cases he
  | n + 1, .dK _ _, e, he => by cases he
  | n + 1, .dT _ _, e, he => by cases he
  | n + 1, .obj _ _, e, he => by cases he
  | n + 1, .frl _, e, he => by cases he
  | n + 1, .hx, e, he => by cases he
mutual
theorem Rep.noL {F2 : Hp} (h : ∀ a xs, F' a = some (.tup xs) → F2 a = some (.tup xs)) : ∀ {d : D} {v : V}, noLst d = true → Rep θ F' d v → Rep θ F2 d v
  | _, _, _, .non => .non
  | _, _, _, .bl b => .bl b
  | _, _, _, .int b => .int b
  | _, _, _, .str b => .str b
  | _, _, hd, .lst _ _ => by cases hd
  | _, _, hd, .tup g r => .tup (h _ _ g) (RepL.noL h hd r)
  | _, _, hd, .dK _ _ _ => by cases hd
  | _, _, hd, .dT _ _ _ => by cases hd
  | _, _, hd, .obj _ _ _ => by cases hd
  | _, _, hd, .frl _ => by cases hd
  | _, _, hd, .hx _ => by cases hd
theorem RepL.noL {F2 : Hp} (h : ∀ a xs, F' a = some (.tup xs) → F2 a = some (.tup xs)) : ∀ {ds : List D} {vs : List V}, noLsts ds = true → RepL θ F' ds vs → RepL θ F2 ds vs
  | _, _, _, .nil => .nil
  | _, _, hd, .cons g t => by
    obtain ⟨a1, a2⟩ := Bool.and_eq_true_iff.mp hd
    exact .cons (Rep.noL h a1 g) (RepL.noL h a2 t)
end
theorem Sub.up (s : Sub F H) (hh : Same H H') : Sub F H' := fun a u h => by
  rcases s a u h with z | ⟨z1, o, z⟩
  · exact .inl (hh _ _ z)
  · exact .inr ⟨z1, o, hh _ _ z⟩
open Classical in
theorem told_core {n : Nat} {ds : List D} {d : D} {vs : List V} {Q : VK} {E : XK} (T : ToldOk n ds d) (s : Sub F H) (r : RepL θ F ds vs) (hf : ResTr θ n F H Q E (.ok d)) {v : V} (e : Ext (keepF θ F (subsL ds)) H F' H') (rep : Rep θ F' d v) : Q v H' := by
  have sF : Sub F H' := s.up e.hh
  have no : ∀ x ∈ trN n d ++ tuN n d, ∀ b, Rep θ F' x (.ref b) → H b = none := fun x hx b rx => by
    obtain ⟨dx, shp⟩ := trN_data T.data x hx
    have rH := Rep.inH e.sub dx rx
    have hF : ∃ u, F' b = some u := by
      rcases shp with ⟨xs, rfl⟩ | ⟨xs, rfl⟩
      · cases rx with
        | lst h _ => exact ⟨_, h⟩
      · cases rx with
        | tup h _ => exact ⟨_, h⟩
    obtain ⟨u, hu⟩ := hF
    rcases e.nw b u hu with z | z
    · exfalso
      unfold keepF at z
      split at z
      · rename_i q
        obtain ⟨x', hx', rx'⟩ := q
        rcases subsA_data T.args x' hx' with d' | ⟨cc, fs, rfl⟩
        · have := Rep.inj dx d' rH (Rep.inH sF d' rx')
          subst this
          exact T.dis _ hx hx'
        · cases rx' with
          | obj h _ _ =>
            rcases sF b _ h with y | ⟨y, _⟩
            · rcases shp with ⟨xs, rfl⟩ | ⟨xs, rfl⟩
              · cases rH with
                | lst g _ => rw [y] at g; cases g
              · cases rH with
                | tup g _ => rw [y] at g; cases g
            · cases y
      · cases z
    · exact z
  have lstAt : ∀ b, (∃ x ∈ trN n d, Rep θ F' x (.ref b)) → ∃ xs, F' b = some (.lst xs) := fun b ⟨x, hx, rx⟩ => by
    obtain ⟨xs, rfl⟩ := trN_lst x hx
    cases rx with
    | lst h _ => exact ⟨_, h⟩
  let F2 : Hp := fun b => if ∃ x ∈ trN n d, Rep θ F' x (.ref b) then none else match F b with
    | some u => some u
    | none => F' b
  have F2s : ∀ {b : Addr} {u : HO}, F2 b = some u → F b = some u ∨ F' b = some u := fun {b u} h => by
    simp only [F2] at h
    split at h
    · cases h
    · cases q : F b with
      | some w => rw [q] at h; exact .inl h
      | none => rw [q] at h; exact .inr h
  have tupAt : ∀ a xs, F' a = some (.tup xs) → F2 a = some (.tup xs) := fun a xs h => by
    simp only [F2]
    rw [if_neg fun z => ?_]
    · cases q : F a with
      | none => exact h
      | some u =>
        have hH := e.sub.tupH h
        rcases sF a u q with y | ⟨y, o, y2⟩
        · rw [hH] at y; exact y.symm
        · rw [hH] at y2; cases y2
    · obtain ⟨ys, hy⟩ := lstAt a z
      rw [h] at hy
      cases hy
  obtain ⟨S, tr, al⟩ := told_tr (H := H) (F2 := F2) e.sub (fun {d v} h r => Rep.noL tupAt h r) T.ok (fun x hx b rx => no x (List.mem_append_right _ hx) b rx) rep
  refine hf v F2 H' ⟨fun b u h => ?_, fun b u h => ?_, e.hh, fun b u h => ?_⟩ ⟨S, tr, al.nodup T.nd fun x hx => (trN_data T.data x (List.mem_append_left _ hx)).1, fun b hb => ?_⟩
  · rcases F2s h with z | z
    · exact sF b u z
    · exact e.sub b u z
  · simp only [F2]
    rw [if_neg fun z => ?_, h]
    obtain ⟨x, hx, rx⟩ := z
    have := no x (List.mem_append_left _ hx) b rx
    rcases s b u h with y | ⟨_, _, y⟩ <;> (rw [this] at y; cases y)
  · rcases F2s h with z | z
    · exact .inl z
    · rcases e.nw b u z with y | y
      · exact .inl (keepF_le b u y)
      · exact .inr y
  · obtain ⟨x, hx, rx⟩ := al.mem hb
    refine ⟨no x (List.mem_append_left _ hx) b rx, ?_⟩
    simp only [F2]
    rw [if_pos ⟨x, hx, rx⟩]
theorem told_sp {m n : Nat} {R : List D → Out (D × Bool)} {vs : List V} {Q : VK} {E : XK} (h : spP θ m n (told n R) vs H Q E) : spOf θ m R vs H Q E := by
  obtain ⟨hl, F, ds, s, r, hf⟩ := h
  unfold told at hf
  cases hR : R ds with
  | no => rw [hR] at hf; exact hf.elim
  | ex k fs =>
    rw [hR] at hf
    exact ⟨hl, F, ds, s, r, by rw [hR]; exact hf⟩
  | ok z =>
    obtain ⟨d, b⟩ := z
    rw [hR] at hf
    by_cases T : ToldOk n ds d
    · replace hf : ResTr θ n F H Q E (@ite _ (ToldOk n ds d) (Classical.propDecidable _) (.ok d) .no) := hf
      rw [if_pos T] at hf
      refine ⟨hl, keepF θ F (subsL ds), ds, fun a u h => s a u (keepF_le a u h), RepL.keepA T.args (fun e he => he) r, ?_⟩
      rw [hR]
      cases b with
      | false => exact fun v F' H' e hv => told_core T s r hf e hv
      | true =>
        intro v F' H' e hv
        obtain ⟨F1, e1, _, rep⟩ := FrV.freeze e hv
        exact told_core T s r hf e1 rep
    · replace hf : ResTr θ n F H Q E (@ite _ (ToldOk n ds d) (Classical.propDecidable _) (.ok d) .no) := hf
      rw [if_neg T] at hf
      exact hf.elim
end
/-! ### calls that give a new tree -/
def eFnT (n : Nat) (R : List D → Out D) (fs : List ES) : ES := fun ρ => (eArgs fs ρ).bind fun xs => if allSolid xs = true then (match R (xs.map (·.1)) with
  | .ok d => .ok (d, .tr n)
  | .ex c gs => .ex c gs
  | .no => .no) else .no
structure CallT (X : Cx) (θ : Th) (k : Nat) (fa : Addr) (m n : Nat) (R : List D → Out D) : Prop where
  ok : ∃ fd ps, FnOk X.prog X.w X.K X.mg X.base (L2N.CX X.prog X.w) k fa fd ps (spP θ m n R) ∧ Binds X.K fd ps [] ∧ PySem.W.keepIn X.K (.ref fa) = true
theorem CallOk.told {X : Cx} {θ : Th} {k m : Nat} {fa : Addr} {R : List D → Out (D × Bool)} (F : CallOk X θ k fa m R) (n : Nat) : CallT X θ k fa m n (G.told n R) := by
  obtain ⟨fd, ps, F, hb, hk⟩ := F.ok
  exact ⟨fd, ps, F.imp fun vs H Q E h => told_sp h, hb, hk⟩
def FineT (P : Program) (w : World) (K : PySem.W.Frag) (mg : Str → Option Value) (base : Heap) (θ : Th) (k : Nat) (d : He.DefD) (m n : Nat) (R : List D → Out D) : Prop :=
  ∃ fd ps, FnOk P w K mg base (L2N.CX P w) k (He.fAd K d.at_) fd ps (spP θ m n R) ∧ Binds K fd ps [] ∧ PySem.W.keepIn K (.ref (He.fAd K d.at_)) = true
theorem FineT.call {X : Cx} {θ : Th} {k m n : Nat} {dd : He.DefD} {R : List D → Out D} (F : FineT X.prog X.w X.K X.mg X.base θ k dd m n R) : CallT X θ k (He.fAd X.K dd.at_) m n R := ⟨F⟩
section
variable {X : Cx} {c : Cn} {L : List Addr} {W : WX} {f g h : ES} {a b e o : Expr} {pos apos : Pos} {es : List Expr} {fs : List ES} {x : Str} {p : Pos}
theorem g_callT {n : Nat} {R : List D → Out D} {k k' m : Nat} {fa : Addr} {x : Str} {es : List Expr} {fs : List ES} (F : CallT X c.θ k fa m n R) (hr : Room k' X.A) (hk : k ≤ k') (tk : L2N.Takes X W) (hm : X.mg x = some (.ref fa)) (ha : PA X (e :: es) (tAv c L W fs)) (hl : fs.length = m := by rfl) (hg : Gl X x := by rfl)
    (hdb : (x == ("__debug__" : Str)) = false := by rfl) (he : starEach (e :: es) X.env = (false, eval e X.env) :: starEach es X.env := by rfl) (hpl : (backTo pos (starEach es X.env)).any (·.1) = false := by rfl) : PE X (.Call (.Name x p) (e :: es) [] pos) (tEv c L W (eFnT n R fs)) := by
  obtain ⟨fd, ps, F, hb, hkp⟩ := F.ok
  refine pe_ev (pe_callS (E := WE W) F (hr.mono hk) hg hm hkp hb (fun σ => L2N.passAt tk σ) ha hdb he hpl) fun σ H Q h => ?_
  obtain ⟨F, ρ, R0, h⟩ := of_tEv h
  refine av_bind R0 h fun xs vs F1 H1 ef e1 ar R1 h1 => ?_
  obtain ⟨so, h1⟩ := Res.ite h1
  have r := ar.solid so
  refine ⟨by rw [r.length, List.length_map, ← hl]; exact eArgs_length ef, F1, _, R1.sub, r, ?_⟩
  cases hR : R (xs.map (·.1)) with
  | no => rw [hR] at h1; exact h1.elim
  | ex k gs => rw [hR] at h1; exact h1
  | ok d => rw [hR] at h1; exact h1
end
end G
namespace GD
open PySem L2 G
def S_picture : SS := sRet (eLcF (itR1 (eM [(20, R_Cloth_tall)] (eVar 0) [])) (.one 1) (tYes) (eLc (itR1 (eM [(20, R_Cloth_wide)] (eVar 0) [])) (.one 2) (tYes) (eM [(20, R_Cloth_colour)] (eVar 0) [eVar 2, eVar 1]) [2]) [1])
def Q_picture : List D → Out D := denP 3 2 S_picture
def S_dyed_b1 : SS := sOwL 1 kAp (eBin oMod (eBin oAdd (eBin oIx (eVar 1) (eUn oNeg (eC (.int 1)))) (eBin oIx (eM [(21, R_Ring_cols)] (eVar 0) []) (eVar 2))) (eC (.int 2)))
def S_dyed_b2 : SS := sOwL 3 kAp (eBin oMod (eBin oAdd (eBin oIx (eVar 3) (eUn oNeg (eC (.int 1)))) (eBin oIx (eM [(21, R_Ring_rows)] (eVar 0) []) (eVar 4))) (eC (.int 2)))
def S_dyed : SS := sSeq (G.sIf (G.tOr (tBl (eBin oEq (eBin oMod (eBi .sum [eM [(21, R_Ring_cols)] (eVar 0) []]) (eC (.int 2))) (eC (.int 1)))) (tBl (eBin oEq (eBin oMod (eBi .sum [eM [(21, R_Ring_rows)] (eVar 0) []]) (eC (.int 2))) (eC (.int 1))))) (sRet (eC .non)) (sSkip)) (sSeq (G.sAsg true 1 (eLst [eC (.int 0)])) (sSeq (G.sFor (itR2 (eC (.int 1)) (eM [(21, R_Ring_wide)] (eVar 0) [])) (.one 2) S_dyed_b1) (sSeq (G.sAsg true 3 (eLst [eC (.int 0)])) (sSeq (G.sFor (itR2 (eC (.int 1)) (eM [(21, R_Ring_tall)] (eVar 0) [])) (.one 4) S_dyed_b2) (sRet (eLcF (itR1 (eM [(21, R_Ring_tall)] (eVar 0) [])) (.one 4) (tYes) (eLc (itR1 (eM [(21, R_Ring_wide)] (eVar 0) [])) (.one 2) (tYes) (eBin oMod (eBin oAdd (eBin oAdd (eBin oIx (eVar 1) (eVar 2)) (eBin oIx (eVar 3) (eVar 4))) (eBin oMul (eVar 2) (eVar 4))) (eC (.int 2))) [2]) [4]))))))
def R_dyed : List D → Out (D × Bool) := denF 5 S_dyed
def Q_dyed : List D → Out D := denP 5 2 S_dyed
def S__law_fits_b1 : SS := sSeq (G.sIf (G.tAnd (G.tNot (tTru (eFn R__law_same [eBin oIx (eBin oIx (eVar 1) (eVar 2)) (eVar 3), eC (.int 0)]))) (G.tNot (tTru (eFn R__law_same [eBin oIx (eBin oIx (eVar 1) (eVar 2)) (eVar 3), eC (.int 1)])))) (sRet (eC (.bl false))) (sSkip)) (sSeq (G.sAsg false 4 (eBin oMod (eBin oAdd (eVar 3) (eC (.int 1))) (eM [(21, R_Ring_wide)] (eVar 0) []))) (sSeq (G.sAsg false 5 (eBin oMod (eBin oAdd (eVar 2) (eC (.int 1))) (eM [(21, R_Ring_tall)] (eVar 0) []))) (sSeq (G.sIf (tBl (eBin oNe (eBin oNe (eBin oIx (eBin oIx (eVar 1) (eVar 2)) (eVar 3)) (eBin oIx (eBin oIx (eVar 1) (eVar 2)) (eVar 4))) (eM [(21, R_Ring_stitched)] (eVar 0) [eC (.str "col"), eVar 4, eVar 2]))) (sRet (eC (.bl false))) (sSkip)) (G.sIf (tBl (eBin oNe (eBin oNe (eBin oIx (eBin oIx (eVar 1) (eVar 2)) (eVar 3)) (eBin oIx (eBin oIx (eVar 1) (eVar 5)) (eVar 3))) (eM [(21, R_Ring_stitched)] (eVar 0) [eC (.str "row"), eVar 5, eVar 3]))) (sRet (eC (.bl false))) (sSkip)))))
def S__law_fits_b2 : SS := sSeq (G.sIf (G.tOr (G.tNot (tTru (eUn (oIsi "list") (eBin oIx (eVar 1) (eVar 2))))) (tBl (eBin oNe (eBi .len [eBin oIx (eVar 1) (eVar 2)]) (eM [(21, R_Ring_wide)] (eVar 0) [])))) (sRet (eC (.bl false))) (sSkip)) (G.sFor (itR1 (eM [(21, R_Ring_wide)] (eVar 0) [])) (.one 3) S__law_fits_b1)
def S__law_fits : SS := sSeq (G.sIf (G.tOr (G.tNot (tTru (eUn (oIsi "list") (eVar 1)))) (G.tOr (tBl (eBin oNe (eBi .len [eVar 1]) (eM [(21, R_Ring_tall)] (eVar 0) []))) (G.tNot (tTru (eFn R__law_same [eBin oIx (eBin oIx (eVar 1) (eC (.int 0))) (eC (.int 0)), eC (.int 0)]))))) (sRet (eC (.bl false))) (sSkip)) (sSeq (G.sFor (itR1 (eM [(21, R_Ring_tall)] (eVar 0) [])) (.one 2) S__law_fits_b2) (sRet (eC (.bl true))))
def R__law_fits : List D → Out (D × Bool) := denF 6 S__law_fits
def S_law_k38_t8 : SS := sRet (eFn R__law_fits [eVar 1, eFn R_dyed [eVar 1]])
def S_law_k38_t7 : SS := sSeq (sClrP 4) S_law_k38_t8
def S_law_k38_t6 : SS := sSeq (sPut2 4 (eC (.int 0)) (eC (.int 0)) (eC (.int 1))) S_law_k38_t7
def S_law_k38_t5 : SS := sSeq (G.sIf (tBor 4 (G.tOr (tBl (eUn (fun d => shr (.bl (isNon d))) (eVar 4))) (G.tNot (tTru (eFn R__law_fits [eVar 1, eVar 4]))))) (sRet (eC (.bl false))) (sSkip)) S_law_k38_t6
def S_law_k38_t4 : SS := sSeq (G.sIf (G.tOr (tBl (eBin oEq (eBin oMod (eVar 2) (eC (.int 2))) (eC (.int 1)))) (tBl (eBin oEq (eBin oMod (eVar 3) (eC (.int 2))) (eC (.int 1))))) (sRet (eBor 4 (eUn (fun d => shr (.bl (isNon d))) (eVar 4)))) (sSkip)) S_law_k38_t5
def S_law_k38_t3 : SS := sSeq (sAsgT 4 (eFnT 2 Q_dyed [eVar 1])) S_law_k38_t4
def S_law_k38_t2 : SS := sSeq (G.sAsg false 3 (eBi .sum [eLc (itR1 (eM [(21, R_Ring_tall)] (eVar 1) [])) (.one 6) (tYes) (eBi .int [eM [(21, R_Ring_stitched)] (eVar 1) [eC (.str "row"), eVar 6, eC (.int 0)]]) [6]])) S_law_k38_t3
def S_law_k38_t1 : SS := sSeq (G.sAsg false 2 (eBi .sum [eLc (itR1 (eM [(21, R_Ring_wide)] (eVar 1) [])) (.one 5) (tYes) (eBi .int [eM [(21, R_Ring_stitched)] (eVar 1) [eC (.str "col"), eVar 5, eC (.int 0)]]) [5]])) S_law_k38_t2
def S_law_k38 : SS := sSeq (G.sAsg false 1 (eFn R__law_ring [eFn R__law_loop [eFn R__law_draws [eVar 0, eC (.int 11)]]])) S_law_k38_t1
def R_law_k38 : List D → Out (D × Bool) := denF 7 S_law_k38
end GD
namespace K38
open PySem L2 G GD
def top (i : Nat) : Stmt := PySem.Challenge.pw_sashiko_k38_whole_rings_dyed.main.body.getD i (.Pass ⟨0, 0, 0, 0⟩)
def mth (i j : Nat) : Stmt := match top i with
  | .ClassDef _ _ _ body _ _ _ _ _ _ _ => body.getD j (.Pass ⟨0, 0, 0, 0⟩)
  | s => s
abbrev st_ask_bits : Stmt := top 8
def d_ask_bits : He.DefD := ⟨("ask_bits", none), "ask_bits", "ask_bits", defArgs st_ask_bits, defBody st_ask_bits, defScope st_ask_bits, [], []⟩
abbrev N_ask_bits : List Str := ["bits", "bit"]
theorem sc_ask_bits : FnScope N_ask_bits ["bits"] (defScope st_ask_bits) := ⟨rfl, rfl, rfl, by decide +kernel, rfl, by decide +kernel, by decide +kernel⟩
abbrev st_Ring___init__ : Stmt := mth 10 0
def d_Ring___init__ : He.DefD := ⟨("Ring", some "__init__"), "__init__", "Ring.__init__", defArgs st_Ring___init__, defBody st_Ring___init__, defScope st_Ring___init__, [], []⟩
abbrev N_Ring___init__ : List Str := ["self", "cols", "rows", "bits"]
theorem sc_Ring___init__ : FnScope N_Ring___init__ ["self", "cols", "rows"] (defScope st_Ring___init__) := ⟨rfl, rfl, rfl, by decide +kernel, rfl, by decide +kernel, by decide +kernel⟩
abbrev st__law_ring : Stmt := top 14
def d__law_ring : He.DefD := ⟨("_law_ring", none), "_law_ring", "_law_ring", defArgs st__law_ring, defBody st__law_ring, defScope st__law_ring, [], []⟩
abbrev N__law_ring : List Str := ["_law_loop_here"]
theorem sc__law_ring : FnScope N__law_ring ["_law_loop_here"] (defScope st__law_ring) := ⟨rfl, rfl, rfl, by decide +kernel, rfl, by decide +kernel, by decide +kernel⟩
abbrev st_Ring_wide : Stmt := mth 10 3
def d_Ring_wide : He.DefD := ⟨("Ring", some "wide"), "wide", "Ring.wide", defArgs st_Ring_wide, defBody st_Ring_wide, defScope st_Ring_wide, [], []⟩
abbrev N_Ring_wide : List Str := ["self"]
theorem sc_Ring_wide : FnScope N_Ring_wide ["self"] (defScope st_Ring_wide) := ⟨rfl, rfl, rfl, by decide +kernel, rfl, by decide +kernel, by decide +kernel⟩
abbrev st_Ring_tall : Stmt := mth 10 4
def d_Ring_tall : He.DefD := ⟨("Ring", some "tall"), "tall", "Ring.tall", defArgs st_Ring_tall, defBody st_Ring_tall, defScope st_Ring_tall, [], []⟩
abbrev N_Ring_tall : List Str := ["self"]
theorem sc_Ring_tall : FnScope N_Ring_tall ["self"] (defScope st_Ring_tall) := ⟨rfl, rfl, rfl, by decide +kernel, rfl, by decide +kernel, by decide +kernel⟩
abbrev st_Ring_cols : Stmt := mth 10 1
def d_Ring_cols : He.DefD := ⟨("Ring", some "cols"), "cols", "Ring.cols", defArgs st_Ring_cols, defBody st_Ring_cols, defScope st_Ring_cols, [], []⟩
abbrev N_Ring_cols : List Str := ["self"]
theorem sc_Ring_cols : FnScope N_Ring_cols ["self"] (defScope st_Ring_cols) := ⟨rfl, rfl, rfl, by decide +kernel, rfl, by decide +kernel, by decide +kernel⟩
abbrev st_Ring_rows : Stmt := mth 10 2
def d_Ring_rows : He.DefD := ⟨("Ring", some "rows"), "rows", "Ring.rows", defArgs st_Ring_rows, defBody st_Ring_rows, defScope st_Ring_rows, [], []⟩
abbrev N_Ring_rows : List Str := ["self"]
theorem sc_Ring_rows : FnScope N_Ring_rows ["self"] (defScope st_Ring_rows) := ⟨rfl, rfl, rfl, by decide +kernel, rfl, by decide +kernel, by decide +kernel⟩
abbrev st_dyed : Stmt := top 11
def d_dyed : He.DefD := ⟨("dyed", none), "dyed", "dyed", defArgs st_dyed, defBody st_dyed, defScope st_dyed, [], []⟩
abbrev N_dyed : List Str := ["ring", "across", "x", "upward", "y"]
theorem sc_dyed : FnScope N_dyed ["ring"] (defScope st_dyed) := ⟨rfl, rfl, rfl, by decide +kernel, rfl, by decide +kernel, by decide +kernel⟩
abbrev st__law_same : Stmt := top 13
def d__law_same : He.DefD := ⟨("_law_same", none), "_law_same", "_law_same", defArgs st__law_same, defBody st__law_same, defScope st__law_same, [], []⟩
abbrev N__law_same : List Str := ["_law_told", "_law_due", "_law_one", "_law_other"]
theorem sc__law_same : FnScope N__law_same ["_law_told", "_law_due"] (defScope st__law_same) := ⟨rfl, rfl, rfl, by decide +kernel, rfl, by decide +kernel, by decide +kernel⟩
abbrev st_Ring_stitched : Stmt := mth 10 5
def d_Ring_stitched : He.DefD := ⟨("Ring", some "stitched"), "stitched", "Ring.stitched", defArgs st_Ring_stitched, defBody st_Ring_stitched, defScope st_Ring_stitched, [], []⟩
abbrev N_Ring_stitched : List Str := ["self", "way", "k", "step", "bits", "steps"]
theorem sc_Ring_stitched : FnScope N_Ring_stitched ["self", "way", "k", "step"] (defScope st_Ring_stitched) := ⟨rfl, rfl, rfl, by decide +kernel, rfl, by decide +kernel, by decide +kernel⟩
abbrev st__law_fits : Stmt := top 19
def d__law_fits : He.DefD := ⟨("_law_fits", none), "_law_fits", "_law_fits", defArgs st__law_fits, defBody st__law_fits, defScope st__law_fits, [], []⟩
abbrev N__law_fits : List Str := ["_law_ring_here", "_law_table", "_law_y", "_law_x", "_law_right", "_law_up"]
theorem sc__law_fits : FnScope N__law_fits ["_law_ring_here", "_law_table"] (defScope st__law_fits) := ⟨rfl, rfl, rfl, by decide +kernel, rfl, by decide +kernel, by decide +kernel⟩
abbrev st__law_bits : Stmt := top 15
def d__law_bits : He.DefD := ⟨("_law_bits", none), "_law_bits", "_law_bits", defArgs st__law_bits, defBody st__law_bits, defScope st__law_bits, [], []⟩
abbrev N__law_bits : List Str := ["_law_number", "_law_many", "_law_row_here", "_law_k"]
theorem sc__law_bits : FnScope N__law_bits ["_law_number", "_law_many"] (defScope st__law_bits) := ⟨rfl, rfl, rfl, by decide +kernel, rfl, by decide +kernel, by decide +kernel⟩
abbrev st__law_row : Stmt := top 16
def d__law_row : He.DefD := ⟨("_law_row", none), "_law_row", "_law_row", defArgs st__law_row, defBody st__law_row, defScope st__law_row, [], []⟩
abbrev N__law_row : List Str := ["_law_some", "_law_many", "_law_raw", "_law_row_here", "_law_k"]
theorem sc__law_row : FnScope N__law_row ["_law_some", "_law_many"] (defScope st__law_row) := ⟨rfl, rfl, rfl, by decide +kernel, rfl, by decide +kernel, by decide +kernel⟩
abbrev st__law_loop : Stmt := top 17
def d__law_loop : He.DefD := ⟨("_law_loop", none), "_law_loop", "_law_loop", defArgs st__law_loop, defBody st__law_loop, defScope st__law_loop, [], []⟩
abbrev N__law_loop : List Str := ["_law_some", "_law_wide", "_law_tall"]
theorem sc__law_loop : FnScope N__law_loop ["_law_some"] (defScope st__law_loop) := ⟨rfl, rfl, rfl, by decide +kernel, rfl, by decide +kernel, by decide +kernel⟩
abbrev st__law_draws : Stmt := top 18
def d__law_draws : He.DefD := ⟨("_law_draws", none), "_law_draws", "_law_draws", defArgs st__law_draws, defBody st__law_draws, defScope st__law_draws, [], []⟩
abbrev N__law_draws : List Str := ["_law_script", "_law_many", "_law_rows", "_law_mix", "_law_cell", "_law_rest"]
theorem sc__law_draws : FnScope N__law_draws ["_law_script", "_law_many"] (defScope st__law_draws) := ⟨rfl, rfl, rfl, by decide +kernel, rfl, by decide +kernel, by decide +kernel⟩
abbrev st_law : Stmt := top 20
def d_law : He.DefD := ⟨("law", none), "law", "law", defArgs st_law, defBody st_law, defScope st_law, [], []⟩
abbrev N_law : List Str := ["_law_script", "_law_ring_here", "_law_across", "_law_upward", "_law_found", "_law_x", "_law_y"]
theorem sc_law : FnScope N_law ["_law_script"] (defScope st_law) := ⟨rfl, rfl, rfl, by decide +kernel, rfl, by decide +kernel, by decide +kernel⟩
def cname : Nat → Str
  | 0 => "SewError"
  | 1 => "BadSize"
  | 2 => "BadBit"
  | 4 => "NoLine"
  | 5 => "NoStep"
  | 21 => "Ring"
  | _ => ""
def cflds : Nat → List Str
  | 21 => ["upright", "level"]
  | _ => []
abbrev th (K : PySem.W.Frag) : Th := ⟨K, none, fun n => He.ga K (cname n), cflds⟩
def fn : List He.DefD := [d_ask_bits, d_Ring___init__, d__law_ring, d_Ring_wide, d_Ring_tall, d_Ring_cols, d_Ring_rows, d_dyed, d__law_same, d_Ring_stitched, d__law_fits, d__law_bits, d__law_row, d__law_loop, d__law_draws, d_law]
def fa : List He.Fa := [.glo "BadBit", .exc "BadBit", .free "len", .int "MOST" 40, .glo "BadSize", .exc "BadSize", .glo "ask_bits", .free "list", .cls "Ring", .noat "Ring" "upright", .noat "Ring" "level", .mkr "Ring", .glo "Ring", .meth "Ring" "cols", .free "sum", .meth "Ring" "rows", .meth "Ring" "wide", .free "range", .meth "Ring" "tall", .free "isinstance", .free "bool", .free "int", .free "tuple", .free "str", .free "zip", .glo "_law_same", .free "all", .glo "NoLine", .exc "NoLine", .glo "NoStep", .exc "NoStep", .meth "Ring" "stitched", .glo "_law_bits", .glo "_law_row", .free "abs", .glo "_law_draws", .glo "_law_loop", .glo "_law_ring", .glo "dyed", .glo "_law_fits", .glo "law"]
section
variable {P : Program} {w : World} {K : PySem.W.Frag} {h base : Heap} {mg : Str → Option Value}
theorem ok_ask_bits (KX : K.In h) (G : h.Ns mainGlobals mg) (c : He.SaysD fa fn K) : Fine P w K mg base (th K) 1 d_ask_bits 1 R_ask_bits := by
  obtain ⟨fd, F⟩ := c.def_ 0 (d := d_ask_bits) rfl
  refine ⟨fd, _, fn_ok F sc_ask_bits rfl (fun cdv A outer s H E F0 B L b => ?_), F.bindsN (fun _ _ _ _ _ _ us hl => match us, hl with | [_], _ => rfl), F.kp⟩
  have x : XC (BX P w K mg base N_ask_bits d_ask_bits.qual d_ask_bits.scope (He.fAd K d_ask_bits.at_) cdv A outer s H E) ⟨th K, F0, B⟩ := ⟨⟨rfl, sc_ask_bits.nd, u128 b.rm⟩, rfl⟩
  exact gss_one (gs_for b.po x.calm (i_list (st := true) x.toXB (g_var 0 (.inl rfl))) (t_name x.toXB 1 (.inl rfl) (.inl rfl)) (gss_one (gs_if (t_pw (pgw_and (t_cmp (oc_ne x.toXB) (g_var 1 (.inl rfl)) (g_int)) (pw_and1 (t_cmp (oc_ne x.toXB) (g_var 1 (.inl rfl)) (g_int))))) (gss_one (g_raise x b.tk (He.glo_ok KX G (c.fact 0 (f := .glo "BadBit") rfl)) (He.exc_ok (c.fact 1 (f := .exc "BadBit") rfl)))) (gss_nil))))
theorem ok_Ring___init__ (KX : K.In h) (G : h.Ns mainGlobals mg) (c : He.SaysD fa fn K) : FineI P w K mg base (th K) 2 21 d_Ring___init__ 2 R_Ring___init__ := by
  obtain ⟨fd, F⟩ := c.def_ 1 (d := d_Ring___init__) rfl
  refine ⟨fd, _, init_ok F sc_Ring___init__ rfl rfl (fun cdv A outer s H E F0 B L b => ?_), F.bindsN (fun _ _ _ _ _ _ us hl => match us, hl with | [_, _, _], _ => rfl)⟩
  have x : XC (BX P w K mg base N_Ring___init__ d_Ring___init__.qual d_Ring___init__.scope (He.fAd K d_Ring___init__.at_) cdv A outer s H E) ⟨th K, F0, B⟩ := ⟨⟨rfl, sc_Ring___init__.nd, u128 b.rm⟩, rfl⟩
  exact gss_cons (gs_for b.po x.calm (i_list (st := true) x.toXB (pg_tup (g_cons (g_var 1 (.inl rfl)) (g_cons (g_var 2 (.inl rfl)) pga_nil)))) (t_name x.toXB 3 (.inl rfl) (.inl rfl)) (gss_one (gs_if (t_pw (pgw_or (t_cmp (oc_lt x.toXB) (g_bi (bf_len x.toXB) (He.free_ok KX G (c.fact 2 (f := .free "len") rfl)) (g_cons (g_var 3 (.inl rfl)) pga_nil)) (g_int)) (pgw_or (t_cmp (oc_gt x.toXB) (g_bi (bf_len x.toXB) (He.free_ok KX G (c.fact 2 (f := .free "len") rfl)) (g_cons (g_var 3 (.inl rfl)) pga_nil)) (g_globI (He.int_ok KX G (c.fact 3 (f := .int "MOST" 40) rfl)))) (pw_or1 (t_cmp (oc_eq x.toXB) (g_bin (ob_mod x.toXB) (g_bi (bf_len x.toXB) (He.free_ok KX G (c.fact 2 (f := .free "len") rfl)) (g_cons (g_var 3 (.inl rfl)) pga_nil)) (g_int)) (g_int)))))) (gss_one (g_raise x b.tk (He.glo_ok KX G (c.fact 4 (f := .glo "BadSize") rfl)) (He.exc_ok (c.fact 5 (f := .exc "BadSize") rfl)))) (gss_nil)))) (gss_cons (gs_drop (g_call (R := R_ask_bits) (k := 1) (m := 1) (Fine.call (dd := d_ask_bits) (ok_ask_bits KX G c)) b.rm (by decide) b.tk (He.glo_ok KX G (c.fact 6 (f := .glo "ask_bits") rfl)) (g_cons (g_var 1 (.inl rfl)) pga_nil))) (gss_cons (gs_drop (g_call (R := R_ask_bits) (k := 1) (m := 1) (Fine.call (dd := d_ask_bits) (ok_ask_bits KX G c)) b.rm (by decide) b.tk (He.glo_ok KX G (c.fact 6 (f := .glo "ask_bits") rfl)) (g_cons (g_var 2 (.inl rfl)) pga_nil))) (gss_cons (gs_fld (i := 0) (fx := fxOne 21 0) (g_bi (bf_list x.toXB) (He.free_ok KX G (c.fact 7 (f := .free "list") rfl)) (g_cons (g_var 1 (.inl rfl)) pga_nil)) (fx_of rfl (by decide : ("upright" : Str) ∉ (cflds 21).take 0) (He.cls_ok (c.fact 8 (f := .cls "Ring") rfl)) (He.noat_ok (c.fact 9 (f := .noat "Ring" "upright") rfl)) (by decide)) (.inl rfl)) (gss_one (gs_fld (i := 0) (fx := fxOne 21 1) (g_bi (bf_list x.toXB) (He.free_ok KX G (c.fact 7 (f := .free "list") rfl)) (g_cons (g_var 2 (.inl rfl)) pga_nil)) (fx_of rfl (by decide : ("level" : Str) ∉ (cflds 21).take 1) (He.cls_ok (c.fact 8 (f := .cls "Ring") rfl)) (He.noat_ok (c.fact 10 (f := .noat "Ring" "level") rfl)) (by decide)) (.inl rfl))))))
theorem ok__law_ring (KX : K.In h) (G : h.Ns mainGlobals mg) (c : He.SaysD fa fn K) : Fine P w K mg base (th K) 4 d__law_ring 1 R__law_ring := by
  obtain ⟨fd, F⟩ := c.def_ 2 (d := d__law_ring) rfl
  refine ⟨fd, _, fn_ok F sc__law_ring rfl (fun cdv A outer s H E F0 B L b => ?_), F.bindsN (fun _ _ _ _ _ _ us hl => match us, hl with | [_], _ => rfl), F.kp⟩
  have x : XC (BX P w K mg base N__law_ring d__law_ring.qual d__law_ring.scope (He.fAd K d__law_ring.at_) cdv A outer s H E) ⟨th K, F0, B⟩ := ⟨⟨rfl, sc__law_ring.nd, u128 b.rm⟩, rfl⟩
  exact gss_one (gs_ret (g_make (R := R_Ring___init__) (k := 2) (m := 2) (cn := 21) (FineI.make (dd := d_Ring___init__) (ok_Ring___init__ KX G c) (He.mkr_ok (c.fact 11 (f := .mkr "Ring") rfl))) b.rm (by decide) b.tk (He.glo_ok KX G (c.fact 12 (f := .glo "Ring") rfl)) (g_cons (g_bi (bf_list x.toXB) (He.free_ok KX G (c.fact 7 (f := .free "list") rfl)) (g_cons (g_ix x.toXB (g_var 0 (.inl rfl)) (g_int)) pga_nil)) (g_cons (g_bi (bf_list x.toXB) (He.free_ok KX G (c.fact 7 (f := .free "list") rfl)) (g_cons (g_ix x.toXB (g_var 0 (.inl rfl)) (g_int)) pga_nil)) pga_nil))))
theorem ok_Ring_wide (KX : K.In h) (G : h.Ns mainGlobals mg) (c : He.SaysD fa fn K) : Fine P w K mg base (th K) 1 d_Ring_wide 1 R_Ring_wide := by
  obtain ⟨fd, F⟩ := c.def_ 3 (d := d_Ring_wide) rfl
  refine ⟨fd, _, fn_ok F sc_Ring_wide rfl (fun cdv A outer s H E F0 B L b => ?_), F.bindsN (fun _ _ _ _ _ _ us hl => match us, hl with | [_], _ => rfl), F.kp⟩
  have x : XC (BX P w K mg base N_Ring_wide d_Ring_wide.qual d_Ring_wide.scope (He.fAd K d_Ring_wide.at_) cdv A outer s H E) ⟨th K, F0, B⟩ := ⟨⟨rfl, sc_Ring_wide.nd, u128 b.rm⟩, rfl⟩
  exact gss_one (gs_ret (g_bi (bf_len x.toXB) (He.free_ok KX G (c.fact 2 (f := .free "len") rfl)) (g_cons (g_fld x.toXB (fldOk_of (l := [(21, 0)]) ⟨⟨(He.cls_ok (c.fact 8 (f := .cls "Ring") rfl)), (He.noat_ok (c.fact 9 (f := .noat "Ring" "upright") rfl)), rfl, (by decide : (cflds 21).Nodup)⟩, trivial⟩) (g_var 0 (.inl rfl))) pga_nil)))
theorem ok_Ring_tall (KX : K.In h) (G : h.Ns mainGlobals mg) (c : He.SaysD fa fn K) : Fine P w K mg base (th K) 1 d_Ring_tall 1 R_Ring_tall := by
  obtain ⟨fd, F⟩ := c.def_ 4 (d := d_Ring_tall) rfl
  refine ⟨fd, _, fn_ok F sc_Ring_tall rfl (fun cdv A outer s H E F0 B L b => ?_), F.bindsN (fun _ _ _ _ _ _ us hl => match us, hl with | [_], _ => rfl), F.kp⟩
  have x : XC (BX P w K mg base N_Ring_tall d_Ring_tall.qual d_Ring_tall.scope (He.fAd K d_Ring_tall.at_) cdv A outer s H E) ⟨th K, F0, B⟩ := ⟨⟨rfl, sc_Ring_tall.nd, u128 b.rm⟩, rfl⟩
  exact gss_one (gs_ret (g_bi (bf_len x.toXB) (He.free_ok KX G (c.fact 2 (f := .free "len") rfl)) (g_cons (g_fld x.toXB (fldOk_of (l := [(21, 1)]) ⟨⟨(He.cls_ok (c.fact 8 (f := .cls "Ring") rfl)), (He.noat_ok (c.fact 10 (f := .noat "Ring" "level") rfl)), rfl, (by decide : (cflds 21).Nodup)⟩, trivial⟩) (g_var 0 (.inl rfl))) pga_nil)))
theorem ok_Ring_cols (KX : K.In h) (G : h.Ns mainGlobals mg) (c : He.SaysD fa fn K) : Fine P w K mg base (th K) 1 d_Ring_cols 1 R_Ring_cols := by
  obtain ⟨fd, F⟩ := c.def_ 5 (d := d_Ring_cols) rfl
  refine ⟨fd, _, fn_ok F sc_Ring_cols rfl (fun cdv A outer s H E F0 B L b => ?_), F.bindsN (fun _ _ _ _ _ _ us hl => match us, hl with | [_], _ => rfl), F.kp⟩
  have x : XC (BX P w K mg base N_Ring_cols d_Ring_cols.qual d_Ring_cols.scope (He.fAd K d_Ring_cols.at_) cdv A outer s H E) ⟨th K, F0, B⟩ := ⟨⟨rfl, sc_Ring_cols.nd, u128 b.rm⟩, rfl⟩
  exact gss_one (gs_ret (g_bi (bf_list x.toXB) (He.free_ok KX G (c.fact 7 (f := .free "list") rfl)) (g_cons (g_fld x.toXB (fldOk_of (l := [(21, 0)]) ⟨⟨(He.cls_ok (c.fact 8 (f := .cls "Ring") rfl)), (He.noat_ok (c.fact 9 (f := .noat "Ring" "upright") rfl)), rfl, (by decide : (cflds 21).Nodup)⟩, trivial⟩) (g_var 0 (.inl rfl))) pga_nil)))
theorem ok_Ring_rows (KX : K.In h) (G : h.Ns mainGlobals mg) (c : He.SaysD fa fn K) : Fine P w K mg base (th K) 1 d_Ring_rows 1 R_Ring_rows := by
  obtain ⟨fd, F⟩ := c.def_ 6 (d := d_Ring_rows) rfl
  refine ⟨fd, _, fn_ok F sc_Ring_rows rfl (fun cdv A outer s H E F0 B L b => ?_), F.bindsN (fun _ _ _ _ _ _ us hl => match us, hl with | [_], _ => rfl), F.kp⟩
  have x : XC (BX P w K mg base N_Ring_rows d_Ring_rows.qual d_Ring_rows.scope (He.fAd K d_Ring_rows.at_) cdv A outer s H E) ⟨th K, F0, B⟩ := ⟨⟨rfl, sc_Ring_rows.nd, u128 b.rm⟩, rfl⟩
  exact gss_one (gs_ret (g_bi (bf_list x.toXB) (He.free_ok KX G (c.fact 7 (f := .free "list") rfl)) (g_cons (g_fld x.toXB (fldOk_of (l := [(21, 1)]) ⟨⟨(He.cls_ok (c.fact 8 (f := .cls "Ring") rfl)), (He.noat_ok (c.fact 10 (f := .noat "Ring" "level") rfl)), rfl, (by decide : (cflds 21).Nodup)⟩, trivial⟩) (g_var 0 (.inl rfl))) pga_nil)))
theorem ok_dyed (KX : K.In h) (G : h.Ns mainGlobals mg) (c : He.SaysD fa fn K) : Fine P w K mg base (th K) 2 d_dyed 1 R_dyed := by
  obtain ⟨fd, F⟩ := c.def_ 7 (d := d_dyed) rfl
  refine ⟨fd, _, fn_ok F sc_dyed rfl (fun cdv A outer s H E F0 B L b => ?_), F.bindsN (fun _ _ _ _ _ _ us hl => match us, hl with | [_], _ => rfl), F.kp⟩
  have x : XC (BX P w K mg base N_dyed d_dyed.qual d_dyed.scope (He.fAd K d_dyed.at_) cdv A outer s H E) ⟨th K, F0, B⟩ := ⟨⟨rfl, sc_dyed.nd, u128 b.rm⟩, rfl⟩
  exact gss_cons (gs_if (t_pw (pgw_or (t_cmp (oc_eq x.toXB) (g_bin (ob_mod x.toXB) (g_bi (bf_sum x) (He.free_ok KX G (c.fact 14 (f := .free "sum") rfl)) (g_cons (g_mt0 (l := [(21, R_Ring_cols)]) b.rm b.tk ⟨⟨_, (by decide), Fine.met (dd := d_Ring_cols) (k := 1) (ok_Ring_cols KX G c) (He.cls_ok (c.fact 8 (f := .cls "Ring") rfl)) (He.meth_ok (c.fact 13 (f := .meth "Ring" "cols") rfl)) (by decide : ("cols" : Str) ∉ cflds 21)⟩, trivial⟩ (g_var 0 (.inr (.inl rfl)))) pga_nil)) (g_int)) (g_int)) (pw_or1 (t_cmp (oc_eq x.toXB) (g_bin (ob_mod x.toXB) (g_bi (bf_sum x) (He.free_ok KX G (c.fact 14 (f := .free "sum") rfl)) (g_cons (g_mt0 (l := [(21, R_Ring_rows)]) b.rm b.tk ⟨⟨_, (by decide), Fine.met (dd := d_Ring_rows) (k := 1) (ok_Ring_rows KX G c) (He.cls_ok (c.fact 8 (f := .cls "Ring") rfl)) (He.meth_ok (c.fact 15 (f := .meth "Ring" "rows") rfl)) (by decide : ("rows" : Str) ∉ cflds 21)⟩, trivial⟩ (g_var 0 (.inr (.inl rfl)))) pga_nil)) (g_int)) (g_int))))) (gss_one (gs_ret (g_non))) (gss_nil)) (gss_cons (gs_set (own := true) (i := 1) x.nd (pg_lst (g_cons (g_int) pga_nil)) (.inr rfl)) (gss_cons (gs_for b.po x.calm (i_r2 (st := true) (He.free_ok KX G (c.fact 17 (f := .free "range") rfl)) (g_int) (g_mt0 (l := [(21, R_Ring_wide)]) b.rm b.tk ⟨⟨_, (by decide), Fine.met (dd := d_Ring_wide) (k := 1) (ok_Ring_wide KX G c) (He.cls_ok (c.fact 8 (f := .cls "Ring") rfl)) (He.meth_ok (c.fact 16 (f := .meth "Ring" "wide") rfl)) (by decide : ("wide" : Str) ∉ cflds 21)⟩, trivial⟩ (g_var 0 (.inr (.inl rfl))))) (t_name x.toXB 2 (.inl rfl) (.inl rfl)) (gss_one (gs_append (i := 1) (g_bin (ob_mod x.toXB) (g_bin (ob_add x.toXB) (g_ix x.toXB (g_var 1 (.inr (.inl rfl))) (pg_neg (g_int))) (g_ix x.toXB (g_mt0 (l := [(21, R_Ring_cols)]) b.rm b.tk ⟨⟨_, (by decide), Fine.met (dd := d_Ring_cols) (k := 1) (ok_Ring_cols KX G c) (He.cls_ok (c.fact 8 (f := .cls "Ring") rfl)) (He.meth_ok (c.fact 13 (f := .meth "Ring" "cols") rfl)) (by decide : ("cols" : Str) ∉ cflds 21)⟩, trivial⟩ (g_var 0 (.inr (.inl rfl)))) (g_var 2 (.inl rfl)))) (g_int)) (.inr rfl)))) (gss_cons (gs_set (own := true) (i := 3) x.nd (pg_lst (g_cons (g_int) pga_nil)) (.inr rfl)) (gss_cons (gs_for b.po x.calm (i_r2 (st := true) (He.free_ok KX G (c.fact 17 (f := .free "range") rfl)) (g_int) (g_mt0 (l := [(21, R_Ring_tall)]) b.rm b.tk ⟨⟨_, (by decide), Fine.met (dd := d_Ring_tall) (k := 1) (ok_Ring_tall KX G c) (He.cls_ok (c.fact 8 (f := .cls "Ring") rfl)) (He.meth_ok (c.fact 18 (f := .meth "Ring" "tall") rfl)) (by decide : ("tall" : Str) ∉ cflds 21)⟩, trivial⟩ (g_var 0 (.inr (.inl rfl))))) (t_name x.toXB 4 (.inl rfl) (.inl rfl)) (gss_one (gs_append (i := 3) (g_bin (ob_mod x.toXB) (g_bin (ob_add x.toXB) (g_ix x.toXB (g_var 3 (.inr (.inl rfl))) (pg_neg (g_int))) (g_ix x.toXB (g_mt0 (l := [(21, R_Ring_rows)]) b.rm b.tk ⟨⟨_, (by decide), Fine.met (dd := d_Ring_rows) (k := 1) (ok_Ring_rows KX G c) (He.cls_ok (c.fact 8 (f := .cls "Ring") rfl)) (He.meth_ok (c.fact 15 (f := .meth "Ring" "rows") rfl)) (by decide : ("rows" : Str) ∉ cflds 21)⟩, trivial⟩ (g_var 0 (.inr (.inl rfl)))) (g_var 4 (.inl rfl)))) (g_int)) (.inr rfl)))) (gss_one (gs_ret (pg_lcF (own := [("y", 4)]) (by decide) x.calm x.nd (i_r1 (st := false) (He.free_ok KX G (c.fact 17 (f := .free "range") rfl)) (g_mt0 (l := [(21, R_Ring_tall)]) b.rm b.tk ⟨⟨_, (by decide), Fine.met (dd := d_Ring_tall) (k := 1) (ok_Ring_tall KX G c) (He.cls_ok (c.fact 8 (f := .cls "Ring") rfl)) (He.meth_ok (c.fact 18 (f := .meth "Ring" "tall") rfl)) (by decide : ("tall" : Str) ∉ cflds 21)⟩, trivial⟩ (g_var 0 (.inr (.inl rfl))))) (blkOk_by (N := N_dyed) (sc := defScope st_dyed) (by decide +kernel)) (fun _ _ _ _ _ => t_name x.blk.toXB 4 (.inr rfl) (.inl rfl)) (fun _ _ _ _ _ => pgts_nil) (fun _ _ _ _ _ => pg_lc (own := [("x", 2)]) (by decide) x.blk.calm x.blk.nd (i_r1 (st := false) (He.free_ok KX G (c.fact 17 (f := .free "range") rfl)) (g_mt0 (l := [(21, R_Ring_wide)]) b.rm takes_WF ⟨⟨_, (by decide), Fine.met (dd := d_Ring_wide) (k := 1) (ok_Ring_wide KX G c) (He.cls_ok (c.fact 8 (f := .cls "Ring") rfl)) (He.meth_ok (c.fact 16 (f := .meth "Ring" "wide") rfl)) (by decide : ("wide" : Str) ∉ cflds 21)⟩, trivial⟩ (g_var 0 (by first | exact .inr (.inl rfl) | exact .inr (.inr rfl))))) (blkOk_by (by rfl)) (fun _ _ _ _ _ => t_name x.blk.blk.toXB 2 (.inl rfl) (.inr rfl)) (fun _ _ _ _ _ => pgts_nil) (fun _ _ _ _ _ => g_bin (ob_mod x.blk.blk.toXB) (g_bin (ob_add x.blk.blk.toXB) (g_bin (ob_add x.blk.blk.toXB) (g_ix x.blk.blk.toXB (g_var 1 (by first | exact .inr (.inl rfl) | exact .inr (.inr rfl))) (g_var 2 (.inl rfl))) (g_ix x.blk.blk.toXB (g_var 3 (by first | exact .inr (.inl rfl) | exact .inr (.inr rfl))) (g_var 4 (by first | exact .inr (.inl rfl) | exact .inr (.inr rfl))))) (g_bin (ob_mul x.blk.blk.toXB) (g_var 2 (.inl rfl)) (g_var 4 (by first | exact .inr (.inl rfl) | exact .inr (.inr rfl))))) (g_int)) (fun _ => rfl)) (fun _ => rfl))))))))
theorem okP_dyed (KX : K.In h) (G : h.Ns mainGlobals mg) (c : He.SaysD fa fn K) : FineT P w K mg base (th K) 2 d_dyed 1 2 Q_dyed := by
  obtain ⟨fd, F⟩ := c.def_ 7 (d := d_dyed) rfl
  refine ⟨fd, _, fnP_ok F sc_dyed rfl (fun cdv A outer s H E F0 B L b => ?_), F.bindsN (fun _ _ _ _ _ _ us hl => match us, hl with | [_], _ => rfl), F.kp⟩
  have x : XC (BX P w K mg base N_dyed d_dyed.qual d_dyed.scope (He.fAd K d_dyed.at_) cdv A outer s H E) ⟨th K, F0, B⟩ := ⟨⟨rfl, sc_dyed.nd, u128 b.rm⟩, rfl⟩
  exact gss_cons (gs_if (t_pw (pgw_or (t_cmp (oc_eq x.toXB) (g_bin (ob_mod x.toXB) (g_bi (bf_sum x) (He.free_ok KX G (c.fact 14 (f := .free "sum") rfl)) (g_cons (g_mt0 (l := [(21, R_Ring_cols)]) b.rm b.tk ⟨⟨_, (by decide), Fine.met (dd := d_Ring_cols) (k := 1) (ok_Ring_cols KX G c) (He.cls_ok (c.fact 8 (f := .cls "Ring") rfl)) (He.meth_ok (c.fact 13 (f := .meth "Ring" "cols") rfl)) (by decide : ("cols" : Str) ∉ cflds 21)⟩, trivial⟩ (g_var 0 (.inr (.inl rfl)))) pga_nil)) (g_int)) (g_int)) (pw_or1 (t_cmp (oc_eq x.toXB) (g_bin (ob_mod x.toXB) (g_bi (bf_sum x) (He.free_ok KX G (c.fact 14 (f := .free "sum") rfl)) (g_cons (g_mt0 (l := [(21, R_Ring_rows)]) b.rm b.tk ⟨⟨_, (by decide), Fine.met (dd := d_Ring_rows) (k := 1) (ok_Ring_rows KX G c) (He.cls_ok (c.fact 8 (f := .cls "Ring") rfl)) (He.meth_ok (c.fact 15 (f := .meth "Ring" "rows") rfl)) (by decide : ("rows" : Str) ∉ cflds 21)⟩, trivial⟩ (g_var 0 (.inr (.inl rfl)))) pga_nil)) (g_int)) (g_int))))) (gss_one (gs_ret (g_non))) (gss_nil)) (gss_cons (gs_set (own := true) (i := 1) x.nd (pg_lst (g_cons (g_int) pga_nil)) (.inr rfl)) (gss_cons (gs_for b.po x.calm (i_r2 (st := true) (He.free_ok KX G (c.fact 17 (f := .free "range") rfl)) (g_int) (g_mt0 (l := [(21, R_Ring_wide)]) b.rm b.tk ⟨⟨_, (by decide), Fine.met (dd := d_Ring_wide) (k := 1) (ok_Ring_wide KX G c) (He.cls_ok (c.fact 8 (f := .cls "Ring") rfl)) (He.meth_ok (c.fact 16 (f := .meth "Ring" "wide") rfl)) (by decide : ("wide" : Str) ∉ cflds 21)⟩, trivial⟩ (g_var 0 (.inr (.inl rfl))))) (t_name x.toXB 2 (.inl rfl) (.inl rfl)) (gss_one (gs_append (i := 1) (g_bin (ob_mod x.toXB) (g_bin (ob_add x.toXB) (g_ix x.toXB (g_var 1 (.inr (.inl rfl))) (pg_neg (g_int))) (g_ix x.toXB (g_mt0 (l := [(21, R_Ring_cols)]) b.rm b.tk ⟨⟨_, (by decide), Fine.met (dd := d_Ring_cols) (k := 1) (ok_Ring_cols KX G c) (He.cls_ok (c.fact 8 (f := .cls "Ring") rfl)) (He.meth_ok (c.fact 13 (f := .meth "Ring" "cols") rfl)) (by decide : ("cols" : Str) ∉ cflds 21)⟩, trivial⟩ (g_var 0 (.inr (.inl rfl)))) (g_var 2 (.inl rfl)))) (g_int)) (.inr rfl)))) (gss_cons (gs_set (own := true) (i := 3) x.nd (pg_lst (g_cons (g_int) pga_nil)) (.inr rfl)) (gss_cons (gs_for b.po x.calm (i_r2 (st := true) (He.free_ok KX G (c.fact 17 (f := .free "range") rfl)) (g_int) (g_mt0 (l := [(21, R_Ring_tall)]) b.rm b.tk ⟨⟨_, (by decide), Fine.met (dd := d_Ring_tall) (k := 1) (ok_Ring_tall KX G c) (He.cls_ok (c.fact 8 (f := .cls "Ring") rfl)) (He.meth_ok (c.fact 18 (f := .meth "Ring" "tall") rfl)) (by decide : ("tall" : Str) ∉ cflds 21)⟩, trivial⟩ (g_var 0 (.inr (.inl rfl))))) (t_name x.toXB 4 (.inl rfl) (.inl rfl)) (gss_one (gs_append (i := 3) (g_bin (ob_mod x.toXB) (g_bin (ob_add x.toXB) (g_ix x.toXB (g_var 3 (.inr (.inl rfl))) (pg_neg (g_int))) (g_ix x.toXB (g_mt0 (l := [(21, R_Ring_rows)]) b.rm b.tk ⟨⟨_, (by decide), Fine.met (dd := d_Ring_rows) (k := 1) (ok_Ring_rows KX G c) (He.cls_ok (c.fact 8 (f := .cls "Ring") rfl)) (He.meth_ok (c.fact 15 (f := .meth "Ring" "rows") rfl)) (by decide : ("rows" : Str) ∉ cflds 21)⟩, trivial⟩ (g_var 0 (.inr (.inl rfl)))) (g_var 4 (.inl rfl)))) (g_int)) (.inr rfl)))) (gss_one (gs_ret (pg_lcF (own := [("y", 4)]) (by decide) x.calm x.nd (i_r1 (st := false) (He.free_ok KX G (c.fact 17 (f := .free "range") rfl)) (g_mt0 (l := [(21, R_Ring_tall)]) b.rm b.tk ⟨⟨_, (by decide), Fine.met (dd := d_Ring_tall) (k := 1) (ok_Ring_tall KX G c) (He.cls_ok (c.fact 8 (f := .cls "Ring") rfl)) (He.meth_ok (c.fact 18 (f := .meth "Ring" "tall") rfl)) (by decide : ("tall" : Str) ∉ cflds 21)⟩, trivial⟩ (g_var 0 (.inr (.inl rfl))))) (blkOk_by (N := N_dyed) (sc := defScope st_dyed) (by decide +kernel)) (fun _ _ _ _ _ => t_name x.blk.toXB 4 (.inr rfl) (.inl rfl)) (fun _ _ _ _ _ => pgts_nil) (fun _ _ _ _ _ => pg_lc (own := [("x", 2)]) (by decide) x.blk.calm x.blk.nd (i_r1 (st := false) (He.free_ok KX G (c.fact 17 (f := .free "range") rfl)) (g_mt0 (l := [(21, R_Ring_wide)]) b.rm takes_WF ⟨⟨_, (by decide), Fine.met (dd := d_Ring_wide) (k := 1) (ok_Ring_wide KX G c) (He.cls_ok (c.fact 8 (f := .cls "Ring") rfl)) (He.meth_ok (c.fact 16 (f := .meth "Ring" "wide") rfl)) (by decide : ("wide" : Str) ∉ cflds 21)⟩, trivial⟩ (g_var 0 (by first | exact .inr (.inl rfl) | exact .inr (.inr rfl))))) (blkOk_by (by rfl)) (fun _ _ _ _ _ => t_name x.blk.blk.toXB 2 (.inl rfl) (.inr rfl)) (fun _ _ _ _ _ => pgts_nil) (fun _ _ _ _ _ => g_bin (ob_mod x.blk.blk.toXB) (g_bin (ob_add x.blk.blk.toXB) (g_bin (ob_add x.blk.blk.toXB) (g_ix x.blk.blk.toXB (g_var 1 (by first | exact .inr (.inl rfl) | exact .inr (.inr rfl))) (g_var 2 (.inl rfl))) (g_ix x.blk.blk.toXB (g_var 3 (by first | exact .inr (.inl rfl) | exact .inr (.inr rfl))) (g_var 4 (by first | exact .inr (.inl rfl) | exact .inr (.inr rfl))))) (g_bin (ob_mul x.blk.blk.toXB) (g_var 2 (.inl rfl)) (g_var 4 (by first | exact .inr (.inl rfl) | exact .inr (.inr rfl))))) (g_int)) (fun _ => rfl)) (fun _ => rfl))))))))
theorem okn__law_same (KX : K.In h) (G : h.Ns mainGlobals mg) (c : He.SaysD fa fn K) : ∀ n : Nat, Fine P w K mg base (th K) (1 + n) d__law_same 2 (RR__law_same n)
  | 0 => by
    obtain ⟨fd, F⟩ := c.def_ 8 (d := d__law_same) rfl
    exact ⟨fd, _, fn_ok (u := fun _ => .no) (k := 0) F sc__law_same rfl (fun cdv A outer s H E F0 B L b => pss_no), F.bindsN (fun _ _ _ _ _ _ us hl => match us, hl with | [_, _], _ => rfl), F.kp⟩
  | n + 1 => by
    have ih := okn__law_same KX G c n
    obtain ⟨fd, F⟩ := c.def_ 8 (d := d__law_same) rfl
    show Fine P w K mg base (th K) (1 + n + 1) d__law_same 2 (denF N__law_same.length (S__law_same (RR__law_same n)))
    refine ⟨fd, _, fn_ok (u := S__law_same (RR__law_same n)) (k := 1 + n) F sc__law_same rfl (fun cdv A outer s H E F0 B L b => ?_), F.bindsN (fun _ _ _ _ _ _ us hl => match us, hl with | [_, _], _ => rfl), F.kp⟩
    have x : XC (BX P w K mg base N__law_same d__law_same.qual d__law_same.scope (He.fAd K d__law_same.at_) cdv A outer s H E) ⟨th K, F0, B⟩ := ⟨⟨rfl, sc__law_same.nd, u128 b.rm⟩, rfl⟩
    exact gss_cons (gs_if (t_pw (pgw_or (t_cmp (oc_ne x.toXB) (g_isi (S := "bool") x.toXB (He.free_ok KX G (c.fact 19 (f := .free "isinstance") rfl)) (He.free_ok KX G (c.fact 20 (f := .free "bool") rfl)) (by decide +kernel) (g_var 0 (.inl rfl))) (g_isi (S := "bool") x.toXB (He.free_ok KX G (c.fact 19 (f := .free "isinstance") rfl)) (He.free_ok KX G (c.fact 20 (f := .free "bool") rfl)) (by decide +kernel) (g_var 1 (.inl rfl)))) (pw_or1 (t_cmp (oc_ne x.toXB) (g_isi (S := "int") x.toXB (He.free_ok KX G (c.fact 19 (f := .free "isinstance") rfl)) (He.free_ok KX G (c.fact 21 (f := .free "int") rfl)) (by decide +kernel) (g_var 0 (.inl rfl))) (g_isi (S := "int") x.toXB (He.free_ok KX G (c.fact 19 (f := .free "isinstance") rfl)) (He.free_ok KX G (c.fact 21 (f := .free "int") rfl)) (by decide +kernel) (g_var 1 (.inl rfl))))))) (gss_one (gs_ret (g_bl))) (gss_nil)) (gss_cons (gs_if (t_pw (pgw_or (t_cmp (oc_ne x.toXB) (g_isi (S := "list") x.toXB (He.free_ok KX G (c.fact 19 (f := .free "isinstance") rfl)) (He.free_ok KX G (c.fact 7 (f := .free "list") rfl)) (by decide +kernel) (g_var 0 (.inl rfl))) (g_isi (S := "list") x.toXB (He.free_ok KX G (c.fact 19 (f := .free "isinstance") rfl)) (He.free_ok KX G (c.fact 7 (f := .free "list") rfl)) (by decide +kernel) (g_var 1 (.inl rfl)))) (pw_or1 (t_cmp (oc_ne x.toXB) (g_isi (S := "tuple") x.toXB (He.free_ok KX G (c.fact 19 (f := .free "isinstance") rfl)) (He.free_ok KX G (c.fact 22 (f := .free "tuple") rfl)) (by decide +kernel) (g_var 0 (.inl rfl))) (g_isi (S := "tuple") x.toXB (He.free_ok KX G (c.fact 19 (f := .free "isinstance") rfl)) (He.free_ok KX G (c.fact 22 (f := .free "tuple") rfl)) (by decide +kernel) (g_var 1 (.inl rfl))))))) (gss_one (gs_ret (g_bl))) (gss_nil)) (gss_cons (gs_if (t_pw (pgw_and (pgt_not (t_tru x.toXB (g_isi (S := "list") x.toXB (He.free_ok KX G (c.fact 19 (f := .free "isinstance") rfl)) (He.free_ok KX G (c.fact 7 (f := .free "list") rfl)) (by decide +kernel) (g_var 1 (.inl rfl))))) (pw_and1 (pgt_not (t_tru x.toXB (g_isi (S := "tuple") x.toXB (He.free_ok KX G (c.fact 19 (f := .free "isinstance") rfl)) (He.free_ok KX G (c.fact 22 (f := .free "tuple") rfl)) (by decide +kernel) (g_var 1 (.inl rfl)))))))) (gss_one (gs_ret (pg_and (g_cmp (oc_eq x.toXB) (g_isi (S := "str") x.toXB (He.free_ok KX G (c.fact 19 (f := .free "isinstance") rfl)) (He.free_ok KX G (c.fact 23 (f := .free "str") rfl)) (by decide +kernel) (g_var 0 (.inl rfl))) (g_isi (S := "str") x.toXB (He.free_ok KX G (c.fact 19 (f := .free "isinstance") rfl)) (He.free_ok KX G (c.fact 23 (f := .free "str") rfl)) (by decide +kernel) (g_var 1 (.inl rfl)))) (pe_one (g_cmp (oc_eq x.toXB) (g_var 0 (.inl rfl)) (g_var 1 (.inl rfl))))))) (gss_nil)) (gss_one (gs_ret (pg_and (g_cmp (oc_eq x.toXB) (g_bi (bf_len x.toXB) (He.free_ok KX G (c.fact 2 (f := .free "len") rfl)) (g_cons (g_var 0 (.inl rfl)) pga_nil)) (g_bi (bf_len x.toXB) (He.free_ok KX G (c.fact 2 (f := .free "len") rfl)) (g_cons (g_var 1 (.inl rfl)) pga_nil))) (pe_one (g_bi (bf_all x) (He.free_ok KX G (c.fact 26 (f := .free "all") rfl)) (g_cons (pg_lc (own := [("_law_one", 2), ("_law_other", 3)]) (by decide) x.calm x.nd (i_zip (st := false) x.toXB (He.free_ok KX G (c.fact 24 (f := .free "zip") rfl)) (g_var 0 (.inl rfl)) (g_var 1 (.inl rfl))) (blkOk_by (N := N__law_same) (sc := defScope st__law_same) (by decide +kernel)) (fun _ _ _ _ _ => t_tup x.blk (ts_cons (t_name x.blk.toXB 2 (.inl rfl) (.inr rfl)) (ts_cons (t_name x.blk.toXB 3 (.inl rfl) (.inr rfl)) ggs_nil))) (fun _ _ _ _ _ => pgts_nil) (fun _ _ _ _ _ => g_call (R := RR__law_same n) (k := 1 + n) (m := 2) (Fine.call (dd := d__law_same) ih) b.rm (by omega) takes_WF (He.glo_ok KX G (c.fact 25 (f := .glo "_law_same") rfl)) (g_cons (g_var 2 (.inl rfl)) (g_cons (g_var 3 (.inl rfl)) pga_nil))) (fun _ => rfl)) pga_nil))))))))
theorem ok__law_same (KX : K.In h) (G : h.Ns mainGlobals mg) (c : He.SaysD fa fn K) : Fine P w K mg base (th K) 7 d__law_same 2 R__law_same := okn__law_same KX G c 6
theorem ok_Ring_stitched (KX : K.In h) (G : h.Ns mainGlobals mg) (c : He.SaysD fa fn K) : Fine P w K mg base (th K) 2 d_Ring_stitched 4 R_Ring_stitched := by
  obtain ⟨fd, F⟩ := c.def_ 9 (d := d_Ring_stitched) rfl
  refine ⟨fd, _, fn_ok F sc_Ring_stitched rfl (fun cdv A outer s H E F0 B L b => ?_), F.bindsN (fun _ _ _ _ _ _ us hl => match us, hl with | [_, _, _, _], _ => rfl), F.kp⟩
  have x : XC (BX P w K mg base N_Ring_stitched d_Ring_stitched.qual d_Ring_stitched.scope (He.fAd K d_Ring_stitched.at_) cdv A outer s H E) ⟨th K, F0, B⟩ := ⟨⟨rfl, sc_Ring_stitched.nd, u128 b.rm⟩, rfl⟩
  exact gss_cons (gs_if (t_pw (pgw_and (t_cmp (oc_ne x.toXB) (g_var 1 (.inl rfl)) (g_str)) (pw_and1 (t_cmp (oc_ne x.toXB) (g_var 1 (.inl rfl)) (g_str))))) (gss_one (g_raise x b.tk (He.glo_ok KX G (c.fact 27 (f := .glo "NoLine") rfl)) (He.exc_ok (c.fact 28 (f := .exc "NoLine") rfl)))) (gss_nil)) (gss_cons (gs_par (o1 := false) (o2 := false) (i := 4) (j := 5) x.calm x.nd (by decide) (g_fld x.toXB (fldOk_of (l := [(21, 1)]) ⟨⟨(He.cls_ok (c.fact 8 (f := .cls "Ring") rfl)), (He.noat_ok (c.fact 10 (f := .noat "Ring" "level") rfl)), rfl, (by decide : (cflds 21).Nodup)⟩, trivial⟩) (g_var 0 (.inl rfl))) (g_mt0 (l := [(21, R_Ring_wide)]) b.rm b.tk ⟨⟨_, (by decide), Fine.met (dd := d_Ring_wide) (k := 1) (ok_Ring_wide KX G c) (He.cls_ok (c.fact 8 (f := .cls "Ring") rfl)) (He.meth_ok (c.fact 16 (f := .meth "Ring" "wide") rfl)) (by decide : ("wide" : Str) ∉ cflds 21)⟩, trivial⟩ (g_var 0 (.inl rfl))) rfl) (gss_cons (gs_if (t_cmp (oc_eq x.toXB) (g_var 1 (.inl rfl)) (g_str)) (gss_one (gs_par (o1 := false) (o2 := false) (i := 4) (j := 5) x.calm x.nd (by decide) (g_fld x.toXB (fldOk_of (l := [(21, 0)]) ⟨⟨(He.cls_ok (c.fact 8 (f := .cls "Ring") rfl)), (He.noat_ok (c.fact 9 (f := .noat "Ring" "upright") rfl)), rfl, (by decide : (cflds 21).Nodup)⟩, trivial⟩) (g_var 0 (.inl rfl))) (g_mt0 (l := [(21, R_Ring_tall)]) b.rm b.tk ⟨⟨_, (by decide), Fine.met (dd := d_Ring_tall) (k := 1) (ok_Ring_tall KX G c) (He.cls_ok (c.fact 8 (f := .cls "Ring") rfl)) (He.meth_ok (c.fact 18 (f := .meth "Ring" "tall") rfl)) (by decide : ("tall" : Str) ∉ cflds 21)⟩, trivial⟩ (g_var 0 (.inl rfl))) rfl)) (gss_nil)) (gss_cons (gs_if (t_pw (pgw_or (t_cmp (oc_lt x.toXB) (g_var 2 (.inl rfl)) (g_int)) (pw_or1 (t_cmp (oc_ge x.toXB) (g_var 2 (.inl rfl)) (g_bi (bf_len x.toXB) (He.free_ok KX G (c.fact 2 (f := .free "len") rfl)) (g_cons (g_var 4 (.inl rfl)) pga_nil)))))) (gss_one (g_raise x b.tk (He.glo_ok KX G (c.fact 27 (f := .glo "NoLine") rfl)) (He.exc_ok (c.fact 28 (f := .exc "NoLine") rfl)))) (gss_nil)) (gss_cons (gs_if (t_pw (pgw_or (t_cmp (oc_lt x.toXB) (g_var 3 (.inl rfl)) (g_int)) (pw_or1 (t_cmp (oc_ge x.toXB) (g_var 3 (.inl rfl)) (g_var 5 (.inl rfl)))))) (gss_one (g_raise x b.tk (He.glo_ok KX G (c.fact 29 (f := .glo "NoStep") rfl)) (He.exc_ok (c.fact 30 (f := .exc "NoStep") rfl)))) (gss_nil)) (gss_one (gs_ret (g_cmp (oc_eq x.toXB) (g_bin (ob_mod x.toXB) (g_bin (ob_add x.toXB) (g_var 3 (.inl rfl)) (g_ix x.toXB (g_var 4 (.inl rfl)) (g_var 2 (.inl rfl)))) (g_int)) (g_int))))))))
theorem ok__law_fits (KX : K.In h) (G : h.Ns mainGlobals mg) (c : He.SaysD fa fn K) : Fine P w K mg base (th K) 8 d__law_fits 2 R__law_fits := by
  obtain ⟨fd, F⟩ := c.def_ 10 (d := d__law_fits) rfl
  refine ⟨fd, _, fn_ok F sc__law_fits rfl (fun cdv A outer s H E F0 B L b => ?_), F.bindsN (fun _ _ _ _ _ _ us hl => match us, hl with | [_, _], _ => rfl), F.kp⟩
  have x : XC (BX P w K mg base N__law_fits d__law_fits.qual d__law_fits.scope (He.fAd K d__law_fits.at_) cdv A outer s H E) ⟨th K, F0, B⟩ := ⟨⟨rfl, sc__law_fits.nd, u128 b.rm⟩, rfl⟩
  exact gss_cons (gs_if (t_pw (pgw_or (pgt_not (t_tru x.toXB (g_isi (S := "list") x.toXB (He.free_ok KX G (c.fact 19 (f := .free "isinstance") rfl)) (He.free_ok KX G (c.fact 7 (f := .free "list") rfl)) (by decide +kernel) (g_var 1 (.inl rfl))))) (pgw_or (t_cmp (oc_ne x.toXB) (g_bi (bf_len x.toXB) (He.free_ok KX G (c.fact 2 (f := .free "len") rfl)) (g_cons (g_var 1 (.inl rfl)) pga_nil)) (g_mt0 (l := [(21, R_Ring_tall)]) b.rm b.tk ⟨⟨_, (by decide), Fine.met (dd := d_Ring_tall) (k := 1) (ok_Ring_tall KX G c) (He.cls_ok (c.fact 8 (f := .cls "Ring") rfl)) (He.meth_ok (c.fact 18 (f := .meth "Ring" "tall") rfl)) (by decide : ("tall" : Str) ∉ cflds 21)⟩, trivial⟩ (g_var 0 (.inl rfl)))) (pw_or1 (pgt_not (t_tru x.toXB (g_call (R := R__law_same) (k := 7) (m := 2) (Fine.call (dd := d__law_same) (ok__law_same KX G c)) b.rm (by decide) b.tk (He.glo_ok KX G (c.fact 25 (f := .glo "_law_same") rfl)) (g_cons (g_ix x.toXB (g_ix x.toXB (g_var 1 (.inl rfl)) (g_int)) (g_int)) (g_cons (g_int) pga_nil))))))))) (gss_one (gs_ret (g_bl))) (gss_nil)) (gss_cons (gs_for b.po x.calm (i_r1 (st := true) (He.free_ok KX G (c.fact 17 (f := .free "range") rfl)) (g_mt0 (l := [(21, R_Ring_tall)]) b.rm b.tk ⟨⟨_, (by decide), Fine.met (dd := d_Ring_tall) (k := 1) (ok_Ring_tall KX G c) (He.cls_ok (c.fact 8 (f := .cls "Ring") rfl)) (He.meth_ok (c.fact 18 (f := .meth "Ring" "tall") rfl)) (by decide : ("tall" : Str) ∉ cflds 21)⟩, trivial⟩ (g_var 0 (.inl rfl)))) (t_name x.toXB 2 (.inl rfl) (.inl rfl)) (gss_cons (gs_if (t_pw (pgw_or (pgt_not (t_tru x.toXB (g_isi (S := "list") x.toXB (He.free_ok KX G (c.fact 19 (f := .free "isinstance") rfl)) (He.free_ok KX G (c.fact 7 (f := .free "list") rfl)) (by decide +kernel) (g_ix x.toXB (g_var 1 (.inl rfl)) (g_var 2 (.inl rfl)))))) (pw_or1 (t_cmp (oc_ne x.toXB) (g_bi (bf_len x.toXB) (He.free_ok KX G (c.fact 2 (f := .free "len") rfl)) (g_cons (g_ix x.toXB (g_var 1 (.inl rfl)) (g_var 2 (.inl rfl))) pga_nil)) (g_mt0 (l := [(21, R_Ring_wide)]) b.rm b.tk ⟨⟨_, (by decide), Fine.met (dd := d_Ring_wide) (k := 1) (ok_Ring_wide KX G c) (He.cls_ok (c.fact 8 (f := .cls "Ring") rfl)) (He.meth_ok (c.fact 16 (f := .meth "Ring" "wide") rfl)) (by decide : ("wide" : Str) ∉ cflds 21)⟩, trivial⟩ (g_var 0 (.inl rfl))))))) (gss_one (gs_ret (g_bl))) (gss_nil)) (gss_one (gs_for b.po x.calm (i_r1 (st := true) (He.free_ok KX G (c.fact 17 (f := .free "range") rfl)) (g_mt0 (l := [(21, R_Ring_wide)]) b.rm b.tk ⟨⟨_, (by decide), Fine.met (dd := d_Ring_wide) (k := 1) (ok_Ring_wide KX G c) (He.cls_ok (c.fact 8 (f := .cls "Ring") rfl)) (He.meth_ok (c.fact 16 (f := .meth "Ring" "wide") rfl)) (by decide : ("wide" : Str) ∉ cflds 21)⟩, trivial⟩ (g_var 0 (.inl rfl)))) (t_name x.toXB 3 (.inl rfl) (.inl rfl)) (gss_cons (gs_if (t_pw (pgw_and (pgt_not (t_tru x.toXB (g_call (R := R__law_same) (k := 7) (m := 2) (Fine.call (dd := d__law_same) (ok__law_same KX G c)) b.rm (by decide) b.tk (He.glo_ok KX G (c.fact 25 (f := .glo "_law_same") rfl)) (g_cons (g_ix x.toXB (g_ix x.toXB (g_var 1 (.inl rfl)) (g_var 2 (.inl rfl))) (g_var 3 (.inl rfl))) (g_cons (g_int) pga_nil))))) (pw_and1 (pgt_not (t_tru x.toXB (g_call (R := R__law_same) (k := 7) (m := 2) (Fine.call (dd := d__law_same) (ok__law_same KX G c)) b.rm (by decide) b.tk (He.glo_ok KX G (c.fact 25 (f := .glo "_law_same") rfl)) (g_cons (g_ix x.toXB (g_ix x.toXB (g_var 1 (.inl rfl)) (g_var 2 (.inl rfl))) (g_var 3 (.inl rfl))) (g_cons (g_int) pga_nil)))))))) (gss_one (gs_ret (g_bl))) (gss_nil)) (gss_cons (gs_set (own := false) (i := 4) x.nd (g_bin (ob_mod x.toXB) (g_bin (ob_add x.toXB) (g_var 3 (.inl rfl)) (g_int)) (g_mt0 (l := [(21, R_Ring_wide)]) b.rm b.tk ⟨⟨_, (by decide), Fine.met (dd := d_Ring_wide) (k := 1) (ok_Ring_wide KX G c) (He.cls_ok (c.fact 8 (f := .cls "Ring") rfl)) (He.meth_ok (c.fact 16 (f := .meth "Ring" "wide") rfl)) (by decide : ("wide" : Str) ∉ cflds 21)⟩, trivial⟩ (g_var 0 (.inl rfl)))) (.inl rfl)) (gss_cons (gs_set (own := false) (i := 5) x.nd (g_bin (ob_mod x.toXB) (g_bin (ob_add x.toXB) (g_var 2 (.inl rfl)) (g_int)) (g_mt0 (l := [(21, R_Ring_tall)]) b.rm b.tk ⟨⟨_, (by decide), Fine.met (dd := d_Ring_tall) (k := 1) (ok_Ring_tall KX G c) (He.cls_ok (c.fact 8 (f := .cls "Ring") rfl)) (He.meth_ok (c.fact 18 (f := .meth "Ring" "tall") rfl)) (by decide : ("tall" : Str) ∉ cflds 21)⟩, trivial⟩ (g_var 0 (.inl rfl)))) (.inl rfl)) (gss_cons (gs_if (t_cmp (oc_ne x.toXB) (g_cmp (oc_ne x.toXB) (g_ix x.toXB (g_ix x.toXB (g_var 1 (.inl rfl)) (g_var 2 (.inl rfl))) (g_var 3 (.inl rfl))) (g_ix x.toXB (g_ix x.toXB (g_var 1 (.inl rfl)) (g_var 2 (.inl rfl))) (g_var 4 (.inl rfl)))) (g_mt (l := [(21, R_Ring_stitched)]) (n := 3) b.rm b.tk ⟨⟨_, (by decide), Fine.met (dd := d_Ring_stitched) (k := 2) (ok_Ring_stitched KX G c) (He.cls_ok (c.fact 8 (f := .cls "Ring") rfl)) (He.meth_ok (c.fact 31 (f := .meth "Ring" "stitched") rfl)) (by decide : ("stitched" : Str) ∉ cflds 21)⟩, trivial⟩ (g_var 0 (.inl rfl)) (g_cons (g_str) (g_cons (g_var 4 (.inl rfl)) (g_cons (g_var 2 (.inl rfl)) pga_nil))))) (gss_one (gs_ret (g_bl))) (gss_nil)) (gss_one (gs_if (t_cmp (oc_ne x.toXB) (g_cmp (oc_ne x.toXB) (g_ix x.toXB (g_ix x.toXB (g_var 1 (.inl rfl)) (g_var 2 (.inl rfl))) (g_var 3 (.inl rfl))) (g_ix x.toXB (g_ix x.toXB (g_var 1 (.inl rfl)) (g_var 5 (.inl rfl))) (g_var 3 (.inl rfl)))) (g_mt (l := [(21, R_Ring_stitched)]) (n := 3) b.rm b.tk ⟨⟨_, (by decide), Fine.met (dd := d_Ring_stitched) (k := 2) (ok_Ring_stitched KX G c) (He.cls_ok (c.fact 8 (f := .cls "Ring") rfl)) (He.meth_ok (c.fact 31 (f := .meth "Ring" "stitched") rfl)) (by decide : ("stitched" : Str) ∉ cflds 21)⟩, trivial⟩ (g_var 0 (.inl rfl)) (g_cons (g_str) (g_cons (g_var 5 (.inl rfl)) (g_cons (g_var 3 (.inl rfl)) pga_nil))))) (gss_one (gs_ret (g_bl))) (gss_nil))))))))))) (gss_one (gs_ret (g_bl))))
theorem ok__law_bits (KX : K.In h) (G : h.Ns mainGlobals mg) (c : He.SaysD fa fn K) : Fine P w K mg base (th K) 1 d__law_bits 2 R__law_bits := by
  obtain ⟨fd, F⟩ := c.def_ 11 (d := d__law_bits) rfl
  refine ⟨fd, _, fn_ok F sc__law_bits rfl (fun cdv A outer s H E F0 B L b => ?_), F.bindsN (fun _ _ _ _ _ _ us hl => match us, hl with | [_, _], _ => rfl), F.kp⟩
  have x : XC (BX P w K mg base N__law_bits d__law_bits.qual d__law_bits.scope (He.fAd K d__law_bits.at_) cdv A outer s H E) ⟨th K, F0, B⟩ := ⟨⟨rfl, sc__law_bits.nd, u128 b.rm⟩, rfl⟩
  exact gss_cons (gs_set (own := true) (i := 2) x.nd (pg_lst pga_nil) (.inl rfl)) (gss_cons (gs_for b.po x.calm (i_r1 (st := true) (He.free_ok KX G (c.fact 17 (f := .free "range") rfl)) (g_var 1 (.inl rfl))) (t_name x.toXB 3 (.inl rfl) (.inl rfl)) (gss_cons (gs_append (i := 2) (g_bin (ob_mod x.toXB) (g_var 0 (.inl rfl)) (g_int)) (.inl rfl)) (gss_one (gs_set (own := false) (i := 0) x.nd (g_bin (ob_div x.toXB) (g_var 0 (.inl rfl)) (g_int)) (.inl rfl))))) (gss_one (gs_ret (g_var 2 (.inl rfl)))))
theorem ok__law_row (KX : K.In h) (G : h.Ns mainGlobals mg) (c : He.SaysD fa fn K) : Fine P w K mg base (th K) 2 d__law_row 2 R__law_row := by
  obtain ⟨fd, F⟩ := c.def_ 12 (d := d__law_row) rfl
  refine ⟨fd, _, fn_ok F sc__law_row rfl (fun cdv A outer s H E F0 B L b => ?_), F.bindsN (fun _ _ _ _ _ _ us hl => match us, hl with | [_, _], _ => rfl), F.kp⟩
  have x : XC (BX P w K mg base N__law_row d__law_row.qual d__law_row.scope (He.fAd K d__law_row.at_) cdv A outer s H E) ⟨th K, F0, B⟩ := ⟨⟨rfl, sc__law_row.nd, u128 b.rm⟩, rfl⟩
  exact gss_cons (gs_set (own := false) (i := 2) x.nd (g_bin (ob_add x.toXB) (g_bin (ob_add x.toXB) (g_ix x.toXB (g_var 0 (.inr (.inl rfl))) (g_int)) (g_bin (ob_mul x.toXB) (g_int) (g_ix x.toXB (g_var 0 (.inr (.inl rfl))) (g_int)))) (g_bin (ob_mul x.toXB) (g_bin (ob_mul x.toXB) (g_int) (g_int)) (g_ix x.toXB (g_var 0 (.inr (.inl rfl))) (g_int)))) (.inl rfl)) (gss_cons (gs_if (t_cmp (oc_eq x.toXB) (g_bin (ob_mod x.toXB) (g_ix x.toXB (g_var 0 (.inr (.inl rfl))) (g_int)) (g_int)) (g_int)) (gss_one (gs_set (own := false) (i := 2) x.nd (pg_neg (g_bin (ob_mod x.toXB) (g_ix x.toXB (g_var 0 (.inr (.inl rfl))) (g_int)) (g_int))) (.inl rfl))) (gss_nil)) (gss_cons (gs_set (own := false) (i := 3) x.nd (g_call (R := R__law_bits) (k := 1) (m := 2) (Fine.call (dd := d__law_bits) (ok__law_bits KX G c)) b.rm (by decide) b.tk (He.glo_ok KX G (c.fact 32 (f := .glo "_law_bits") rfl)) (g_cons (g_var 2 (.inl rfl)) (g_cons (g_var 1 (.inl rfl)) pga_nil))) (.inr rfl)) (gss_cons (gs_if (t_cmp (oc_eq x.toXB) (g_bin (ob_mod x.toXB) (g_ix x.toXB (g_var 0 (.inr (.inl rfl))) (g_int)) (g_int)) (g_int)) (gss_one (gs_set (own := false) (i := 3) x.nd (pg_lc (own := [("_law_k", 4)]) (by decide) x.calm x.nd (i_r1 (st := false) (He.free_ok KX G (c.fact 17 (f := .free "range") rfl)) (g_var 1 (.inl rfl))) (blkOk_by (N := N__law_row) (sc := defScope st__law_row) (by decide +kernel)) (fun _ _ _ _ _ => t_name x.blk.toXB 4 (.inl rfl) (.inr rfl)) (fun _ _ _ _ _ => pgts_nil) (fun _ _ _ _ _ => g_ix x.blk.toXB (g_var 3 (by first | exact .inr (.inl rfl) | exact .inr (.inr rfl))) (g_bin (ob_mod x.blk.toXB) (g_var 4 (.inl rfl)) (g_bin (ob_add x.blk.toXB) (g_int) (g_bin (ob_mod x.blk.toXB) (g_ix x.blk.toXB (g_var 0 (by first | exact .inr (.inl rfl) | exact .inr (.inr rfl))) (g_int)) (g_int))))) (fun _ => rfl)) (.inr rfl))) (gss_nil)) (gss_one (gs_ret (g_var 3 (.inr (.inl rfl))))))))
theorem ok__law_loop (KX : K.In h) (G : h.Ns mainGlobals mg) (c : He.SaysD fa fn K) : Fine P w K mg base (th K) 3 d__law_loop 1 R__law_loop := by
  obtain ⟨fd, F⟩ := c.def_ 13 (d := d__law_loop) rfl
  refine ⟨fd, _, fn_ok F sc__law_loop rfl (fun cdv A outer s H E F0 B L b => ?_), F.bindsN (fun _ _ _ _ _ _ us hl => match us, hl with | [_], _ => rfl), F.kp⟩
  have x : XC (BX P w K mg base N__law_loop d__law_loop.qual d__law_loop.scope (He.fAd K d__law_loop.at_) cdv A outer s H E) ⟨th K, F0, B⟩ := ⟨⟨rfl, sc__law_loop.nd, u128 b.rm⟩, rfl⟩
  exact gss_cons (gs_set (own := false) (i := 1) x.nd (g_bin (ob_add x.toXB) (g_int) (g_bin (ob_mul x.toXB) (g_int) (g_bin (ob_mod x.toXB) (g_ix x.toXB (g_var 0 (.inl rfl)) (g_int)) (g_ix x.toXB (pg_lst (g_cons (g_int) (g_cons (g_int) (g_cons (g_int) (g_cons (g_int) (g_cons (g_int) pga_nil)))))) (g_bin (ob_mod x.toXB) (g_ix x.toXB (g_var 0 (.inl rfl)) (g_int)) (g_int)))))) (.inl rfl)) (gss_cons (gs_set (own := false) (i := 2) x.nd (g_bin (ob_add x.toXB) (g_int) (g_bin (ob_mul x.toXB) (g_int) (g_bin (ob_mod x.toXB) (g_ix x.toXB (g_var 0 (.inl rfl)) (g_int)) (g_ix x.toXB (pg_lst (g_cons (g_int) (g_cons (g_int) (g_cons (g_int) (g_cons (g_int) (g_cons (g_int) pga_nil)))))) (g_bin (ob_mod x.toXB) (g_ix x.toXB (g_var 0 (.inl rfl)) (g_int)) (g_int)))))) (.inl rfl)) (gss_one (gs_ret (pg_tup (g_cons (g_call (R := R__law_row) (k := 2) (m := 2) (Fine.call (dd := d__law_row) (ok__law_row KX G c)) b.rm (by decide) b.tk (He.glo_ok KX G (c.fact 33 (f := .glo "_law_row") rfl)) (g_cons (g_sl x.toXB (g_var 0 (.inl rfl)) (pgo_some (g_int)) pgo_none) (g_cons (g_var 1 (.inl rfl)) pga_nil))) (g_cons (g_call (R := R__law_row) (k := 2) (m := 2) (Fine.call (dd := d__law_row) (ok__law_row KX G c)) b.rm (by decide) b.tk (He.glo_ok KX G (c.fact 33 (f := .glo "_law_row") rfl)) (g_cons (g_sl x.toXB (g_var 0 (.inl rfl)) (pgo_some (g_int)) pgo_none) (g_cons (g_var 2 (.inl rfl)) pga_nil))) pga_nil))))))
theorem ok__law_draws (KX : K.In h) (G : h.Ns mainGlobals mg) (c : He.SaysD fa fn K) : Fine P w K mg base (th K) 1 d__law_draws 2 R__law_draws := by
  obtain ⟨fd, F⟩ := c.def_ 14 (d := d__law_draws) rfl
  refine ⟨fd, _, fn_ok F sc__law_draws rfl (fun cdv A outer s H E F0 B L b => ?_), F.bindsN (fun _ _ _ _ _ _ us hl => match us, hl with | [_, _], _ => rfl), F.kp⟩
  have x : XC (BX P w K mg base N__law_draws d__law_draws.qual d__law_draws.scope (He.fAd K d__law_draws.at_) cdv A outer s H E) ⟨th K, F0, B⟩ := ⟨⟨rfl, sc__law_draws.nd, u128 b.rm⟩, rfl⟩
  exact gss_cons (gs_set (own := true) (i := 2) x.nd (pg_lst pga_nil) (.inl rfl)) (gss_cons (gs_set (own := false) (i := 3) x.nd (g_int) (.inl rfl)) (gss_cons (gs_for b.po x.calm (i_list (st := true) x.toXB (g_var 0 (.inl rfl))) (t_name x.toXB 4 (.inl rfl) (.inl rfl)) (gss_cons (gs_set (own := false) (i := 3) x.nd (g_bin (ob_mod x.toXB) (g_bin (ob_add x.toXB) (g_bin (ob_mul x.toXB) (g_var 3 (.inl rfl)) (g_int)) (g_var 4 (.inl rfl))) (g_int)) (.inl rfl)) (gss_cons (gs_set (own := false) (i := 5) x.nd (g_bi (bf_abs x.toXB) (He.free_ok KX G (c.fact 34 (f := .free "abs") rfl)) (g_cons (g_var 4 (.inl rfl)) pga_nil)) (.inl rfl)) (gss_cons (gs_if (t_cmp (oc_lt x.toXB) (g_var 5 (.inl rfl)) (g_bin (ob_pow x.toXB) (g_int) (g_int))) (gss_cons (gs_append (i := 2) (g_var 4 (.inl rfl)) (.inl rfl)) (gss_one (gs_set (own := false) (i := 5) x.nd (g_int) (.inl rfl)))) (gss_nil)) (gss_one (gs_while b.po (t_pw (pgw_and (t_cmp (oc_gt x.toXB) (g_var 5 (.inl rfl)) (g_int)) (pw_and1 (t_cmp (oc_lt x.toXB) (g_bi (bf_len x.toXB) (He.free_ok KX G (c.fact 2 (f := .free "len") rfl)) (g_cons (g_var 2 (.inl rfl)) pga_nil)) (g_var 1 (.inl rfl)))))) (gss_cons (gs_append (i := 2) (g_bin (ob_mod x.toXB) (g_var 5 (.inl rfl)) (g_int)) (.inl rfl)) (gss_one (gs_set (own := false) (i := 5) x.nd (g_bin (ob_div x.toXB) (g_var 5 (.inl rfl)) (g_int)) (.inl rfl)))))))))) (gss_cons (gs_while b.po (t_cmp (oc_lt x.toXB) (g_bi (bf_len x.toXB) (He.free_ok KX G (c.fact 2 (f := .free "len") rfl)) (g_cons (g_var 2 (.inl rfl)) pga_nil)) (g_var 1 (.inl rfl))) (gss_cons (gs_set (own := false) (i := 3) x.nd (g_bin (ob_mod x.toXB) (g_bin (ob_add x.toXB) (g_bin (ob_mul x.toXB) (g_var 3 (.inl rfl)) (g_int)) (g_int)) (g_int)) (.inl rfl)) (gss_one (gs_append (i := 2) (g_bin (ob_mod x.toXB) (g_bin (ob_mul x.toXB) (g_var 3 (.inl rfl)) (g_var 3 (.inl rfl))) (g_int)) (.inl rfl))))) (gss_one (gs_ret (g_var 2 (.inl rfl)))))))
theorem ok_law (KX : K.In h) (G : h.Ns mainGlobals mg) (c : He.SaysD fa fn K) {fd : FuncData} (F : FunD K d_law.name d_law.qual d_law.params d_law.body d_law.scope [] [] (He.fAd K d_law.at_) fd) : FnOk P w K mg base (L2N.CX P w) 9 (He.fAd K d_law.at_) fd ["_law_script"] (spOf (th K) 1 R_law_k38) := by
  refine fn_ok F sc_law rfl (fun cdv A outer s H E F0 B L b => ?_)
  have x : XC (BX P w K mg base N_law d_law.qual d_law.scope (He.fAd K d_law.at_) cdv A outer s H E) ⟨th K, F0, B⟩ := ⟨⟨rfl, sc_law.nd, u128 b.rm⟩, rfl⟩
  exact gss_cons (gs_set (own := false) (i := 1) x.nd (g_call (R := R__law_ring) (k := 4) (m := 1) (Fine.call (dd := d__law_ring) (ok__law_ring KX G c)) b.rm (by decide) b.tk (He.glo_ok KX G (c.fact 37 (f := .glo "_law_ring") rfl)) (g_cons (g_call (R := R__law_loop) (k := 3) (m := 1) (Fine.call (dd := d__law_loop) (ok__law_loop KX G c)) b.rm (by decide) b.tk (He.glo_ok KX G (c.fact 36 (f := .glo "_law_loop") rfl)) (g_cons (g_call (R := R__law_draws) (k := 1) (m := 2) (Fine.call (dd := d__law_draws) (ok__law_draws KX G c)) b.rm (by decide) b.tk (He.glo_ok KX G (c.fact 35 (f := .glo "_law_draws") rfl)) (g_cons (g_var 0 (.inl rfl)) (g_cons (g_int) pga_nil))) pga_nil)) pga_nil)) (.inr rfl)) (gss_cons (gs_set (own := false) (i := 2) x.nd (g_bi (bf_sum x) (He.free_ok KX G (c.fact 14 (f := .free "sum") rfl)) (g_cons (pg_lc (own := [("_law_x", 5)]) (by decide) x.calm x.nd (i_r1 (st := false) (He.free_ok KX G (c.fact 17 (f := .free "range") rfl)) (g_mt0 (l := [(21, R_Ring_wide)]) b.rm b.tk ⟨⟨_, (by decide), Fine.met (dd := d_Ring_wide) (k := 1) (ok_Ring_wide KX G c) (He.cls_ok (c.fact 8 (f := .cls "Ring") rfl)) (He.meth_ok (c.fact 16 (f := .meth "Ring" "wide") rfl)) (by decide : ("wide" : Str) ∉ cflds 21)⟩, trivial⟩ (g_var 1 (.inr (.inl rfl))))) (blkOk_by (N := N_law) (sc := defScope st_law) (by decide +kernel)) (fun _ _ _ _ _ => t_name x.blk.toXB 5 (.inl rfl) (.inr rfl)) (fun _ _ _ _ _ => pgts_nil) (fun _ _ _ _ _ => g_bi (bf_int x.blk.toXB) (He.free_ok KX G (c.fact 21 (f := .free "int") rfl)) (g_cons (g_mt (l := [(21, R_Ring_stitched)]) (n := 3) b.rm takes_WF ⟨⟨_, (by decide), Fine.met (dd := d_Ring_stitched) (k := 2) (ok_Ring_stitched KX G c) (He.cls_ok (c.fact 8 (f := .cls "Ring") rfl)) (He.meth_ok (c.fact 31 (f := .meth "Ring" "stitched") rfl)) (by decide : ("stitched" : Str) ∉ cflds 21)⟩, trivial⟩ (g_var 1 (by first | exact .inr (.inl rfl) | exact .inr (.inr rfl))) (g_cons (g_str) (g_cons (g_var 5 (.inl rfl)) (g_cons (g_int) pga_nil)))) pga_nil)) (fun _ => rfl)) pga_nil)) (.inl rfl)) (gss_cons (gs_set (own := false) (i := 3) x.nd (g_bi (bf_sum x) (He.free_ok KX G (c.fact 14 (f := .free "sum") rfl)) (g_cons (pg_lc (own := [("_law_y", 6)]) (by decide) x.calm x.nd (i_r1 (st := false) (He.free_ok KX G (c.fact 17 (f := .free "range") rfl)) (g_mt0 (l := [(21, R_Ring_tall)]) b.rm b.tk ⟨⟨_, (by decide), Fine.met (dd := d_Ring_tall) (k := 1) (ok_Ring_tall KX G c) (He.cls_ok (c.fact 8 (f := .cls "Ring") rfl)) (He.meth_ok (c.fact 18 (f := .meth "Ring" "tall") rfl)) (by decide : ("tall" : Str) ∉ cflds 21)⟩, trivial⟩ (g_var 1 (.inr (.inl rfl))))) (blkOk_by (N := N_law) (sc := defScope st_law) (by decide +kernel)) (fun _ _ _ _ _ => t_name x.blk.toXB 6 (.inl rfl) (.inr rfl)) (fun _ _ _ _ _ => pgts_nil) (fun _ _ _ _ _ => g_bi (bf_int x.blk.toXB) (He.free_ok KX G (c.fact 21 (f := .free "int") rfl)) (g_cons (g_mt (l := [(21, R_Ring_stitched)]) (n := 3) b.rm takes_WF ⟨⟨_, (by decide), Fine.met (dd := d_Ring_stitched) (k := 2) (ok_Ring_stitched KX G c) (He.cls_ok (c.fact 8 (f := .cls "Ring") rfl)) (He.meth_ok (c.fact 31 (f := .meth "Ring" "stitched") rfl)) (by decide : ("stitched" : Str) ∉ cflds 21)⟩, trivial⟩ (g_var 1 (by first | exact .inr (.inl rfl) | exact .inr (.inr rfl))) (g_cons (g_str) (g_cons (g_var 6 (.inl rfl)) (g_cons (g_int) pga_nil)))) pga_nil)) (fun _ => rfl)) pga_nil)) (.inl rfl)) (gss_cons (gs_setT (i := 4) x.nd (g_callT (R := Q_dyed) (n := 2) (k := 2) (m := 1) (FineT.call (dd := d_dyed) (okP_dyed KX G c)) b.rm (by decide) b.tk (He.glo_ok KX G (c.fact 38 (f := .glo "dyed") rfl)) (g_cons (g_var 1 (.inr (.inl rfl))) pga_nil)) (.inl rfl)) (gss_cons (gs_if (t_pw (pgw_or (t_cmp (oc_eq x.toXB) (g_bin (ob_mod x.toXB) (g_var 2 (.inl rfl)) (g_int)) (g_int)) (pw_or1 (t_cmp (oc_eq x.toXB) (g_bin (ob_mod x.toXB) (g_var 3 (.inl rfl)) (g_int)) (g_int))))) (gss_one (gs_ret (pg_bor 4 (pg_isN (g_var 4 (.inl rfl)))))) (gss_nil)) (gss_cons (gs_if (pgt_bor 4 (t_pw (pgw_or (t_isN (g_var 4 (.inl rfl))) (pw_or1 (pgt_not (t_tru x.toXB (g_call (R := R__law_fits) (k := 8) (m := 2) (Fine.call (dd := d__law_fits) (ok__law_fits KX G c)) b.rm (by decide) b.tk (He.glo_ok KX G (c.fact 39 (f := .glo "_law_fits") rfl)) (g_cons (g_var 1 (.inr (.inl rfl))) (g_cons (g_var 4 (.inl rfl)) pga_nil))))))))) (gss_one (gs_ret (g_bl))) (gss_nil)) (gss_cons (gs_put2 (i := 4) x.toXB.K (g_int) (g_int) (g_int) (by exact fun _ _ => rfl) rfl rfl rfl (fun _ => rfl) (.inl rfl)) (gss_cons (gs_clrP (i := 4) x.toXB.K (.inl rfl)) (gss_one (gs_ret (g_call (R := R__law_fits) (k := 8) (m := 2) (Fine.call (dd := d__law_fits) (ok__law_fits KX G c)) b.rm (by decide) b.tk (He.glo_ok KX G (c.fact 39 (f := .glo "_law_fits") rfl)) (g_cons (g_var 1 (.inr (.inl rfl))) (g_cons (g_call (R := R_dyed) (k := 2) (m := 1) (Fine.call (dd := d_dyed) (ok_dyed KX G c)) b.rm (by decide) b.tk (He.glo_ok KX G (c.fact 38 (f := .glo "dyed") rfl)) (g_cons (g_var 1 (.inr (.inl rfl))) pga_nil)) pga_nil))))))))))))
end
abbrev RR : PySem.W.OpenRow := PySem.W.OpenLaw.row PySem.Challenge.rw_sashiko_k38_whole_rings_dyed
abbrev hk : PySem.W.Hook := He.hookD 5 fa fn
def ob (s : PySem.W.SharedT) : He.AlD := He.obsDG 5 fa fn (HandSHeadRun.getT s)
theorem ob_eq (s : PySem.W.SharedT) : ob s = hk.obs s.abs := He.obsDG_eq (HandSHeadRun.getT_eq s)
abbrev loose : List Str := ["SewError", "BadSize", "BadBit", "NoLine", "NoStep", "MOST", "ask_bits", "Ring", "dyed", "_law_same", "_law_ring", "_law_bits", "_law_row", "_law_loop", "_law_draws", "_law_fits"]
theorem run (w : World) : HandSHeadRun.RunEq RR (PySem.W.view RR.prog [20]) hk ob 6000 loose w := by
  intro os
  kernel_rfl
theorem pre (hl : ∀ ns : List Int, ns.length ≤ 63 → R_law_k38 [.frl ns] = .ok (.bl true, false)) (w : World) (mg : Str → Option Value) (a : Addr) (h : Heap) (K : PySem.W.Frag) (KX : K.In h) (G : h.Ns mainGlobals mg) (c : He.SaysD fa fn K) (hmg : mg "law" = some (.ref a)) :
    ∃ (fd : FuncData) (sp : Sp), (∀ (s : Shared) (u : Value), BindsTo s fd ⟨[u], []⟩ [("_law_script", u)]) ∧ (∀ (H : Hp) (a : Addr) (ns : List Int), ns.length ≤ 63 → Only H → SqL K H a (ns.map V.int) → sp [.ref a] H (fun v _ => v = .bl true) fun _ _ _ => False) ∧
      ∀ base : Heap, K.In base → base.Ns mainGlobals mg → FnOk (PySem.Challenge.rw_sashiko_k38_whole_rings_dyed).prog w K mg base (CXW (PySem.Challenge.rw_sashiko_k38_whole_rings_dyed).prog) 9 a fd ["_law_script"] sp := by
  obtain ⟨fd, F⟩ := c.def_ 15 (d := d_law) rfl
  have e := hmg.symm.trans (He.glo_ok KX G (c.fact 40 (f := .glo "law") rfl))
  cases e
  have b := FunD.bindsA (ps := ["_law_script"]) F fun _ _ _ _ _ _ us hl => match us, hl with | [_], _ => rfl
  exact ⟨fd, spOf (th K) 1 R_law_k38, fun s u => b s [u] rfl, fun H a ns hn _ hS => law_sp (θ := th K) hl H a ns hn hS, fun base _ _ => wcx (ok_law KX G c F)⟩
end K38
/-! G, the plain side: how the combinators compute. -/
namespace G
open PySem L2
section
variable {f g h : ES} {t u : TSm} {s : IS} {a b : SS} {ρ : Sl} {i j : Nat} {d e : D} {k : Kd}
@[simp] theorem shr_ap (d : D) : shr d = .ok (d, .sh) := rfl
@[simp] theorem eVar_ap : eVar i ρ = match ρ[i]? with
  | some (.va d) => .ok (d, .sh)
  | some (.ow d) => .ok (d, .at i)
  | _ => .no := rfl
@[simp] theorem eC_ap : eC d ρ = .ok (d, .sh) := rfl
@[simp] theorem eBin_ap (op : D → D → Out (D × Kd)) : eBin op f g ρ = (f ρ).bind fun x => (g ρ).bind fun y => op x.1 y.1 := rfl
@[simp] theorem eUn_ap (op : D → Out (D × Kd)) : eUn op f ρ = (f ρ).bind fun x => op x.1 := rfl
@[simp] theorem eArgs_nil : eArgs [] ρ = .ok [] := rfl
@[simp] theorem eArgs_cons (fs : List ES) : eArgs (f :: fs) ρ = (f ρ).bind fun x => (eArgs fs ρ).bind fun xs => .ok (x :: xs) := rfl
@[simp] theorem eChain_ap (op op' : D → D → Out (D × Kd)) : eChain op op' f g h ρ = (f ρ).bind fun x => (g ρ).bind fun y => (op x.1 y.1).bind fun z => (oBl z.1).bind fun b => if b = true then (h ρ).bind fun w => op' y.1 w.1 else shr (.bl false) := by
  show ((f ρ).bind fun x => (g ρ).bind fun y => (op x.1 y.1).bind fun z => match z.1 with
    | .bl true => (h ρ).bind fun w => op' y.1 w.1
    | .bl false => shr (.bl false)
    | _ => .no) = _
  congr 1
  funext x
  congr 1
  funext y
  congr 1
  funext z
  obtain ⟨d, k⟩ := z
  cases d <;> first | rfl | skip
  rename_i b
  cases b <;> rfl
@[simp] theorem oBl_ap (c : Bool) : oBl (.bl c) = .ok c := rfl
@[simp] theorem eAnd_ap : eAnd f g ρ = (f ρ).bind fun x => (oBl x.1).bind fun b => if b = true then g ρ else shr (.bl false) := rfl
@[simp] theorem eOr_ap : eOr f g ρ = (f ρ).bind fun x => (oBl x.1).bind fun b => if b = true then shr (.bl true) else g ρ := rfl
@[simp] theorem oNot_ap (c : Bool) : oNot (.bl c) = .ok (.bl (!c), .sh) := rfl
@[simp] theorem tBl_ap : tBl f ρ = (f ρ).bind fun x => oBl x.1 := rfl
@[simp] theorem tTru_ap : tTru f ρ = (f ρ).bind fun x => oTru x.1 := rfl
@[simp] theorem tAnd_ap : G.tAnd t u ρ = (t ρ).bind fun b => if b = true then u ρ else .ok false := rfl
@[simp] theorem tOr_ap : G.tOr t u ρ = (t ρ).bind fun b => if b = true then .ok true else u ρ := rfl
@[simp] theorem tNot_ap : G.tNot t ρ = (t ρ).bind fun b => .ok (!b) := rfl
@[simp] theorem eIf_ap : eIf t f g ρ = (t ρ).bind fun b => if b = true then f ρ else g ρ := rfl
@[simp] theorem allSolid_nil : allSolid [] = true := rfl
@[simp] theorem allSolid_cons (x : D × Kd) (xs : List (D × Kd)) : allSolid (x :: xs) = (x.2.solid && allSolid xs) := rfl
@[simp] theorem solid_sh : Kd.solid .sh = true := rfl
@[simp] theorem solid_fr : Kd.solid .fr = true := rfl
@[simp] theorem solid_at : Kd.solid (.at i) = false := rfl
@[simp] theorem eTup_ap (fs : List ES) : eTup fs ρ = (eArgs fs ρ).bind fun xs => if allSolid xs = true ∧ xs.length ≤ SZ then shr (.tup (xs.map (·.1))) else .no := rfl
@[simp] theorem eLst_ap (fs : List ES) : eLst fs ρ = (eArgs fs ρ).bind fun xs => if allSolid xs = true ∧ xs.length ≤ SZ then .ok (.lst (xs.map (·.1)), .fr) else .no := rfl
@[simp] theorem ePart_none : ePart none ρ = .ok none := rfl
@[simp] theorem ePart_some : ePart (some f) ρ = (f ρ).bind fun x => match x.1 with
  | .int i => .ok (some i)
  | _ => .no := rfl
@[simp] theorem eSl_ap (lo hi : Option ES) : eSl f lo hi ρ = (f ρ).bind fun x => (ePart lo ρ).bind fun l => (ePart hi ρ).bind fun h => oSl x.1 l h := rfl
@[simp] theorem eBi_ap (bi : Bi) (fs : List ES) : eBi bi fs ρ = (eArgs fs ρ).bind fun xs => oBi bi (xs.map (·.1)) := rfl
@[simp] theorem eFn_ap (R : List D → Out (D × Bool)) (fs : List ES) : eFn R fs ρ = (eArgs fs ρ).bind fun xs => match R (xs.map (·.1)) with
  | .ok (d, b) => if allSolid xs then .ok (d, if b then .fr else .sh) else if flat d && okArgs xs then shr d else if (b && newD d) && okArgs xs then .ok (d, .fr) else .no
  | .ex c gs => if allSolid xs || (gs.isEmpty && okArgs xs) then .ex c gs else .no
  | .no => .no := rfl
theorem eM_ap (l : MTab) (fs : List ES) {c : Nat} {ds : List D} {R : List D → Out (D × Bool)} (hf : f ρ = .ok (.obj c ds, .sh)) (hl : l.lookup c = some R) : eM l f fs ρ = (eArgs fs ρ).bind fun xs => match R (.obj c ds :: xs.map (·.1)) with
  | .ok (d, b) => if allSolid xs then .ok (d, if b then .fr else .sh) else if flat d && okArgs xs then shr d else if (b && newD d) && okArgs xs then .ok (d, .fr) else .no
  | .ex c gs => if allSolid xs || (gs.isEmpty && okArgs xs) then .ex c gs else .no
  | .no => .no := by
  unfold eM eMeth
  rw [hf]
  have e1 : mIx l c = some c := by unfold mIx; rw [hl]
  have e2 : mGam l c = R := by unfold mGam; rw [hl]
  show (match mIx l c with
    | some n => if Kd.sh.solid = true then eCall (mGam l) n (eC (.obj c ds) :: fs) ρ else .no
    | none => .no) = _
  rw [e1]
  show eCall (mGam l) c (eC (.obj c ds) :: fs) ρ = _
  rw [meth_args, e2]
  cases eArgs fs ρ <;> rfl
/-- a method of the table's only class -/
@[simp] theorem eM_one (fs : List ES) (c : Nat) (R : List D → Out (D × Bool)) : eM [(c, R)] f fs ρ = match f ρ with
  | .ok (.obj c' ds, k) => if c' = c ∧ k.solid = true then (eArgs fs ρ).bind fun xs => (match R (.obj c' ds :: xs.map (·.1)) with
    | .ok (d, b) => if allSolid xs then .ok (d, if b then .fr else .sh) else if flat d && okArgs xs then shr d else if (b && newD d) && okArgs xs then .ok (d, .fr) else .no
    | .ex c gs => if allSolid xs || (gs.isEmpty && okArgs xs) then .ex c gs else .no
    | .no => .no) else .no
  | _ => .no := by
  unfold eM eMeth
  cases q : f ρ with
  | no => rfl
  | ex n gs => rfl
  | ok z =>
    obtain ⟨d, k⟩ := z
    cases d with
    | obj c' ds =>
      by_cases e : c' = c
      · subst e
        have e1 : mIx [(c', R)] c' = some c' := by unfold mIx; rw [List.lookup_cons_self]
        have e2 : mGam [(c', R)] c' = R := by unfold mGam; rw [List.lookup_cons_self]
        show (match mIx [(c', R)] c' with
          | some n => if k.solid = true then eCall (mGam [(c', R)]) n (eC (.obj c' ds) :: fs) ρ else .no
          | none => .no) = _
        rw [e1]
        show (if k.solid = true then eCall (mGam [(c', R)]) c' (eC (.obj c' ds) :: fs) ρ else .no) = _
        rw [meth_args, e2]
        by_cases s : k.solid = true
        · rw [if_pos s]
          refine Eq.trans ?_ (if_pos (⟨rfl, s⟩ : c' = c' ∧ k.solid = true)).symm
          cases eArgs fs ρ <;> rfl
        · rw [if_neg s]
          exact (if_neg (fun z : c' = c' ∧ k.solid = true => s z.2)).symm
      · have ne : (c' == c) = false := beq_eq_false_iff_ne.mpr e
        have e1 : mIx [(c, R)] c' = none := by
          unfold mIx
          rw [List.lookup_cons, ne]
          rfl
        show (match mIx [(c, R)] c' with
          | some n => if k.solid = true then eCall (mGam [(c, R)]) n (eC (.obj c' ds) :: fs) ρ else .no
          | none => .no) = _
        rw [e1]
        exact (if_neg (fun z : c' = c ∧ k.solid = true => e z.1)).symm
    | _ => rfl
/-! ### statements -/
@[simp] theorem sSkip_ap : sSkip ρ = .nx ρ := rfl
@[simp] theorem sBrk_ap : sBrk ρ = .bk ρ := rfl
@[simp] theorem sCnt_ap : sCnt ρ = .ct ρ := rfl
theorem sSeq_ap : sSeq a b ρ = match a ρ with
  | .nx ρ' => b ρ'
  | o => o := rfl
theorem sSeq_nx {ρ' : Sl} (h : a ρ = .nx ρ') : sSeq a b ρ = b ρ' := by unfold sSeq; rw [h]
@[simp] theorem sIf_ap : G.sIf t a b ρ = match t ρ with
  | .ok c => if c = true then a ρ else b ρ
  | .ex n fs => .ex n fs ρ
  | .no => .no := rfl
@[simp] theorem sWith_ok {α : Type} (x : α) (k : α → Fl) : sWith (.ok x) ρ k = k x := rfl
@[simp] theorem sWith_ex {α : Type} (n : Nat) (fs : List D) (k : α → Fl) : sWith (.ex n fs) ρ k = .ex n fs ρ := rfl
@[simp] theorem sDrop_ap : sDrop f ρ = sWith (f ρ) ρ fun _ => .nx ρ := rfl
@[simp] theorem asg_sh (o : Bool) (x : D) : asg o i (x, .sh) ρ = if i < ρ.length then .nx (ρ.set i (.va x)) else .no := rfl
@[simp] theorem notObj_bl (b : Bool) : notObj (.bl b) = true := rfl
@[simp] theorem notObj_int (b : Int) : notObj (.int b) = true := rfl
@[simp] theorem notObj_str (b : Str) : notObj (.str b) = true := rfl
@[simp] theorem notObj_non : notObj .non = true := rfl
@[simp] theorem notObj_lst (b : List D) : notObj (.lst b) = true := rfl
@[simp] theorem notObj_tup (b : List D) : notObj (.tup b) = true := rfl
@[simp] theorem notObj_dK (a : List Key) (b : List D) : notObj (.dK a b) = true := rfl
@[simp] theorem notObj_dT (a : List (List Key)) (b : List D) : notObj (.dT a b) = true := rfl
@[simp] theorem notObj_obj (a : Nat) (b : List D) : notObj (.obj a b) = false := rfl
@[simp] theorem flat_bl (b : Bool) : flat (.bl b) = true := rfl
@[simp] theorem flat_int (b : Int) : flat (.int b) = true := rfl
@[simp] theorem flat_str (b : Str) : flat (.str b) = true := rfl
@[simp] theorem flat_non : flat .non = true := rfl
@[simp] theorem flat_lst (b : List D) : flat (.lst b) = false := rfl
@[simp] theorem flat_tup (b : List D) : flat (.tup b) = false := rfl
@[simp] theorem newD_obj (c : Nat) (b : List D) : newD (.obj c b) = true := rfl
@[simp] theorem newD_lst (b : List D) : newD (.lst b) = b.all flat := rfl
@[simp] theorem flat_ints (us : List Int) : (us.map D.int).all flat = true := by
  rw [List.all_map]
  exact List.all_eq_true.mpr fun _ _ => rfl
@[simp] theorem clean_int (n : Int) (k : Kd) : clean (.int n) k = true := rfl
@[simp] theorem clean_bl (n : Bool) (k : Kd) : clean (.bl n) k = true := rfl
@[simp] theorem clean_str (n : Str) (k : Kd) : clean (.str n) k = true := rfl
@[simp] theorem clean_non (k : Kd) : clean .non k = true := rfl
@[simp] theorem clean_lst (ds : List D) : clean (.lst ds) .fr = ds.all flat := rfl
@[simp] theorem clean_dK (ks : List Key) (ds : List D) : clean (.dK ks ds) .fr = ds.all flat := rfl
@[simp] theorem clean_dT (ks : List (List Key)) (ds : List D) : clean (.dT ks ds) .fr = ds.all flat := rfl
@[simp] theorem asg_frT (x : D) : asg true i (x, .fr) ρ = if i < ρ.length then (if notObj x = true then .nx (ρ.set i (.ow x)) else .no) else .no := rfl
@[simp] theorem asg_frF (x : D) : asg false i (x, .fr) ρ = if i < ρ.length then .nx (ρ.set i (.va x)) else .no := rfl
@[simp] theorem sAsg_ap (o : Bool) : G.sAsg o i f ρ = sWith (f ρ) ρ fun x => asg o i x ρ := rfl
@[simp] theorem sTg_ap (tg : Tg) : G.sTg tg f ρ = sWith (f ρ) ρ fun x => if x.2.solid then (match tgSet tg x.1 ρ with
  | some ρ' => .nx ρ'
  | none => .no) else .no := rfl
@[simp] theorem sRet_ap : sRet f ρ = sWith (f ρ) ρ fun x => .rt x.1 x.2 := rfl
@[simp] theorem sRetN_ap : sRetN ρ = .rt .non .sh := rfl
@[simp] theorem sRaise_ap (n : Nat) : sRaise n ρ = .ex n [] ρ := rfl
@[simp] theorem sAugI_ap (op : Int → Int → Int) : sAugI op i f ρ = match ρ[i]? with
  | some (.va (.int a)) => sWith (f ρ) ρ fun y => (match y.1 with
    | .int b => .nx (ρ.set i (.va (.int (op a b))))
    | _ => .no)
  | _ => .no := rfl
@[simp] theorem sOwL_ap (k : List D → D → Option (List D)) : sOwL i k f ρ = match ρ[i]? with
  | some (.ow (.lst xs)) => sWith (f ρ) ρ fun y => if y.2.solid then (match k xs y.1 with
    | some ys => .nx (ρ.set i (.ow (.lst ys)))
    | none => .no) else .no
  | _ => .no := rfl
@[simp] theorem sOwL0_ap (k : List D → Option (List D)) : sOwL0 i k ρ = match ρ[i]? with
  | some (.ow (.lst xs)) => (match k xs with
    | some ys => .nx (ρ.set i (.ow (.lst ys)))
    | none => .no)
  | _ => .no := rfl
@[simp] theorem sFrz_ap : sFrz i ρ = match ρ[i]? with
  | some (.ow d) => .nx (ρ.set i (.va d))
  | _ => .nx ρ := rfl
@[simp] theorem sPar_ap (o1 o2 : Bool) : sPar o1 o2 i j f g ρ = sWith (f ρ) ρ fun x => sWith (g ρ) ρ fun y => match asg o1 i x ρ with
  | .nx ρ1 => asg o2 j y ρ1
  | o => o := rfl
@[simp] theorem sPut_ap : sPut i f g ρ = sWith (g ρ) ρ fun v => if v.2.solid then (match ρ[i]? with
  | some (.ow d) => sWith (f ρ) ρ fun k => (match kPut d k.1 v.1 with
    | some d' => .nx (ρ.set i (.ow d'))
    | none => .no)
  | _ => .no) else .no := rfl
@[simp] theorem sFld_ap (fx : Nat → Nat → Bool) : G.sFld fx i f ρ = sWith (f ρ) ρ fun x => if clean x.1 x.2 then (match ρ[i]? with
  | some (.me c ds) => if fx c ds.length then .nx (ρ.set i (.me c (ds ++ [x.1]))) else .no
  | _ => .no) else .no := rfl
theorem sFor_ap (tg : Tg) : G.sFor s tg a ρ = sWith (s ρ) ρ fun ds => forL tg a ds ρ := rfl
@[simp] theorem tgSet_one : tgSet (.one i) d ρ = if i < ρ.length then some (ρ.set i (.va d)) else none := rfl
@[simp] theorem tgSet_tt (ts : List Tg) (ds : List D) : tgSet (.tup ts) (.tup ds) ρ = tgSets ts ds ρ := rfl
@[simp] theorem tgSet_tl (ts : List Tg) (ds : List D) : tgSet (.tup ts) (.lst ds) ρ = tgSets ts ds ρ := rfl
@[simp] theorem tgSets_nil : tgSets [] [] ρ = some ρ := rfl
@[simp] theorem tgSets_cons (tg : Tg) (ts : List Tg) (ds : List D) : tgSets (tg :: ts) (d :: ds) ρ = (tgSet tg d ρ).bind fun ρ' => tgSets ts ds ρ' := rfl
/-! ### operators -/
@[simp] theorem oAdd_ii (m n : Int) : oAdd (.int m) (.int n) = .ok (.int (m + n), .sh) := rfl
@[simp] theorem oAdd_ll (xs ys : List D) : oAdd (.lst xs) (.lst ys) = if xs.length + ys.length ≤ SZ then .ok (.lst (xs ++ ys), .fr) else .no := rfl
@[simp] theorem oAdd_tt (xs ys : List D) : oAdd (.tup xs) (.tup ys) = if xs.length + ys.length ≤ SZ then shr (.tup (xs ++ ys)) else .no := rfl
@[simp] theorem oSub_ii (m n : Int) : oSub (.int m) (.int n) = .ok (.int (m - n), .sh) := rfl
theorem oMul_ii (m n : Int) : oMul (.int m) (.int n) = if smallI m || smallI n then .ok (.int (m * n), .sh) else .no := rfl
theorem oMul_l {m n : Int} (h1 : -(2 ^ 64) < m) (h2 : m < 2 ^ 64) : oMul (.int m) (.int n) = .ok (.int (m * n), .sh) := by
  rw [oMul_ii, if_pos]
  rw [show smallI m = true from decide_eq_true ⟨h1, h2⟩, Bool.true_or]
theorem oMul_r {m n : Int} (h1 : -(2 ^ 64) < n) (h2 : n < 2 ^ 64) : oMul (.int m) (.int n) = .ok (.int (m * n), .sh) := by
  rw [oMul_ii, if_pos]
  rw [show smallI n = true from decide_eq_true ⟨h1, h2⟩, Bool.or_true]
@[simp] theorem oMod_ii (m n : Int) : oMod (.int m) (.int n) = if 0 < n then .ok (.int (m % n), .sh) else .no := rfl
@[simp] theorem oDiv_ii (m n : Int) : oDiv (.int m) (.int n) = if 0 < n ∧ n < 1073741824 then .ok (.int (m / n), .sh) else .no := rfl
@[simp] theorem oPow_ii (m n : Int) : oPow (.int m) (.int n) = if 0 ≤ n ∧ n ≤ 1000000 ∧ m.natAbs < 2 ^ 64 then .ok (.int (m ^ n.toNat), .sh) else .no := rfl
@[simp] theorem oNeg_i (m : Int) : oNeg (.int m) = .ok (.int (-m), .sh) := rfl
@[simp] theorem oEq_ii (m n : Int) : oEq (.int m) (.int n) = .ok (.bl (decide (m = n)), .sh) := rfl
@[simp] theorem oEq_ss (m n : Str) : oEq (.str m) (.str n) = .ok (.bl (decide (m = n)), .sh) := rfl
@[simp] theorem oEq_bb (m n : Bool) : oEq (.bl m) (.bl n) = .ok (.bl (decide (m = n)), .sh) := rfl
@[simp] theorem oNe_ii (m n : Int) : oNe (.int m) (.int n) = .ok (.bl (!decide (m = n)), .sh) := rfl
@[simp] theorem oNe_ss (m n : Str) : oNe (.str m) (.str n) = .ok (.bl (!decide (m = n)), .sh) := rfl
@[simp] theorem oNe_bb (m n : Bool) : oNe (.bl m) (.bl n) = .ok (.bl (!decide (m = n)), .sh) := rfl
@[simp] theorem oLt_ii (m n : Int) : oLt (.int m) (.int n) = .ok (.bl (decide (m < n)), .sh) := rfl
@[simp] theorem oLe_ii (m n : Int) : oLe (.int m) (.int n) = .ok (.bl (decide (m ≤ n)), .sh) := rfl
@[simp] theorem oGt_ii (m n : Int) : oGt (.int m) (.int n) = .ok (.bl (decide (n < m)), .sh) := rfl
@[simp] theorem oGe_ii (m n : Int) : oGe (.int m) (.int n) = .ok (.bl (decide (n ≤ m)), .sh) := rfl
@[simp] theorem oTru_bl (c : Bool) : oTru (.bl c) = .ok c := rfl
@[simp] theorem oTru_int (m : Int) : oTru (.int m) = .ok (m != 0) := rfl
@[simp] theorem oTru_lst (xs : List D) : oTru (.lst xs) = .ok (!xs.isEmpty) := rfl
@[simp] theorem oSl_l (xs : List D) (lo hi : Option Int) : oSl (.lst xs) lo hi = .ok (.lst (cutD xs lo hi), .fr) := rfl
@[simp] theorem oSl_t (xs : List D) (lo hi : Option Int) : oSl (.tup xs) lo hi = .ok (.tup (cutD xs lo hi), .sh) := rfl
@[simp] theorem fxT_ap (l : List (Nat × Nat)) (n : Nat) : fxT l n = l.lookup n := rfl
@[simp] theorem oFld_ap (fx : Nat → Option Nat) (c : Nat) (ds : List D) : oFld fx (.obj c ds) = match fx c with
  | some i => (match ds[i]? with
    | some d => .ok (d, .sh)
    | none => .no)
  | none => .no := rfl
@[simp] theorem oBi_lenL (xs : List D) : oBi .len [.lst xs] = .ok (.int xs.length, .sh) := rfl
@[simp] theorem oBi_lenT (xs : List D) : oBi .len [.tup xs] = .ok (.int xs.length, .sh) := rfl
@[simp] theorem oBi_abs (m : Int) : oBi .abs [.int m] = .ok (.int (if m < 0 then -m else m), .sh) := rfl
@[simp] theorem oBi_intI (m : Int) : oBi .int [.int m] = .ok (.int m, .sh) := rfl
@[simp] theorem oBi_intB (m : Bool) : oBi .int [.bl m] = .ok (.int (if m then 1 else 0), .sh) := rfl
@[simp] theorem oBi_listL (xs : List D) : oBi .list [.lst xs] = .ok (.lst xs, .fr) := rfl
@[simp] theorem oBi_listT (xs : List D) : oBi .list [.tup xs] = .ok (.lst xs, .fr) := rfl
@[simp] theorem oBi_max2 (m n : Int) : oBi .max2 [.int m, .int n] = .ok (.int (if n > m then n else m), .sh) := rfl
@[simp] theorem oBi_min2 (m n : Int) : oBi .min2 [.int m, .int n] = .ok (.int (if n < m then n else m), .sh) := rfl
theorem oBi_sum (ns : List Int) : oBi .sum [.lst (ns.map .int)] = .ok (.int ns.sum, .sh) := by
  show (match intsOf (ns.map D.int) with
    | some ns => shr (.int ns.sum)
    | none => .no) = _
  rw [intsOf_map]
  rfl
@[simp] theorem itemsOf_l (xs : List D) : itemsOf (.lst xs) = some xs := rfl
@[simp] theorem itemsOf_t (xs : List D) : itemsOf (.tup xs) = some xs := rfl
@[simp] theorem itemsOf_f (ns : List Int) : itemsOf (.frl ns) = some (ns.map D.int) := rfl
@[simp] theorem itE_ap (st : Bool) : itE st f ρ = (f ρ).bind fun x => if st && !x.2.solid then .no else match itemsOf x.1 with
  | some ds => .ok ds
  | none => .no := rfl
@[simp] theorem itR1_ap : itR1 f ρ = (f ρ).bind fun x => match x.1 with
  | .int j => if in62 j then .ok (rngD 0 j) else .no
  | _ => .no := rfl
@[simp] theorem itR2_ap : itR2 f g ρ = (f ρ).bind fun x => (g ρ).bind fun y => match x.1, y.1 with
  | .int i, .int j => if in62 i && in62 j then .ok (rngD i j) else .no
  | _, _ => .no := rfl
theorem in62_of {m : Int} (h1 : -(2 ^ 62) < m) (h2 : m < 2 ^ 62) : in62 m = true := by
  have e : (2 : Int) ^ 62 = 4611686018427387904 := by decide
  rw [e] at h1 h2
  have h3 : m.natAbs < 4611686018427387904 := by omega
  exact decide_eq_true h3
theorem ixN_ok {n : Nat} {i : Int} (h0 : 0 ≤ i) (h1 : i < n) : ixN n i = some i.toNat := by
  unfold ixN
  rw [if_pos h0, if_pos h1]
theorem ixN_neg {n : Nat} {i : Int} (h0 : i < 0) (h1 : -(n : Int) ≤ i) : ixN n i = some (i + n).toNat := by
  unfold ixN
  rw [if_neg (by omega), if_pos h1]
theorem oIx_l {xs : List D} {i : Int} {d : D} (h0 : 0 ≤ i) (h : xs[i.toNat]? = some d) : oIx (.lst xs) (.int i) = .ok (d, .sh) := by
  have l := (List.getElem?_eq_some_iff.mp h).1
  show (match atI xs i with
    | some d => shr d
    | none => .no) = _
  unfold atI
  rw [ixN_ok h0 (by omega)]
  show (match xs[i.toNat]? with
    | some d => shr d
    | none => .no) = _
  rw [h]
  rfl
theorem oIx_t {xs : List D} {i : Int} {d : D} (h0 : 0 ≤ i) (h : xs[i.toNat]? = some d) : oIx (.tup xs) (.int i) = .ok (d, .sh) := by
  have l := (List.getElem?_eq_some_iff.mp h).1
  show (match atI xs i with
    | some d => shr d
    | none => .no) = _
  unfold atI
  rw [ixN_ok h0 (by omega)]
  show (match xs[i.toNat]? with
    | some d => shr d
    | none => .no) = _
  rw [h]
  rfl
/-- the whole numbers of a list -/
def gt (us : List Int) (n : Nat) : Int := us.getD n 0
theorem gt_eq {us : List Int} {n : Nat} (h : n < us.length) : gt us n = us[n] := by
  unfold gt
  rw [List.getD_eq_getElem?_getD, List.getElem?_eq_getElem h]
  rfl
theorem oIx_i {us : List Int} {i : Int} (h0 : 0 ≤ i) (h1 : i < us.length) : oIx (.lst (us.map .int)) (.int i) = .ok (.int (gt us i.toNat), .sh) := by
  refine oIx_l h0 ?_
  have l : i.toNat < us.length := by omega
  rw [List.getElem?_map, List.getElem?_eq_getElem l, gt_eq l]
  rfl
/-! ### for, while -/
/-- a for whose body goes on: by a word of the turns -/
theorem forL_nx {tg : Tg} {I : Nat → Sl → Prop} : ∀ {ds : List D} {k : Nat} {ρ : Sl}, I k ρ → (∀ (j : Nat) (d : D) (ρ : Sl), ds[j]? = some d → I (k + j) ρ → ∃ ρ1 ρ2, tgSet tg d ρ = some ρ1 ∧ (a ρ1 = .nx ρ2 ∨ a ρ1 = .ct ρ2) ∧ I (k + j + 1) ρ2) →
    ∃ ρ', forL tg a ds ρ = .nx ρ' ∧ I (k + ds.length) ρ'
  | [], k, ρ, h, _ => ⟨ρ, rfl, h⟩
  | d :: ds, k, ρ, h, st => by
    obtain ⟨ρ1, ρ2, e1, e2, e3⟩ := st 0 d ρ rfl h
    obtain ⟨ρ', e4, e5⟩ := forL_nx (I := I) (ds := ds) (k := k + 1) (ρ := ρ2) e3 fun j d' ρ hd hi => by
      have := st (j + 1) d' ρ (by simpa using hd) (by rw [show k + (j + 1) = k + 1 + j from by omega]; exact hi)
      rw [show k + (j + 1) + 1 = k + 1 + j + 1 from by omega] at this
      exact this
    refine ⟨ρ', ?_, by rw [List.length_cons, show k + (ds.length + 1) = k + 1 + ds.length from by omega]; exact e5⟩
    unfold forL
    rw [e1]
    rcases e2 with e2 | e2 <;> (dsimp only; rw [e2]; exact e4)
theorem whileL_mono : ∀ {n m : Nat} {ρ : Sl}, whileL t a n ρ ≠ .no → n ≤ m → whileL t a m ρ = whileL t a n ρ
  | 0, _, _, h, _ => absurd rfl h
  | n + 1, 0, _, _, h => by omega
  | n + 1, m + 1, ρ, h, hm => by
    unfold whileL at h ⊢
    cases q : t ρ with
    | no => rfl
    | ex n fs => rfl
    | ok b =>
      rw [q] at h
      cases b with
      | false => rfl
      | true =>
        dsimp only at h ⊢
        cases q2 : a ρ with
        | nx ρ2 =>
          rw [q2] at h
          exact whileL_mono h (by omega)
        | ct ρ2 =>
          rw [q2] at h
          exact whileL_mono h (by omega)
        | bk ρ2 => rfl
        | rt d k => rfl
        | ex n fs ρ' => rfl
        | no => rfl
theorem FU_eq : FU = 1000000000 := by unfold FU; rfl
/-- a while by a measure and a word -/
theorem sWhile_nx {I : Sl → Prop} (μ : Sl → Nat) (st : ∀ ρ, I ρ → (t ρ = .ok false) ∨ (t ρ = .ok true ∧ ∃ ρ2, (a ρ = .nx ρ2 ∨ a ρ = .ct ρ2) ∧ I ρ2 ∧ μ ρ2 < μ ρ)) (h : I ρ) (hm : μ ρ < 1000000000) :
    ∃ ρ', G.sWhile t a ρ = .nx ρ' ∧ I ρ' ∧ t ρ' = .ok false := by
  have key : ∀ (n : Nat) (ρ : Sl), I ρ → μ ρ < n → ∃ ρ', whileL t a n ρ = .nx ρ' ∧ I ρ' ∧ t ρ' = .ok false := by
    intro n
    induction n with
    | zero => intro ρ _ h; omega
    | succ n ih =>
      intro ρ hi hl
      rcases st ρ hi with e | ⟨e, ρ2, e2, i2, l2⟩
      · refine ⟨ρ, ?_, hi, e⟩
        unfold whileL
        rw [e]
      · obtain ⟨ρ', e3, e4⟩ := ih ρ2 i2 (by omega)
        refine ⟨ρ', ?_, e4⟩
        unfold whileL
        rw [e]
        rcases e2 with e2 | e2 <;> (dsimp only; rw [e2]; exact e3)
  unfold G.sWhile
  rw [FU_eq]
  exact key _ ρ h hm
end
end G
/-! The law's draws, its plan, a cloth. -/
namespace GD
open PySem L2 G
theorem kAp_i {us : List Int} {x : Int} (h : us.length < SZ) : kAp (us.map D.int) (.int x) = some ((us ++ [x]).map D.int) := by
  unfold kAp
  rw [List.length_map, if_pos h, List.map_append]
  rfl
theorem draws_while {fr : D} {n : Int} {mix c : Int} {us : List Int} {rest : Int} {B : Nat} (hB : B < 1000000) (hn : n ≤ B) (hl : us.length ≤ B) (hr : 0 ≤ rest) :
    ∃ us' : List Int, ∃ rest' : Int, us'.length ≤ B ∧ G.sWhile T__law_draws_b2 S__law_draws_b1
      [.va fr, .va (.int n), .ow (.lst (us.map .int)), .va (.int mix), .va (.int c), .va (.int rest)] = .nx [.va fr, .va (.int n), .ow (.lst (us'.map .int)), .va (.int mix), .va (.int c), .va (.int rest')] := by
  obtain ⟨ρ', h1, ⟨us', rest', rfl, h2, _⟩, _⟩ := sWhile_nx (I := fun ρ => ∃ us : List Int, ∃ rest : Int, ρ = [.va fr, .va (.int n), .ow (.lst (us.map .int)), .va (.int mix), .va (.int c), .va (.int rest)] ∧ us.length ≤ B ∧ 0 ≤ rest)
    (t := T__law_draws_b2) (a := S__law_draws_b1)
    (μ := fun ρ => match ρ[2]? with
      | some (Slot.ow (.lst xs)) => B - xs.length
      | _ => 0)
    (ρ := [.va fr, .va (.int n), .ow (.lst (us.map .int)), .va (.int mix), .va (.int c), .va (.int rest)]) (fun ρ ⟨us, rest, e, hl, hr⟩ => by
      subst e
      by_cases c1 : 0 < rest
      · by_cases c2 : (us.length : Int) < n
        · right
          have hs : us.length < SZ := by unfold SZ; omega
          refine ⟨by simp [T__law_draws_b2, c1, c2], _, .inl ?_, ⟨us ++ [rest % 1000003], rest / 1000003, rfl, ?_, ?_⟩, ?_⟩
          · simp [S__law_draws_b1, sSeq_ap, kAp_i hs]
          · simp
            omega
          · omega
          · simp
            omega
        · left
          simp [T__law_draws_b2, c1, c2]
      · left
        simp [T__law_draws_b2, c1]) ⟨us, rest, rfl, hl, hr⟩ (by simp; omega)
  exact ⟨us', rest', h2, h1⟩
theorem draws_while2 {fr : D} {n : Int} {mix : Int} {s4 s5 : Slot} {us : List Int} {B : Nat} (hB : B < 1000000) (hn : n ≤ B) (hl : us.length ≤ B) :
    ∃ us' : List Int, ∃ mix' : Int, n ≤ us'.length ∧ us'.length ≤ B ∧ G.sWhile T__law_draws_b5 S__law_draws_b4
      [.va fr, .va (.int n), .ow (.lst (us.map .int)), .va (.int mix), s4, s5] = .nx [.va fr, .va (.int n), .ow (.lst (us'.map .int)), .va (.int mix'), s4, s5] := by
  obtain ⟨ρ', h1, ⟨us', mix', rfl, h2⟩, h3⟩ := sWhile_nx (I := fun ρ => ∃ us : List Int, ∃ mix : Int, ρ = [.va fr, .va (.int n), .ow (.lst (us.map .int)), .va (.int mix), s4, s5] ∧ us.length ≤ B)
    (t := T__law_draws_b5) (a := S__law_draws_b4)
    (μ := fun ρ => match ρ[2]? with
      | some (Slot.ow (.lst xs)) => B - xs.length
      | _ => 0)
    (ρ := [.va fr, .va (.int n), .ow (.lst (us.map .int)), .va (.int mix), s4, s5]) (fun ρ ⟨us, mix, e, hl⟩ => by
      subst e
      by_cases c2 : (us.length : Int) < n
      · right
        have hs : us.length < SZ := by unfold SZ; omega
        have b1 : (mix * 48271 + 11) % 2147483647 < 2 ^ 64 := by omega
        have b2 : -(2 ^ 64) < (mix * 48271 + 11) % 2147483647 := by omega
        refine ⟨by simp [T__law_draws_b5, c2], _, .inl ?_, ⟨us ++ [((mix * 48271 + 11) % 2147483647) * ((mix * 48271 + 11) % 2147483647) % 999983], (mix * 48271 + 11) % 2147483647, rfl, ?_⟩, ?_⟩
        · simp [S__law_draws_b4, sSeq_ap, kAp_i hs, oMul_r, oMul_l b2 b1]
        · simp
          omega
        · simp
          omega
      · left
        simp [T__law_draws_b5, c2]) ⟨us, mix, rfl, hl⟩ (by simp; omega)
  refine ⟨us', mix', ?_, h2, h1⟩
  simp [T__law_draws_b5] at h3
  exact h3
/-- the draws: at least as many whole numbers as are asked for -/
theorem draws {ns : List Int} {n : Int} (hns : ns.length ≤ 63) (h0 : 0 ≤ n) (hn : n ≤ 1000) : ∃ us : List Int, R__law_draws [.frl ns, .int n] = .ok (.lst (us.map .int), true) ∧ n ≤ us.length ∧ us.length ≤ 2000 := by
  obtain ⟨ρ', h1, ⟨us, mix, s4, s5, rfl, hl⟩⟩ := forL_nx (tg := .one 4) (a := S__law_draws_b3)
    (I := fun k ρ => ∃ us : List Int, ∃ mix : Int, ∃ s4 s5 : Slot, ρ = [.va (.frl ns), .va (.int n), .ow (.lst (us.map .int)), .va (.int mix), s4, s5] ∧ us.length ≤ k + n.toNat)
    (ds := ns.map .int) (k := 0) (ρ := [.va (.frl ns), .va (.int n), .ow (.lst (([] : List Int).map .int)), .va (.int 1), .un, .un]) ⟨[], 1, .un, .un, rfl, by simp⟩ (fun j d ρ hd ⟨us, mix, s4, s5, e, hl⟩ => by
      subst e
      obtain ⟨lt, e⟩ := List.getElem?_eq_some_iff.mp hd
      have lt : j < ns.length := by simpa using lt
      rw [List.getElem_map] at e
      subst e
      have hs : us.length < SZ := by unfold SZ; omega
      by_cases c1 : (if ns[j] < 0 then -ns[j] else ns[j]) < 10 ^ 18
      · obtain ⟨us', rest', z1, z2⟩ := draws_while (fr := .frl ns) (n := n) (mix := (mix * 31 + ns[j]) % 2147483647) (c := ns[j]) (us := us ++ [ns[j]]) (rest := 0) (B := j + n.toNat + 1) (by omega) (by omega) (by simp; omega) (by omega)
        refine ⟨[.va (.frl ns), .va (.int n), .ow (.lst (us.map .int)), .va (.int mix), .va (.int ns[j]), s5], _, by simp, .inl ?_, us', (mix * 31 + ns[j]) % 2147483647, .va (.int ns[j]), .va (.int rest'), rfl, by omega⟩
        simp at c1
        simp [S__law_draws_b3, sSeq_ap, oMul_r, c1, kAp_i hs]
        simpa using z2
      · have nn : (0 : Int) ≤ if ns[j] < 0 then -ns[j] else ns[j] := by split <;> omega
        obtain ⟨us', rest', z1, z2⟩ := draws_while (fr := .frl ns) (n := n) (mix := (mix * 31 + ns[j]) % 2147483647) (c := ns[j]) (us := us) (rest := if ns[j] < 0 then -ns[j] else ns[j]) (B := j + n.toNat + 1) (by omega) (by omega) (by omega) nn
        refine ⟨[.va (.frl ns), .va (.int n), .ow (.lst (us.map .int)), .va (.int mix), .va (.int ns[j]), s5], _, by simp, .inl ?_, us', (mix * 31 + ns[j]) % 2147483647, .va (.int ns[j]), .va (.int rest'), rfl, by omega⟩
        simp at c1
        simp [S__law_draws_b3, sSeq_ap, oMul_r, Int.not_lt.mpr c1]
        simpa using z2)
  obtain ⟨us', mix', g1, g2, g3⟩ := draws_while2 (fr := .frl ns) (n := n) (mix := mix) (s4 := s4) (s5 := s5) (us := us) (B := 63 + n.toNat) (by omega) (by omega) (by simp at hl; omega)
  refine ⟨us', ?_, g1, by omega⟩
  simp at h1
  simp [R__law_draws, denF, slots, S__law_draws, sSeq_ap, sFor_ap, h1, g3, SZ]

/-! ### bits, rows, plans -/
def Bits (bs : List Int) : Prop := ∀ b ∈ bs, b = 0 ∨ b = 1
theorem mod2 (x : Int) : x % 2 = 0 ∨ x % 2 = 1 := by omega
theorem Bits.append {as bs : List Int} (h : Bits as) (g : Bits bs) : Bits (as ++ bs) := fun b hb => (List.mem_append.mp hb).elim (h b) (g b)
theorem Bits.get {bs : List Int} (h : Bits bs) (i : Nat) : gt bs i = 0 ∨ gt bs i = 1 := by
  unfold gt
  rw [List.getD_eq_getElem?_getD]
  cases q : bs[i]? with
  | none => exact .inl rfl
  | some b => exact h b (List.mem_of_getElem? q)
theorem cutD_from {xs : List D} {k : Int} (h0 : 0 ≤ k) (h1 : k ≤ xs.length) : cutD xs (some k) none = xs.drop k.toNat := by
  obtain ⟨n, rfl⟩ := Int.eq_ofNat_of_zero_le h0
  unfold cutD
  rw [HT.sIx_nat, HT.sIx_none, Int.toNat_natCast, Nat.min_eq_left (by omega)]
  exact List.take_of_length_le (by rw [List.length_drop]; exact Nat.le_refl _)
theorem cutD_to {xs : List D} {k : Int} (h0 : 0 ≤ k) : cutD xs none (some k) = xs.take k.toNat := by
  obtain ⟨n, rfl⟩ := Int.eq_ofNat_of_zero_le h0
  unfold cutD
  rw [HT.sIx_nat, HT.sIx_none, Int.toNat_natCast, List.drop_zero, Nat.sub_zero]
  by_cases q : n ≤ xs.length
  · rw [Nat.min_eq_left q]
  · rw [Nat.min_eq_right (by omega), List.take_length, List.take_of_length_le (by omega)]
theorem rngD_get {n : Int} {j : Nat} {d : D} (h : (rngD 0 n)[j]? = some d) : d = .int j ∧ (j : Int) < n := by
  unfold rngD at h
  rw [List.getElem?_map] at h
  cases q : (List.range (n - 0).toNat)[j]? with
  | none => rw [q] at h; cases h
  | some m =>
    rw [q] at h
    have e := List.getElem?_eq_some_iff.mp q
    obtain ⟨lt, e⟩ := e
    rw [List.getElem_range] at e
    subst e
    simp at lt
    refine ⟨?_, by omega⟩
    simp at h
    exact h.symm
theorem rngD_len (n : Int) : (rngD 0 n).length = n.toNat := by simp [rngD]
theorem bits {num many : Int} (h0 : 0 ≤ many) (h1 : many ≤ 1000) : ∃ bs : List Int, R__law_bits [.int num, .int many] = .ok (.lst (bs.map .int), true) ∧ (bs.length : Int) = many ∧ Bits bs := by
  obtain ⟨ρ', e1, ⟨bs, x, s3, rfl, hl, hb⟩⟩ := forL_nx (tg := .one 3) (a := S__law_bits_b1)
    (I := fun k ρ => ∃ bs : List Int, ∃ x : Int, ∃ s3 : Slot, ρ = [.va (.int x), .va (.int many), .ow (.lst (bs.map .int)), s3] ∧ bs.length = k ∧ Bits bs)
    (ds := rngD 0 many) (k := 0) (ρ := [.va (.int num), .va (.int many), .ow (.lst (([] : List Int).map .int)), .un]) ⟨[], num, .un, rfl, rfl, fun _ h => by cases h⟩ (fun j d ρ hd ⟨bs, x, s3, e, hl, hb⟩ => by
      subst e
      obtain ⟨rfl, lt⟩ := rngD_get hd
      have hs : bs.length < SZ := by unfold SZ; omega
      refine ⟨[.va (.int x), .va (.int many), .ow (.lst (bs.map .int)), .va (.int j)], _, by simp, .inl ?_, bs ++ [x % 2], x / 2, .va (.int j), rfl, by simp [hl], hb.append fun b hb => ?_⟩
      · simp [S__law_bits_b1, sSeq_ap, kAp_i hs]
      · simp at hb
        rw [hb]
        exact mod2 x)
  refine ⟨bs, ?_, by rw [hl, rngD_len]; omega, hb⟩
  simp at e1
  simp [R__law_bits, denF, slots, S__law_bits, sSeq_ap, sFor_ap, in62_of (show -(2 ^ 62) < many by omega) (by omega), e1, SZ]
theorem emod_le_nat (j : Nat) {p : Int} (h : 0 < p) : (j : Int) % p ≤ j := by
  obtain ⟨q, rfl⟩ := Int.eq_ofNat_of_zero_le (Int.le_of_lt h)
  have e : ((j % q : Nat) : Int) = (j : Int) % (q : Int) := by simp
  have := Nat.mod_le j q
  show (j : Int) % (q : Int) ≤ j
  omega
theorem lcA_ok {tg : Tg} {e : ES} {ρ : Sl} {P : Nat → D → Prop} : ∀ {ds acc : List D} {k : Nat}, acc.length + ds.length < SZ → (∀ (j : Nat) (d : D), ds[j]? = some d → ∃ ρ1 y kd, tgSet tg d ρ = some ρ1 ∧ e ρ1 = .ok (y, kd) ∧ kd.solid = true ∧ P (k + j) y) →
    ∃ r : List D, lcA tg tYes e ρ acc ds = .ok (acc ++ r) ∧ r.length = ds.length ∧ ∀ (j : Nat) (y : D), r[j]? = some y → P (k + j) y
  | [], acc, k, _, _ => ⟨[], by simp [lcA], rfl, fun j y h => by simp at h⟩
  | d :: ds, acc, k, hl, h => by
    obtain ⟨ρ1, y, kd, h1, h2, h3, h4⟩ := h 0 d rfl
    obtain ⟨r, g1, g2, g3⟩ := lcA_ok (tg := tg) (e := e) (ρ := ρ) (P := P) (ds := ds) (acc := acc ++ [y]) (k := k + 1) (by simp at hl ⊢; omega) fun j d hd => by
      have := h (j + 1) d (by simpa using hd)
      rwa [show k + (j + 1) = k + 1 + j from by omega] at this
    refine ⟨y :: r, ?_, by simp [g2], fun j z hz => ?_⟩
    · unfold lcA
      rw [h1]
      dsimp only
      show (match (Out.ok true : Out Bool) with
        | .ok true => match e ρ1 with
          | .ok (y, k) => if k.solid && decide (acc.length < SZ) then lcA tg tYes e ρ (acc ++ [y]) ds else .no
          | _ => .no
        | .ok false => lcA tg tYes e ρ acc ds
        | _ => .no) = _
      dsimp only
      rw [h2]
      dsimp only
      rw [h3, decide_eq_true (by simp at hl; omega : acc.length < SZ)]
      simp [g1]
    · cases j with
      | zero =>
        simp at hz
        subst hz
        exact h4
      | succ j =>
        have := g3 j z (by simpa using hz)
        rwa [show k + 1 + j = k + (j + 1) from by omega] at this
/-- whole numbers in order -/
theorem ints_of : ∀ {ds : List D} {P : Int → Prop}, (∀ (j : Nat) (y : D), ds[j]? = some y → ∃ i, y = .int i ∧ P i) → ∃ us : List Int, ds = us.map .int ∧ ∀ u ∈ us, P u
  | [], _, _ => ⟨[], rfl, fun _ h => by cases h⟩
  | d :: ds, P, h => by
    obtain ⟨i, rfl, hi⟩ := h 0 d rfl
    obtain ⟨us, rfl, hu⟩ := ints_of (ds := ds) (P := P) fun j y hy => h (j + 1) y (by simpa using hy)
    exact ⟨i :: us, rfl, fun u hm => (List.mem_cons.mp hm).elim (fun e => e ▸ hi) (hu u)⟩
theorem row {us : List Int} {many : Int} (hu : 4 ≤ us.length) (h0 : 0 ≤ many) (h1 : many ≤ 1000) : ∃ bs : List Int, R__law_row [.lst (us.map .int), .int many] = .ok (.lst (bs.map .int), false) ∧ (bs.length : Int) = many ∧ Bits bs := by
  have i0 := oIx_i (us := us) (i := 0) (by omega) (by omega)
  have i1 := oIx_i (us := us) (i := 1) (by omega) (by omega)
  have i2 := oIx_i (us := us) (i := 2) (by omega) (by omega)
  have i3 := oIx_i (us := us) (i := 3) (by omega) (by omega)
  have in62m := in62_of (show -(2 ^ 62) < many by omega) (by omega)
  have key : ∀ num : Int, ∃ bs : List Int, (match (R__law_bits [.int num, .int many]) with
      | .ok (d, _) => (if gt us 3 % 5 = 4 then (match lcA (.one 4) tYes (eBin oIx (eVar 3) (eBin oMod (eVar 4) (eBin oAdd (eC (.int 1)) (eBin oMod (eBin oIx (eVar 0) (eC (.int 1))) (eC (.int 4)))))) [.va (.lst (us.map .int)), .va (.int many), .va (.int num), .va d, .un] [] (rngD 0 many) with
        | .ok r => r
        | _ => []) else (match d with
        | .lst xs => xs
        | _ => []))
      | _ => []) = bs.map .int ∧ (bs.length : Int) = many ∧ Bits bs ∧ (∃ d, R__law_bits [.int num, .int many] = .ok (.lst d, true) ∧ (gt us 3 % 5 = 4 → lcA (.one 4) tYes (eBin oIx (eVar 3) (eBin oMod (eVar 4) (eBin oAdd (eC (.int 1)) (eBin oMod (eBin oIx (eVar 0) (eC (.int 1))) (eC (.int 4)))))) [.va (.lst (us.map .int)), .va (.int many), .va (.int num), .va (.lst d), .un] [] (rngD 0 many) = .ok (bs.map .int)) ∧ (¬ gt us 3 % 5 = 4 → d = bs.map .int)) := by
    intro num
    obtain ⟨bs, e1, e2, e3⟩ := bits (num := num) h0 h1
    by_cases q : gt us 3 % 5 = 4
    · obtain ⟨r, g1, g2, g3⟩ := lcA_ok (tg := .one 4) (e := eBin oIx (eVar 3) (eBin oMod (eVar 4) (eBin oAdd (eC (.int 1)) (eBin oMod (eBin oIx (eVar 0) (eC (.int 1))) (eC (.int 4)))))) (ρ := [.va (.lst (us.map .int)), .va (.int many), .va (.int num), .va (.lst (bs.map .int)), .un])
        (P := fun _ y => ∃ i, y = .int i ∧ (i = 0 ∨ i = 1)) (ds := rngD 0 many) (acc := []) (k := 0) (by rw [rngD_len]; unfold SZ; simp; omega) (fun j d hd => by
          obtain ⟨rfl, lt⟩ := rngD_get hd
          have p1 : 0 < 1 + gt us 1 % 4 := by omega
          have p2 : 0 ≤ (j : Int) % (1 + gt us 1 % 4) := Int.emod_nonneg _ (by omega)
          have p3 : (j : Int) % (1 + gt us 1 % 4) < bs.length := by
            rw [e2]
            exact Int.lt_of_le_of_lt (emod_le_nat j (by omega)) lt
          have i4 := oIx_i (us := bs) p2 p3
          refine ⟨[.va (.lst (us.map .int)), .va (.int many), .va (.int num), .va (.lst (bs.map .int)), .va (.int j)], .int (gt bs ((j : Int) % (1 + gt us 1 % 4)).toNat), .sh, by simp, ?_, rfl, _, rfl, e3.get _⟩
          simp at i1 i4 p1
          simp [i1, p1, i4])
      obtain ⟨vs, e4, e5⟩ := ints_of g3
      refine ⟨vs, ?_, ?_, e5, bs.map .int, e1, fun _ => ?_, fun z => absurd q z⟩
      · rw [e1]
        dsimp only
        rw [if_pos q, g1]
        simpa using e4
      · have := congrArg List.length e4
        rw [List.length_map, g2, rngD_len] at this
        omega
      · rw [g1, e4]
        rfl
    · refine ⟨bs, ?_, e2, e3, bs.map .int, e1, fun z => absurd z q, fun _ => rfl⟩
      rw [e1]
      dsimp only
      rw [if_neg q]
  by_cases q3 : gt us 3 % 5 = 3
  · obtain ⟨bs, _, h2, h3, d, h4, h5, h6⟩ := key (-(gt us 0 % 2))
    refine ⟨bs, ?_, h2, h3⟩
    have ne : ¬ gt us 3 % 5 = 4 := by omega
    obtain rfl := h6 ne
    simp at i0 i1 i2 i3 h4 q3
    simp [R__law_row, denF, slots, S__law_row, sSeq_ap, i0, i1, i2, i3, oMul_l, oMul_r, q3, h4]
  · obtain ⟨bs, _, h2, h3, d, h4, h5, h6⟩ := key (gt us 0 + 1000003 * gt us 1 + 1000003 * 1000003 * gt us 2)
    refine ⟨bs, ?_, h2, h3⟩
    by_cases q4 : gt us 3 % 5 = 4
    · have h5 := h5 q4
      simp at i0 i1 i2 i3 h4 q4 h5
      simp [R__law_row, denF, slots, S__law_row, sSeq_ap, i0, i1, i2, i3, oMul_l, oMul_r, q4, h4, eLc, wipeS, in62m, h5]
    · obtain rfl := h6 q4
      simp at i0 i1 i2 i3 h4 q3 q4
      simp [R__law_row, denF, slots, S__law_row, sSeq_ap, i0, i1, i2, i3, oMul_l, oMul_r, q3, q4, h4]
end GD
/-! Plans, cloths. -/
namespace GD
open PySem L2 G
theorem pick5 {a b c d e : Int} {x : Int} {P : Int → Prop} (ha : P a) (hb : P b) (hc : P c) (hd : P d) (he : P e) : ∃ m, oIx (.lst [.int a, .int b, .int c, .int d, .int e]) (.int (x % 5)) = .ok (.int m, .sh) ∧ P m := by
  have h : x % 5 = 0 ∨ x % 5 = 1 ∨ x % 5 = 2 ∨ x % 5 = 3 ∨ x % 5 = 4 := by omega
  rcases h with h | h | h | h | h <;> rw [h]
  · exact ⟨a, rfl, ha⟩
  · exact ⟨b, rfl, hb⟩
  · exact ⟨c, rfl, hc⟩
  · exact ⟨d, rfl, hd⟩
  · exact ⟨e, rfl, he⟩
abbrev dI (us : List Int) : D := .lst (us.map .int)
theorem cut_us {us : List Int} {k : Int} (h0 : 0 ≤ k) (h1 : k ≤ us.length) : cutD (us.map .int) (some k) none = (us.drop k.toNat).map .int := by
  rw [cutD_from h0 (by simpa using h1), List.map_drop]
/-- what a plan is -/
structure Plan (s : Int) (us ls : List Int) : Prop where
  bs : s = 0 ∨ s = 1
  bu : Bits us
  bl : Bits ls
  lu : us.length ≤ 39
  ll : ls.length ≤ 39
theorem plan {us : List Int} (hu : 12 ≤ us.length) : ∃ s : Int, ∃ as bs : List Int, R__law_plan [.lst (us.map .int)] = .ok (.tup [.int s, dI as, dI bs], false) ∧ Plan s as bs := by
  have i0 := oIx_i (us := us) (i := 0) (by omega) (by omega)
  have i1 := oIx_i (us := us) (i := 1) (by omega) (by omega)
  have i2 := oIx_i (us := us) (i := 2) (by omega) (by omega)
  have i3 := oIx_i (us := us) (i := 3) (by omega) (by omega)
  obtain ⟨m1, p1, q1⟩ := pick5 (a := 9) (b := 9) (c := 16) (d := 40) (e := 6) (x := gt us 0) (P := fun m => 1 ≤ m ∧ m ≤ 40) (by omega) (by omega) (by omega) (by omega) (by omega)
  obtain ⟨m2, p2, q2⟩ := pick5 (a := 9) (b := 16) (c := 16) (d := 6) (e := 40) (x := gt us 0) (P := fun m => 1 ≤ m ∧ m ≤ 40) (by omega) (by omega) (by omega) (by omega) (by omega)
  have w1 : 0 ≤ gt us 1 % m1 := Int.emod_nonneg _ (by omega)
  have w2 : gt us 1 % m1 < m1 := Int.emod_lt_of_pos _ (by omega)
  have w3 : 0 ≤ gt us 2 % m2 := Int.emod_nonneg _ (by omega)
  have w4 : gt us 2 % m2 < m2 := Int.emod_lt_of_pos _ (by omega)
  obtain ⟨as, r1, l1, b1⟩ := row (us := us.drop 4) (many := gt us 1 % m1) (by simp; omega) w1 (by omega)
  obtain ⟨bs, r2, l2, b2⟩ := row (us := us.drop 8) (many := gt us 2 % m2) (by simp; omega) w3 (by omega)
  refine ⟨gt us 3 % 2, as, bs, ?_, mod2 _, b1, b2, by omega, by omega⟩
  have c4 := cut_us (us := us) (k := 4) (by omega) (by omega)
  have c8 := cut_us (us := us) (k := 8) (by omega) (by omega)
  have z1 : 0 < m1 := by omega
  have z2 : 0 < m2 := by omega
  have a1 : 1 + gt us 1 % m1 - 1 = gt us 1 % m1 := by omega
  have a2 : 1 + gt us 2 % m2 - 1 = gt us 2 % m2 := by omega
  simp at i0 i1 i2 i3 p1 p2 c4 c8 r1 r2 a1 a2
  simp [R__law_plan, denF, slots, S__law_plan, sSeq_ap, i0, i1, i2, i3, p1, p2, c4, c8, r1, r2, z1, z2, a1, a2, SZ]
/-! ### a cloth -/
abbrev cl (s : Int) (us ls : List Int) : D := .obj 20 [.int s, dI us, dI ls]
theorem ask_bits_ok {bs : List Int} (h : Bits bs) : R_ask_bits [dI bs] = .ok (.non, false) := by
  obtain ⟨ρ', h1, _⟩ := forL_nx (tg := .one 1) (a := S_ask_bits_b1) (I := fun _ ρ => ∃ x, ρ = [.va (dI bs), x]) (ds := bs.map .int) (k := 0) (ρ := [.va (dI bs), .un]) ⟨_, rfl⟩ (fun j d ρ hd ⟨x, e⟩ => by
    subst e
    obtain ⟨lt, e⟩ := List.getElem?_eq_some_iff.mp hd
    have lt : j < bs.length := by simpa using lt
    rw [List.getElem_map] at e
    subst e
    refine ⟨[.va (dI bs), .va (.int bs[j])], [.va (dI bs), .va (.int bs[j])], by simp, .inl ?_, _, rfl⟩
    rcases h bs[j] (List.getElem_mem lt) with z | z <;> simp [S_ask_bits_b1, z])
  simp [R_ask_bits, denF, slots, S_ask_bits, sFor_ap, h1]
theorem init_cl {s : Int} {us ls : List Int} (p : Plan s us ls) : R_Cloth___init__ [.int s, dI us, dI ls] = .ok (cl s us ls, true) := by
  have ab := ask_bits_ok (bs := [s] ++ us ++ ls) (Bits.append (Bits.append (fun b hb => by simp at hb; subst hb; exact p.bs) p.bu) p.bl)
  have n1 : ¬ (40 : Int) ≤ us.length := by have := p.lu; omega
  have n2 : ¬ (40 : Int) ≤ ls.length := by have := p.ll; omega
  have n3 : 1 + us.length ≤ SZ := by have := p.lu; unfold SZ; omega
  have n4 : us.length + 1 + ls.length ≤ SZ := by have := p.ll; have := p.lu; unfold SZ; omega
  simp [dI] at ab n3 n4
  simp [R_Cloth___init__, denI, slots, S_Cloth___init__, sSeq_ap, n1, n2, n3, n4, ab, fxOne, SZ]
theorem made {s : Int} {us ls : List Int} (p : Plan s us ls) : R__law_made [.tup [.int s, dI us, dI ls]] = .ok (cl s us ls, true) := by
  have h := init_cl p
  have e0 : oIx (.tup [.int s, dI us, dI ls]) (.int 0) = .ok (.int s, .sh) := rfl
  have e1 : oIx (.tup [.int s, dI us, dI ls]) (.int 1) = .ok (dI us, .sh) := rfl
  have e2 : oIx (.tup [.int s, dI us, dI ls]) (.int 2) = .ok (dI ls, .sh) := rfl
  simp [R__law_made, denF, slots, S__law_made, e0, e1, e2, h]
theorem wide_cl (s : Int) (us ls : List Int) : R_Cloth_wide [cl s us ls] = .ok (.int (us.length + 1), false) := by
  simp [R_Cloth_wide, denF, slots, S_Cloth_wide]
theorem tall_cl (s : Int) (us ls : List Int) : R_Cloth_tall [cl s us ls] = .ok (.int (ls.length + 1), false) := by
  simp [R_Cloth_tall, denF, slots, S_Cloth_tall]
theorem ask_cell_ok {s : Int} {us ls : List Int} {x y : Int} (h1 : 0 ≤ x) (h2 : x ≤ us.length) (h3 : 0 ≤ y) (h4 : y ≤ ls.length) : R_Cloth_ask_cell [cl s us ls, .int x, .int y] = .ok (.non, false) := by
  have e1 : ¬ x < 0 := by omega
  have e2 : ¬ y < 0 := by omega
  have e3 : ¬ ((us.length : Int) + 1 ≤ x) := by omega
  have e4 : ¬ ((ls.length : Int) + 1 ≤ y) := by omega
  simp [R_Cloth_ask_cell, denF, slots, S_Cloth_ask_cell, wide_cl, tall_cl, e1, e2, e3, e4]
/-- the colour by the plain rule -/
def colour (s : Int) (us ls : List Int) (x y : Int) : Int := (s + (us.take x.toNat).sum + (ls.take y.toNat).sum + x * y) % 2
theorem cut_to {us : List Int} {k : Int} (h0 : 0 ≤ k) : cutD (us.map .int) none (some k) = (us.take k.toNat).map .int := by
  rw [cutD_to h0, List.map_take]
theorem colour_ok {s : Int} {us ls : List Int} {x y : Int} (p : Plan s us ls) (h1 : 0 ≤ x) (h2 : x ≤ us.length) (h3 : 0 ≤ y) (h4 : y ≤ ls.length) : R_Cloth_colour [cl s us ls, .int x, .int y] = .ok (.int (colour s us ls x y), false) := by
  have a := ask_cell_ok (s := s) h1 h2 h3 h4
  have c1 := cut_to (us := us) h1
  have c2 := cut_to (us := ls) h3
  have b1 := oBi_sum (us.take x.toNat)
  have b2 := oBi_sum (ls.take y.toNat)
  have m := oMul_l (m := x) (n := y) (by omega) (by have := p.lu; omega)
  simp at a c1 c2 b1 b2
  simp [R_Cloth_colour, denF, slots, S_Cloth_colour, sSeq_ap, a, c1, c2, b1, b2, m, colour]
theorem bit_col {s : Int} {us ls : List Int} {k : Int} (h1 : 0 ≤ k) (h2 : k < us.length) : R_Cloth_bit [cl s us ls, .str "col", .int k] = .ok (.int (gt us k.toNat), false) := by
  have i := oIx_i h1 h2
  simp [R_Cloth_bit, denF, slots, S_Cloth_bit, sSeq_ap, h1, h2, i]
theorem bit_row {s : Int} {us ls : List Int} {k : Int} (h1 : 0 ≤ k) (h2 : k < ls.length) : R_Cloth_bit [cl s us ls, .str "row", .int k] = .ok (.int (gt ls k.toNat), false) := by
  have i := oIx_i h1 h2
  have ne : ¬ (Str.ofString "row" = Str.ofString "col") := by decide
  simp [R_Cloth_bit, denF, slots, S_Cloth_bit, sSeq_ap, h1, h2, i, ne]
theorem steps_col (s : Int) (us ls : List Int) : R_Cloth_steps [cl s us ls, .str "col"] = .ok (.int (ls.length + 1), false) := by
  simp [R_Cloth_steps, denF, slots, S_Cloth_steps, sSeq_ap, tall_cl, wide_cl]
theorem steps_row (s : Int) (us ls : List Int) : R_Cloth_steps [cl s us ls, .str "row"] = .ok (.int (us.length + 1), false) := by
  have ne : ¬ (Str.ofString "row" = Str.ofString "col") := by decide
  simp [R_Cloth_steps, denF, slots, S_Cloth_steps, sSeq_ap, tall_cl, wide_cl, ne]
theorem stitched_col {s : Int} {us ls : List Int} {k y : Int} (h1 : 0 ≤ k) (h2 : k < us.length) (h3 : 0 ≤ y) (h4 : y ≤ ls.length) : R_Cloth_stitched [cl s us ls, .str "col", .int k, .int y] = .ok (.bl (decide ((y + gt us k.toNat) % 2 = 1)), false) := by
  have b := bit_col (s := s) (ls := ls) h1 h2
  have st := steps_col s us ls
  have e1 : ¬ y < 0 := by omega
  have e2 : ¬ ((ls.length : Int) + 1 ≤ y) := by omega
  simp [R_Cloth_stitched, denF, slots, S_Cloth_stitched, sSeq_ap, b, st, e1, e2]
theorem stitched_row {s : Int} {us ls : List Int} {k x : Int} (h1 : 0 ≤ k) (h2 : k < ls.length) (h3 : 0 ≤ x) (h4 : x ≤ us.length) : R_Cloth_stitched [cl s us ls, .str "row", .int k, .int x] = .ok (.bl (decide ((x + gt ls k.toNat) % 2 = 1)), false) := by
  have b := bit_row (s := s) (us := us) h1 h2
  have st := steps_row s us ls
  have e1 : ¬ x < 0 := by omega
  have e2 : ¬ ((us.length : Int) + 1 ≤ x) := by omega
  simp [R_Cloth_stitched, denF, slots, S_Cloth_stitched, sSeq_ap, b, st, e1, e2]
end GD
/-! The law's own table, its same, its looks at a cloth. -/
namespace GD
open PySem L2 G
/-- a for over range(n) -/
theorem for_rng {i : Nat} {n : Int} {a : SS} {ρ : Sl} (I : Nat → Sl → Prop) (h0 : I 0 ρ) (st : ∀ (j : Nat) (ρ : Sl), (j : Int) < n → I j ρ → i < ρ.length ∧ ∃ ρ2, (a (ρ.set i (.va (.int j))) = .nx ρ2 ∨ a (ρ.set i (.va (.int j))) = .ct ρ2) ∧ I (j + 1) ρ2) :
    ∃ ρ', forL (.one i) a (rngD 0 n) ρ = .nx ρ' ∧ I n.toNat ρ' := by
  obtain ⟨ρ', h1, h2⟩ := forL_nx (tg := .one i) (a := a) (I := I) (ds := rngD 0 n) (k := 0) (ρ := ρ) h0 (fun j d ρ hd hi => by
    rw [Nat.zero_add] at hi ⊢
    obtain ⟨rfl, lt⟩ := rngD_get hd
    obtain ⟨l, ρ2, h1, h2⟩ := st j ρ lt hi
    exact ⟨ρ.set i (.va (.int j)), ρ2, by simp [l], h1, h2⟩)
  rw [Nat.zero_add, rngD_len] at h2
  exact ⟨ρ', h1, h2⟩
/-! ### _law_same -/
/-- values that are like themselves -/
inductive Nice : Nat → D → Prop
  | int (n : Nat) (i : Int) : Nice (n + 1) (.int i)
  | bl (n : Nat) (i : Bool) : Nice (n + 1) (.bl i)
  | str (n : Nat) (i : Str) : Nice (n + 1) (.str i)
  | lst {n : Nat} {xs : List D} : xs.length < SZ → (∀ x ∈ xs, Nice n x) → Nice (n + 1) (.lst xs)
  | tup {n : Nat} {xs : List D} : xs.length < SZ → (∀ x ∈ xs, Nice n x) → Nice (n + 1) (.tup xs)
theorem Nice.up {n : Nat} {d : D} (h : Nice n d) : Nice (n + 1) d := by
  induction h with
  | int n i => exact .int _ _
  | bl n i => exact .bl _ _
  | str n i => exact .str _ _
  | lst l _ ih => exact .lst l ih
  | tup l _ ih => exact .tup l ih
theorem Nice.le {n m : Nat} {d : D} (h : Nice n d) (l : n ≤ m) : Nice m d := by
  induction l with
  | refl => exact h
  | step _ ih => exact ih.up
theorem nice_ints {us : List Int} (h : us.length < SZ) : Nice 2 (dI us) := .lst (by simpa using h) fun x hx => by
  obtain ⟨i, _, rfl⟩ := List.mem_map.mp hx
  exact .int _ _
theorem zip_self : ∀ xs : List D, zipD xs xs = xs.map fun x => .tup [x, x]
  | [] => rfl
  | x :: xs => by
    show D.tup [x, x] :: zipD xs xs = _
    rw [zip_self xs]
    rfl
theorem bools_true : ∀ r : List D, (∀ (j : Nat) (y : D), r[j]? = some y → y = .bl true) → boolsOf r = some (List.replicate r.length true)
  | [], _ => rfl
  | d :: r, h => by
    obtain rfl := h 0 d rfl
    show (boolsOf r).map (true :: ·) = _
    rw [bools_true r fun j y hy => h (j + 1) y (by simpa using hy)]
    rfl
theorem all_true (r : List D) (h : ∀ (j : Nat) (y : D), r[j]? = some y → y = .bl true) : oBi .all [.lst r] = .ok (.bl true, .sh) := by
  show (match boolsOf r with
    | some bs => shr (.bl (bs.all id))
    | none => .no) = _
  rw [bools_true r h]
  simp
theorem same_step {self : List D → Out (D × Bool)} {ρ : Sl} {xs : List D} (hl : xs.length < SZ) (h2 : 3 < ρ.length) (hs : ∀ x ∈ xs, self [x, x] = .ok (.bl true, false)) :
    ∃ r, lcA (.tup [.one 2, .one 3]) tYes (eFn self [eVar 2, eVar 3]) ρ [] (zipD xs xs) = .ok r ∧ ∀ (j : Nat) (y : D), r[j]? = some y → y = .bl true := by
  obtain ⟨r, g1, g2, g3⟩ := lcA_ok (tg := .tup [.one 2, .one 3]) (e := eFn self [eVar 2, eVar 3]) (ρ := ρ) (P := fun _ y => y = .bl true) (ds := zipD xs xs) (acc := []) (k := 0) (by rw [zip_self]; simpa using hl) (fun j d hd => by
    rw [zip_self, List.getElem?_map] at hd
    cases q : xs[j]? with
    | none => rw [q] at hd; cases hd
    | some x =>
      rw [q] at hd
      cases hd
      have hx := hs x (List.mem_of_getElem? q)
      refine ⟨(ρ.set 2 (.va x)).set 3 (.va x), .bl true, .sh, ?_, ?_, rfl, rfl⟩
      · have h3 : 2 < ρ.length := by omega
        simp [h2, h3]
      · have e2 : ((ρ.set 2 (.va x)).set 3 (.va x))[2]? = some (.va x) := by
          rw [List.getElem?_set_ne (by decide), List.getElem?_set_self (by omega)]
        have e3 : ((ρ.set 2 (.va x)).set 3 (.va x))[3]? = some (.va x) := List.getElem?_set_self (by rw [List.length_set]; exact h2)
        simp [eFn_ap, e2, e3, hx])
  exact ⟨r, by simpa using g1, g3⟩
@[simp] theorem oIsi_int (T : String) (i : Int) : oIsi T (.int i) = .ok (.bl (isiT T "int"), .sh) := rfl
@[simp] theorem oIsi_bl (T : String) (i : Bool) : oIsi T (.bl i) = .ok (.bl (isiT T "bool"), .sh) := rfl
@[simp] theorem oIsi_str (T : String) (i : Str) : oIsi T (.str i) = .ok (.bl (isiT T "str"), .sh) := rfl
@[simp] theorem oIsi_lst (T : String) (i : List D) : oIsi T (.lst i) = .ok (.bl (isiT T "list"), .sh) := rfl
@[simp] theorem oIsi_tup (T : String) (i : List D) : oIsi T (.tup i) = .ok (.bl (isiT T "tuple"), .sh) := rfl
@[simp] theorem oIsi_non (T : String) : oIsi T .non = .ok (.bl (isiT T "NoneType"), .sh) := rfl
theorem same_self : ∀ {n : Nat} {d : D}, Nice n d → RR__law_same n [d, d] = .ok (.bl true, false)
  | 0, _, h => by cases h
  | n + 1, _, .int _ i => by simp [RR__law_same, denF, slots, S__law_same, sSeq_ap, isiT]
  | n + 1, _, .bl _ i => by simp [RR__law_same, denF, slots, S__law_same, sSeq_ap, isiT]
  | n + 1, _, .str _ i => by simp [RR__law_same, denF, slots, S__law_same, sSeq_ap, isiT]
  | n + 1, _, .lst (xs := xs) l h => by
    obtain ⟨r, h1, h2⟩ := same_step (self := RR__law_same n) (ρ := [.va (.lst xs), .va (.lst xs), .un, .un]) l (by simp) fun x hx => same_self (h x hx)
    simp [RR__law_same, denF, slots, S__law_same, sSeq_ap, isiT, eLc, wipeS, itZip, h1, all_true r h2]
  | n + 1, _, .tup (xs := xs) l h => by
    obtain ⟨r, h1, h2⟩ := same_step (self := RR__law_same n) (ρ := [.va (.tup xs), .va (.tup xs), .un, .un]) l (by simp) fun x hx => same_self (h x hx)
    simp [RR__law_same, denF, slots, S__law_same, sSeq_ap, isiT, eLc, wipeS, itZip, h1, all_true r h2]
theorem same {d : D} (h : Nice 6 d) : R__law_same [d, d] = .ok (.bl true, false) := same_self h
/-! ### a cloth's parts -/
theorem shade_cl (s : Int) (us ls : List Int) : R_Cloth_shade [cl s us ls] = .ok (.int s, false) := by simp [R_Cloth_shade, denF, slots, S_Cloth_shade]
theorem cols_cl (s : Int) (us ls : List Int) : R_Cloth_cols [cl s us ls] = .ok (dI us, true) := by simp [R_Cloth_cols, denF, slots, S_Cloth_cols]
theorem rows_cl (s : Int) (us ls : List Int) : R_Cloth_rows [cl s us ls] = .ok (dI ls, true) := by simp [R_Cloth_rows, denF, slots, S_Cloth_rows]
theorem told_cl (s : Int) (us ls : List Int) : R__law_told [cl s us ls] = .ok (.tup [.int s, dI us, dI ls], false) := by
  simp [R__law_told, denF, slots, S__law_told, shade_cl, cols_cl, rows_cl, SZ]
theorem nice_plan {s : Int} {us ls : List Int} (p : Plan s us ls) : Nice 6 (.tup [.int s, dI us, dI ls]) := by
  refine Nice.le (n := 3) (.tup (by simp [SZ]) fun x hx => ?_) (by decide)
  simp at hx
  have h1 : us.length < SZ := by have := p.lu; unfold SZ; omega
  have h2 : ls.length < SZ := by have := p.ll; unfold SZ; omega
  rcases hx with rfl | rfl | rfl
  · exact .int _ _
  · exact nice_ints h1
  · exact nice_ints h2
theorem moved_ok {bs : List Int} {many : Int} (h : bs.length < SZ) : R_moved [dI bs, .int many] = .ok (dI (bs.map fun b => (b + many) % 2), true) := by
  have key : ∀ (bs acc : List Int), acc.length + bs.length < SZ → ∀ ρ : Sl, ρ[1]? = some (.va (.int many)) → 2 < ρ.length → lcA (.one 2) tYes (eBin oMod (eBin oAdd (eVar 2) (eVar 1)) (eC (.int 2))) ρ (acc.map .int) (bs.map .int) = .ok ((acc ++ bs.map fun b => (b + many) % 2).map .int) := by
    intro bs
    induction bs with
    | nil => intro acc _ ρ _ _; simp [lcA]
    | cons b bs ih =>
      intro acc hl ρ h1 h2
      have e1 : (ρ.set 2 (.va (.int b)))[1]? = some (.va (.int many)) := by rw [List.getElem?_set_ne (by decide)]; exact h1
      have e2 : (ρ.set 2 (.va (.int b)))[2]? = some (.va (.int b)) := List.getElem?_set_self h2
      have := ih (acc ++ [(b + many) % 2]) (by simp at hl ⊢; omega) ρ h1 h2
      have hl' : acc.length < SZ := by simp at hl; omega
      rw [List.map_append] at this
      unfold lcA
      simp [tgSet, h2, G.tYes, e1, e2, hl']
      simpa [G.tYes] using this
  have := key bs [] (by simpa using h) [.va (dI bs), .va (.int many), .un] rfl (by simp)
  simp at this
  simp [R_moved, denF, slots, S_moved, eLc, wipeS, this]
theorem init_cl' {s : Int} {us ls : List Int} (p : Plan s us ls) : R_Cloth___init__ [.int s, .lst (us.map .int), .lst (ls.map .int)] = .ok (cl s us ls, true) := init_cl p
theorem bits_mod (bs : List Int) (m : Int) : Bits (bs.map fun b => (b + m) % 2) := fun b hb => by
  obtain ⟨x, _, rfl⟩ := List.mem_map.mp hb
  exact mod2 _
theorem transposed_cl {s : Int} {us ls : List Int} (p : Plan s us ls) : R_transposed [cl s us ls] = .ok (cl s ls us, true) := by
  have h := init_cl (s := s) (us := ls) (ls := us) ⟨p.bs, p.bl, p.bu, p.ll, p.lu⟩
  simp [R_transposed, denF, slots, S_transposed, shade_cl, cols_cl, rows_cl, h]
theorem len_us {s : Int} {us ls : List Int} (p : Plan s us ls) : us.length < SZ ∧ ls.length < SZ := by
  have := p.lu
  have := p.ll
  unfold SZ
  omega
theorem mirrored_cl {s : Int} {us ls : List Int} (p : Plan s us ls) : R_mirrored [cl s us ls] = .ok (cl (colour s us ls us.length 0) us.reverse (ls.map fun b => (b + us.length) % 2), true) := by
  have c := colour_ok (x := us.length) (y := 0) p (by omega) (by omega) (by omega) (by omega)
  have m := moved_ok (bs := ls) (many := us.length) (len_us p).2
  have h := init_cl (s := colour s us ls us.length 0) (us := us.reverse) (ls := ls.map fun b => (b + us.length) % 2) ⟨mod2 _, fun b hb => p.bu b (by simpa using hb), bits_mod _ _, by simpa using p.lu, by simpa using p.ll⟩
  have h' : R_Cloth___init__ [.int (colour s us ls us.length 0), .lst (us.map .int).reverse, dI (ls.map fun b => (b + us.length) % 2)] = .ok (cl (colour s us ls us.length 0) us.reverse (ls.map fun b => (b + us.length) % 2), true) := by
    rw [← List.map_reverse]
    exact h
  have r : oRev (dI us) = .ok (.lst (us.map .int).reverse, .fr) := rfl
  simp [R_mirrored, denF, slots, S_mirrored, sSeq_ap, wide_cl, cols_cl, rows_cl, c, m, h', r]
/-! ### the law's own look -/
theorem sewn_col {s : Int} {us ls : List Int} {k y : Int} (h1 : 0 ≤ k) (h2 : k < us.length) : R__law_sewn [.tup [.int s, dI us, dI ls], .str "col", .int k, .int y] = .ok (.bl (decide ((y + gt us k.toNat) % 2 = 1)), false) := by
  have i := oIx_i h1 h2
  have e : ∀ a b c : D, oIx (.tup [a, b, c]) (.int 1) = .ok (b, .sh) := fun _ _ _ => rfl
  have ne : ¬ (Str.ofString "col" = Str.ofString "row") := by decide
  simp [R__law_sewn, denF, slots, S__law_sewn, sSeq_ap, e, i, ne]
theorem sewn_row {s : Int} {us ls : List Int} {k x : Int} (h1 : 0 ≤ k) (h2 : k < ls.length) : R__law_sewn [.tup [.int s, dI us, dI ls], .str "row", .int k, .int x] = .ok (.bl (decide ((x + gt ls k.toNat) % 2 = 1)), false) := by
  have i := oIx_i h1 h2
  have e1 : ∀ a b c : D, oIx (.tup [a, b, c]) (.int 1) = .ok (b, .sh) := fun _ _ _ => rfl
  have e2 : ∀ a b c : D, oIx (.tup [a, b, c]) (.int 2) = .ok (c, .sh) := fun _ _ _ => rfl
  simp [R__law_sewn, denF, slots, S__law_sewn, sSeq_ap, e1, e2, i]
theorem sum_take {us : List Int} {x : Int} (h0 : 0 ≤ x) (h1 : x < us.length) : (us.take (x + 1).toNat).sum = (us.take x.toNat).sum + gt us x.toNat := by
  obtain ⟨n, rfl⟩ := Int.eq_ofNat_of_zero_le h0
  have l : n < us.length := by omega
  have e : ((n : Int) + 1).toNat = n + 1 := by omega
  rw [e, Int.toNat_natCast, List.take_succ, List.getElem?_eq_getElem l, List.sum_append, gt_eq l]
  simp
theorem colour_x {s : Int} {us ls : List Int} {x y : Int} (h0 : 0 ≤ x) (h1 : x < us.length) : colour s us ls (x + 1) y = (colour s us ls x y + (y + gt us x.toNat) % 2) % 2 := by
  unfold colour
  rw [sum_take h0 h1, Int.add_mul]
  generalize (us.take x.toNat).sum = a
  generalize (ls.take y.toNat).sum = b
  generalize gt us x.toNat = c
  generalize x * y = d
  omega
theorem colour_y {s : Int} {us ls : List Int} {x y : Int} (h0 : 0 ≤ y) (h1 : y < ls.length) : colour s us ls x (y + 1) = (colour s us ls x y + (x + gt ls y.toNat) % 2) % 2 := by
  unfold colour
  rw [sum_take h0 h1, Int.mul_add]
  generalize (us.take x.toNat).sum = a
  generalize (ls.take y.toNat).sum = b
  generalize gt ls y.toNat = c
  generalize x * y = d
  omega
/-- a table's row, the table -/
def rowT (s : Int) (us ls : List Int) (n : Nat) (y : Int) : List Int := (List.range n).map fun x => colour s us ls (x : Nat) y
def tabT (s : Int) (us ls : List Int) (m : Nat) : List D := (List.range m).map fun y => dI (rowT s us ls (us.length + 1) (y : Nat))
theorem rowT_succ (s : Int) (us ls : List Int) (n : Nat) (y : Int) : rowT s us ls (n + 1) y = rowT s us ls n y ++ [colour s us ls n y] := by
  unfold rowT
  rw [List.range_succ, List.map_append]
  rfl
theorem tabT_succ (s : Int) (us ls : List Int) (m : Nat) : tabT s us ls (m + 1) = tabT s us ls m ++ [dI (rowT s us ls (us.length + 1) m)] := by
  unfold tabT
  rw [List.range_succ, List.map_append]
  rfl
theorem rowT_len (s : Int) (us ls : List Int) (n : Nat) (y : Int) : (rowT s us ls n y).length = n := by simp [rowT]
theorem rowT_gt {s : Int} {us ls : List Int} {n k : Nat} {y : Int} (h : k < n) : gt (rowT s us ls n y) k = colour s us ls k y := by
  rw [gt_eq (by rw [rowT_len]; exact h)]
  simp [rowT]
theorem colour_b (s : Int) (us ls : List Int) (x y : Int) : colour s us ls x y = 0 ∨ colour s us ls x y = 1 := mod2 _
theorem oIx_last {us : List Int} (h : us ≠ []) : oIx (.lst (us.map .int)) (.int (-1)) = .ok (.int (gt us (us.length - 1)), .sh) := by
  have hl : 0 < us.length := List.length_pos_iff.mpr h
  show (match atI (us.map D.int) (-1) with
    | some d => shr d
    | none => .no) = _
  unfold atI
  rw [ixN_neg (by decide) (by simp; omega)]
  show (match (us.map D.int)[((-1 : Int) + ((us.map D.int).length : Int)).toNat]? with
    | some d => shr d
    | none => .no) = _
  have e : ((-1 : Int) + ((us.map D.int).length : Int)).toNat = us.length - 1 := by simp; omega
  rw [e, List.getElem?_map, List.getElem?_eq_getElem (by omega), gt_eq (by omega)]
  rfl
theorem table_row {s : Int} {us ls : List Int} (p : Plan s us ls) {T : List D} {left : Int} {y : Nat} {s5 : Slot} :
    ∃ s5', forL (.one 5) S__law_table_b1 (rngD 0 us.length) [.va (.tup [.int s, dI us, dI ls]), .ow (.lst T), .va (.int left), .va (.int y), .ow (dI (rowT s us ls 1 y)), s5] = .nx [.va (.tup [.int s, dI us, dI ls]), .ow (.lst T), .va (.int left), .va (.int y), .ow (dI (rowT s us ls (us.length + 1) y)), s5'] := by
  obtain ⟨ρ', h1, s5', rfl⟩ := for_rng (i := 5) (n := us.length) (a := S__law_table_b1) (fun k ρ => ∃ s5, ρ = [.va (.tup [.int s, dI us, dI ls]), .ow (.lst T), .va (.int left), .va (.int y), .ow (dI (rowT s us ls (k + 1) y)), s5]) (ρ := [.va (.tup [.int s, dI us, dI ls]), .ow (.lst T), .va (.int left), .va (.int y), .ow (dI (rowT s us ls 1 y)), s5]) ⟨s5, rfl⟩ (fun j ρ lt ⟨x, e⟩ => by
    subst e
    have sw := sewn_col (s := s) (us := us) (ls := ls) (k := j) (y := y) (by omega) lt
    have ne : rowT s us ls (j + 1) y ≠ [] := by
      intro z
      have := rowT_len s us ls (j + 1) y
      rw [z] at this
      cases this
    have la := oIx_last ne
    rw [rowT_len, show j + 1 - 1 = j from by omega, rowT_gt (by omega)] at la
    have cx := colour_x (s := s) (us := us) (ls := ls) (x := j) (y := y) (by omega) lt
    have hl : (rowT s us ls (j + 1) y).length < SZ := by rw [rowT_len]; have := p.lu; unfold SZ; omega
    refine ⟨by simp, _, .inl ?_, .va (.int j), rfl⟩
    have vv : (colour s us ls j y + if ((y : Int) + gt us j) % 2 = 1 then 1 else 0) % 2 = colour s us ls (j + 1 : Nat) y := by
      rw [show ((j + 1 : Nat) : Int) = (j : Int) + 1 from by omega, cx]
      simp only [Int.toNat_natCast]
      split <;> omega
    rw [rowT_succ s us ls (j + 1), ← vv]
    simp at sw la
    simp [S__law_table_b1, sw, la, kAp_i hl])
  exact ⟨s5', by simpa using h1⟩
theorem tup3_0 (a b c : D) : oIx (.tup [a, b, c]) (.int 0) = .ok (a, .sh) := rfl
theorem tup3_1 (a b c : D) : oIx (.tup [a, b, c]) (.int 1) = .ok (b, .sh) := rfl
theorem tup3_2 (a b c : D) : oIx (.tup [a, b, c]) (.int 2) = .ok (c, .sh) := rfl
abbrev planD (s : Int) (us ls : List Int) : D := .tup [.int s, dI us, dI ls]
theorem table_left {s : Int} {us ls : List Int} (p : Plan s us ls) {j : Nat} (hj : j ≤ 39) {s4 s5 : Slot} {z : Int} (hz : z = colour s us ls 0 j) :
    ∃ s4' s5', sSeq (G.sAsg true 4 (eLst [eVar 2])) (sSeq (G.sFor (itR1 (eBi .len [eBin oIx (eVar 0) (eC (.int 1))])) (.one 5) S__law_table_b1) (sSeq (sFrz 4) (sOwL 1 kAp (eVar 4)))) [.va (planD s us ls), .ow (.lst (tabT s us ls j)), .va (.int z), .va (.int j), s4, s5] = .nx [.va (planD s us ls), .ow (.lst (tabT s us ls (j + 1))), .va (.int z), .va (.int j), s4', s5'] := by
  subst hz
  have lu := p.lu
  have hT : (tabT s us ls j).length < SZ := by
    unfold tabT SZ
    rw [List.length_map, List.length_range]
    omega
  have r1 : rowT s us ls 1 j = [colour s us ls 0 j] := by simp [rowT]
  obtain ⟨s5', g⟩ := table_row p (T := tabT s us ls j) (left := colour s us ls 0 j) (y := j) (s5 := s5)
  rw [r1] at g
  change forL _ _ _ [_, _, _, _, .ow (.lst [.int (colour s us ls 0 j)]), _] = _ at g
  have k1 : kAp (tabT s us ls j) (dI (rowT s us ls (us.length + 1) j)) = some (tabT s us ls (j + 1)) := by
    unfold kAp
    rw [if_pos hT, tabT_succ]
  have inn := in62_of (show -(2 ^ 62) < (us.length : Int) by omega) (by omega)
  exact ⟨.va (dI (rowT s us ls (us.length + 1) j)), s5', by simp [sSeq_ap, sFor_ap, tup3_1, inn, g, SZ, k1]⟩
theorem table {s : Int} {us ls : List Int} (p : Plan s us ls) : R__law_table [planD s us ls] = .ok (.lst (tabT s us ls (ls.length + 1)), true) := by
  have lu := p.lu
  have ll := p.ll
  obtain ⟨ρ', h1, s3, s4, s5, rfl⟩ := for_rng (i := 3) (n := (ls.length : Int) + 1) (a := S__law_table_b2) (fun k ρ => ∃ s3 s4 s5, ρ = [.va (planD s us ls), .ow (.lst (tabT s us ls k)), .va (.int (colour s us ls 0 (k - 1 : Nat))), s3, s4, s5])
    (ρ := [.va (planD s us ls), .ow (.lst []), .va (.int s), .un, .un, .un]) ⟨.un, .un, .un, by
      have : colour s us ls 0 0 = s := by
        unfold colour
        rcases p.bs with h | h <;> simp [h]
      simp [tabT, this]⟩ (fun j ρ lt ⟨s3, s4, s5, e⟩ => by
    subst e
    refine ⟨by simp, ?_⟩
    have lj : j ≤ 39 := by omega
    by_cases hj : j = 0
    · subst hj
      obtain ⟨s4', s5', g1⟩ := table_left p (j := 0) (s4 := s4) (s5 := s5) (by omega) (z := colour s us ls 0 0) rfl
      refine ⟨_, .inl ?_, .va (.int 0), s4', s5', rfl⟩
      simpa [S__law_table_b2, sSeq_ap] using g1
    · obtain ⟨i, rfl⟩ : ∃ i, j = i + 1 := ⟨j - 1, by omega⟩
      have sw := sewn_row (s := s) (us := us) (ls := ls) (k := i) (x := 0) (by omega) (by omega)
      have cy := colour_y (s := s) (us := us) (ls := ls) (x := 0) (y := i) (by omega) (by omega)
      have cb := colour_b s us ls 0 i
      have i1 : ((i : Int) + 1 - 1) = i := by omega
      have pos : (0 : Int) < (i : Int) + 1 := by omega
      rw [Int.zero_add, Int.toNat_natCast] at cy sw
      have ci : ((i + 1 : Nat) : Int) = (i : Int) + 1 := by omega
      by_cases q : gt ls i % 2 = 1
      · have vv : 1 - colour s us ls 0 i = colour s us ls 0 (i + 1 : Nat) := by
          rw [ci, cy]
          omega
        obtain ⟨s4', s5', g1⟩ := table_left p (j := i + 1) (s4 := s4) (s5 := s5) lj vv
        refine ⟨[.va (planD s us ls), .ow (.lst (tabT s us ls (i + 1 + 1))), .va (.int (1 - colour s us ls 0 i)), .va (.int (i + 1 : Nat)), s4', s5'], .inl ?_, .va (.int (i + 1 : Nat)), s4', s5', ?_⟩
        · simp [S__law_table_b2, i1, sw, q, pos, sSeq_ap]
          simpa [sSeq_ap] using g1
        · rw [show i + 1 + 1 - 1 = i + 1 from by omega, ← vv]
      · have vv : colour s us ls 0 i = colour s us ls 0 (i + 1 : Nat) := by
          rw [ci, cy]
          omega
        obtain ⟨s4', s5', g1⟩ := table_left p (j := i + 1) (s4 := s4) (s5 := s5) lj vv
        refine ⟨[.va (planD s us ls), .ow (.lst (tabT s us ls (i + 1 + 1))), .va (.int (colour s us ls 0 i)), .va (.int (i + 1 : Nat)), s4', s5'], .inl ?_, .va (.int (i + 1 : Nat)), s4', s5', ?_⟩
        · simp [S__law_table_b2, i1, sw, q, pos, sSeq_ap]
          simpa [sSeq_ap] using g1
        · rw [show i + 1 + 1 - 1 = i + 1 from by omega, ← vv])
  have n1 : ((ls.length : Int) + 1).toNat = ls.length + 1 := by omega
  rw [n1] at h1
  have inn := in62_of (show -(2 ^ 62) < (ls.length : Int) + 1 by omega) (by omega)
  simp [R__law_table, denF, slots, S__law_table, sSeq_ap, sFor_ap, tup3_0, tup3_1, tup3_2, inn, h1, SZ]
end GD
/-! The draws, with their bounds. -/
namespace GD
open PySem L2 G
@[simp] theorem get0 {α : Type} (a : α) (l : List α) : (a :: l)[0]? = some a := rfl
/-- numbers of at most eighteen figures -/
def Small (us : List Int) : Prop := ∀ u ∈ us, -1000000000000000000 < u ∧ u < 1000000000000000000
theorem Small.nil : Small [] := fun _ h => by cases h
theorem Small.snoc {us : List Int} {x : Int} (h : Small us) (h1 : -1000000000000000000 < x) (h2 : x < 1000000000000000000) : Small (us ++ [x]) := fun u hu => by
  rcases List.mem_append.mp hu with z | z
  · exact h u z
  · simp at z
    subst z
    exact ⟨h1, h2⟩
theorem Small.gt {us : List Int} (h : Small us) (n : Nat) : -1000000000000000000 < gt us n ∧ gt us n < 1000000000000000000 := by
  unfold G.gt
  rw [List.getD_eq_getElem?_getD]
  cases q : us[n]? with
  | none => decide
  | some b => exact h b (List.mem_of_getElem? q)
theorem drawsB_while {fr : D} {n : Int} {mix c : Int} {us : List Int} {rest : Int} {B : Nat} (hB : B < 1000000) (hn : n ≤ B) (hl : us.length ≤ B) (hS : Small us) (hr : 0 ≤ rest) :
    ∃ us' : List Int, ∃ rest' : Int, us'.length ≤ B ∧ Small us' ∧ G.sWhile T__law_draws_b2 S__law_draws_b1
      [.va fr, .va (.int n), .ow (.lst (us.map .int)), .va (.int mix), .va (.int c), .va (.int rest)] = .nx [.va fr, .va (.int n), .ow (.lst (us'.map .int)), .va (.int mix), .va (.int c), .va (.int rest')] := by
  obtain ⟨ρ', h1, ⟨us', rest', rfl, h2, h2s, _⟩, _⟩ := sWhile_nx (I := fun ρ => ∃ us : List Int, ∃ rest : Int, ρ = [.va fr, .va (.int n), .ow (.lst (us.map .int)), .va (.int mix), .va (.int c), .va (.int rest)] ∧ us.length ≤ B ∧ Small us ∧ 0 ≤ rest)
    (t := T__law_draws_b2) (a := S__law_draws_b1)
    (μ := fun ρ => match ρ[2]? with
      | some (Slot.ow (.lst xs)) => B - xs.length
      | _ => 0)
    (ρ := [.va fr, .va (.int n), .ow (.lst (us.map .int)), .va (.int mix), .va (.int c), .va (.int rest)]) (fun ρ ⟨us, rest, e, hl, hS, hr⟩ => by
      subst e
      by_cases c1 : 0 < rest
      · by_cases c2 : (us.length : Int) < n
        · right
          have hs : us.length < SZ := by unfold SZ; omega
          refine ⟨by simp [T__law_draws_b2, c1, c2], _, .inl ?_, ⟨us ++ [rest % 1000003], rest / 1000003, rfl, ?_, hS.snoc (by omega) (by omega), ?_⟩, ?_⟩
          · simp [S__law_draws_b1, sSeq_ap, kAp_i hs]
          · simp
            omega
          · omega
          · simp
            omega
        · left
          simp [T__law_draws_b2, c1, c2]
      · left
        simp [T__law_draws_b2, c1]) ⟨us, rest, rfl, hl, hS, hr⟩ (by simp; omega)
  exact ⟨us', rest', h2, h2s, h1⟩
theorem drawsB_while2 {fr : D} {n : Int} {mix : Int} {s4 s5 : Slot} {us : List Int} {B : Nat} (hB : B < 1000000) (hn : n ≤ B) (hl : us.length ≤ B) (hS : Small us) :
    ∃ us' : List Int, ∃ mix' : Int, n ≤ us'.length ∧ us'.length ≤ B ∧ Small us' ∧ G.sWhile T__law_draws_b5 S__law_draws_b4
      [.va fr, .va (.int n), .ow (.lst (us.map .int)), .va (.int mix), s4, s5] = .nx [.va fr, .va (.int n), .ow (.lst (us'.map .int)), .va (.int mix'), s4, s5] := by
  obtain ⟨ρ', h1, ⟨us', mix', rfl, h2, h2s⟩, h3⟩ := sWhile_nx (I := fun ρ => ∃ us : List Int, ∃ mix : Int, ρ = [.va fr, .va (.int n), .ow (.lst (us.map .int)), .va (.int mix), s4, s5] ∧ us.length ≤ B ∧ Small us)
    (t := T__law_draws_b5) (a := S__law_draws_b4)
    (μ := fun ρ => match ρ[2]? with
      | some (Slot.ow (.lst xs)) => B - xs.length
      | _ => 0)
    (ρ := [.va fr, .va (.int n), .ow (.lst (us.map .int)), .va (.int mix), s4, s5]) (fun ρ ⟨us, mix, e, hl, hS⟩ => by
      subst e
      by_cases c2 : (us.length : Int) < n
      · right
        have hs : us.length < SZ := by unfold SZ; omega
        have b1 : (mix * 48271 + 11) % 2147483647 < 2 ^ 64 := by omega
        have b2 : -(2 ^ 64) < (mix * 48271 + 11) % 2147483647 := by omega
        refine ⟨by simp [T__law_draws_b5, c2], _, .inl ?_, ⟨us ++ [((mix * 48271 + 11) % 2147483647) * ((mix * 48271 + 11) % 2147483647) % 999983], (mix * 48271 + 11) % 2147483647, rfl, ?_, hS.snoc (by omega) (by omega)⟩, ?_⟩
        · simp [S__law_draws_b4, sSeq_ap, kAp_i hs, oMul_r, oMul_l b2 b1]
        · simp
          omega
        · simp
          omega
      · left
        simp [T__law_draws_b5, c2]) ⟨us, mix, rfl, hl, hS⟩ (by simp; omega)
  refine ⟨us', mix', ?_, h2, h2s, h1⟩
  simp [T__law_draws_b5] at h3
  exact h3
/-- the draws: at least as many whole numbers as are asked for -/
theorem drawsB {ns : List Int} {n : Int} (hns : ns.length ≤ 63) (h0 : 0 ≤ n) (hn : n ≤ 1000) : ∃ us : List Int, R__law_draws [.frl ns, .int n] = .ok (.lst (us.map .int), true) ∧ n ≤ us.length ∧ us.length ≤ 2000 ∧ Small us := by
  obtain ⟨ρ', h1, ⟨us, mix, s4, s5, rfl, hl, hS⟩⟩ := forL_nx (tg := .one 4) (a := S__law_draws_b3)
    (I := fun k ρ => ∃ us : List Int, ∃ mix : Int, ∃ s4 s5 : Slot, ρ = [.va (.frl ns), .va (.int n), .ow (.lst (us.map .int)), .va (.int mix), s4, s5] ∧ us.length ≤ k + n.toNat ∧ Small us)
    (ds := ns.map .int) (k := 0) (ρ := [.va (.frl ns), .va (.int n), .ow (.lst (([] : List Int).map .int)), .va (.int 1), .un, .un]) ⟨[], 1, .un, .un, rfl, by simp, Small.nil⟩ (fun j d ρ hd ⟨us, mix, s4, s5, e, hl, hS⟩ => by
      subst e
      obtain ⟨lt, e⟩ := List.getElem?_eq_some_iff.mp hd
      have lt : j < ns.length := by simpa using lt
      rw [List.getElem_map] at e
      subst e
      have hs : us.length < SZ := by unfold SZ; omega
      by_cases c1 : (if ns[j] < 0 then -ns[j] else ns[j]) < 10 ^ 18
      · obtain ⟨us', rest', z1, z1s, z2⟩ := drawsB_while (fr := .frl ns) (n := n) (mix := (mix * 31 + ns[j]) % 2147483647) (c := ns[j]) (us := us ++ [ns[j]]) (rest := 0) (B := j + n.toNat + 1) (by omega) (by omega) (by simp; omega) (hS.snoc (by split at c1 <;> omega) (by split at c1 <;> omega)) (by omega)
        refine ⟨[.va (.frl ns), .va (.int n), .ow (.lst (us.map .int)), .va (.int mix), .va (.int ns[j]), s5], _, by simp, .inl ?_, us', (mix * 31 + ns[j]) % 2147483647, .va (.int ns[j]), .va (.int rest'), rfl, by omega, z1s⟩
        simp at c1
        simp [S__law_draws_b3, sSeq_ap, oMul_r, c1, kAp_i hs]
        simpa using z2
      · have nn : (0 : Int) ≤ if ns[j] < 0 then -ns[j] else ns[j] := by split <;> omega
        obtain ⟨us', rest', z1, z1s, z2⟩ := drawsB_while (fr := .frl ns) (n := n) (mix := (mix * 31 + ns[j]) % 2147483647) (c := ns[j]) (us := us) (rest := if ns[j] < 0 then -ns[j] else ns[j]) (B := j + n.toNat + 1) (by omega) (by omega) (by omega) hS nn
        refine ⟨[.va (.frl ns), .va (.int n), .ow (.lst (us.map .int)), .va (.int mix), .va (.int ns[j]), s5], _, by simp, .inl ?_, us', (mix * 31 + ns[j]) % 2147483647, .va (.int ns[j]), .va (.int rest'), rfl, by omega, z1s⟩
        simp at c1
        simp [S__law_draws_b3, sSeq_ap, oMul_r, Int.not_lt.mpr c1]
        simpa using z2)
  obtain ⟨us', mix', g1, g2, g2s, g3⟩ := drawsB_while2 (fr := .frl ns) (n := n) (mix := mix) (s4 := s4) (s5 := s5) (us := us) (B := 63 + n.toNat) (by omega) (by omega) (by simp at hl; omega) hS
  refine ⟨us', ?_, g1, by omega, g2s⟩
  simp at h1
  simp [R__law_draws, denF, slots, S__law_draws, sSeq_ap, sFor_ap, h1, g3, SZ]
/-- a number far away: what the law makes of a draw -/
theorem far {us : List Int} (h : Small us) (n : Nat) (c : Int) : ∃ F : Int, oMul (.int (if gt us n < 0 then -gt us n else gt us n)) (.int c) = .ok (.int F, .sh) ∧ F = (if gt us n < 0 then -gt us n else gt us n) * c := by
  have g := h.gt n
  exact ⟨_, oMul_l (by split <;> omega) (by split <;> omega), rfl⟩
theorem far20 {us : List Int} (h : Small us) (n : Nat) : ∃ F : Int, oMul (.int (if gt us n < 0 then -gt us n else gt us n)) (.int 100000000000000000000) = .ok (.int F, .sh) ∧ 0 ≤ F := by
  obtain ⟨F, h1, h2⟩ := far h n 100000000000000000000
  refine ⟨F, h1, ?_⟩
  rw [h2]
  split <;> omega
end GD
/-! try, the marks of a refusal, what a cloth refuses. -/
namespace G
open PySem L2
section
variable {f g h : ES} {t u : TSm} {s : IS} {a b : SS} {ρ : Sl} {i j : Nat} {d e : D} {k : Kd}
@[simp] theorem sTry_ap (hit : Nat → Option Bool) (su : Nat → List D → SS) : sTry i hit a su ρ = match a ρ with
  | .ex n fs ρ' => match hit n with
    | some true => fOut i (su n fs (clr i .xc ρ'))
    | some false => .ex n fs ρ'
    | none => .no
  | o => o := rfl
@[simp] theorem fOut_nx : fOut i (.nx ρ) = .nx (clr i .un ρ) := rfl
@[simp] theorem fOut_bk : fOut i (.bk ρ) = .bk (clr i .un ρ) := rfl
@[simp] theorem fOut_ct : fOut i (.ct ρ) = .ct (clr i .un ρ) := rfl
@[simp] theorem fOut_rt : fOut i (.rt d k) = .rt d k := rfl
@[simp] theorem suN_nil (z : Nat → SS) (n : Nat) : suN z n [] = z n := rfl
@[simp] theorem unX_un : unX .un = .un := rfl
@[simp] theorem unX_va : unX (.va d) = .va d := rfl
@[simp] theorem unX_ow : unX (.ow d) = .ow d := rfl
@[simp] theorem unX_me (c : Nat) (ds : List D) : unX (.me c ds) = .un := rfl
@[simp] theorem unX_xc : unX .xc = .un := rfl
@[simp] theorem clr_ap (z : Slot) : clr i z ρ = (ρ.map unX).set i z := rfl
@[simp] theorem eCallX_ap (R : Nat → Out (D × Bool)) (n : Nat) : eCallX R i n ρ = match ρ[i]? with
  | some .xc => match R n with
    | .ok (d, b) => .ok (d, if b = true then .fr else .sh)
    | _ => .no
  | _ => .no := rfl
@[simp] theorem eIsE_ap (hit : Nat → Option Bool) (n : Nat) : eIsE hit i n ρ = match ρ[i]? with
  | some .xc => match hit n with
    | some b => .ok (.bl b, .sh)
    | none => .no
  | _ => .no := rfl
@[simp] theorem hitT_nil (n : Nat) : hitT [] n = none := rfl
@[simp] theorem hitT_cons (k : Nat) (b : Bool) (l : List (Nat × Bool)) (n : Nat) : hitT ((k, b) :: l) n = if n = k then some b else hitT l n := by
  unfold hitT
  rw [List.lookup_cons]
  by_cases q : n = k
  · rw [if_pos q, beq_iff_eq.mpr q]
  · rw [if_neg q, beq_eq_false_iff_ne.mpr q]
@[simp] theorem okArgs_nil : okArgs [] = true := rfl
@[simp] theorem okArgs_cons (x : D × Kd) (xs : List (D × Kd)) : okArgs (x :: xs) = ((x.2.solid || notObj x.1) && okArgs xs) := rfl
/-- a for whose body leaves the slots as they are but its own -/
theorem for_chk {ds : List D} (hi : i < ρ.length) (h : ∀ d ∈ ds, a (ρ.set i (.va d)) = .nx (ρ.set i (.va d))) : ∃ x, forL (.one i) a ds ρ = .nx (ρ.set i x) := by
  obtain ⟨ρ', h1, x, rfl⟩ := forL_nx (tg := .one i) (a := a) (I := fun _ z => ∃ x, z = ρ.set i x) (ds := ds) (k := 0) (ρ := ρ) ⟨ρ[i], by simp⟩ (fun j d z hd ⟨x, e⟩ => by
    subst e
    refine ⟨ρ.set i (.va d), ρ.set i (.va d), by simp [hi], .inl (h d (List.mem_of_getElem? hd)), _, rfl⟩)
  exact ⟨x, h1⟩
end
end G
namespace GD
open PySem L2 G
/-- the marks of a refusal of class n -/
def mk (n : Nat) : D := .lst [.bl (n == 1), .bl (n == 2), .bl (n == 3), .bl (n == 4), .bl (n == 5), .bl (n == 6), .bl true]
theorem marks1 : R__law_marks 1 = .ok (mk 1, true) := rfl
theorem marks2 : R__law_marks 2 = .ok (mk 2, true) := rfl
theorem marks3 : R__law_marks 3 = .ok (mk 3, true) := rfl
theorem marks4 : R__law_marks 4 = .ok (mk 4, true) := rfl
theorem marks5 : R__law_marks 5 = .ok (mk 5, true) := rfl
theorem marks6 : R__law_marks 6 = .ok (mk 6, true) := rfl
theorem due1 : R__law_due [.str "BadSize"] = .ok (mk 1, true) := rfl
theorem due2 : R__law_due [.str "BadBit"] = .ok (mk 2, true) := rfl
theorem due3 : R__law_due [.str "NoCell"] = .ok (mk 3, true) := rfl
theorem due4 : R__law_due [.str "NoLine"] = .ok (mk 4, true) := rfl
theorem due5 : R__law_due [.str "NoStep"] = .ok (mk 5, true) := rfl
theorem due6 : R__law_due [.str "NoPoint"] = .ok (mk 6, true) := rfl
theorem mk_ne1 : oNe (mk 1) (mk 1) = .ok (.bl false, .sh) := rfl
theorem mk_ne2 : oNe (mk 2) (mk 2) = .ok (.bl false, .sh) := rfl
theorem mk_ne3 : oNe (mk 3) (mk 3) = .ok (.bl false, .sh) := rfl
theorem mk_ne4 : oNe (mk 4) (mk 4) = .ok (.bl false, .sh) := rfl
theorem mk_ne5 : oNe (mk 5) (mk 5) = .ok (.bl false, .sh) := rfl
theorem mk_ne6 : oNe (mk 6) (mk 6) = .ok (.bl false, .sh) := rfl
section
variable {s : Int} {us ls : List Int}
theorem bit_no {w : Str} {k : Int} (h1 : w = "col" → ¬ (0 ≤ k ∧ k < us.length)) (h2 : w = "row" → ¬ (0 ≤ k ∧ k < ls.length)) : R_Cloth_bit [cl s us ls, .str w, .int k] = .ex 4 [] := by
  have ne : ¬ (Str.ofString "row" = Str.ofString "col") := by decide
  have ne2 : ¬ (Str.ofString "col" = Str.ofString "row") := by decide
  by_cases a : w = "col"
  · have g1 := h1 a
    subst a
    by_cases c1 : 0 ≤ k
    · have c2 : ¬ k < us.length := fun z => g1 ⟨c1, z⟩
      simp [R_Cloth_bit, denF, slots, S_Cloth_bit, sSeq_ap, c1, c2, ne2]
    · simp [R_Cloth_bit, denF, slots, S_Cloth_bit, sSeq_ap, c1, ne2]
  · by_cases b : w = "row"
    · have g2 := h2 b
      subst b
      by_cases c1 : 0 ≤ k
      · have c2 : ¬ k < ls.length := fun z => g2 ⟨c1, z⟩
        simp [R_Cloth_bit, denF, slots, S_Cloth_bit, sSeq_ap, c1, c2, ne]
      · simp [R_Cloth_bit, denF, slots, S_Cloth_bit, sSeq_ap, c1, ne]
    · simp [R_Cloth_bit, denF, slots, S_Cloth_bit, sSeq_ap, a, b]
theorem stitched_no {w : Str} {k y : Int} (h1 : w = "col" → ¬ (0 ≤ k ∧ k < us.length)) (h2 : w = "row" → ¬ (0 ≤ k ∧ k < ls.length)) : R_Cloth_stitched [cl s us ls, .str w, .int k, .int y] = .ex 4 [] := by
  have b := bit_no (s := s) h1 h2
  simp [R_Cloth_stitched, denF, slots, S_Cloth_stitched, sSeq_ap, b]
theorem stitched_step_col {k y : Int} (h1 : 0 ≤ k) (h2 : k < us.length) (h : y < 0 ∨ (ls.length : Int) + 1 ≤ y) : R_Cloth_stitched [cl s us ls, .str "col", .int k, .int y] = .ex 5 [] := by
  have b := bit_col (s := s) (ls := ls) h1 h2
  have st := steps_col s us ls
  by_cases e1 : y < 0
  · simp [R_Cloth_stitched, denF, slots, S_Cloth_stitched, sSeq_ap, b, st, e1]
  · have e2 : (ls.length : Int) + 1 ≤ y := by omega
    simp [R_Cloth_stitched, denF, slots, S_Cloth_stitched, sSeq_ap, b, st, e1, e2]
theorem stitched_step_row {k x : Int} (h1 : 0 ≤ k) (h2 : k < ls.length) (h : x < 0 ∨ (us.length : Int) + 1 ≤ x) : R_Cloth_stitched [cl s us ls, .str "row", .int k, .int x] = .ex 5 [] := by
  have b := bit_row (s := s) (us := us) h1 h2
  have st := steps_row s us ls
  by_cases e1 : x < 0
  · simp [R_Cloth_stitched, denF, slots, S_Cloth_stitched, sSeq_ap, b, st, e1]
  · have e2 : (us.length : Int) + 1 ≤ x := by omega
    simp [R_Cloth_stitched, denF, slots, S_Cloth_stitched, sSeq_ap, b, st, e1, e2]
theorem ask_cell_no {x y : Int} (h : ¬ (0 ≤ x ∧ x ≤ us.length ∧ 0 ≤ y ∧ y ≤ ls.length)) : R_Cloth_ask_cell [cl s us ls, .int x, .int y] = .ex 3 [] := by
  by_cases e1 : x < 0
  · simp [R_Cloth_ask_cell, denF, slots, S_Cloth_ask_cell, wide_cl, tall_cl, e1]
  · by_cases e2 : y < 0
    · simp [R_Cloth_ask_cell, denF, slots, S_Cloth_ask_cell, wide_cl, tall_cl, e1, e2]
    · by_cases e3 : (us.length : Int) + 1 ≤ x
      · simp [R_Cloth_ask_cell, denF, slots, S_Cloth_ask_cell, wide_cl, tall_cl, e1, e2, e3]
      · have e4 : (ls.length : Int) + 1 ≤ y := by omega
        simp [R_Cloth_ask_cell, denF, slots, S_Cloth_ask_cell, wide_cl, tall_cl, e1, e2, e3, e4]
theorem colour_no {x y : Int} (h : ¬ (0 ≤ x ∧ x ≤ us.length ∧ 0 ≤ y ∧ y ≤ ls.length)) : R_Cloth_colour [cl s us ls, .int x, .int y] = .ex 3 [] := by
  have a := ask_cell_no (s := s) h
  simp [R_Cloth_colour, denF, slots, S_Cloth_colour, sSeq_ap, a]
/-- _law_refused at the three doors -/
theorem refused0 {w : Str} {k : Int} {z : D} (h1 : w = "col" → ¬ (0 ≤ k ∧ k < us.length)) (h2 : w = "row" → ¬ (0 ≤ k ∧ k < ls.length)) : R__law_refused [cl s us ls, .int 0, .str w, .int k, z] = .ok (mk 4, false) := by
  have b := bit_no (s := s) h1 h2
  simp [R__law_refused, denF, slots, S__law_refused, sSeq_ap, b, marks4, SZ]
theorem refused1 {w : Str} {k y : Int} (h1 : w = "col" → ¬ (0 ≤ k ∧ k < us.length)) (h2 : w = "row" → ¬ (0 ≤ k ∧ k < ls.length)) : R__law_refused [cl s us ls, .int 1, .str w, .int k, .int y] = .ok (mk 4, false) := by
  have b := stitched_no (s := s) (y := y) h1 h2
  simp [R__law_refused, denF, slots, S__law_refused, sSeq_ap, b, marks4, SZ]
theorem refused1_col {k y : Int} (h1 : 0 ≤ k) (h2 : k < us.length) (h : y < 0 ∨ (ls.length : Int) + 1 ≤ y) : R__law_refused [cl s us ls, .int 1, .str "col", .int k, .int y] = .ok (mk 5, false) := by
  have b := stitched_step_col (s := s) h1 h2 h
  simp [R__law_refused, denF, slots, S__law_refused, sSeq_ap, b, marks5, SZ]
theorem refused1_row {k y : Int} (h1 : 0 ≤ k) (h2 : k < ls.length) (h : y < 0 ∨ (us.length : Int) + 1 ≤ y) : R__law_refused [cl s us ls, .int 1, .str "row", .int k, .int y] = .ok (mk 5, false) := by
  have b := stitched_step_row (s := s) h1 h2 h
  simp [R__law_refused, denF, slots, S__law_refused, sSeq_ap, b, marks5, SZ]
theorem refused2 {w : Str} {x y : Int} (h : ¬ (0 ≤ x ∧ x ≤ us.length ∧ 0 ≤ y ∧ y ≤ ls.length)) : R__law_refused [cl s us ls, .int 2, .str w, .int x, .int y] = .ok (mk 3, false) := by
  have b := colour_no (s := s) h
  simp [R__law_refused, denF, slots, S__law_refused, sSeq_ap, b, marks3, SZ]
end
end GD
/-! Own trees, the plain side; rows that are fresh. -/
namespace G
open PySem L2
section
variable {f g h : ES} {t u : TSm} {ρ : Sl} {i j : Nat} {d e : D} {k : Kd} {c : Sh}
@[simp] theorem unX_pv (c : Sh) : unX (.pv c d) = .pv c d := rfl
@[simp] theorem sFrzA_ap : sFrzA i ρ = match ρ[i]? with
  | some (.ow d) => .nx (ρ.set i (.va d))
  | some (.pv _ d) => .nx (ρ.set i (.va d))
  | _ => .nx ρ := rfl
@[simp] theorem outOk_int (n : Int) : outOk (.int n) k = true := rfl
@[simp] theorem outOk_bl (n : Bool) : outOk (.bl n) k = true := rfl
@[simp] theorem outOk_str (n : Str) : outOk (.str n) k = true := rfl
@[simp] theorem outOk_non : outOk .non k = true := rfl
@[simp] theorem outOk_lst (ds : List D) : outOk (.lst ds) .fr = ds.all flat := rfl
@[simp] theorem outOk_obj (c : Nat) (ds : List D) : outOk (.obj c ds) .fr = true := rfl
@[simp] theorem eBor_ap : eBor i f ρ = match ρ[i]? with
  | some (.pv _ d) => (match f (ρ.set i (.va d)) with
    | .ok (r, k) => if outOk r k = true ∧ k.solid = true then .ok (r, k) else .no
    | .ex n fs => if fs = [] then .ex n [] else .no
    | .no => .no)
  | _ => f ρ := rfl
@[simp] theorem tBor_ap : tBor i t ρ = match ρ[i]? with
  | some (.pv _ d) => (match t (ρ.set i (.va d)) with
    | .ok b => .ok b
    | .ex n fs => if fs = [] then .ex n [] else .no
    | .no => .no)
  | _ => t ρ := rfl
@[simp] theorem okP_nil : okP [] = true := rfl
@[simp] theorem okP_cons (x : D × Kd) (xs : List (D × Kd)) : okP (x :: xs) = (okK x.1 x.2 && okP xs) := rfl
@[simp] theorem okK_fr : okK d .fr = true := rfl
@[simp] theorem okK_sh : okK d .sh = flat d := rfl
@[simp] theorem sSetLstP_ap (fs : List ES) : sSetLstP i fs ρ = sWith (eArgs fs ρ) ρ fun xs => if okP xs = true ∧ xs.length ≤ SZ then .nx (ρ.set i (.pv sh2 (.lst (xs.map (·.1))))) else .no := rfl
@[simp] theorem sAppP_ap : sAppP i f ρ = match ρ[i]? with
  | some (.pv (.nd k) (.lst ds)) => sWith (f ρ) ρ fun v => (match v with
    | (.lst es, .fr) => (match k ds.length with
      | .nd _ => if es.all flat = true ∧ ds.length < SZ then .nx (ρ.set i (.pv (.nd k) (.lst (ds ++ [.lst es])))) else .no
      | _ => .no)
    | _ => .no)
  | _ => .no := rfl
@[simp] theorem sAppF_ap : sAppF f g ρ = sWith (f ρ) ρ fun x => (match x with
  | (.lst ds, .fr) => sWith (g ρ) ρ fun _ => if ds.length < SZ then .nx ρ else .no
  | _ => .no) := rfl
@[simp] theorem sClrF_ap : sClrF f ρ = sWith (f ρ) ρ fun x => (match x with
  | (.lst _, .fr) => .nx ρ
  | _ => .no) := rfl
@[simp] theorem sPut2_ap : sPut2 i f g h ρ = match ρ[i]? with
  | some (.pv k (.lst ds)) => sWith (h ρ) ρ fun v => if v.2.solid then sWith (f ρ) ρ fun a => (match row2 k ds a.1 with
    | some (k2, p, es) => sWith (g ρ) ρ fun b => (match set2 k2 es b.1 v.1 with
      | some es' => .nx (ρ.set i (.pv k (.lst (ds.set p (.lst es')))))
      | none => .no)
    | none => .no) else .no
  | _ => .no := rfl
theorem sh2_eq : sh2 = .nd fun _ => sh1 := rfl
theorem row2_ok {ds es : List D} {n : Int} (h0 : 0 ≤ n) (h : ds[n.toNat]? = some (.lst es)) : row2 sh2 ds (.int n) = some (fun _ => .lf, n.toNat, es) := by
  have l := (List.getElem?_eq_some_iff.mp h).1
  have e := ixN_ok (n := ds.length) h0 (by omega)
  simp [row2, sh2, sh1, e, h]
theorem set2_ok {es : List D} {n : Int} {v : D} (h0 : 0 ≤ n) (h : n < es.length) : set2 (fun _ => .lf) es (.int n) v = some (es.set n.toNat v) := by
  have e := ixN_ok (n := es.length) h0 h
  simp [set2, e]
end
end G
namespace GD
open PySem L2 G
theorem row_v2 {us : List Int} {many : Int} (hu : 4 ≤ us.length) (h0 : 0 ≤ many) (h1 : many ≤ 1000) : ∃ bs : List Int, R__law_row_v2 [.lst (us.map .int), .int many] = .ok (.lst (bs.map .int), true) ∧ (bs.length : Int) = many ∧ Bits bs := by
  have i0 := oIx_i (us := us) (i := 0) (by omega) (by omega)
  have i1 := oIx_i (us := us) (i := 1) (by omega) (by omega)
  have i2 := oIx_i (us := us) (i := 2) (by omega) (by omega)
  have i3 := oIx_i (us := us) (i := 3) (by omega) (by omega)
  have in62m := in62_of (show -(2 ^ 62) < many by omega) (by omega)
  have key : ∀ num : Int, ∃ bs : List Int, (match (R__law_bits [.int num, .int many]) with
      | .ok (d, _) => (if gt us 3 % 5 = 4 then (match lcA (.one 4) tYes (eBin oIx (eVar 3) (eBin oMod (eVar 4) (eBin oAdd (eC (.int 1)) (eBin oMod (eBin oIx (eVar 0) (eC (.int 1))) (eC (.int 4)))))) [.va (.lst (us.map .int)), .va (.int many), .va (.int num), .ow d, .un] [] (rngD 0 many) with
        | .ok r => r
        | _ => []) else (match d with
        | .lst xs => xs
        | _ => []))
      | _ => []) = bs.map .int ∧ (bs.length : Int) = many ∧ Bits bs ∧ (∃ d, R__law_bits [.int num, .int many] = .ok (.lst d, true) ∧ (gt us 3 % 5 = 4 → lcA (.one 4) tYes (eBin oIx (eVar 3) (eBin oMod (eVar 4) (eBin oAdd (eC (.int 1)) (eBin oMod (eBin oIx (eVar 0) (eC (.int 1))) (eC (.int 4)))))) [.va (.lst (us.map .int)), .va (.int many), .va (.int num), .ow (.lst d), .un] [] (rngD 0 many) = .ok (bs.map .int)) ∧ (¬ gt us 3 % 5 = 4 → d = bs.map .int)) := by
    intro num
    obtain ⟨bs, e1, e2, e3⟩ := bits (num := num) h0 h1
    by_cases q : gt us 3 % 5 = 4
    · obtain ⟨r, g1, g2, g3⟩ := lcA_ok (tg := .one 4) (e := eBin oIx (eVar 3) (eBin oMod (eVar 4) (eBin oAdd (eC (.int 1)) (eBin oMod (eBin oIx (eVar 0) (eC (.int 1))) (eC (.int 4)))))) (ρ := [.va (.lst (us.map .int)), .va (.int many), .va (.int num), .ow (.lst (bs.map .int)), .un])
        (P := fun _ y => ∃ i, y = .int i ∧ (i = 0 ∨ i = 1)) (ds := rngD 0 many) (acc := []) (k := 0) (by rw [rngD_len]; unfold SZ; simp; omega) (fun j d hd => by
          obtain ⟨rfl, lt⟩ := rngD_get hd
          have p1 : 0 < 1 + gt us 1 % 4 := by omega
          have p2 : 0 ≤ (j : Int) % (1 + gt us 1 % 4) := Int.emod_nonneg _ (by omega)
          have p3 : (j : Int) % (1 + gt us 1 % 4) < bs.length := by
            rw [e2]
            exact Int.lt_of_le_of_lt (emod_le_nat j (by omega)) lt
          have i4 := oIx_i (us := bs) p2 p3
          refine ⟨[.va (.lst (us.map .int)), .va (.int many), .va (.int num), .ow (.lst (bs.map .int)), .va (.int j)], .int (gt bs ((j : Int) % (1 + gt us 1 % 4)).toNat), .sh, by simp, ?_, rfl, _, rfl, e3.get _⟩
          simp at i1 i4 p1
          simp [i1, p1, i4])
      obtain ⟨vs, e4, e5⟩ := ints_of g3
      refine ⟨vs, ?_, ?_, e5, bs.map .int, e1, fun _ => ?_, fun z => absurd q z⟩
      · rw [e1]
        dsimp only
        rw [if_pos q, g1]
        simpa using e4
      · have := congrArg List.length e4
        rw [List.length_map, g2, rngD_len] at this
        omega
      · rw [g1, e4]
        rfl
    · refine ⟨bs, ?_, e2, e3, bs.map .int, e1, fun z => absurd z q, fun _ => rfl⟩
      rw [e1]
      dsimp only
      rw [if_neg q]
  by_cases q3 : gt us 3 % 5 = 3
  · obtain ⟨bs, _, h2, h3, d, h4, h5, h6⟩ := key (-(gt us 0 % 2))
    refine ⟨bs, ?_, h2, h3⟩
    have ne : ¬ gt us 3 % 5 = 4 := by omega
    obtain rfl := h6 ne
    simp at i0 i1 i2 i3 h4 q3
    simp [R__law_row_v2, denF, slots, S__law_row_v2, sSeq_ap, i0, i1, i2, i3, oMul_l, oMul_r, q3, h4]
  · obtain ⟨bs, _, h2, h3, d, h4, h5, h6⟩ := key (gt us 0 + 1000003 * gt us 1 + 1000003 * 1000003 * gt us 2)
    refine ⟨bs, ?_, h2, h3⟩
    by_cases q4 : gt us 3 % 5 = 4
    · have h5 := h5 q4
      simp at i0 i1 i2 i3 h4 q4 h5
      simp [R__law_row_v2, denF, slots, S__law_row_v2, sSeq_ap, i0, i1, i2, i3, oMul_l, oMul_r, q4, h4, eLc, wipeS, in62m, h5]
    · obtain rfl := h6 q4
      simp at i0 i1 i2 i3 h4 q3 q4
      simp [R__law_row_v2, denF, slots, S__law_row_v2, sSeq_ap, i0, i1, i2, i3, oMul_l, oMul_r, q3, q4, h4]

/-! ### what a cloth's making refuses -/
theorem ask_bits_no {bs : List Int} {d : D} (hd : d = dI bs) (h : ∃ b ∈ bs, b ≠ 0 ∧ b ≠ 1) : R_ask_bits [d] = .ex 2 [] := by
  have key : ∀ (cs : List Int) (x : Slot), (∃ b ∈ cs, b ≠ 0 ∧ b ≠ 1) → ∃ ρ, forL (.one 1) S_ask_bits_b1 (cs.map .int) [.va d, x] = .ex 2 [] ρ := by
    intro cs
    induction cs with
    | nil => intro x ⟨b, hb, _⟩; cases hb
    | cons c cs ih =>
      intro x ⟨b, hb, nb⟩
      by_cases q : c = 0 ∨ c = 1
      · have : ∃ b ∈ cs, b ≠ 0 ∧ b ≠ 1 := by
          rcases List.mem_cons.mp hb with rfl | hb
          · exact absurd q (by omega)
          · exact ⟨b, hb, nb⟩
        obtain ⟨ρ, h1⟩ := ih (.va (.int c)) this
        refine ⟨ρ, ?_⟩
        rcases q with rfl | rfl <;> simpa [forL, S_ask_bits_b1] using h1
      · have q1 : c ≠ 0 := fun z => q (.inl z)
        have q2 : c ≠ 1 := fun z => q (.inr z)
        exact ⟨_, by simp [forL, S_ask_bits_b1, q1, q2]; rfl⟩
  subst hd
  obtain ⟨ρ, h1⟩ := key bs .un h
  simp [R_ask_bits, denF, slots, S_ask_bits, sFor_ap, h1]
theorem init_size {s : Int} {us ls : List Int} (h : 40 ≤ us.length ∨ 40 ≤ ls.length) : R_Cloth___init__ [.int s, dI us, dI ls] = .ex 1 [] := by
  by_cases q : (40 : Int) ≤ us.length
  · simp [R_Cloth___init__, denI, slots, S_Cloth___init__, sSeq_ap, q]
  · have q2 : (40 : Int) ≤ ls.length := by omega
    simp [R_Cloth___init__, denI, slots, S_Cloth___init__, sSeq_ap, q, q2]
theorem init_bit {s : Int} {us ls : List Int} (h1 : us.length < 40) (h2 : ls.length < 40) (h : ∃ b ∈ [s] ++ us ++ ls, b ≠ 0 ∧ b ≠ 1) : R_Cloth___init__ [.int s, dI us, dI ls] = .ex 2 [] := by
  have ab := ask_bits_no (bs := [s] ++ us ++ ls) rfl h
  have n1 : ¬ (40 : Int) ≤ us.length := by omega
  have n2 : ¬ (40 : Int) ≤ ls.length := by omega
  have n3 : 1 + us.length ≤ SZ := by unfold SZ; omega
  have n4 : us.length + 1 + ls.length ≤ SZ := by unfold SZ; omega
  simp [dI] at ab n3 n4
  simp [R_Cloth___init__, denI, slots, S_Cloth___init__, sSeq_ap, n1, n2, n3, n4, ab, SZ]
end GD
/-! Points, what is joined with a point. -/
namespace G
open PySem L2 PySem.W
section
variable {f g : ES} {ρ : Sl}
@[simp] theorem eLm_ap (op : List D → D → Out (D × Kd)) : eLm op f g ρ = (f ρ).bind fun x => match x.1 with
  | .lst ds => (g ρ).bind fun y => op ds y.1
  | _ => .no := rfl
end
abbrev Pt : Type := Int × Int
def ptD (p : Pt) : D := .tup [.int p.1, .int p.2]
def leP (p q : Pt) : Bool := decide (p.1 < q.1 ∨ (p.1 = q.1 ∧ p.2 ≤ q.2))
theorem toPy_pt (p : Pt) : toPy (ptD p) = some (.tuple [.int p.1, .int p.2]) := rfl
theorem toPys_pts : ∀ ps : List Pt, toPys (ps.map ptD) = some (ps.map fun p => .tuple [.int p.1, .int p.2])
  | [] => rfl
  | p :: ps => by
    show (toPy (ptD p)).bind (fun z => (toPys (ps.map ptD)).map (z :: ·)) = _
    rw [toPy_pt, toPys_pts ps]
    rfl
theorem sortB_pts (ps : List Pt) : sortB (ps.map fun p : Pt => PyData.tuple [.int p.1, .int p.2]) = true := by
  unfold sortB
  have h1 : ((ps.map fun p : Pt => PyData.tuple [.int p.1, .int p.2]).all fun p => (ps.map fun p : Pt => PyData.tuple [.int p.1, .int p.2]).all fun q => alike p q) = true := by
    rw [List.all_map]
    refine List.all_eq_true.mpr fun p _ => ?_
    show ((ps.map fun p : Pt => PyData.tuple [.int p.1, .int p.2]).all fun q => alike _ q) = true
    rw [List.all_map]
    exact List.all_eq_true.mpr fun q _ => by simp [alike, alikeAll]
  have h2 : (ps.map fun p : Pt => PyData.tuple [.int p.1, .int p.2]).all tup1 = true := by
    rw [List.all_map]
    exact List.all_eq_true.mpr fun q _ => rfl
  have h3 : ((ps.map fun p : Pt => PyData.tuple [.int p.1, .int p.2]).all fun p => decide (p.depth < 50)) = true := by
    rw [List.all_map]
    exact List.all_eq_true.mpr fun q _ => by simp [PyData.depth, PyData.depthAll]
  rw [h1, h2, h3]
  rfl
theorem leD_pt (p q : Pt) : leD (ptD p) (ptD q) = leP p q := by
  unfold leD leP
  show (!dataLt (.tuple [.int q.1, .int q.2]) (.tuple [.int p.1, .int p.2])) = _
  rw [dataLt_ii]
  by_cases h : q.1 < p.1 ∨ (q.1 = p.1 ∧ q.2 < p.2)
  · rw [decide_eq_true h, decide_eq_false (by omega)]
    rfl
  · rw [decide_eq_false h, decide_eq_true (by omega)]
    rfl
def sortP (ps : List Pt) : List Pt := ps.mergeSort leP
theorem oSrt_pts (ps : List Pt) : oSrt (.lst (ps.map ptD)) = .ok (.lst ((sortP ps).map ptD), .fr) := by
  show srtL (ps.map ptD) = _
  unfold srtL
  rw [toPys_pts]
  dsimp only
  rw [if_pos (sortB_pts ps)]
  unfold sortP
  rw [List.map_mergeSort (f := ptD) (s := leD) fun a _ b _ => (leD_pt a b).symm]
theorem sortP_perm (ps : List Pt) : (sortP ps).Perm ps := List.mergeSort_perm ps leP
theorem sortP_len (ps : List Pt) : (sortP ps).length = ps.length := List.length_mergeSort ps
theorem sortP_nil : sortP [] = [] := by simp [sortP]
theorem sortP_one (p : Pt) : sortP [p] = [p] := by simp [sortP]
theorem sortP_two (p q : Pt) : sortP [p, q] = if leP p q = true then [p, q] else [q, p] := by
  unfold sortP
  rw [List.mergeSort]
  simp [List.MergeSort.Internal.splitInTwo, List.merge]
end G
namespace GD
open PySem L2 G
/-- points are like themselves -/
theorem nice_pts {ps : List Pt} (h : ps.length < SZ) : Nice 3 (.lst (ps.map ptD)) := .lst (by simpa using h) fun x hx => by
  obtain ⟨p, _, rfl⟩ := List.mem_map.mp hx
  exact .tup (by simp [SZ]) fun y hy => by
    simp at hy
    rcases hy with rfl | rfl <;> exact .int _ _
theorem same_pts {ps : List Pt} (h : ps.length < SZ) : R__law_same [.lst (ps.map ptD), .lst (ps.map ptD)] = .ok (.bl true, false) := same ((nice_pts h).le (by decide))
section
variable {s : Int} {us ls : List Int}
/-- the partner along the row, along the column -/
def rx (ls : List Int) (x y : Int) : Int := if (x + gt ls (y - 1).toNat) % 2 = 1 then x + 1 else x - 1
def cy (us : List Int) (x y : Int) : Int := if (y + gt us (x - 1).toNat) % 2 = 1 then y + 1 else y - 1
def rowN (us ls : List Int) (x y : Int) : List Pt := if 0 < y ∧ y < ls.length + 1 ∧ 0 ≤ rx ls x y ∧ rx ls x y ≤ us.length + 1 then [(rx ls x y, y)] else []
def colN (us ls : List Int) (x y : Int) : List Pt := if 0 < x ∧ x < us.length + 1 ∧ 0 ≤ cy us x y ∧ cy us x y ≤ ls.length + 1 then [(x, cy us x y)] else []
def joinL (us ls : List Int) (x y : Int) : List Pt := sortP (rowN us ls x y ++ colN us ls x y)
theorem rowN_len (us ls : List Int) (x y : Int) : (rowN us ls x y).length ≤ 1 := by unfold rowN; split <;> simp
theorem colN_len (us ls : List Int) (x y : Int) : (colN us ls x y).length ≤ 1 := by unfold colN; split <;> simp
theorem joinL_len (us ls : List Int) (x y : Int) : (joinL us ls x y).length ≤ 2 := by
  unfold joinL
  rw [sortP_len, List.length_append]
  have := rowN_len us ls x y
  have := colN_len us ls x y
  omega
theorem along_row {x y : Int} (p : Plan s us ls) (h1 : 0 ≤ x) (h2 : x ≤ us.length + 1) (h3 : 0 ≤ y) (h4 : y ≤ ls.length + 1) : R_along_row [cl s us ls, .int x, .int y] = .ok (.lst ((rowN us ls x y).map ptD), true) := by
  have w := wide_cl s us ls
  have t := tall_cl s us ls
  by_cases a : y = 0
  · subst a
    simp [R_along_row, denF, slots, S_along_row, sSeq_ap, w, t, rowN, SZ]
  by_cases b : y = ls.length + 1
  · subst b
    simp [R_along_row, denF, slots, S_along_row, sSeq_ap, w, t, rowN, SZ]
  have bt := p.bl.get (y - 1).toNat
  have st : ∀ z : Int, 0 ≤ z → z ≤ us.length → R_Cloth_stitched [cl s us ls, .str "row", .int (y - 1), .int z] = .ok (.bl (decide ((z + gt ls (y - 1).toNat) % 2 = 1)), false) := fun z z1 z2 => stitched_row (by omega) (by omega) z1 z2
  by_cases o : (x + gt ls (y - 1).toNat) % 2 = 1
  · have rxe : rx ls x y = x + 1 := by unfold rx; rw [if_pos o]
    by_cases c : x < us.length + 1
    · have st1 := st x h1 (by omega)
      rw [decide_eq_true o] at st1
      have q : 0 < y ∧ y < ls.length + 1 ∧ 0 ≤ x + 1 ∧ x + 1 ≤ us.length + 1 := by omega
      have re : rowN us ls x y = [(x + 1, y)] := by unfold rowN; rw [rxe, if_pos q]
      simp [R_along_row, denF, slots, S_along_row, sSeq_ap, w, t, re, a, b, c, st1, ptD, SZ]
    · have c1 : 0 < x := by omega
      have st2 := st (x - 1) (by omega) (by omega)
      rw [decide_eq_false (by omega)] at st2
      have q : ¬ (0 < y ∧ y < ls.length + 1 ∧ 0 ≤ x + 1 ∧ x + 1 ≤ us.length + 1) := by omega
      have re : rowN us ls x y = [] := by unfold rowN; rw [rxe, if_neg q]
      simp [R_along_row, denF, slots, S_along_row, sSeq_ap, w, t, re, a, b, c, c1, st2, SZ]
  · have rxe : rx ls x y = x - 1 := by unfold rx; rw [if_neg o]
    have o2 : (x - 1 + gt ls (y - 1).toNat) % 2 = 1 := by omega
    by_cases c1 : 0 < x
    · have st2 := st (x - 1) (by omega) (by omega)
      rw [decide_eq_true o2] at st2
      have q : 0 < y ∧ y < ls.length + 1 ∧ 0 ≤ x - 1 ∧ x - 1 ≤ us.length + 1 := by omega
      have re : rowN us ls x y = [(x - 1, y)] := by unfold rowN; rw [rxe, if_pos q]
      by_cases c : x < us.length + 1
      · have st1 := st x h1 (by omega)
        rw [decide_eq_false o] at st1
        simp [R_along_row, denF, slots, S_along_row, sSeq_ap, w, t, re, a, b, c, c1, st1, st2, ptD, SZ]
      · simp [R_along_row, denF, slots, S_along_row, sSeq_ap, w, t, re, a, b, c, c1, st2, ptD, SZ]
    · have c : x < us.length + 1 := by omega
      have st1 := st x h1 (by omega)
      rw [decide_eq_false o] at st1
      have q : ¬ (0 < y ∧ y < ls.length + 1 ∧ 0 ≤ x - 1 ∧ x - 1 ≤ us.length + 1) := by omega
      have re : rowN us ls x y = [] := by unfold rowN; rw [rxe, if_neg q]
      simp [R_along_row, denF, slots, S_along_row, sSeq_ap, w, t, re, a, b, c, c1, st1, ptD, SZ]
theorem along_col {x y : Int} (p : Plan s us ls) (h1 : 0 ≤ x) (h2 : x ≤ us.length + 1) (h3 : 0 ≤ y) (h4 : y ≤ ls.length + 1) : R_along_column [cl s us ls, .int x, .int y] = .ok (.lst ((colN us ls x y).map ptD), true) := by
  have w := wide_cl s us ls
  have t := tall_cl s us ls
  by_cases a : x = 0
  · subst a
    simp [R_along_column, denF, slots, S_along_column, sSeq_ap, w, t, colN, SZ]
  by_cases b : x = us.length + 1
  · subst b
    simp [R_along_column, denF, slots, S_along_column, sSeq_ap, w, t, colN, SZ]
  have bt := p.bu.get (x - 1).toNat
  have st : ∀ z : Int, 0 ≤ z → z ≤ ls.length → R_Cloth_stitched [cl s us ls, .str "col", .int (x - 1), .int z] = .ok (.bl (decide ((z + gt us (x - 1).toNat) % 2 = 1)), false) := fun z z1 z2 => stitched_col (by omega) (by omega) z1 z2
  by_cases o : (y + gt us (x - 1).toNat) % 2 = 1
  · have rxe : cy us x y = y + 1 := by unfold cy; rw [if_pos o]
    by_cases c : y < ls.length + 1
    · have st1 := st y h3 (by omega)
      rw [decide_eq_true o] at st1
      have q : 0 < x ∧ x < us.length + 1 ∧ 0 ≤ y + 1 ∧ y + 1 ≤ ls.length + 1 := by omega
      have re : colN us ls x y = [(x, y + 1)] := by unfold colN; rw [rxe, if_pos q]
      simp [R_along_column, denF, slots, S_along_column, sSeq_ap, w, t, re, a, b, c, st1, ptD, SZ]
    · have c1 : 0 < y := by omega
      have st2 := st (y - 1) (by omega) (by omega)
      rw [decide_eq_false (by omega)] at st2
      have q : ¬ (0 < x ∧ x < us.length + 1 ∧ 0 ≤ y + 1 ∧ y + 1 ≤ ls.length + 1) := by omega
      have re : colN us ls x y = [] := by unfold colN; rw [rxe, if_neg q]
      simp [R_along_column, denF, slots, S_along_column, sSeq_ap, w, t, re, a, b, c, c1, st2, SZ]
  · have rxe : cy us x y = y - 1 := by unfold cy; rw [if_neg o]
    have o2 : (y - 1 + gt us (x - 1).toNat) % 2 = 1 := by omega
    by_cases c1 : 0 < y
    · have st2 := st (y - 1) (by omega) (by omega)
      rw [decide_eq_true o2] at st2
      have q : 0 < x ∧ x < us.length + 1 ∧ 0 ≤ y - 1 ∧ y - 1 ≤ ls.length + 1 := by omega
      have re : colN us ls x y = [(x, y - 1)] := by unfold colN; rw [rxe, if_pos q]
      by_cases c : y < ls.length + 1
      · have st1 := st y h3 (by omega)
        rw [decide_eq_false o] at st1
        simp [R_along_column, denF, slots, S_along_column, sSeq_ap, w, t, re, a, b, c, c1, st1, st2, ptD, SZ]
      · simp [R_along_column, denF, slots, S_along_column, sSeq_ap, w, t, re, a, b, c, c1, st2, ptD, SZ]
    · have c : y < ls.length + 1 := by omega
      have st1 := st y h3 (by omega)
      rw [decide_eq_false o] at st1
      have q : ¬ (0 < x ∧ x < us.length + 1 ∧ 0 ≤ y - 1 ∧ y - 1 ≤ ls.length + 1) := by omega
      have re : colN us ls x y = [] := by unfold colN; rw [rxe, if_neg q]
      simp [R_along_column, denF, slots, S_along_column, sSeq_ap, w, t, re, a, b, c, c1, st1, ptD, SZ]
theorem joined_ok {x y : Int} (p : Plan s us ls) (h1 : 0 ≤ x) (h2 : x ≤ us.length + 1) (h3 : 0 ≤ y) (h4 : y ≤ ls.length + 1) : R_joined [cl s us ls, ptD (x, y)] = .ok (.lst ((joinL us ls x y).map ptD), true) := by
  have w := wide_cl s us ls
  have t := tall_cl s us ls
  have a := along_row p h1 h2 h3 h4
  have b := along_col p h1 h2 h3 h4
  have e1 : ¬ x < 0 := by omega
  have e2 : ¬ y < 0 := by omega
  have e3 : ¬ (us.length : Int) + 1 < x := by omega
  have e4 : ¬ (ls.length : Int) + 1 < y := by omega
  have l1 := rowN_len us ls x y
  have l2 := colN_len us ls x y
  have sz : (rowN us ls x y).length + (colN us ls x y).length ≤ SZ := by unfold SZ; omega
  have so := oSrt_pts (rowN us ls x y ++ colN us ls x y)
  rw [List.map_append] at so
  simp [R_joined, denF, slots, S_joined, sSeq_ap, ptD, w, t, e1, e2, e3, e4, a, b, sz]
  simp [so, joinL, ptD]
theorem joined_no {x y : Int} (h : ¬ (0 ≤ x ∧ x ≤ us.length + 1 ∧ 0 ≤ y ∧ y ≤ ls.length + 1)) : R_joined [cl s us ls, ptD (x, y)] = .ex 6 [] := by
  have w := wide_cl s us ls
  have t := tall_cl s us ls
  by_cases e1 : x < 0
  · simp [R_joined, denF, slots, S_joined, sSeq_ap, ptD, w, t, e1]
  · by_cases e2 : y < 0
    · simp [R_joined, denF, slots, S_joined, sSeq_ap, ptD, w, t, e1, e2]
    · by_cases e3 : (us.length : Int) + 1 < x
      · simp [R_joined, denF, slots, S_joined, sSeq_ap, ptD, w, t, e1, e2, e3]
      · have e4 : (ls.length : Int) + 1 < y := by omega
        simp [R_joined, denF, slots, S_joined, sSeq_ap, ptD, w, t, e1, e2, e3, e4]
theorem seam_no {x y : Int} (h : ¬ (0 ≤ x ∧ x ≤ us.length + 1 ∧ 0 ≤ y ∧ y ≤ ls.length + 1)) : R_seam [cl s us ls, ptD (x, y)] = .ex 6 [] := by
  have j := joined_no (s := s) h
  simp [R_seam, denF, slots, S_seam, sSeq_ap, j]
/-! ### the law's own look -/
theorem near_ok {x y : Int} (p : Plan s us ls) (h1 : 0 ≤ x) (h2 : x ≤ us.length + 1) (h3 : 0 ≤ y) (h4 : y ≤ ls.length + 1) : R__law_near [planD s us ls, .int x, .int y] = .ok (.lst ((joinL us ls x y).map ptD), true) := by
  have e1 : ∀ a b c : D, oIx (.tup [a, b, c]) (.int 1) = .ok (b, .sh) := fun _ _ _ => rfl
  have e2 : ∀ a b c : D, oIx (.tup [a, b, c]) (.int 2) = .ok (c, .sh) := fun _ _ _ => rfl
  have lu := p.lu
  have ll := p.ll
  have kap : ∀ (acc : List Pt) (q : Pt), acc.length ≤ 5 → kAp (acc.map ptD) (ptD q) = some ((acc ++ [q]).map ptD) := fun acc q h => by
    unfold kAp
    rw [List.length_map, if_pos (by unfold SZ; omega), List.map_append]
    rfl
  -- the row
  have row : ∃ x6, G.sIf (tBl (eChain oLt oLt (eC (.int 0)) (eVar 2) (eVar 4))) (G.sFor (itE true (eTup [eBin oSub (eVar 1) (eC (.int 1)), eVar 1])) (.one 6) S__law_near_b1) (sSkip)
      [.va (planD s us ls), .va (.int x), .va (.int y), .va (.int (us.length + 1)), .va (.int (ls.length + 1)), .ow (.lst []), .un] = .nx [.va (planD s us ls), .va (.int x), .va (.int y), .va (.int (us.length + 1)), .va (.int (ls.length + 1)), .ow (.lst ((rowN us ls x y).map ptD)), x6] := by
    by_cases q : 0 < y ∧ y < ls.length + 1
    · obtain ⟨q1, q2⟩ := q
      have bt := p.bl.get (y - 1).toNat
      have one : ∀ (z : Int) (acc : List Pt), acc.length ≤ 5 → S__law_near_b1 [.va (planD s us ls), .va (.int x), .va (.int y), .va (.int (us.length + 1)), .va (.int (ls.length + 1)), .ow (.lst (acc.map ptD)), .va (.int z)] =
          .nx [.va (planD s us ls), .va (.int x), .va (.int y), .va (.int (us.length + 1)), .va (.int (ls.length + 1)), .ow (.lst ((acc ++ if 0 ≤ z ∧ z < us.length + 1 ∧ (z + gt ls (y - 1).toNat) % 2 = 1 then [((2 * z + 1 - x, y) : Pt)] else []).map ptD)), .va (.int z)] := fun z acc ha => by
        have k := kap acc (2 * z + 1 - x, y) ha
        by_cases z1 : 0 ≤ z
        · by_cases z2 : z < us.length + 1
          · have sw := sewn_row (s := s) (us := us) (ls := ls) (k := y - 1) (x := z) (by omega) (by omega)
            by_cases z3 : (z + gt ls (y - 1).toNat) % 2 = 1
            · rw [decide_eq_true z3] at sw
              simp [-Int.pred_toNat, S__law_near_b1, z1, z2, z3, sw, oMul_l, SZ]
              simp [ptD] at k ⊢
              simp [k]
            · rw [decide_eq_false z3] at sw
              simp [-Int.pred_toNat, S__law_near_b1, z1, z2, z3, sw]
          · simp [-Int.pred_toNat, S__law_near_b1, z1, z2]
        · simp [-Int.pred_toNat, S__law_near_b1, z1]
      refine ⟨.va (.int x), ?_⟩
      have o1 := one (x - 1) [] (by simp)
      simp only [List.map_nil, List.nil_append] at o1
      have key : (if 0 ≤ x - 1 ∧ x - 1 < us.length + 1 ∧ (x - 1 + gt ls (y - 1).toNat) % 2 = 1 then [((2 * (x - 1) + 1 - x, y) : Pt)] else []) ++ (if 0 ≤ x ∧ x < us.length + 1 ∧ (x + gt ls (y - 1).toNat) % 2 = 1 then [((2 * x + 1 - x, y) : Pt)] else []) = rowN us ls x y := by
        unfold rowN rx
        by_cases o : (x + gt ls (y - 1).toNat) % 2 = 1
        · rw [if_pos o, if_neg (by omega)]
          by_cases c : x < us.length + 1
          · rw [if_pos ⟨h1, c, o⟩, if_pos (by omega), show 2 * x + 1 - x = x + 1 by omega]; rfl
          · rw [if_neg (by omega), if_neg (by omega)]; rfl
        · rw [if_neg o]
          by_cases c : 0 ≤ x - 1
          · rw [if_pos ⟨c, by omega, by omega⟩, if_neg (by omega), if_pos (by omega), show 2 * (x - 1) + 1 - x = x - 1 by omega]; rfl
          · rw [if_neg (by omega), if_neg (by omega), if_neg (by omega)]; rfl
      have o2 := one x (if 0 ≤ x - 1 ∧ x - 1 < us.length + 1 ∧ (x - 1 + gt ls (y - 1).toNat) % 2 = 1 then [((2 * (x - 1) + 1 - x, y) : Pt)] else []) (by split <;> simp)
      rw [key] at o2
      have sz : 2 ≤ SZ := by decide
      simp only [sIf_ap, tBl_ap, eChain_ap, eC_ap, eVar_ap, sFor_ap]
      simp [-Int.pred_toNat, q1, q2, sz, forL]
      simp [-Int.pred_toNat] at o1
      simp [-Int.pred_toNat] at o2
      rw [o1]
      simp [-Int.pred_toNat, o2]
    · refine ⟨.un, ?_⟩
      have re : rowN us ls x y = [] := by unfold rowN; rw [if_neg (by omega)]
      rw [re]
      by_cases q1 : 0 < y
      · have q2 : ¬ y < ls.length + 1 := fun z => q ⟨q1, z⟩
        simp [q1, q2]
      · simp [q1]
  have col : ∀ (acc : List Pt) (x6 : Slot), acc.length ≤ 1 → ∃ x6', G.sIf (tBl (eChain oLt oLt (eC (.int 0)) (eVar 1) (eVar 3))) (G.sFor (itE true (eTup [eBin oSub (eVar 2) (eC (.int 1)), eVar 2])) (.one 6) S__law_near_b2) (sSkip)
      [.va (planD s us ls), .va (.int x), .va (.int y), .va (.int (us.length + 1)), .va (.int (ls.length + 1)), .ow (.lst (acc.map ptD)), x6] = .nx [.va (planD s us ls), .va (.int x), .va (.int y), .va (.int (us.length + 1)), .va (.int (ls.length + 1)), .ow (.lst ((acc ++ colN us ls x y).map ptD)), x6'] := fun acc x6 hacc => by
    by_cases q : 0 < x ∧ x < us.length + 1
    · obtain ⟨q1, q2⟩ := q
      have bt := p.bu.get (x - 1).toNat
      have one : ∀ (z : Int) (acc : List Pt), acc.length ≤ 5 → S__law_near_b2 [.va (planD s us ls), .va (.int x), .va (.int y), .va (.int (us.length + 1)), .va (.int (ls.length + 1)), .ow (.lst (acc.map ptD)), .va (.int z)] =
          .nx [.va (planD s us ls), .va (.int x), .va (.int y), .va (.int (us.length + 1)), .va (.int (ls.length + 1)), .ow (.lst ((acc ++ if 0 ≤ z ∧ z < ls.length + 1 ∧ (z + gt us (x - 1).toNat) % 2 = 1 then [((x, 2 * z + 1 - y) : Pt)] else []).map ptD)), .va (.int z)] := fun z acc ha => by
        have k := kap acc (x, 2 * z + 1 - y) ha
        by_cases z1 : 0 ≤ z
        · by_cases z2 : z < ls.length + 1
          · have sw := sewn_col (s := s) (us := us) (ls := ls) (k := x - 1) (y := z) (by omega) (by omega)
            by_cases z3 : (z + gt us (x - 1).toNat) % 2 = 1
            · rw [decide_eq_true z3] at sw
              simp [-Int.pred_toNat, S__law_near_b2, z1, z2, z3, sw, oMul_l, SZ]
              simp [ptD] at k ⊢
              simp [k]
            · rw [decide_eq_false z3] at sw
              simp [-Int.pred_toNat, S__law_near_b2, z1, z2, z3, sw]
          · simp [-Int.pred_toNat, S__law_near_b2, z1, z2]
        · simp [-Int.pred_toNat, S__law_near_b2, z1]
      refine ⟨.va (.int y), ?_⟩
      have o1 := one (y - 1) acc (by omega)
      have key : (if 0 ≤ y - 1 ∧ y - 1 < ls.length + 1 ∧ (y - 1 + gt us (x - 1).toNat) % 2 = 1 then [((x, 2 * (y - 1) + 1 - y) : Pt)] else []) ++ (if 0 ≤ y ∧ y < ls.length + 1 ∧ (y + gt us (x - 1).toNat) % 2 = 1 then [((x, 2 * y + 1 - y) : Pt)] else []) = colN us ls x y := by
        unfold colN cy
        by_cases o : (y + gt us (x - 1).toNat) % 2 = 1
        · rw [if_pos o, if_neg (by omega)]
          by_cases c : y < ls.length + 1
          · rw [if_pos ⟨h3, c, o⟩, if_pos (by omega), show 2 * y + 1 - y = y + 1 by omega]; rfl
          · rw [if_neg (by omega), if_neg (by omega)]; rfl
        · rw [if_neg o]
          by_cases c : 0 ≤ y - 1
          · rw [if_pos ⟨c, by omega, by omega⟩, if_neg (by omega), if_pos (by omega), show 2 * (y - 1) + 1 - y = y - 1 by omega]; rfl
          · rw [if_neg (by omega), if_neg (by omega), if_neg (by omega)]; rfl
      have o2 := one y (acc ++ if 0 ≤ y - 1 ∧ y - 1 < ls.length + 1 ∧ (y - 1 + gt us (x - 1).toNat) % 2 = 1 then [((x, 2 * (y - 1) + 1 - y) : Pt)] else []) (by rw [List.length_append]; split <;> simp <;> omega)
      rw [List.append_assoc, key] at o2
      have sz : 2 ≤ SZ := by decide
      simp only [sIf_ap, tBl_ap, eChain_ap, eC_ap, eVar_ap, sFor_ap]
      simp [-Int.pred_toNat, q1, q2, sz, forL]
      simp [-Int.pred_toNat] at o1
      simp [-Int.pred_toNat] at o2
      rw [o1]
      simp [-Int.pred_toNat, o2]
    · refine ⟨x6, ?_⟩
      have re : colN us ls x y = [] := by unfold colN; rw [if_neg (by omega)]
      rw [re]
      by_cases q1 : 0 < x
      · have q2 : ¬ x < us.length + 1 := fun z => q ⟨q1, z⟩
        simp [q1, q2]
      · simp [q1]
  obtain ⟨x6, r⟩ := row
  obtain ⟨x6', c⟩ := col (rowN us ls x y) x6 (rowN_len us ls x y)
  have so := oSrt_pts (rowN us ls x y ++ colN us ls x y)
  simp only [sIf_ap] at r c
  simp [R__law_near, denF, slots, S__law_near, sSeq_ap, e1, e2, SZ] at r c so ⊢
  simp [r, c, so, joinL]
end
end GD
/-! The law's look at a whole cloth; comprehensions by a function. -/
namespace GD
open PySem L2 G
/-- a comprehension, item by item -/
theorem lcA_map {tg : Tg} {e : ES} {ρ : Sl} {f : D → D} : ∀ {ds acc : List D}, acc.length + ds.length < SZ → (∀ (j : Nat) (d : D), ds[j]? = some d → ∃ ρ1 kd, tgSet tg d ρ = some ρ1 ∧ e ρ1 = .ok (f d, kd) ∧ kd.solid = true) → lcA tg G.tYes e ρ acc ds = .ok (acc ++ ds.map f)
  | [], acc, _, _ => by simp [lcA]
  | d :: ds, acc, hl, h => by
    obtain ⟨ρ1, kd, h1, h2, h3⟩ := h 0 d rfl
    have := lcA_map (tg := tg) (e := e) (ρ := ρ) (f := f) (ds := ds) (acc := acc ++ [f d]) (by simp at hl ⊢; omega) fun j d hd => h (j + 1) d (by simpa using hd)
    have hl' : acc.length < SZ := by simp at hl; omega
    unfold lcA
    rw [h1]
    simp [G.tYes, h2, h3, hl', this]
theorem lcA_of {tg : Tg} {e : ES} {ρ : Sl} (f : D → D) {ds : List D} (hl : ds.length < SZ) (h : ∀ (j : Nat) (d : D), ds[j]? = some d → ∃ ρ1 kd, tgSet tg d ρ = some ρ1 ∧ e ρ1 = .ok (f d, kd) ∧ kd.solid = true) : lcA tg G.tYes e ρ [] ds = .ok (ds.map f) := by
  simpa using lcA_map (acc := []) (by simpa using hl) h
theorem map_get {α β : Type} {f : α → β} {xs : List α} {j : Nat} {d : β} (h : (xs.map f)[j]? = some d) : ∃ x, xs[j]? = some x ∧ d = f x := by
  rw [List.getElem?_map] at h
  cases q : xs[j]? with
  | none => rw [q] at h; cases h
  | some x =>
    rw [q] at h
    cases h
    exact ⟨x, rfl, rfl⟩
/-- F holds the colours of that cloth -/
structure IsTab (s : Int) (us ls : List Int) (F : List (List Int)) : Prop where
  len : F.length = ls.length + 1
  row : ∀ (y : Nat) (r : List Int), F[y]? = some r → r.length = us.length + 1 ∧ ∀ x : Nat, x ≤ us.length → gt r x = colour s us ls x y
theorem oIx_n {xs : List D} {n : Nat} {d : D} (h : xs[n]? = some d) : oIx (.lst xs) (.int (n : Int)) = .ok (d, .sh) := oIx_l (by omega) (by rw [Int.toNat_natCast]; exact h)
theorem whole {s : Int} {us ls : List Int} {F : List (List Int)} (p : Plan s us ls) (h : IsTab s us ls F) : R__law_whole [cl s us ls, .lst (F.map dI)] = .ok (.bl true, false) := by
  have lu := p.lu
  have ll := p.ll
  have hl := h.len
  have sm : ∀ i : Int, R__law_same [.int i, .int i] = .ok (.bl true, false) := fun i => same (.int _ _)
  obtain ⟨r0, hr0⟩ : ∃ r, F[0]? = some r := ⟨F[0], List.getElem?_eq_getElem (by omega)⟩
  have l0 := (h.row 0 r0 hr0).1
  have f0 : oIx (.lst (F.map dI)) (.int 0) = .ok (dI r0, .sh) := oIx_n (n := 0) (by rw [List.getElem?_map, hr0]; rfl)
  have iu := in62_of (show -(2 ^ 62) < (r0.length : Int) by omega) (by omega)
  have il := in62_of (show -(2 ^ 62) < (F.length : Int) by omega) (by omega)
  obtain ⟨ρ', g1, s2, s3, rfl⟩ := for_rng (i := 2) (n := F.length) (a := S__law_whole_b2) (fun _ ρ => ∃ s2 s3, ρ = [.va (cl s us ls), .va (.lst (F.map dI)), s2, s3]) (ρ := [.va (cl s us ls), .va (.lst (F.map dI)), .un, .un]) ⟨_, _, rfl⟩ (fun y ρ lt ⟨s2, s3, e⟩ => by
    subst e
    refine ⟨by simp, ?_⟩
    obtain ⟨r, hr⟩ : ∃ r, F[y]? = some r := ⟨F[y]'(by omega), List.getElem?_eq_getElem (by omega)⟩
    obtain ⟨lr, cr⟩ := h.row y r hr
    have fy : oIx (.lst (F.map dI)) (.int y) = .ok (dI r, .sh) := oIx_n (by rw [List.getElem?_map, hr]; rfl)
    obtain ⟨ρ', g1, s3', rfl⟩ := for_rng (i := 3) (n := r0.length) (a := S__law_whole_b1) (fun _ ρ => ∃ s3, ρ = [.va (cl s us ls), .va (.lst (F.map dI)), .va (.int y), s3]) (ρ := [.va (cl s us ls), .va (.lst (F.map dI)), .va (.int y), s3]) ⟨_, rfl⟩ (fun x ρ lt' ⟨s3, e⟩ => by
      subst e
      have c := colour_ok (x := x) (y := y) p (by omega) (by omega) (by omega) (by omega)
      have ix := oIx_i (us := r) (i := x) (by omega) (by omega)
      rw [Int.toNat_natCast, cr x (by omega)] at ix
      exact ⟨by simp, _, .inl (by simp [S__law_whole_b1, c, fy, ix, sm]), .va (.int x), rfl⟩)
    exact ⟨_, .inl (by simp [S__law_whole_b2, sFor_ap, f0, iu, g1]), .va (.int y), s3', rfl⟩)
  have w := wide_cl s us ls
  have t := tall_cl s us ls
  have w2 : ((us.length : Int) + 1) = r0.length := by omega
  have t2 : ((ls.length : Int) + 1) = F.length := by omega
  rw [w2] at w
  rw [t2] at t
  simp [R__law_whole, denF, slots, S__law_whole, sSeq_ap, sFor_ap, w, t, f0, sm, il, g1]
theorem tab_eq (s : Int) (us ls : List Int) (m : Nat) : tabT s us ls m = ((List.range m).map fun y : Nat => rowT s us ls (us.length + 1) y).map dI := by
  unfold tabT
  rw [List.map_map]
  rfl
theorem range_get {n j i : Nat} (h : (List.range n)[j]? = some i) : i = j ∧ j < n := by
  obtain ⟨l, e⟩ := List.getElem?_eq_some_iff.mp h
  rw [List.getElem_range] at e
  exact ⟨e.symm, by simpa using l⟩
end GD
/-! Cloths parted. -/
namespace GD
open PySem L2 G
theorem gt_take {us : List Int} {k i : Nat} (h : i < k) (h2 : i < us.length) : gt (us.take k) i = gt us i := by
  rw [gt_eq (by rw [List.length_take]; omega), gt_eq h2, List.getElem_take]
theorem gt_drop {us : List Int} {n i : Nat} (h : n + i < us.length) : gt (us.drop n) i = gt us (n + i) := by
  rw [gt_eq (by rw [List.length_drop]; omega), gt_eq h, List.getElem_drop]
theorem gt_map {us : List Int} {f : Int → Int} {i : Nat} (h : i < us.length) : gt (us.map f) i = f (gt us i) := by
  rw [gt_eq (by simpa using h), gt_eq h, List.getElem_map]
theorem Bits.take {us : List Int} (h : Bits us) (k : Nat) : Bits (us.take k) := fun b hb => h b (List.mem_of_mem_take hb)
theorem Bits.drop {us : List Int} (h : Bits us) (k : Nat) : Bits (us.drop k) := fun b hb => h b (List.mem_of_mem_drop hb)
theorem sum_app' (xs ys : List Int) : (xs ++ ys).sum = xs.sum + ys.sum := by simp
theorem sum_take_drop (us : List Int) (n x : Nat) : (us.take (n + x)).sum = (us.take n).sum + ((us.drop n).take x).sum := by
  rw [List.take_add, sum_app']
theorem sum_shift (m : Int) : ∀ (ls : List Int) (y : Nat), y ≤ ls.length → ∃ q, ((ls.map fun b => (b + m) % 2).take y).sum = (ls.take y).sum + m * y + 2 * q
  | ls, 0, _ => ⟨0, by simp⟩
  | [], y + 1, h => by simp at h
  | b :: ls, y + 1, h => by
    obtain ⟨q, e⟩ := sum_shift m ls y (by simpa using h)
    refine ⟨q - (b + m) / 2, ?_⟩
    simp only [List.map_cons, List.take_succ_cons, List.sum_cons]
    rw [e, show m * ((y + 1 : Nat) : Int) = m * y + m from by rw [show ((y + 1 : Nat) : Int) = (y : Int) + 1 from by omega, Int.mul_add, Int.mul_one]]
    generalize m * (y : Int) = z
    omega
/-- the right part's colours -/
theorem colour_right {s : Int} {us ls : List Int} {n x y : Nat} (hy : y ≤ ls.length) :
    colour (colour s us ls n 0) (us.drop n) (ls.map fun b => (b + n) % 2) x y = colour s us ls ((n + x : Nat) : Int) y := by
  obtain ⟨q, e⟩ := sum_shift n ls y hy
  unfold colour
  simp only [Int.toNat_natCast, Int.toNat_zero, List.take_zero, List.sum_nil, Int.mul_zero, Int.add_zero]
  rw [e, sum_take_drop, show ((n + x : Nat) : Int) = (n : Int) + x from by omega, Int.add_mul]
  generalize (us.take n).sum = a
  generalize ((us.drop n).take x).sum = b
  generalize (ls.take y).sum = c
  generalize (n : Int) * y = d
  generalize (x : Int) * y = f
  omega
theorem colour_swap (s : Int) (us ls : List Int) (x y : Int) : colour s ls us x y = colour s us ls y x := by
  unfold colour
  rw [Int.mul_comm]
  generalize (us.take y.toNat).sum = a
  generalize (ls.take x.toNat).sum = b
  congr 1
  omega
theorem colour_high {s : Int} {us ls : List Int} {n x y : Nat} (hx : x ≤ us.length) :
    colour (colour s us ls 0 n) (us.map fun b => (b + n) % 2) (ls.drop n) x y = colour s us ls x ((n + y : Nat) : Int) := by
  have := colour_right (s := s) (us := ls) (ls := us) (n := n) (x := y) (y := x) hx
  rw [colour_swap s us ls n 0, colour_swap _ (us.map fun b => (b + (n : Int)) % 2) (ls.drop n) y x, colour_swap s us ls] at this
  exact this
theorem colour_left {s : Int} {us ls : List Int} {k x y : Nat} (hx : x ≤ k) : colour s (us.take k) ls x y = colour s us ls x y := by
  unfold colour
  simp only [Int.toNat_natCast]
  rw [List.take_take, Nat.min_eq_left hx]
theorem colour_low {s : Int} {us ls : List Int} {k x y : Nat} (hy : y ≤ k) : colour s us (ls.take k) x y = colour s us ls x y := by
  unfold colour
  simp only [Int.toNat_natCast]
  rw [List.take_take, Nat.min_eq_left hy]
section
variable {s : Int} {us ls : List Int}
theorem Plan.left (p : Plan s us ls) (k : Nat) : Plan s (us.take k) ls := ⟨p.bs, p.bu.take k, p.bl, by rw [List.length_take]; have := p.lu; omega, p.ll⟩
theorem Plan.low (p : Plan s us ls) (k : Nat) : Plan s us (ls.take k) := ⟨p.bs, p.bu, p.bl.take k, p.lu, by rw [List.length_take]; have := p.ll; omega⟩
theorem Plan.right (p : Plan s us ls) (n : Nat) : Plan (colour s us ls n 0) (us.drop n) (ls.map fun b => (b + n) % 2) := ⟨mod2 _, p.bu.drop n, bits_mod _ _, by rw [List.length_drop]; have := p.lu; omega, by simpa using p.ll⟩
theorem Plan.high (p : Plan s us ls) (n : Nat) : Plan (colour s us ls 0 n) (us.map fun b => (b + n) % 2) (ls.drop n) := ⟨mod2 _, bits_mod _ _, p.bl.drop n, by simpa using p.lu, by rw [List.length_drop]; have := p.ll; omega⟩
theorem parted_col (p : Plan s us ls) {k : Nat} (h : k < us.length) : R_parted [cl s us ls, .str "col", .int k] = .ok (.tup [cl s (us.take k) ls, cl (colour s us ls (k + 1 : Nat) 0) (us.drop (k + 1)) (ls.map fun b => (b + (k + 1 : Nat)) % 2)], false) := by
  have lu := p.lu
  have ll := p.ll
  have b := bit_col (s := s) (ls := ls) (us := us) (k := k) (by omega) (by omega)
  have i1 := init_cl (p.left k)
  have i2 := init_cl (p.right (k + 1))
  have c := colour_ok (x := (k + 1 : Nat)) (y := 0) p (by omega) (by omega) (by omega) (by omega)
  have m := moved_ok (bs := ls) (many := (k + 1 : Nat)) (len_us p).2
  have t := cut_to (us := us) (k := k) (by omega)
  have d := cut_us (us := us) (k := (k + 1 : Nat)) (by omega) (by omega)
  rw [Int.toNat_natCast] at t d
  have ck : ((k + 1 : Nat) : Int) = (k : Int) + 1 := by omega
  simp only [ck] at i2 c m d
  simp [R_parted, denF, slots, S_parted, sSeq_ap, b, cols_cl, rows_cl, shade_cl, t, d, c, m]
  simp only [dI, List.map_take, List.map_drop] at i1 i2 m
  simp [i1, i2, m, SZ, ck]
theorem parted_row (p : Plan s us ls) {k : Nat} (h : k < ls.length) : R_parted [cl s us ls, .str "row", .int k] = .ok (.tup [cl s us (ls.take k), cl (colour s us ls 0 (k + 1 : Nat)) (us.map fun b => (b + (k + 1 : Nat)) % 2) (ls.drop (k + 1))], false) := by
  have lu := p.lu
  have ll := p.ll
  have b := bit_row (s := s) (ls := ls) (us := us) (k := k) (by omega) (by omega)
  have i1 := init_cl (p.low k)
  have i2 := init_cl (p.high (k + 1))
  have c := colour_ok (x := 0) (y := (k + 1 : Nat)) p (by omega) (by omega) (by omega) (by omega)
  have m := moved_ok (bs := us) (many := (k + 1 : Nat)) (len_us p).1
  have t := cut_to (us := ls) (k := k) (by omega)
  have d := cut_us (us := ls) (k := (k + 1 : Nat)) (by omega) (by omega)
  have ne : ¬ (Str.ofString "row" = Str.ofString "col") := by decide
  rw [Int.toNat_natCast] at t d
  have ck : ((k + 1 : Nat) : Int) = (k : Int) + 1 := by omega
  simp only [ck] at i2 c m d
  simp [R_parted, denF, slots, S_parted, sSeq_ap, b, cols_cl, rows_cl, shade_cl, t, d, c, m, ne]
  simp only [dI, List.map_take, List.map_drop] at i1 i2 m
  simp [i1, i2, m, SZ, ck]
/-- a part holds what the plan has there -/
theorem part_holds {s' : Int} {us' ls' : List Int} {F : List (List Int)} {right up : Nat} (p' : Plan s' us' ls') (hF : IsTab s' us' ls' F)
    (hu : ∀ k : Nat, k < us'.length → k + right < us.length ∧ gt us' k % 2 = (gt us (k + right) + up) % 2) (hl : ∀ k : Nat, k < ls'.length → k + up < ls.length ∧ gt ls' k % 2 = (gt ls (k + up) + right) % 2) :
    R__law_part_holds [cl s' us' ls', planD s us ls, .lst (F.map dI), .int right, .int up] = .ok (.bl true, false) := by
  have lu := p'.lu
  have ll := p'.ll
  have w := whole p' hF
  have wd := wide_cl s' us' ls'
  have tl := tall_cl s' us' ls'
  have iw := in62_of (show -(2 ^ 62) < (us'.length : Int) + 1 by omega) (by omega)
  have it := in62_of (show -(2 ^ 62) < (ls'.length : Int) + 1 by omega) (by omega)
  have iw' := in62_of (show -(2 ^ 62) < (us'.length : Int) by omega) (by omega)
  have it' := in62_of (show -(2 ^ 62) < (ls'.length : Int) by omega) (by omega)
  obtain ⟨ρ1, g1, s5, s6, rfl⟩ := for_rng (i := 5) (n := us'.length) (a := S__law_part_holds_b2) (fun _ ρ => ∃ s5 s6, ρ = [.va (cl s' us' ls'), .va (planD s us ls), .va (.lst (F.map dI)), .va (.int right), .va (.int up), s5, s6]) (ρ := [.va (cl s' us' ls'), .va (planD s us ls), .va (.lst (F.map dI)), .va (.int right), .va (.int up), .un, .un]) ⟨_, _, rfl⟩ (fun k ρ lt ⟨s5, s6, e⟩ => by
    subst e
    obtain ⟨ku, kv⟩ := hu k (by omega)
    obtain ⟨ρ', g1, s6', rfl⟩ := for_rng (i := 6) (n := (ls'.length : Int) + 1) (a := S__law_part_holds_b1) (fun _ ρ => ∃ s6, ρ = [.va (cl s' us' ls'), .va (planD s us ls), .va (.lst (F.map dI)), .va (.int right), .va (.int up), .va (.int k), s6]) (ρ := [.va (cl s' us' ls'), .va (planD s us ls), .va (.lst (F.map dI)), .va (.int right), .va (.int up), .va (.int k), s6]) ⟨_, rfl⟩ (fun y ρ lt' ⟨s6, e⟩ => by
      subst e
      have st := stitched_col (s := s') (us := us') (ls := ls') (k := k) (y := y) (by omega) lt (by omega) (by omega)
      have sw := sewn_col (s := s) (us := us) (ls := ls) (k := (k : Int) + right) (y := (y : Int) + up) (by omega) (by omega)
      rw [show ((k : Int) + right).toNat = k + right from by omega] at sw
      rw [Int.toNat_natCast] at st
      have eq : decide (((y : Int) + gt us' k) % 2 = 1) = decide (((y : Int) + up + gt us (k + right)) % 2 = 1) := by
        congr 1
        refine propext ⟨fun _ => ?_, fun _ => ?_⟩ <;> omega
      rw [eq] at st
      exact ⟨by simp, _, .inl (by simp [S__law_part_holds_b1, st, sw]), .va (.int y), rfl⟩)
    exact ⟨by simp, _, .inl (by simp [S__law_part_holds_b2, sFor_ap, tl, it, g1]), .va (.int k), s6', rfl⟩)
  obtain ⟨ρ2, g2, s5', s6', rfl⟩ := for_rng (i := 5) (n := ls'.length) (a := S__law_part_holds_b4) (fun _ ρ => ∃ s5 s6, ρ = [.va (cl s' us' ls'), .va (planD s us ls), .va (.lst (F.map dI)), .va (.int right), .va (.int up), s5, s6]) (ρ := [.va (cl s' us' ls'), .va (planD s us ls), .va (.lst (F.map dI)), .va (.int right), .va (.int up), s5, s6]) ⟨_, _, rfl⟩ (fun k ρ lt ⟨s5, s6, e⟩ => by
    subst e
    obtain ⟨ku, kv⟩ := hl k (by omega)
    obtain ⟨ρ', g1, s6', rfl⟩ := for_rng (i := 6) (n := (us'.length : Int) + 1) (a := S__law_part_holds_b3) (fun _ ρ => ∃ s6, ρ = [.va (cl s' us' ls'), .va (planD s us ls), .va (.lst (F.map dI)), .va (.int right), .va (.int up), .va (.int k), s6]) (ρ := [.va (cl s' us' ls'), .va (planD s us ls), .va (.lst (F.map dI)), .va (.int right), .va (.int up), .va (.int k), s6]) ⟨_, rfl⟩ (fun y ρ lt' ⟨s6, e⟩ => by
      subst e
      have st := stitched_row (s := s') (us := us') (ls := ls') (k := k) (x := y) (by omega) lt (by omega) (by omega)
      have sw := sewn_row (s := s) (us := us) (ls := ls) (k := (k : Int) + up) (x := (y : Int) + right) (by omega) (by omega)
      rw [show ((k : Int) + up).toNat = k + up from by omega] at sw
      rw [Int.toNat_natCast] at st
      have eq : decide (((y : Int) + gt ls' k) % 2 = 1) = decide (((y : Int) + right + gt ls (k + up)) % 2 = 1) := by
        congr 1
        refine propext ⟨fun _ => ?_, fun _ => ?_⟩ <;> omega
      rw [eq] at st
      exact ⟨by simp, _, .inl (by simp [S__law_part_holds_b3, st, sw]), .va (.int y), rfl⟩)
    exact ⟨by simp, _, .inl (by simp [S__law_part_holds_b4, sFor_ap, wd, iw, g1]), .va (.int k), s6', rfl⟩)
  simp [R__law_part_holds, denF, slots, S__law_part_holds, sSeq_ap, sFor_ap, w, wd, tl, iw', it', g1, g2]
end
end GD
/-! == of lists of whole numbers, of plans; cloths sewn together. -/
namespace GD
open PySem L2 G
def pyI (us : List Int) : List PyData := us.map PyData.int
theorem toPys_ints : ∀ us : List Int, toPys (us.map D.int) = some (pyI us)
  | [] => rfl
  | u :: us => by
    show (toPy (.int u)).bind (fun p => (toPys (us.map D.int)).map (p :: ·)) = _
    rw [toPys_ints us]
    rfl
theorem toPy_dI (us : List Int) : toPy (dI us) = some (.list (pyI us)) := by
  show (toPys (us.map D.int)).map PyData.list = _
  rw [toPys_ints]
  rfl
theorem lay_ints : ∀ us : List Int, PyData.canLayAll0 (pyI us) = true
  | [] => rfl
  | u :: us => by
    show (PyData.canLay0 (.int u) && PyData.canLayAll0 (pyI us)) = true
    rw [lay_ints us]
    rfl
theorem depth_ints : ∀ us : List Int, PyData.depthAll (pyI us) = 0
  | [] => rfl
  | u :: us => by
    show max (PyData.depth (.int u)) (PyData.depthAll (pyI us)) = 0
    rw [depth_ints us]
    rfl
theorem eqv_ints : ∀ us vs : List Int, PyData.eqvAll (pyI us) (pyI vs) = decide (us = vs)
  | [], [] => rfl
  | [], _ :: _ => rfl
  | _ :: _, [] => rfl
  | u :: us, v :: vs => by
    show ((u == v) && PyData.eqvAll (pyI us) (pyI vs)) = _
    rw [eqv_ints us vs]
    by_cases h : u = v
    · by_cases g : us = vs
      · simp [h, g]
      · simp [h, g]
    · simp [h]
theorem shaped_dI (us : List Int) : SeqAt.shaped (.list (pyI us)) = true := by
  unfold SeqAt.shaped
  show (PyData.canLayAll0 (pyI us) && decide (PyData.depthAll (pyI us) + 1 ≤ 64)) = true
  rw [lay_ints, depth_ints]
  rfl
theorem eq_dI (us vs : List Int) : oEq (dI us) (dI vs) = .ok (.bl (decide (us = vs)), .sh) := by
  show obl (eqD (dI us) (dI vs)) = _
  have e : eqD (dI us) (dI vs) = (match toPy (dI us), toPy (dI vs) with
    | some p, some q => if SeqAt.shaped p && SeqAt.shaped q then some (PyData.eqv p q) else none
    | _, _ => none) := rfl
  rw [e, toPy_dI, toPy_dI]
  show obl (if (SeqAt.shaped (.list (pyI us)) && SeqAt.shaped (.list (pyI vs))) = true then some (PyData.eqvAll (pyI us) (pyI vs)) else none) = _
  rw [shaped_dI, shaped_dI, eqv_ints]
  rfl
theorem toPy_plan (s : Int) (us ls : List Int) : toPy (planD s us ls) = some (.tuple [.int s, .list (pyI us), .list (pyI ls)]) := by
  have e : toPy (planD s us ls) = (toPys [.int s, dI us, dI ls]).map PyData.tuple := rfl
  have e2 : toPys [.int s, dI us, dI ls] = (toPy (.int s)).bind fun p => ((toPy (dI us)).bind fun q => ((toPy (dI ls)).bind fun r => ((some []).map (r :: ·))).map (q :: ·)).map (p :: ·) := rfl
  rw [e, e2, toPy_dI, toPy_dI]
  rfl
theorem shaped_plan (s : Int) (us ls : List Int) : SeqAt.shaped (.tuple [.int s, .list (pyI us), .list (pyI ls)]) = true := by
  unfold SeqAt.shaped
  show ((true && (PyData.canLayAll0 (pyI us) && (PyData.canLayAll0 (pyI ls) && true))) && decide (max 0 (max (PyData.depthAll (pyI us) + 1) (max (PyData.depthAll (pyI ls) + 1) 0)) + 1 ≤ 64)) = true
  rw [lay_ints, lay_ints, depth_ints, depth_ints]
  rfl
theorem eq_plan (s s' : Int) (us ls us' ls' : List Int) : oEq (planD s us ls) (planD s' us' ls') = .ok (.bl (decide (s = s') && (decide (us = us') && decide (ls = ls'))), .sh) := by
  show obl (eqD (planD s us ls) (planD s' us' ls')) = _
  have e : eqD (planD s us ls) (planD s' us' ls') = (match toPy (planD s us ls), toPy (planD s' us' ls') with
    | some p, some q => if SeqAt.shaped p && SeqAt.shaped q then some (PyData.eqv p q) else none
    | _, _ => none) := rfl
  rw [e, toPy_plan, toPy_plan]
  show obl (if (SeqAt.shaped (.tuple [.int s, .list (pyI us), .list (pyI ls)]) && SeqAt.shaped (.tuple [.int s', .list (pyI us'), .list (pyI ls')])) = true then some ((s == s') && (PyData.eqvAll (pyI us) (pyI us') && (PyData.eqvAll (pyI ls) (pyI ls') && true))) else none) = _
  rw [shaped_plan, shaped_plan, eqv_ints, eqv_ints, Bool.and_true (decide (ls = ls')), Bool.beq_eq_decide_eq s s']
  rfl
theorem alike_cl (s s' : Int) (us ls us' ls' : List Int) : R_alike [cl s us ls, cl s' us' ls'] = .ok (.bl (decide (s = s') && (decide (us = us') && decide (ls = ls'))), false) := by
  have h1 := eq_dI us us'
  have h2 := eq_dI ls ls'
  by_cases a : s = s'
  · subst a
    by_cases b : us = us'
    · subst b
      simp [R_alike, denF, slots, S_alike, shade_cl, cols_cl, rows_cl, h1, h2]
    · simp [R_alike, denF, slots, S_alike, shade_cl, cols_cl, rows_cl, h1, h2, b]
  · simp [R_alike, denF, slots, S_alike, shade_cl, cols_cl, rows_cl, h1, h2, a]
/-! ### sewn together -/
section
variable {s : Int} {us ls : List Int}
theorem sewn_core {n : Nat} {s2 : Int} {vs : List Int} (p : Plan s us ls) (p2 : Plan s2 vs (ls.map fun b => (b + (us.length + 1 : Nat)) % 2)) (h : us.length + 1 + (vs.length + 1) ≤ 40) :
    RR_sewn_together (n + 1) [cl s us ls, cl s2 vs (ls.map fun b => (b + (us.length + 1 : Nat)) % 2), .str "col"] = .ok (cl s (us ++ [(colour s us ls us.length 0 + s2) % 2] ++ vs) ls, true) := by
  have lu := p.lu
  have ll := p.ll
  have ne : ¬ (Str.ofString "col" = Str.ofString "row") := by decide
  have m := moved_ok (bs := ls) (many := (us.length : Int) + 1) (len_us p).2
  have ck : ((us.length + 1 : Nat) : Int) = (us.length : Int) + 1 := by omega
  simp only [ck] at p2 ⊢
  have c := colour_ok (x := us.length) (y := 0) p (by omega) (by omega) (by omega) (by omega)
  have inn := in62_of (show -(2 ^ 62) < (ls.length : Int) by omega) (by omega)
  have ini := init_cl (s := s) (us := us ++ [(colour s us ls us.length 0 + s2) % 2] ++ vs) (ls := ls) ⟨p.bs, (p.bu.append fun b hb => by simp at hb; rw [hb]; exact mod2 _).append p2.bu, p.bl, by simp; omega, ll⟩
  obtain ⟨ρ', g1, s4, rfl⟩ := for_rng (i := 4) (n := ls.length) (a := S_sewn_together_b1 (RR_sewn_together n)) (fun _ ρ => ∃ s4, ρ = [.va (cl s us ls), .va (cl s2 vs (ls.map fun b => (b + ((us.length : Int) + 1)) % 2)), .va (.str "col"), .va (dI (ls.map fun b => (b + ((us.length : Int) + 1)) % 2)), s4, .un])
    (ρ := [.va (cl s us ls), .va (cl s2 vs (ls.map fun b => (b + ((us.length : Int) + 1)) % 2)), .va (.str "col"), .va (dI (ls.map fun b => (b + ((us.length : Int) + 1)) % 2)), .un, .un]) ⟨_, rfl⟩ (fun j ρ lt ⟨s4, e⟩ => by
      subst e
      have ix := oIx_i (us := ls.map fun b => (b + ((us.length : Int) + 1)) % 2) (i := j) (by omega) (by simpa using lt)
      exact ⟨by simp, _, .inl (by simp [S_sewn_together_b1, rows_cl, ix]), .va (.int j), rfl⟩)
  have w := wide_cl s us ls
  have t := tall_cl s us ls
  have w2 := wide_cl s2 vs (ls.map fun b => (b + ((us.length : Int) + 1)) % 2)
  have t2 := tall_cl s2 vs (ls.map fun b => (b + ((us.length : Int) + 1)) % 2)
  have n40 : ¬ (40 : Int) < (us.length : Int) + 1 + ((vs.length : Int) + 1) := by omega
  have sz1 : us.length + 1 ≤ SZ := by unfold SZ; omega
  have sz2 : us.length + 1 + vs.length ≤ SZ := by unfold SZ; omega
  have sh := shade_cl s us ls
  have sh2 := shade_cl s2 vs (ls.map fun b => (b + ((us.length : Int) + 1)) % 2)
  have co := cols_cl s us ls
  have co2 := cols_cl s2 vs (ls.map fun b => (b + ((us.length : Int) + 1)) % 2)
  have ro := rows_cl s us ls
  have ep : (us.length : Int) + 1 - 1 = us.length := by omega
  simp only [List.length_map] at t2
  have sz0 : 1 ≤ SZ := by decide
  have ad1 : oAdd (dI us) (.lst [.int ((colour s us ls us.length 0 + s2) % 2)]) = .ok (dI (us ++ [(colour s us ls us.length 0 + s2) % 2]), .fr) := by
    simp [sz1]
  have ad2 : oAdd (dI (us ++ [(colour s us ls us.length 0 + s2) % 2])) (dI vs) = .ok (dI (us ++ [(colour s us ls us.length 0 + s2) % 2] ++ vs), .fr) := by
    rw [oAdd_ll, if_pos (by simp; omega), ← List.map_append]
  simp [RR_sewn_together, denF, slots, S_sewn_together, sSeq_ap, sFor_ap, ne, w, t, w2, t2, m, n40, inn, g1, c, sh, sh2, co, co2, ro, ep, SZ, -oAdd_ll, ad1, ad2, -List.append_assoc, -List.map_append, ini]
end
end GD
/-! Tables. -/
namespace GD
open PySem L2 G
abbrev tabD (F : List (List Int)) : D := .lst (F.map dI)
structure Rect (F : List (List Int)) (m n : Nat) : Prop where
  len : F.length = m
  row : ∀ r ∈ F, r.length = n
  bit : ∀ r ∈ F, Bits r
def rowA (F : List (List Int)) (y : Nat) : List Int := F.getD y []
theorem rowA_eq {F : List (List Int)} {y : Nat} (h : y < F.length) : F[y]? = some (rowA F y) := by
  unfold rowA
  rw [List.getD_eq_getElem?_getD, List.getElem?_eq_getElem h]
  rfl
theorem rowA_mem {F : List (List Int)} {y : Nat} (h : y < F.length) : rowA F y ∈ F := List.mem_of_getElem? (rowA_eq h)
theorem oIx_tab {F : List (List Int)} {y : Int} (h0 : 0 ≤ y) (h : y < F.length) : oIx (tabD F) (.int y) = .ok (dI (rowA F y.toNat), .sh) := oIx_l h0 (by
  rw [List.getElem?_map, rowA_eq (by omega)]
  rfl)
/-- a for over range(lo, hi) -/
theorem for_rng2 {i : Nat} {lo hi : Int} {a : SS} {ρ : Sl} (I : Nat → Sl → Prop) (h0 : I 0 ρ) (st : ∀ (j : Nat) (ρ : Sl), lo + (j : Int) < hi → I j ρ → i < ρ.length ∧ ∃ ρ2, (a (ρ.set i (.va (.int (lo + j)))) = .nx ρ2 ∨ a (ρ.set i (.va (.int (lo + j)))) = .ct ρ2) ∧ I (j + 1) ρ2) :
    ∃ ρ', forL (.one i) a (rngD lo hi) ρ = .nx ρ' ∧ I (hi - lo).toNat ρ' := by
  have hl : (rngD lo hi).length = (hi - lo).toNat := by simp [rngD]
  obtain ⟨ρ', h1, h2⟩ := forL_nx (tg := .one i) (a := a) (I := I) (ds := rngD lo hi) (k := 0) (ρ := ρ) h0 (fun j d ρ hd hi' => by
    rw [Nat.zero_add] at hi' ⊢
    have : d = .int (lo + (j : Nat)) ∧ j < (hi - lo).toNat := by
      unfold rngD at hd
      rw [List.getElem?_map] at hd
      cases q : (List.range (hi - lo).toNat)[j]? with
      | none => rw [q] at hd; cases hd
      | some m =>
        rw [q] at hd
        obtain ⟨e, lt⟩ := range_get q
        subst e
        cases hd
        exact ⟨rfl, lt⟩
    obtain ⟨rfl, lt⟩ := this
    obtain ⟨l, ρ2, h1, h2⟩ := st j ρ (by omega) hi'
    exact ⟨ρ.set i (.va (.int (lo + j))), ρ2, by simp [l], h1, h2⟩)
  rw [Nat.zero_add, hl] at h2
  exact ⟨ρ', h1, h2⟩
/-- the four numbers of a block, whether their count is even -/
def evenB (F : List (List Int)) (x y : Nat) : Bool := decide ((gt (rowA F y) x + gt (rowA F y) (x + 1) + gt (rowA F (y + 1)) x + gt (rowA F (y + 1)) (x + 1)) % 2 = 0)
def evRow (F : List (List Int)) (n y : Nat) : List Pt := ((List.range n).filter fun x => evenB F x y).map fun x : Nat => (((x : Nat) : Int), ((y : Nat) : Int))
def evens (F : List (List Int)) (m n : Nat) : List Pt := ((List.range m).map (evRow F n)).flatten
theorem evRow_succ (F : List (List Int)) (n y : Nat) : evRow F (n + 1) y = evRow F n y ++ if evenB F n y = true then [((n : Int), (y : Int))] else [] := by
  unfold evRow
  rw [List.range_succ, List.filter_append, List.map_append]
  congr 1
  by_cases h : evenB F n y = true
  · rw [if_pos h]
    simp [h]
  · rw [if_neg h]
    simp [h]
theorem evens_succ (F : List (List Int)) (m n : Nat) : evens F (m + 1) n = evens F m n ++ evRow F n m := by
  unfold evens
  rw [List.range_succ, List.map_append, List.flatten_append]
  simp
theorem evRow_len (F : List (List Int)) (n y : Nat) : (evRow F n y).length ≤ n := by
  unfold evRow
  rw [List.length_map]
  exact Nat.le_trans (List.length_filter_le ..) (by simp)
theorem evens_len (F : List (List Int)) (m n : Nat) : (evens F m n).length ≤ m * n := by
  induction m with
  | zero => simp [evens]
  | succ m ih =>
    rw [evens_succ, List.length_append, Nat.succ_mul]
    have := evRow_len F n m
    omega
theorem kAp_pt {acc : List Pt} {x y : Int} (h : acc.length < SZ) : kAp (acc.map ptD) (.tup [.int x, .int y]) = some ((acc ++ [(x, y)]).map ptD) := by
  unfold kAp
  rw [List.length_map, if_pos h, List.map_append]
  rfl
section
variable {F : List (List Int)} {m n : Nat}
theorem four_count {a b c d : Int} (ha : a = 0 ∨ a = 1) (hb : b = 0 ∨ b = 1) (hc : c = 0 ∨ c = 1) (hd : d = 0 ∨ d = 1) :
    ∃ k : Int, oCnt [.int a, .int b, .int c, .int d] (.int 1) = .ok (.int k, .sh) ∧ oIn (.int k) (.tup [.int 0, .int 2, .int 4]) = .ok (.bl (decide ((a + b + c + d) % 2 = 0)), .sh) := by
  rcases ha with rfl | rfl <;> rcases hb with rfl | rfl <;> rcases hc with rfl | rfl <;> rcases hd with rfl | rfl <;> exact ⟨_, rfl, rfl⟩
theorem ask_table_ok (h : Rect F m n) (h1 : 1 ≤ m) (h2 : m ≤ 40) (h3 : 1 ≤ n) (h4 : n ≤ 40) : R_ask_table [tabD F] = .ok (.non, false) := by
  have hl := h.len
  have l0 : oIx (tabD F) (.int 0) = .ok (dI (rowA F 0), .sh) := oIx_tab (y := 0) (by omega) (by omega)
  have r0 : (rowA F 0).length = n := h.row _ (rowA_mem (by omega))
  obtain ⟨ρ1, g1, s1, rfl⟩ := forL_nx (tg := .one 1) (a := S_ask_table_b1) (I := fun _ ρ => ∃ x, ρ = [.va (tabD F), x]) (ds := F.map dI) (k := 0) (ρ := [.va (tabD F), .un]) ⟨_, rfl⟩ (fun j d ρ hd ⟨x, e⟩ => by
    subst e
    obtain ⟨r, hr, rfl⟩ := map_get hd
    have lr := h.row r (List.mem_of_getElem? hr)
    refine ⟨_, _, by simp; rfl, .inl ?_, .va (dI r), rfl⟩
    have q1 : ¬ (n : Int) < 1 := by omega
    have q2 : ¬ (40 : Int) < n := by omega
    simp [S_ask_table_b1, l0, lr, r0, q1, q2])
  obtain ⟨ρ2, g2, s2, rfl⟩ := forL_nx (tg := .one 1) (a := S_ask_table_b2) (I := fun _ ρ => ∃ x, ρ = [.va (tabD F), x]) (ds := F.map dI) (k := 0) (ρ := [.va (tabD F), s1]) ⟨_, rfl⟩ (fun j d ρ hd ⟨x, e⟩ => by
    subst e
    obtain ⟨r, hr, rfl⟩ := map_get hd
    have ab := ask_bits_ok (h.bit r (List.mem_of_getElem? hr))
    refine ⟨_, _, by simp; rfl, .inl ?_, .va (dI r), rfl⟩
    simp [S_ask_table_b2, ab])
  have q1 : ¬ (m : Int) < 1 := by omega
  have q2 : ¬ (40 : Int) < m := by omega
  simp [R_ask_table, denF, slots, S_ask_table, sSeq_ap, sFor_ap, hl, q1, q2, g1, g2]
theorem blocks_ok (h : Rect F m n) (h1 : 1 ≤ m) (h2 : m ≤ 40) (h3 : 1 ≤ n) (h4 : n ≤ 40) : R_even_blocks [tabD F] = .ok (.lst ((evens F (m - 1) (n - 1)).map ptD), true) := by
  have hl := h.len
  have at_ := ask_table_ok h h1 h2 h3 h4
  have l0 : oIx (tabD F) (.int 0) = .ok (dI (rowA F 0), .sh) := oIx_tab (y := 0) (by omega) (by omega)
  have r0 : (rowA F 0).length = n := h.row _ (rowA_mem (by omega))
  have im := in62_of (show -(2 ^ 62) < (m : Int) - 1 by omega) (by omega)
  have inn := in62_of (show -(2 ^ 62) < (n : Int) - 1 by omega) (by omega)
  obtain ⟨ρ1, g1, s2, s3, s4, rfl⟩ := for_rng (i := 2) (n := (m : Int) - 1) (a := S_even_blocks_b2) (fun y ρ => ∃ s2 s3 s4, ρ = [.va (tabD F), .ow (.lst ((evens F y (n - 1)).map ptD)), s2, s3, s4])
    (ρ := [.va (tabD F), .ow (.lst []), .un, .un, .un]) ⟨.un, .un, .un, rfl⟩ (fun y ρ lt ⟨s2, s3, s4, e⟩ => by
    subst e
    refine ⟨by simp, ?_⟩
    have iy : oIx (tabD F) (.int y) = .ok (dI (rowA F y), .sh) := oIx_tab (y := y) (by omega) (by omega)
    have iy1 : oIx (tabD F) (.int ((y : Int) + 1)) = .ok (dI (rowA F (y + 1)), .sh) := oIx_tab (y := (y : Int) + 1) (by omega) (by omega)
    have ry : (rowA F y).length = n := h.row _ (rowA_mem (by omega))
    have ry1 : (rowA F (y + 1)).length = n := h.row _ (rowA_mem (by omega))
    obtain ⟨ρ', g1, s3', s4', rfl⟩ := for_rng (i := 3) (n := (n : Int) - 1) (a := S_even_blocks_b1) (fun x ρ => ∃ s3 s4, ρ = [.va (tabD F), .ow (.lst ((evens F y (n - 1) ++ evRow F x y).map ptD)), .va (.int y), s3, s4])
      (ρ := [.va (tabD F), .ow (.lst ((evens F y (n - 1)).map ptD)), .va (.int y), s3, s4]) ⟨s3, s4, by simp [evRow]⟩ (fun x ρ lt' ⟨s3, s4, e⟩ => by
      subst e
      refine ⟨by simp, ?_⟩
      have a1 := oIx_i (us := rowA F y) (i := x) (by omega) (by omega)
      have a2 := oIx_i (us := rowA F y) (i := (x : Int) + 1) (by omega) (by omega)
      have a3 := oIx_i (us := rowA F (y + 1)) (i := x) (by omega) (by omega)
      have a4 := oIx_i (us := rowA F (y + 1)) (i := (x : Int) + 1) (by omega) (by omega)
      rw [show ((x : Int) + 1).toNat = x + 1 by omega] at a2 a4
      rw [Int.toNat_natCast] at a1 a3
      have ln : (evens F y (n - 1) ++ evRow F x y).length < SZ := by
        rw [List.length_append]
        have e1 := evens_len F y (n - 1)
        have e2 := evRow_len F x y
        have e3 : y * (n - 1) ≤ 40 * 40 := Nat.mul_le_mul (by omega) (by omega)
        unfold SZ
        omega
      have ka := kAp_pt (x := x) (y := y) ln
      by_cases q : evenB F x y = true
      · have q' := of_decide_eq_true q
        refine ⟨_, .inl ?_, .va (.int x), .va (.int (gt (rowA F y) x + gt (rowA F y) (x + 1) + gt (rowA F (y + 1)) x + gt (rowA F (y + 1)) (x + 1))), rfl⟩
        rw [evRow_succ, if_pos q]
        simp [S_even_blocks_b1, sSeq_ap, iy, iy1, a1, a2, a3, a4, q', SZ] at ka ⊢
        simp [ka]
      · have q' := of_decide_eq_false (Bool.eq_false_iff.mpr q)
        refine ⟨_, .inl ?_, .va (.int x), .va (.int (gt (rowA F y) x + gt (rowA F y) (x + 1) + gt (rowA F (y + 1)) x + gt (rowA F (y + 1)) (x + 1))), rfl⟩
        rw [evRow_succ, if_neg q]
        simp [S_even_blocks_b1, sSeq_ap, iy, iy1, a1, a2, a3, a4, q'])
    refine ⟨_, .inl ?_, .va (.int y), s3', s4', rfl⟩
    rw [evens_succ]
    rw [show ((n : Int) - 1).toNat = n - 1 by omega] at g1
    simp [S_even_blocks_b2, sFor_ap, l0, r0, inn]
    simpa using g1)
  rw [show ((m : Int) - 1).toNat = m - 1 by omega] at g1
  simp [R_even_blocks, denF, slots, S_even_blocks, sSeq_ap, sFor_ap, at_, hl, im, g1, SZ]
theorem even_ok (h : Rect F m n) (h1 : 1 ≤ m) (h2 : m ≤ 40) (h3 : 1 ≤ n) (h4 : n ≤ 40) : R__law_even [tabD F] = .ok (.lst ((evens F (m - 1) (n - 1)).map ptD), true) := by
  have hl := h.len
  have l0 : oIx (tabD F) (.int 0) = .ok (dI (rowA F 0), .sh) := oIx_tab (y := 0) (by omega) (by omega)
  have r0 : (rowA F 0).length = n := h.row _ (rowA_mem (by omega))
  have im := in62_of (show -(2 ^ 62) < (m : Int) by omega) (by omega)
  have inn := in62_of (show -(2 ^ 62) < (n : Int) by omega) (by omega)
  have i1 : in62 1 = true := rfl
  obtain ⟨ρ1, g1, s2, s3, s4, rfl⟩ := for_rng2 (i := 2) (lo := 1) (hi := m) (a := S__law_even_b2) (fun y ρ => ∃ s2 s3 s4, ρ = [.va (tabD F), .ow (.lst ((evens F y (n - 1)).map ptD)), s2, s3, s4])
    (ρ := [.va (tabD F), .ow (.lst []), .un, .un, .un]) ⟨.un, .un, .un, rfl⟩ (fun y ρ lt ⟨s2, s3, s4, e⟩ => by
    subst e
    refine ⟨by simp, ?_⟩
    have iy : oIx (tabD F) (.int y) = .ok (dI (rowA F y), .sh) := oIx_tab (y := y) (by omega) (by omega)
    have iy1 : oIx (tabD F) (.int (1 + (y : Int))) = .ok (dI (rowA F (y + 1)), .sh) := by
      have := oIx_tab (F := F) (y := 1 + (y : Int)) (by omega) (by omega)
      rwa [show (1 + (y : Int)).toNat = y + 1 by omega] at this
    have ry : (rowA F y).length = n := h.row _ (rowA_mem (by omega))
    have ry1 : (rowA F (y + 1)).length = n := h.row _ (rowA_mem (by omega))
    have by_ := h.bit _ (rowA_mem (F := F) (y := y) (by omega))
    have by1 := h.bit _ (rowA_mem (F := F) (y := y + 1) (by omega))
    obtain ⟨ρ', g1, s3', s4', rfl⟩ := for_rng2 (i := 3) (lo := 1) (hi := n) (a := S__law_even_b1) (fun x ρ => ∃ s3 s4, ρ = [.va (tabD F), .ow (.lst ((evens F y (n - 1) ++ evRow F x y).map ptD)), .va (.int (1 + (y : Int))), s3, s4])
      (ρ := [.va (tabD F), .ow (.lst ((evens F y (n - 1)).map ptD)), .va (.int (1 + (y : Int))), s3, s4]) ⟨s3, s4, by simp [evRow]⟩ (fun x ρ lt' ⟨s3, s4, e⟩ => by
      subst e
      refine ⟨by simp, ?_⟩
      have a1 := oIx_i (us := rowA F y) (i := x) (by omega) (by omega)
      have a2 := oIx_i (us := rowA F y) (i := 1 + (x : Int)) (by omega) (by omega)
      have a3 := oIx_i (us := rowA F (y + 1)) (i := x) (by omega) (by omega)
      have a4 := oIx_i (us := rowA F (y + 1)) (i := 1 + (x : Int)) (by omega) (by omega)
      rw [show (1 + (x : Int)).toNat = x + 1 by omega] at a2 a4
      rw [Int.toNat_natCast] at a1 a3
      have ln : (evens F y (n - 1) ++ evRow F x y).length < SZ := by
        rw [List.length_append]
        have e1 := evens_len F y (n - 1)
        have e2 := evRow_len F x y
        have e3 : y * (n - 1) ≤ 40 * 40 := Nat.mul_le_mul (by omega) (by omega)
        unfold SZ
        omega
      have ka := kAp_pt (x := x) (y := y) ln
      have c1 : 1 + (x : Int) - 1 = x := by omega
      have c2 : 1 + (y : Int) - 1 = y := by omega
      obtain ⟨k, k1, k2⟩ := four_count (by_.get x) (by_.get (x + 1)) (by1.get x) (by1.get (x + 1))
      by_cases q : evenB F x y = true
      · have q' := of_decide_eq_true q
        rw [decide_eq_true q'] at k2
        refine ⟨_, .inl ?_, .va (.int (1 + (x : Int))), .va (.lst [.int (gt (rowA F y) x), .int (gt (rowA F y) (x + 1)), .int (gt (rowA F (y + 1)) x), .int (gt (rowA F (y + 1)) (x + 1))]), rfl⟩
        rw [evRow_succ, if_pos q]
        simp [S__law_even_b1, sSeq_ap, iy, iy1, a1, a2, a3, a4, c1, c2, k1, k2, SZ] at ka ⊢
        simp [ka]
      · have q' := of_decide_eq_false (Bool.eq_false_iff.mpr q)
        rw [decide_eq_false q'] at k2
        refine ⟨_, .inl ?_, .va (.int (1 + (x : Int))), .va (.lst [.int (gt (rowA F y) x), .int (gt (rowA F y) (x + 1)), .int (gt (rowA F (y + 1)) x), .int (gt (rowA F (y + 1)) (x + 1))]), rfl⟩
        rw [evRow_succ, if_neg q]
        simp [S__law_even_b1, sSeq_ap, iy, iy1, a1, a2, a3, a4, c1, c2, k1, k2, SZ])
    refine ⟨_, .inl ?_, .va (.int (1 + (y : Int))), s3', s4', rfl⟩
    rw [evens_succ]
    rw [show ((n : Int) - 1).toNat = n - 1 by omega] at g1
    simp [S__law_even_b2, sFor_ap, l0, r0, inn, i1]
    simpa using g1)
  rw [show ((m : Int) - 1).toNat = m - 1 by omega] at g1
  simp [R__law_even, denF, slots, S__law_even, sSeq_ap, sFor_ap, hl, im, i1, g1, SZ]
end
end GD
/-! Rings. -/
namespace GD
open PySem L2 G
@[simp] theorem flat_obj (c : Nat) (b : List D) : flat (.obj c b) = false := rfl
abbrev rg (us ls : List Int) : D := .obj 21 [dI us, dI ls]
/-- what a ring's lists are -/
structure Loop (us ls : List Int) : Prop where
  bu : Bits us
  bl : Bits ls
  u2 : 2 ≤ us.length
  u40 : us.length ≤ 40
  ue : us.length % 2 = 0
  l2 : 2 ≤ ls.length
  l40 : ls.length ≤ 40
  le : ls.length % 2 = 0
section
variable {us ls : List Int}
theorem ring_init (p : Loop us ls) : R_Ring___init__ [dI us, dI ls] = .ok (rg us ls, true) := by
  have h1 := p.u2
  have h2 := p.u40
  have h3 := p.ue
  have h4 := p.l2
  have h5 := p.l40
  have h6 := p.le
  have q1 : ¬ (us.length : Int) < 2 := by omega
  have q2 : ¬ (40 : Int) < us.length := by omega
  have q3 : ¬ (us.length : Int) % 2 = 1 := by omega
  have q4 : ¬ (ls.length : Int) < 2 := by omega
  have q5 : ¬ (40 : Int) < ls.length := by omega
  have q6 : ¬ (ls.length : Int) % 2 = 1 := by omega
  have b1 := ask_bits_ok p.bu
  have b2 := ask_bits_ok p.bl
  simp [R_Ring___init__, denI, slots, S_Ring___init__, S_Ring___init___b1, sSeq_ap, sFor_ap, forL, q1, q2, q3, q4, q5, q6, b1, b2, fxOne, SZ]
theorem ring_size (h : (us.length < 2 ∨ 40 < us.length ∨ us.length % 2 = 1) ∨ (ls.length < 2 ∨ 40 < ls.length ∨ ls.length % 2 = 1)) : R_Ring___init__ [dI us, dI ls] = .ex 1 [] := by
  by_cases a : us.length < 2 ∨ 40 < us.length ∨ us.length % 2 = 1
  · by_cases q1 : (us.length : Int) < 2
    · simp [R_Ring___init__, denI, slots, S_Ring___init__, S_Ring___init___b1, sSeq_ap, sFor_ap, forL, q1, SZ]
    · by_cases q2 : (40 : Int) < us.length
      · simp [R_Ring___init__, denI, slots, S_Ring___init__, S_Ring___init___b1, sSeq_ap, sFor_ap, forL, q1, q2, SZ]
      · have q3 : (us.length : Int) % 2 = 1 := by omega
        simp [R_Ring___init__, denI, slots, S_Ring___init__, S_Ring___init___b1, sSeq_ap, sFor_ap, forL, q1, q2, q3, SZ]
  · have q1 : ¬ (us.length : Int) < 2 := by omega
    have q2 : ¬ (40 : Int) < us.length := by omega
    have q3 : ¬ (us.length : Int) % 2 = 1 := by omega
    have b : ls.length < 2 ∨ 40 < ls.length ∨ ls.length % 2 = 1 := h.resolve_left a
    by_cases r1 : (ls.length : Int) < 2
    · simp [R_Ring___init__, denI, slots, S_Ring___init__, S_Ring___init___b1, sSeq_ap, sFor_ap, forL, q1, q2, q3, r1, SZ]
    · by_cases r2 : (40 : Int) < ls.length
      · simp [R_Ring___init__, denI, slots, S_Ring___init__, S_Ring___init___b1, sSeq_ap, sFor_ap, forL, q1, q2, q3, r1, r2, SZ]
      · have r3 : (ls.length : Int) % 2 = 1 := by omega
        simp [R_Ring___init__, denI, slots, S_Ring___init__, S_Ring___init___b1, sSeq_ap, sFor_ap, forL, q1, q2, q3, r1, r2, r3, SZ]
theorem ring_bit (h : ¬ ((us.length < 2 ∨ 40 < us.length ∨ us.length % 2 = 1) ∨ (ls.length < 2 ∨ 40 < ls.length ∨ ls.length % 2 = 1))) (hb : ∃ b ∈ us ++ ls, b ≠ 0 ∧ b ≠ 1) : R_Ring___init__ [dI us, dI ls] = .ex 2 [] := by
  have q1 : ¬ (us.length : Int) < 2 := by omega
  have q2 : ¬ (40 : Int) < us.length := by omega
  have q3 : ¬ (us.length : Int) % 2 = 1 := by omega
  have q4 : ¬ (ls.length : Int) < 2 := by omega
  have q5 : ¬ (40 : Int) < ls.length := by omega
  have q6 : ¬ (ls.length : Int) % 2 = 1 := by omega
  by_cases a : ∃ b ∈ us, b ≠ 0 ∧ b ≠ 1
  · have b1 := ask_bits_no (bs := us) rfl a
    simp [R_Ring___init__, denI, slots, S_Ring___init__, S_Ring___init___b1, sSeq_ap, sFor_ap, forL, q1, q2, q3, q4, q5, q6, b1, SZ]
  · have bt : Bits us := fun b hb => by
      by_cases z : b = 0 ∨ b = 1
      · exact z
      · exact absurd ⟨b, hb, fun e => z (.inl e), fun e => z (.inr e)⟩ a
    have b2 : ∃ b ∈ ls, b ≠ 0 ∧ b ≠ 1 := by
      obtain ⟨b, hb, n⟩ := hb
      rcases List.mem_append.mp hb with z | z
      · exact absurd ⟨b, z, n⟩ a
      · exact ⟨b, z, n⟩
    have b1 := ask_bits_ok bt
    have b2 := ask_bits_no (bs := ls) rfl b2
    simp [R_Ring___init__, denI, slots, S_Ring___init__, S_Ring___init___b1, sSeq_ap, sFor_ap, forL, q1, q2, q3, q4, q5, q6, b1, b2, fxOne, SZ]
theorem rg_cols (us ls : List Int) : R_Ring_cols [rg us ls] = .ok (dI us, true) := by simp [R_Ring_cols, denF, slots, S_Ring_cols]
theorem rg_rows (us ls : List Int) : R_Ring_rows [rg us ls] = .ok (dI ls, true) := by simp [R_Ring_rows, denF, slots, S_Ring_rows]
theorem rg_wide (us ls : List Int) : R_Ring_wide [rg us ls] = .ok (.int us.length, false) := by simp [R_Ring_wide, denF, slots, S_Ring_wide]
theorem rg_tall (us ls : List Int) : R_Ring_tall [rg us ls] = .ok (.int ls.length, false) := by simp [R_Ring_tall, denF, slots, S_Ring_tall]
theorem ring_law (p : Loop us ls) : R__law_ring [.tup [dI us, dI ls]] = .ok (rg us ls, true) := by
  have m := ring_init p
  have e0 : ∀ a b : D, oIx (.tup [a, b]) (.int 0) = .ok (a, .sh) := fun _ _ => rfl
  have e1 : ∀ a b : D, oIx (.tup [a, b]) (.int 1) = .ok (b, .sh) := fun _ _ => rfl
  simp [R__law_ring, denF, slots, S__law_ring, e0, e1, m]
theorem st_col {k y : Int} (h1 : 0 ≤ k) (h2 : k < us.length) (h3 : 0 ≤ y) (h4 : y < ls.length) : R_Ring_stitched [rg us ls, .str "col", .int k, .int y] = .ok (.bl (decide ((y + gt us k.toNat) % 2 = 1)), false) := by
  have q1 : ¬ k < 0 := by omega
  have q2 : ¬ (us.length : Int) ≤ k := by omega
  have q3 : ¬ y < 0 := by omega
  have q4 : ¬ (ls.length : Int) ≤ y := by omega
  have i := oIx_i (us := us) (i := k) h1 h2
  have ne2 : ¬ (Str.ofString "col" = Str.ofString "row") := by decide
  have tl := rg_tall us ls
  have wd := rg_wide us ls
  simp [R_Ring_stitched, denF, slots, S_Ring_stitched, sSeq_ap, ne2, tl, wd, q1, q2, q3, q4, i]
theorem st_row {k x : Int} (h1 : 0 ≤ k) (h2 : k < ls.length) (h3 : 0 ≤ x) (h4 : x < us.length) : R_Ring_stitched [rg us ls, .str "row", .int k, .int x] = .ok (.bl (decide ((x + gt ls k.toNat) % 2 = 1)), false) := by
  have q1 : ¬ k < 0 := by omega
  have q2 : ¬ (ls.length : Int) ≤ k := by omega
  have q3 : ¬ x < 0 := by omega
  have q4 : ¬ (us.length : Int) ≤ x := by omega
  have i := oIx_i (us := ls) (i := k) h1 h2
  have ne2 : ¬ (Str.ofString "row" = Str.ofString "col") := by decide
  have tl := rg_tall us ls
  have wd := rg_wide us ls
  simp [R_Ring_stitched, denF, slots, S_Ring_stitched, sSeq_ap, ne2, tl, wd, q1, q2, q3, q4, i]
theorem st_way {w : Str} {k x : Int} (h : w ≠ "col") (h' : w ≠ "row") : R_Ring_stitched [rg us ls, .str w, .int k, .int x] = .ex 4 [] := by
  simp [R_Ring_stitched, denF, slots, S_Ring_stitched, sSeq_ap, h, h']
theorem st_col_no {k y : Int} (h : ¬ (0 ≤ k ∧ k < us.length)) : R_Ring_stitched [rg us ls, .str "col", .int k, .int y] = .ex 4 [] := by
  have ne2 : ¬ (Str.ofString "col" = Str.ofString "row") := by decide
  have tl := rg_tall us ls
  have wd := rg_wide us ls
  by_cases q1 : k < 0
  · simp [R_Ring_stitched, denF, slots, S_Ring_stitched, sSeq_ap, ne2, tl, wd, q1]
  · have q2 : (us.length : Int) ≤ k := by omega
    simp [R_Ring_stitched, denF, slots, S_Ring_stitched, sSeq_ap, ne2, tl, wd, q1, q2]
theorem st_row_no {k y : Int} (h : ¬ (0 ≤ k ∧ k < ls.length)) : R_Ring_stitched [rg us ls, .str "row", .int k, .int y] = .ex 4 [] := by
  have ne2 : ¬ (Str.ofString "row" = Str.ofString "col") := by decide
  have tl := rg_tall us ls
  have wd := rg_wide us ls
  by_cases q1 : k < 0
  · simp [R_Ring_stitched, denF, slots, S_Ring_stitched, sSeq_ap, ne2, tl, wd, q1]
  · have q2 : (ls.length : Int) ≤ k := by omega
    simp [R_Ring_stitched, denF, slots, S_Ring_stitched, sSeq_ap, ne2, tl, wd, q1, q2]
theorem st_col_step {k y : Int} (h1 : 0 ≤ k) (h2 : k < us.length) (h : ¬ (0 ≤ y ∧ y < ls.length)) : R_Ring_stitched [rg us ls, .str "col", .int k, .int y] = .ex 5 [] := by
  have ne2 : ¬ (Str.ofString "col" = Str.ofString "row") := by decide
  have tl := rg_tall us ls
  have wd := rg_wide us ls
  have q1 : ¬ k < 0 := by omega
  have q2 : ¬ (us.length : Int) ≤ k := by omega
  by_cases q3 : y < 0
  · simp [R_Ring_stitched, denF, slots, S_Ring_stitched, sSeq_ap, ne2, tl, wd, q1, q2, q3]
  · have q4 : (ls.length : Int) ≤ y := by omega
    simp [R_Ring_stitched, denF, slots, S_Ring_stitched, sSeq_ap, ne2, tl, wd, q1, q2, q3, q4]
theorem st_row_step {k y : Int} (h1 : 0 ≤ k) (h2 : k < ls.length) (h : ¬ (0 ≤ y ∧ y < us.length)) : R_Ring_stitched [rg us ls, .str "row", .int k, .int y] = .ex 5 [] := by
  have ne2 : ¬ (Str.ofString "row" = Str.ofString "col") := by decide
  have tl := rg_tall us ls
  have wd := rg_wide us ls
  have q1 : ¬ k < 0 := by omega
  have q2 : ¬ (ls.length : Int) ≤ k := by omega
  by_cases q3 : y < 0
  · simp [R_Ring_stitched, denF, slots, S_Ring_stitched, sSeq_ap, ne2, tl, wd, q1, q2, q3]
  · have q4 : (us.length : Int) ≤ y := by omega
    simp [R_Ring_stitched, denF, slots, S_Ring_stitched, sSeq_ap, ne2, tl, wd, q1, q2, q3, q4]
end
/-- what the laws make of their draws -/
theorem loop_core {zs : List Int} (hz : 11 ≤ zs.length) : ∃ m1 m2 : Int, oIx (.lst [.int 4, .int 4, .int 8, .int 20, .int 3]) (.int (gt zs 0 % 5)) = .ok (.int m1, .sh) ∧ oIx (.lst [.int 4, .int 8, .int 4, .int 3, .int 20]) (.int (gt zs 0 % 5)) = .ok (.int m2, .sh) ∧
    (1 ≤ m1 ∧ m1 ≤ 20) ∧ (1 ≤ m2 ∧ m2 ≤ 20) := by
  obtain ⟨m1, p1, q1⟩ := pick5 (a := 4) (b := 4) (c := 8) (d := 20) (e := 3) (x := gt zs 0) (P := fun m => 1 ≤ m ∧ m ≤ 20) (by omega) (by omega) (by omega) (by omega) (by omega)
  obtain ⟨m2, p2, q2⟩ := pick5 (a := 4) (b := 8) (c := 4) (d := 3) (e := 20) (x := gt zs 0) (P := fun m => 1 ≤ m ∧ m ≤ 20) (by omega) (by omega) (by omega) (by omega) (by omega)
  exact ⟨m1, m2, p1, p2, q1, q2⟩
theorem loop_v2 {zs : List Int} (hz : 11 ≤ zs.length) : ∃ us ls, R__law_loop_v2 [dI zs] = .ok (.tup [dI us, dI ls], false) ∧ Loop us ls := by
  obtain ⟨m1, m2, p1, p2, q1, q2⟩ := loop_core hz
  have w1 : 0 ≤ gt zs 1 % m1 := Int.emod_nonneg _ (by omega)
  have w2 : gt zs 1 % m1 < m1 := Int.emod_lt_of_pos _ (by omega)
  have w3 : 0 ≤ gt zs 2 % m2 := Int.emod_nonneg _ (by omega)
  have w4 : gt zs 2 % m2 < m2 := Int.emod_lt_of_pos _ (by omega)
  obtain ⟨us, r1, l1, u1⟩ := row_v2 (us := zs.drop 3) (many := 2 + 2 * (gt zs 1 % m1)) (by simp; omega) (by omega) (by omega)
  obtain ⟨ls, r2, l2, u2⟩ := row_v2 (us := zs.drop 7) (many := 2 + 2 * (gt zs 2 % m2)) (by simp; omega) (by omega) (by omega)
  refine ⟨us, ls, ?_, u1, u2, by omega, by omega, by omega, by omega, by omega, by omega⟩
  have i0 := oIx_i (us := zs) (i := 0) (by omega) (by omega)
  have i1 := oIx_i (us := zs) (i := 1) (by omega) (by omega)
  have i2 := oIx_i (us := zs) (i := 2) (by omega) (by omega)
  have c3 := cut_us (us := zs) (k := 3) (by omega) (by omega)
  have c7 := cut_us (us := zs) (k := 7) (by omega) (by omega)
  have z1 : 0 < m1 := by omega
  have z2 : 0 < m2 := by omega
  have mu1 : oMul (.int 2) (.int (gt zs 1 % m1)) = .ok (.int (2 * (gt zs 1 % m1)), .sh) := oMul_l (by decide) (by decide)
  have mu2 : oMul (.int 2) (.int (gt zs 2 % m2)) = .ok (.int (2 * (gt zs 2 % m2)), .sh) := oMul_l (by decide) (by decide)
  have sz : 2 ≤ SZ := by decide
  simp at i0 i1 i2 c3 c7 r1 r2
  simp [R__law_loop_v2, denF, slots, S__law_loop_v2, sSeq_ap, i0, i1, i2, p1, p2, z1, z2, mu1, mu2, c3, c7, r1, r2, SZ, -List.map_drop]
theorem loop_ok {zs : List Int} (hz : 11 ≤ zs.length) : ∃ us ls, R__law_loop [dI zs] = .ok (.tup [dI us, dI ls], false) ∧ Loop us ls := by
  obtain ⟨m1, m2, p1, p2, q1, q2⟩ := loop_core hz
  have w1 : 0 ≤ gt zs 1 % m1 := Int.emod_nonneg _ (by omega)
  have w2 : gt zs 1 % m1 < m1 := Int.emod_lt_of_pos _ (by omega)
  have w3 : 0 ≤ gt zs 2 % m2 := Int.emod_nonneg _ (by omega)
  have w4 : gt zs 2 % m2 < m2 := Int.emod_lt_of_pos _ (by omega)
  obtain ⟨us, r1, l1, u1⟩ := row (us := zs.drop 3) (many := 2 + 2 * (gt zs 1 % m1)) (by simp; omega) (by omega) (by omega)
  obtain ⟨ls, r2, l2, u2⟩ := row (us := zs.drop 7) (many := 2 + 2 * (gt zs 2 % m2)) (by simp; omega) (by omega) (by omega)
  refine ⟨us, ls, ?_, u1, u2, by omega, by omega, by omega, by omega, by omega, by omega⟩
  have i0 := oIx_i (us := zs) (i := 0) (by omega) (by omega)
  have i1 := oIx_i (us := zs) (i := 1) (by omega) (by omega)
  have i2 := oIx_i (us := zs) (i := 2) (by omega) (by omega)
  have c3 := cut_us (us := zs) (k := 3) (by omega) (by omega)
  have c7 := cut_us (us := zs) (k := 7) (by omega) (by omega)
  have z1 : 0 < m1 := by omega
  have z2 : 0 < m2 := by omega
  have mu1 : oMul (.int 2) (.int (gt zs 1 % m1)) = .ok (.int (2 * (gt zs 1 % m1)), .sh) := oMul_l (by decide) (by decide)
  have mu2 : oMul (.int 2) (.int (gt zs 2 % m2)) = .ok (.int (2 * (gt zs 2 % m2)), .sh) := oMul_l (by decide) (by decide)
  have sz : 2 ≤ SZ := by decide
  simp at i0 i1 i2 c3 c7 r1 r2
  simp [R__law_loop, denF, slots, S__law_loop, sSeq_ap, i0, i1, i2, p1, p2, z1, z2, mu1, mu2, c3, c7, r1, r2, SZ, -List.map_drop]
end GD
/-! Told tables. -/
namespace GD
open PySem L2 G
theorem shn_2 : shn 2 = sh2 := rfl
theorem rngD_range (n : Nat) : rngD 0 n = (List.range n).map fun k : Nat => D.int k := by
  unfold rngD
  simp
theorem lc_rng {n : Nat} {tg : Tg} {e : ES} {ρ : Sl} {f : Nat → Int} (hl : n < SZ) (h : ∀ k : Nat, k < n → ∃ ρ1 kd, tgSet tg (.int k) ρ = some ρ1 ∧ e ρ1 = .ok (.int (f k), kd) ∧ kd.solid = true) :
    lcA tg G.tYes e ρ [] (rngD 0 n) = .ok (((List.range n).map f).map D.int) := by
  have := lcA_of (tg := tg) (e := e) (ρ := ρ) (fun d => match d with
    | .int k => .int (f k.toNat)
    | _ => .non) (ds := rngD 0 n) (by rw [rngD_range]; simpa using hl) fun j d hd => by
      rw [rngD_range] at hd
      obtain ⟨k, hk, rfl⟩ := map_get hd
      obtain ⟨rfl, lt⟩ := range_get hk
      obtain ⟨ρ1, kd, h1, h2, h3⟩ := h k lt
      exact ⟨ρ1, kd, h1, by simpa using h2, h3⟩
  rw [this, rngD_range, List.map_map, List.map_map]
  congr 1
theorem lcF_rng {n : Nat} {tg : Tg} {e : ES} {ρ : Sl} {f : Nat → D} (hl : n < SZ) (h : ∀ k : Nat, k < n → ∃ ρ1, tgSet tg (.int k) ρ = some ρ1 ∧ e ρ1 = .ok (f k, .fr)) :
    lcF tg G.tYes e ρ [] (rngD 0 n) = .ok ((List.range n).map f) := by
  have key : ∀ (ks : List Nat) (acc : List D), acc.length + ks.length < SZ → (∀ k ∈ ks, k < n) → lcF tg G.tYes e ρ acc (ks.map fun k : Nat => D.int k) = .ok (acc ++ ks.map f) := by
    intro ks
    induction ks with
    | nil => intro acc _ _; simp [lcF]
    | cons k ks ih =>
      intro acc hl hk
      obtain ⟨ρ1, h1, h2⟩ := h k (hk k List.mem_cons_self)
      have := ih (acc ++ [f k]) (by simp at hl ⊢; omega) fun x hx => hk x (List.mem_cons_of_mem _ hx)
      have hl' : acc.length < SZ := by simp at hl; omega
      rw [List.map_cons]
      unfold lcF
      rw [h1]
      simp [G.tYes, h2, hl', this]
  rw [rngD_range]
  have := key (List.range n) [] (by simpa using hl) fun k hk => List.mem_range.mp hk
  simpa using this
theorem picture_ok {s : Int} {us ls : List Int} (p : Plan s us ls) : Q_picture [cl s us ls] = .ok (.lst (tabT s us ls (ls.length + 1))) := by
  have lu := p.lu
  have ll := p.ll
  have im1 := in62_of (show -(2 ^ 62) < (us.length : Int) + 1 by omega) (by omega)
  have im2 := in62_of (show -(2 ^ 62) < (ls.length : Int) + 1 by omega) (by omega)
  have rows := lcF_rng (n := ls.length + 1) (tg := .one 1) (e := eLc (itR1 (eM [(20, R_Cloth_wide)] (eVar 0) [])) (.one 2) (tYes) (eM [(20, R_Cloth_colour)] (eVar 0) [eVar 2, eVar 1]) [2]) (ρ := [.va (cl s us ls), .un, .un]) (f := fun y => dI (rowT s us ls (us.length + 1) (y : Nat))) (by unfold SZ; omega) fun y hy => by
    refine ⟨[.va (cl s us ls), .va (.int y), .un], by simp, ?_⟩
    have row := lc_rng (n := us.length + 1) (tg := .one 2) (e := eM [(20, R_Cloth_colour)] (eVar 0) [eVar 2, eVar 1]) (ρ := [.va (cl s us ls), .va (.int y), .un]) (f := fun x => colour s us ls (x : Nat) y) (by unfold SZ; omega) fun x hx => by
      have c := colour_ok (x := x) (y := y) p (by omega) (by omega) (by omega) (by omega)
      exact ⟨[.va (cl s us ls), .va (.int y), .va (.int x)], .sh, by simp, by simp [c], rfl⟩
    rw [show ((us.length + 1 : Nat) : Int) = us.length + 1 by omega] at row
    simp [eLc, wipeS, wide_cl, im1]
    rw [row]
    rfl
  rw [show ((ls.length + 1 : Nat) : Int) = ls.length + 1 by omega] at rows
  simp [Q_picture, denP, slots, S_picture, eLcF, wipeS, tall_cl, im2]
  rw [rows]
  rfl
theorem tab_rectT {s : Int} {us ls : List Int} (p : Plan s us ls) : ∃ F, tabT s us ls (ls.length + 1) = F.map dI ∧ Rect F (ls.length + 1) (us.length + 1) := by
  refine ⟨_, tab_eq s us ls _, by simp, fun r hr => ?_, fun r hr => ?_⟩
  · obtain ⟨y, _, rfl⟩ := List.mem_map.mp hr
    exact rowT_len ..
  · obtain ⟨y, _, rfl⟩ := List.mem_map.mp hr
    intro b hb
    obtain ⟨x, _, rfl⟩ := List.mem_map.mp hb
    exact colour_b ..
end GD
namespace GD
open PySem L2 G
/-- the parity of the numbers behind the first one up to a place -/
def acc (us : List Int) : Nat → Int
  | 0 => 0
  | n + 1 => (acc us n + gt us (n + 1)) % 2
def accL (us : List Int) (n : Nat) : List Int := (List.range n).map (acc us)
theorem accL_succ (us : List Int) (n : Nat) : accL us (n + 1) = accL us n ++ [acc us n] := by
  unfold accL
  rw [List.range_succ, List.map_append]
  rfl
theorem accL_len (us : List Int) (n : Nat) : (accL us n).length = n := by simp [accL]
theorem accL_gt {us : List Int} {n k : Nat} (h : k < n) : gt (accL us n) k = acc us k := by
  rw [gt_eq (by rw [accL_len]; exact h)]
  simp [accL]
theorem acc_sum {us : List Int} : ∀ n : Nat, n < us.length → (acc us n + gt us 0) % 2 = (us.take (n + 1)).sum % 2
  | 0, h => by
    have := sum_take (us := us) (x := 0) (by omega) (by omega)
    simp at this
    simp [acc, this]
  | n + 1, h => by
    have ih := acc_sum (us := us) n (by omega)
    have := sum_take (us := us) (x := ((n + 1 : Nat) : Int)) (by omega) (by omega)
    rw [Int.toNat_natCast, show (((n + 1 : Nat) : Int) + 1).toNat = n + 1 + 1 by omega] at this
    rw [this]
    unfold acc
    omega
theorem acc_last {us : List Int} (h : 1 ≤ us.length) : (acc us (us.length - 1) + gt us 0) % 2 = us.sum % 2 := by
  have := acc_sum (us := us) (us.length - 1) (by omega)
  rw [this, show us.length - 1 + 1 = us.length by omega, List.take_length]
section
variable {us ls : List Int}
def dyT (us ls : List Int) (x y : Nat) : Int := (acc us x + acc ls y + (x : Int) * y) % 2
def dyRow (us ls : List Int) (y : Nat) : List Int := (List.range us.length).map fun x => dyT us ls x y
def dyF (us ls : List Int) : List (List Int) := (List.range ls.length).map (dyRow us ls)
theorem cell {A B : List Int} {p q x y : Int} {d : D} (i1 : oIx (dI A) (.int x) = .ok (.int p, .sh)) (i2 : oIx (dI B) (.int y) = .ok (.int q, .sh)) (mu : oMul (.int x) (.int y) = .ok (.int (x * y), .sh)) : (eBin oMod (eBin oAdd (eBin oAdd (eBin oIx (eVar 1) (eVar 2)) (eBin oIx (eVar 3) (eVar 4))) (eBin oMul (eVar 2) (eVar 4))) (eC (.int 2))) [.va d, .ow (dI A), .va (.int x), .ow (dI B), .va (.int y)] = .ok (.int ((p + q + x * y) % 2), .sh) := by
  simp [i1, i2, mu]
theorem dyed_run (p : Loop us ls) : (us.sum % 2 = 1 ∨ ls.sum % 2 = 1 → S_dyed (slots 5 [rg us ls]) = .rt .non .sh) ∧ (us.sum % 2 = 0 → ls.sum % 2 = 0 → S_dyed (slots 5 [rg us ls]) = .rt (tabD (dyF us ls)) (.tr 2)) := by
  have h1 := p.u2
  have h2 := p.u40
  have h4 := p.l2
  have h5 := p.l40
  have su := oBi_sum us
  have sl := oBi_sum ls
  refine ⟨fun h => ?_, fun hu hl => ?_⟩
  · rcases h with h | h
    · simp [slots, S_dyed, sSeq_ap, rg_cols, rg_rows, su, h]
    · by_cases q : us.sum % 2 = 1
      · simp [slots, S_dyed, sSeq_ap, rg_cols, rg_rows, su, q]
      · simp [slots, S_dyed, sSeq_ap, rg_cols, rg_rows, su, sl, q, h]
  · obtain ⟨ρ', g1, s2, rfl⟩ := for_rng2 (i := 2) (lo := 1) (hi := us.length) (a := S_dyed_b1) (fun k ρ => ∃ s2, ρ = [.va (rg us ls), .ow (dI (accL us (k + 1))), s2, .un, .un])
      (ρ := [.va (rg us ls), .ow (dI (accL us 1)), .un, .un, .un]) ⟨_, rfl⟩ (fun k ρ lt ⟨s2, e⟩ => by
      subst e
      refine ⟨by simp, ?_⟩
      have la := oIx_last (us := accL us (k + 1)) (by intro z; have := congrArg List.length z; rw [accL_len] at this; simp at this)
      rw [accL_len, show k + 1 - 1 = k by omega, accL_gt (by omega)] at la
      have i := oIx_i (us := us) (i := 1 + (k : Int)) (by omega) (by omega)
      rw [show (1 + (k : Int)).toNat = k + 1 by omega] at i
      have ka := kAp_i (us := accL us (k + 1)) (x := acc us (k + 1)) (by rw [accL_len]; unfold SZ; omega)
      rw [← accL_succ] at ka
      have e : (acc us k + gt us (k + 1)) % 2 = acc us (k + 1) := rfl
      exact ⟨[.va (rg us ls), .ow (dI (accL us (k + 1 + 1))), .va (.int (1 + k)), .un, .un], .inl (by simp [S_dyed_b1, la, i, rg_cols, e, ka]), _, rfl⟩)
    rw [show ((us.length : Int) - 1).toNat + 1 = us.length by omega] at g1
    obtain ⟨ρ', g2, s4, rfl⟩ := for_rng2 (i := 4) (lo := 1) (hi := ls.length) (a := S_dyed_b2) (fun k ρ => ∃ s4, ρ = [.va (rg us ls), .ow (dI (accL us us.length)), s2, .ow (dI (accL ls (k + 1))), s4])
      (ρ := [.va (rg us ls), .ow (dI (accL us us.length)), s2, .ow (dI (accL ls 1)), .un]) ⟨_, rfl⟩ (fun k ρ lt ⟨s4, e⟩ => by
      subst e
      refine ⟨by simp, ?_⟩
      have la := oIx_last (us := accL ls (k + 1)) (by intro z; have := congrArg List.length z; rw [accL_len] at this; simp at this)
      rw [accL_len, show k + 1 - 1 = k by omega, accL_gt (by omega)] at la
      have i := oIx_i (us := ls) (i := 1 + (k : Int)) (by omega) (by omega)
      rw [show (1 + (k : Int)).toNat = k + 1 by omega] at i
      have ka := kAp_i (us := accL ls (k + 1)) (x := acc ls (k + 1)) (by rw [accL_len]; unfold SZ; omega)
      rw [← accL_succ] at ka
      have e : (acc ls k + gt ls (k + 1)) % 2 = acc ls (k + 1) := rfl
      exact ⟨[.va (rg us ls), .ow (dI (accL us us.length)), s2, .ow (dI (accL ls (k + 1 + 1))), .va (.int (1 + k))], .inl (by simp [S_dyed_b2, la, i, rg_rows, e, ka]), _, rfl⟩)
    rw [show ((ls.length : Int) - 1).toNat + 1 = ls.length by omega] at g2
    have im1 := in62_of (show -(2 ^ 62) < (us.length : Int) by omega) (by omega)
    have im2 := in62_of (show -(2 ^ 62) < (ls.length : Int) by omega) (by omega)
    have im0 : in62 1 = true := by decide
    have rows := lcF_rng (n := ls.length) (tg := .one 4) (e := eLc (itR1 (eM [(21, R_Ring_wide)] (eVar 0) [])) (.one 2) (tYes) (eBin oMod (eBin oAdd (eBin oAdd (eBin oIx (eVar 1) (eVar 2)) (eBin oIx (eVar 3) (eVar 4))) (eBin oMul (eVar 2) (eVar 4))) (eC (.int 2))) [2]) (ρ := [.va (rg us ls), .ow (dI (accL us us.length)), s2, .ow (dI (accL ls ls.length)), .un]) (f := fun y => dI (dyRow us ls y)) (by unfold SZ; omega) fun y hy => by
      refine ⟨[.va (rg us ls), .ow (dI (accL us us.length)), s2, .ow (dI (accL ls ls.length)), .va (.int y)], by simp, ?_⟩
      have row := lc_rng (n := us.length) (tg := .one 2) (e := eBin oMod (eBin oAdd (eBin oAdd (eBin oIx (eVar 1) (eVar 2)) (eBin oIx (eVar 3) (eVar 4))) (eBin oMul (eVar 2) (eVar 4))) (eC (.int 2))) (ρ := [.va (rg us ls), .ow (dI (accL us us.length)), .un, .ow (dI (accL ls ls.length)), .va (.int y)]) (f := fun x => dyT us ls x y) (by unfold SZ; omega) fun x hx => by
        have i1 := oIx_i (us := accL us us.length) (i := x) (by omega) (by rw [accL_len]; omega)
        have i2 := oIx_i (us := accL ls ls.length) (i := y) (by omega) (by rw [accL_len]; omega)
        rw [Int.toNat_natCast, accL_gt hx] at i1
        rw [Int.toNat_natCast, accL_gt hy] at i2
        have mu : oMul (.int (x : Int)) (.int (y : Int)) = .ok (.int ((x : Int) * y), .sh) := oMul_l (by omega) (by omega)
        exact ⟨[.va (rg us ls), .ow (dI (accL us us.length)), .va (.int x), .ow (dI (accL ls ls.length)), .va (.int y)], .sh, by simp, cell i1 i2 mu, rfl⟩
      simp [eLc, wipeS, rg_wide, im1]
      rw [row]
      rfl
    have s1 : accL us 1 = [0] := rfl
    have s3 : accL ls 1 = [0] := rfl
    rw [s1] at g1
    rw [s3] at g2
    have g1' : forL (.one 2) S_dyed_b1 (rngD 1 us.length) [.va (rg us ls), .ow (.lst [.int 0]), .un, .un, .un] = _ := g1
    have g2' : forL (.one 4) S_dyed_b2 (rngD 1 ls.length) [.va (rg us ls), .ow (dI (accL us us.length)), s2, .ow (.lst [.int 0]), .un] = _ := g2
    have nu : ¬ us.sum % 2 = 1 := by omega
    have nl : ¬ ls.sum % 2 = 1 := by omega
    have sz1 : 1 ≤ SZ := by decide
    simp [slots, S_dyed, sSeq_ap, sFor_ap, rg_cols, rg_rows, rg_wide, rg_tall, su, sl, nu, nl, im0, im1, im2, g1', g2', eLcF, wipeS, sz1]
    rw [rows]
    simp [dyF]
theorem dyed_R (p : Loop us ls) (hu : us.sum % 2 = 0) (hl : ls.sum % 2 = 0) : R_dyed [rg us ls] = .ok (tabD (dyF us ls), false) := by
  have := (dyed_run p).2 hu hl
  unfold R_dyed denF
  rw [this]
theorem dyed_Q (p : Loop us ls) (hu : us.sum % 2 = 0) (hl : ls.sum % 2 = 0) : Q_dyed [rg us ls] = .ok (tabD (dyF us ls)) := by
  have := (dyed_run p).2 hu hl
  unfold Q_dyed denP
  rw [this]
  rfl
theorem dyed_Q0 (p : Loop us ls) (h : us.sum % 2 = 1 ∨ ls.sum % 2 = 1) : Q_dyed [rg us ls] = .ok .non := by
  have := (dyed_run p).1 h
  unfold Q_dyed denP
  rw [this]
  rfl
theorem dyF_len : (dyF us ls).length = ls.length := by simp [dyF]
theorem dyRow_len (y : Nat) : (dyRow us ls y).length = us.length := by simp [dyRow]
theorem dyF_row {y : Nat} (h : y < ls.length) : rowA (dyF us ls) y = dyRow us ls y := by
  unfold rowA dyF
  rw [List.getD_eq_getElem?_getD, List.getElem?_map, List.getElem?_range h]
  rfl
theorem dyRow_gt {x y : Nat} (h : x < us.length) : gt (dyRow us ls y) x = dyT us ls x y := by
  rw [gt_eq (by rw [dyRow_len]; exact h)]
  simp [dyRow]
theorem dyT_b (x y : Nat) : dyT us ls x y = 0 ∨ dyT us ls x y = 1 := by
  unfold dyT
  omega
theorem dy_right (p : Loop us ls) (hu : us.sum % 2 = 0) {x y r : Nat} (hx : x < us.length) (hr : (r : Int) = ((x : Int) + 1) % us.length) : decide (dyT us ls x y ≠ dyT us ls r y) = decide (((y : Int) + gt us r) % 2 = 1) := by
  have h2 := p.u2
  have he := p.ue
  by_cases q : x + 1 < us.length
  · have er : r = x + 1 := by
      rw [Int.emod_eq_of_lt (by omega) (by omega)] at hr
      omega
    subst er
    have ea : acc us (x + 1) = (acc us x + gt us (x + 1)) % 2 := rfl
    unfold dyT
    rw [ea, show ((x + 1 : Nat) : Int) * y = (x : Int) * y + y by rw [show ((x + 1 : Nat) : Int) = (x : Int) + 1 by omega, Int.add_mul, Int.one_mul]]
    generalize (x : Int) * y = z
    generalize gt us (x + 1) = g
    generalize acc us x = a
    generalize acc ls y = b
    congr 1
    simp only [eq_iff_iff]
    omega
  · have ex : x = us.length - 1 := by omega
    have er : r = 0 := by
      rw [show (x : Int) + 1 = us.length by omega, Int.emod_self] at hr
      omega
    subst er
    have l := acc_last (us := us) (by omega)
    rw [← ex, hu] at l
    obtain ⟨k, hk⟩ : ∃ k : Int, (us.length : Int) = 2 * k := ⟨us.length / 2, by omega⟩
    have ez : acc us 0 = 0 := rfl
    unfold dyT
    rw [ez, show (x : Int) * y = 2 * (k * y) - y by rw [show (x : Int) = 2 * k - 1 by omega, Int.sub_mul, Int.one_mul, Int.mul_assoc], show ((0 : Nat) : Int) * y = 0 by simp]
    generalize k * (y : Int) = z
    generalize gt us 0 = g at l ⊢
    generalize acc us x = a at l ⊢
    generalize acc ls y = b
    congr 1
    simp only [eq_iff_iff]
    omega
theorem dyT_swap (x y : Nat) : dyT us ls x y = dyT ls us y x := by
  unfold dyT
  rw [Int.mul_comm (x : Int) y, Int.add_comm (acc us x) (acc ls y)]
theorem dy_up (p : Loop us ls) (hl : ls.sum % 2 = 0) {x y r : Nat} (hy : y < ls.length) (hr : (r : Int) = ((y : Int) + 1) % ls.length) : decide (dyT us ls x y ≠ dyT us ls x r) = decide (((x : Int) + gt ls r) % 2 = 1) := by
  rw [dyT_swap, dyT_swap (y := r)]
  exact dy_right ⟨p.bl, p.bu, p.l2, p.l40, p.le, p.u2, p.u40, p.ue⟩ hl hy hr
theorem same00 : R__law_same [.int 0, .int 0] = .ok (.bl true, false) := same (.int _ _)
theorem same11 : R__law_same [.int 1, .int 1] = .ok (.bl true, false) := same (.int _ _)
theorem same10 : R__law_same [.int 1, .int 0] = .ok (.bl false, false) := rfl
theorem fits_cell {D0 : D} {x y r u : Int} {v v1 v2 : Int} {b1 b2 : Bool} {ry ru : List Int} {s4 s5 : Slot} (hb : v = 0 ∨ v = 1) (iy : oIx D0 (.int y) = .ok (dI ry, .sh)) (iu : oIx D0 (.int u) = .ok (dI ru, .sh)) (ix : oIx (dI ry) (.int x) = .ok (.int v, .sh)) (ir : oIx (dI ry) (.int r) = .ok (.int v1, .sh)) (ix2 : oIx (dI ru) (.int x) = .ok (.int v2, .sh))
    (hr : (x + 1) % us.length = r) (hu : (y + 1) % ls.length = u) (pu : (0 : Int) < us.length) (pl : (0 : Int) < ls.length) (st1 : R_Ring_stitched [rg us ls, .str "col", .int r, .int y] = .ok (.bl b1, false)) (st2 : R_Ring_stitched [rg us ls, .str "row", .int u, .int x] = .ok (.bl b2, false)) (e1 : (!decide (v = v1)) = b1) (e2 : (!decide (v = v2)) = b2) :
    S__law_fits_b1 [.va (rg us ls), .va D0, .va (.int y), .va (.int x), s4, s5] = .nx [.va (rg us ls), .va D0, .va (.int y), .va (.int x), .va (.int r), .va (.int u)] := by
  have pu' : 0 < us.length := by omega
  have pl' : 0 < ls.length := by omega
  subst e1
  subst e2
  rcases hb with rfl | rfl
  · simp [S__law_fits_b1, sSeq_ap, iy, iu, ix, ir, ix2, same00, rg_wide, rg_tall, hr, hu, pu', pl', st1, st2]
  · simp [S__law_fits_b1, sSeq_ap, iy, iu, ix, ir, ix2, same11, same10, rg_wide, rg_tall, hr, hu, pu', pl', st1, st2]
theorem isi_l : isiT "list" "list" = true := by decide +kernel
theorem fits_ok (p : Loop us ls) (hu : us.sum % 2 = 0) (hl : ls.sum % 2 = 0) : R__law_fits [rg us ls, tabD (dyF us ls)] = .ok (.bl true, false) := by
  have h1 := p.u2
  have h2 := p.u40
  have h4 := p.l2
  have h5 := p.l40
  have im1 := in62_of (show -(2 ^ 62) < (us.length : Int) by omega) (by omega)
  have im2 := in62_of (show -(2 ^ 62) < (ls.length : Int) by omega) (by omega)
  have row : ∀ y : Nat, y < ls.length → oIx (tabD (dyF us ls)) (.int y) = .ok (dI (dyRow us ls y), .sh) := fun y hy => by
    have := oIx_tab (F := dyF us ls) (y := y) (by omega) (by rw [dyF_len]; omega)
    rw [Int.toNat_natCast, dyF_row hy] at this
    exact this
  have at_ : ∀ x y : Nat, x < us.length → oIx (dI (dyRow us ls y)) (.int x) = .ok (.int (dyT us ls x y), .sh) := fun x y hx => by
    have := oIx_i (us := dyRow us ls y) (i := x) (by omega) (by rw [dyRow_len]; omega)
    rw [Int.toNat_natCast, dyRow_gt hx] at this
    exact this
  have cell : ∀ (x y : Nat) (s4 s5 : Slot), x < us.length → y < ls.length → ∃ s4' s5', S__law_fits_b1 [.va (rg us ls), .va (tabD (dyF us ls)), .va (.int y), .va (.int x), s4, s5] = .nx [.va (rg us ls), .va (tabD (dyF us ls)), .va (.int y), .va (.int x), s4', s5'] := fun x y s4 s5 hx hy => by
    obtain ⟨r, hr, lr⟩ : ∃ r : Nat, ((x : Int) + 1) % us.length = r ∧ r < us.length := by
      have z0 : 0 ≤ ((x : Int) + 1) % us.length := Int.emod_nonneg _ (by omega)
      have z1 : ((x : Int) + 1) % us.length < us.length := Int.emod_lt_of_pos _ (by omega)
      obtain ⟨k, hk⟩ := Int.eq_ofNat_of_zero_le z0
      exact ⟨k, hk, by omega⟩
    obtain ⟨u, hu', lu⟩ : ∃ r : Nat, ((y : Int) + 1) % ls.length = r ∧ r < ls.length := by
      have z0 : 0 ≤ ((y : Int) + 1) % ls.length := Int.emod_nonneg _ (by omega)
      have z1 : ((y : Int) + 1) % ls.length < ls.length := Int.emod_lt_of_pos _ (by omega)
      obtain ⟨k, hk⟩ := Int.eq_ofNat_of_zero_le z0
      exact ⟨k, hk, by omega⟩
    have st1 := st_col (us := us) (ls := ls) (k := r) (y := y) (by omega) (by omega) (by omega) (by omega)
    have st2 := st_row (us := us) (ls := ls) (k := u) (x := x) (by omega) (by omega) (by omega) (by omega)
    rw [Int.toNat_natCast] at st1 st2
    have d1 := dy_right (x := x) (y := y) p hu hx hr.symm
    have d2 := dy_up (x := x) (y := y) p hl hy hu'.symm
    refine ⟨_, _, fits_cell (v := dyT us ls x y) (v1 := dyT us ls r y) (v2 := dyT us ls x u) (dyT_b x y) (row y hy) (row u lu) (at_ x y hx) (at_ r y lr) (at_ x u hx) hr hu' (by omega) (by omega) st1 st2 ?_ ?_⟩
    · rw [← d1, decide_not]
    · rw [← d2, decide_not]
  have l00 : dyT us ls 0 0 = 0 := rfl
  have r0 := row 0 (by omega)
  have c0 := at_ 0 0 (by omega)
  rw [l00] at c0
  simp only [show ((0 : Nat) : Int) = 0 from rfl] at r0 c0
  obtain ⟨ρ', g1, s3, s4, s5, s6, rfl⟩ := for_rng (i := 2) (n := ls.length) (a := S__law_fits_b2) (fun _ ρ => ∃ s2 s3 s4 s5, ρ = [.va (rg us ls), .va (tabD (dyF us ls)), s2, s3, s4, s5])
    (ρ := [.va (rg us ls), .va (tabD (dyF us ls)), .un, .un, .un, .un]) ⟨_, _, _, _, rfl⟩ (fun y ρ lt ⟨s2, s3, s4, s5, e⟩ => by
    subst e
    refine ⟨by simp, ?_⟩
    obtain ⟨ρ', g1, s3', s4', s5', rfl⟩ := for_rng (i := 3) (n := us.length) (a := S__law_fits_b1) (fun _ ρ => ∃ s3 s4 s5, ρ = [.va (rg us ls), .va (tabD (dyF us ls)), .va (.int y), s3, s4, s5])
      (ρ := [.va (rg us ls), .va (tabD (dyF us ls)), .va (.int y), s3, s4, s5]) ⟨_, _, _, rfl⟩ (fun x ρ lt' ⟨s3, s4, s5, e⟩ => by
      subst e
      obtain ⟨s4', s5', h⟩ := cell x y s4 s5 (by omega) (by omega)
      exact ⟨by simp, _, .inl h, _, _, _, rfl⟩)
    have ry := row y (by omega)
    have rl := dyRow_len (us := us) (ls := ls) y
    refine ⟨_, .inl ?_, .va (.int y), s3', s4', s5', rfl⟩
    simp [S__law_fits_b2, sSeq_ap, sFor_ap, isi_l, ry, rl, rg_wide, im1, g1])
  have fl := dyF_len (us := us) (ls := ls)
  simp [R__law_fits, denF, slots, S__law_fits, sSeq_ap, sFor_ap, isi_l, fl, r0, c0, same00, rg_tall, im2, g1]
theorem bits_list {us : List Int} (h : Bits us) : ((List.range us.length).map fun k => if gt us k % 2 = 1 then (1 : Int) else 0) = us := by
  refine List.ext_getElem (by simp) fun i h1 h2 => ?_
  simp at h1 ⊢
  have b := h.get i
  rw [gt_eq h1] at b ⊢
  rcases b with b | b <;> rw [b] <;> decide
end
@[simp] theorem sAsgT_ap {i : Nat} {f : ES} {ρ : Sl} : sAsgT i f ρ = sWith (f ρ) ρ fun x => match x.2 with
  | .tr n => if i < ρ.length then .nx (ρ.set i (.pv (shn n) x.1)) else .no
  | _ => .no := rfl
@[simp] theorem eFnT_ap {n : Nat} {R : List D → Out D} {fs : List ES} {ρ : Sl} : eFnT n R fs ρ = (eArgs fs ρ).bind fun xs => if allSolid xs = true then (match R (xs.map (·.1)) with
  | .ok d => .ok (d, .tr n)
  | .ex c gs => .ex c gs
  | .no => .no) else .no := rfl
@[simp] theorem sClrP_ap {i : Nat} {ρ : Sl} : sClrP i ρ = match ρ[i]? with
  | some (.pv (.nd k) (.lst _)) => .nx (ρ.set i (.pv (.nd k) (.lst [])))
  | _ => .no := rfl
theorem law_k38 {ns : List Int} (hns : ns.length ≤ 63) : R_law_k38 [.frl ns] = .ok (.bl true, false) := by
  obtain ⟨zs, d1, d2, d3⟩ := draws (n := 11) hns (by omega) (by omega)
  obtain ⟨us, ls, hL, p⟩ := loop_ok (zs := zs) (by omega)
  have rl := ring_law p
  have h1 := p.u2
  have h2 := p.u40
  have h4 := p.l2
  have h5 := p.l40
  have im1 := in62_of (show -(2 ^ 62) < (us.length : Int) by omega) (by omega)
  have im2 := in62_of (show -(2 ^ 62) < (ls.length : Int) by omega) (by omega)
  have su := oBi_sum us
  have sl := oBi_sum ls
  have c1 : lcA (.one 5) G.tYes (eBi .int [eM [(21, R_Ring_stitched)] (eVar 1) [eC (.str "col"), eVar 5, eC (.int 0)]]) [.va (.frl ns), .va (rg us ls), .un, .un, .un, .un, .un] [] (rngD 0 us.length) = .ok (us.map D.int) := by
    have := lc_rng (n := us.length) (tg := .one 5) (e := eBi .int [eM [(21, R_Ring_stitched)] (eVar 1) [eC (.str "col"), eVar 5, eC (.int 0)]]) (ρ := [.va (.frl ns), .va (rg us ls), .un, .un, .un, .un, .un]) (f := fun k => if gt us k % 2 = 1 then 1 else 0) (by unfold SZ; omega) fun k hk => by
      have st := st_col (us := us) (ls := ls) (k := k) (y := 0) (by omega) (by omega) (by omega) (by omega)
      rw [Int.toNat_natCast, Int.zero_add] at st
      exact ⟨[.va (.frl ns), .va (rg us ls), .un, .un, .un, .va (.int k), .un], .sh, by simp, by simp [st], rfl⟩
    rw [this, bits_list p.bu]
  have c2 : lcA (.one 6) G.tYes (eBi .int [eM [(21, R_Ring_stitched)] (eVar 1) [eC (.str "row"), eVar 6, eC (.int 0)]]) [.va (.frl ns), .va (rg us ls), .va (.int us.sum), .un, .un, .un, .un] [] (rngD 0 ls.length) = .ok (ls.map D.int) := by
    have := lc_rng (n := ls.length) (tg := .one 6) (e := eBi .int [eM [(21, R_Ring_stitched)] (eVar 1) [eC (.str "row"), eVar 6, eC (.int 0)]]) (ρ := [.va (.frl ns), .va (rg us ls), .va (.int us.sum), .un, .un, .un, .un]) (f := fun k => if gt ls k % 2 = 1 then 1 else 0) (by unfold SZ; omega) fun k hk => by
      have st := st_row (us := us) (ls := ls) (k := k) (x := 0) (by omega) (by omega) (by omega) (by omega)
      rw [Int.toNat_natCast, Int.zero_add] at st
      exact ⟨[.va (.frl ns), .va (rg us ls), .va (.int us.sum), .un, .un, .un, .va (.int k)], .sh, by simp, by simp [st], rfl⟩
    rw [this, bits_list p.bl]
  have n0 : G.isNon .non = true := rfl
  have n1 : ∀ ds : List D, G.isNon (.lst ds) = false := fun _ => rfl
  have t3 : S_law_k38_t3 [.va (.frl ns), .va (rg us ls), .va (.int us.sum), .va (.int ls.sum), .un, .un, .un] = .rt (.bl true) .sh := by
    by_cases q : us.sum % 2 = 1 ∨ ls.sum % 2 = 1
    · have dq := dyed_Q0 p q
      by_cases q1 : us.sum % 2 = 1
      · simp [S_law_k38_t3, S_law_k38_t4, sSeq_ap, dq, q1, n0]
      · have q2 := q.resolve_left q1
        simp [S_law_k38_t3, S_law_k38_t4, sSeq_ap, dq, q1, q2, n0]
    · have q1 : ¬ us.sum % 2 = 1 := fun z => q (.inl z)
      have q2 : ¬ ls.sum % 2 = 1 := fun z => q (.inr z)
      have dq := dyed_Q p (by omega) (by omega)
      have dr := dyed_R p (by omega) (by omega)
      have ft := fits_ok p (by omega) (by omega)
      have fl := dyF_len (us := us) (ls := ls)
      have r0 : ((dyF us ls).map dI)[0]? = some (.lst ((rowA (dyF us ls) 0).map .int)) := by rw [List.getElem?_map, rowA_eq (by omega)]; rfl
      have l0 : (rowA (dyF us ls) 0).length = us.length := by rw [dyF_row (by omega), dyRow_len]
      have rw2 := row2_ok (ds := (dyF us ls).map dI) (es := (rowA (dyF us ls) 0).map .int) (n := 0) (by omega) r0
      have st2 := set2_ok (es := (rowA (dyF us ls) 0).map .int) (n := 0) (v := .int 1) (by omega) (by simp; omega)
      simp at rw2 st2
      simp [S_law_k38_t3, S_law_k38_t4, S_law_k38_t5, S_law_k38_t6, S_law_k38_t7, S_law_k38_t8, sSeq_ap, dq, q1, q2, n1, ft, shn_2, rw2, st2, dr, -List.map_set]
      try simp [sh2_eq, sh1, dr, ft]
  simp [R_law_k38, denF, slots, S_law_k38, S_law_k38_t1, S_law_k38_t2, sSeq_ap, eLc, wipeS, d1, hL, rl, rg_wide, rg_tall, im1, im2, c1, c2, su, sl, t3]
end GD
namespace K38
open PySem L2 G
theorem main (ns : List Int) (h : ns.length ≤ 63) : GD.R_law_k38 [.frl ns] = .ok (.bl true, false) := GD.law_k38 h
end K38
open PySem PySem.W PySem.Calls PyProof.Rows
theorem PySem.Challenge.cw_sashiko_k38_whole_rings_dyed_holds : PySem.Challenge.rw_sashiko_k38_whole_rings_dyed.Holds := by
  w_on; o_law
  refine HandSHeadRun.head_any (r := OpenLaw.row PySem.Challenge.rw_sashiko_k38_whole_rings_dyed) (q := view (OpenLaw.row PySem.Challenge.rw_sashiko_k38_whole_rings_dyed).prog [20]) (H := K38.hk) (ob := K38.ob) (M := 6000) (loose := K38.loose) (d := HandSHeadRun.topDef (OpenLaw.row PySem.Challenge.rw_sashiko_k38_whole_rings_dyed).prog 20) (kwd := []) K38.ob_eq
    (by kernel_rfl) (fun s => by kernel_rfl) K38.run (by kernel_rfl) (by kernel_rfl) (by kernel_rfl) (by rfl) (by first | assumption | decide +kernel) (by decide +kernel) ⟨rfl, rfl, rfl, rfl, rfl, by decide +kernel⟩ ?hw ?hc
  case hw => w_witness2
  case hc =>
    refine L2.walk_ofE (l := PySem.Challenge.rw_sashiko_k38_whole_rings_dyed) (n := 63) (k := 9) (x := "_law_script") (CX := G.CXW (PySem.Challenge.rw_sashiko_k38_whole_rings_dyed).prog) rfl (by decide) (by kernel_rfl) ⟨rfl, by decide, by decide⟩ ?F G.cxw_never
    intro w mg fa h Y G hmg0
    obtain ⟨K, KX, c⟩ := Y
    have hmg : mg ("law" : PySem.Str) = some (.ref fa) := by
      have e : (HandSHeadRun.topDef (OpenLaw.row PySem.Challenge.rw_sashiko_k38_whole_rings_dyed).prog 20).name = ("law" : PySem.Str) := by kernel_rfl
      rw [← e]
      exact hmg0
    obtain ⟨fd, sp, hb, h1, hF⟩ := K38.pre K38.main w mg fa h K KX G c hmg
    exact ⟨K, fd, sp, KX, hb, h1, hF⟩
