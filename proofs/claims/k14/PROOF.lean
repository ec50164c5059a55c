import PyProof.Rows.All
import Wide.All
import OpenK.AllK
import Wide.FinOn
import KE.KStateDown
import Lean
import HandS.ForExc
import HandS.ForMost
import HandS.ExcCtx
import HandS.TupAny
import HandS.IsInst
import HandS.TupLen
import HandS.Zip
import HandS.Small
import HandS.ExcInit
import HandS.Defaults
import HandS.WordsDict
import HandS.HeadHook1
import HandS.HeadHook2
import HandS.Style
import HandS.ExcIs
import HandS.HotCalls
import HandS.SuiteRaise
import HandS.Head0
import HandS.Head1
import HandS.Head2
import HandS.HeadEnd
import KE.SortData
import KE.DataMinMax
import HandS.Deep
import HandS.SetFor
import KE.SortKeyHeap
import KE.KSortKey
import HandS.SortKw
import HandS.SetKeys
import PyProof.DictMoreH
import HandS.Conv
import PyProof.Rows.TupDisplay
import HandS.Iter
import HandS.ExcField
import HandS.More
import HandS.Wide
import HandS.RaiseFrom
import HandS.Text
import HandS.TryOnly
import HandS.FStr
import HandS.TupSets
import PySem.Challenge.RW_sashiko_k14_whole_areas_leave_one
set_option Elab.async false
set_option autoImplicit false
set_option linter.all false
set_option maxRecDepth 100000
set_option maxHeartbeats 4000000
namespace G
open PySem L2
/-- a pure value -/
inductive D where
  | non | bl (b : Bool) | int (i : Int) | str (s : Str)
  | lst (xs : List D) | tup (xs : List D)
  | dK (ks : List Key) (vs : List D) | dT (ks : List (List Key)) (vs : List D)
  | obj (c : Nat) (fs : List D) | frl (ns : List Int) | hx
/-- how a value lies: shared (frozen), a fresh root, the own object of slot i -/
inductive Kd where
  | sh | fr | at (i : Nat) | tr (n : Nat)
  deriving DecidableEq
inductive Out (α : Type) where
  | ok (a : α) | ex (c : Nat) (fs : List D) | no
def Out.bind {α β : Type} : Out α → (α → Out β) → Out β
  | .ok a, f => f a
  | .ex c fs, _ => .ex c fs
  | .no, _ => .no
/-- no instance -/
def notObj : D → Bool
  | .obj _ _ => false
  | _ => true
/-- which nodes of a value are a slot's own: the root, its items by their places, .. -/
inductive Sh where
  | lf | nd (k : Nat → Sh)
  /-- lent: the root is the one that was handed in -/
  | ln (k : Nat → Sh)
  /-- the second thing lent -/
  | l2 (k : Nat → Sh)
inductive Slot where
  | un | va (d : D) | ow (d : D) | me (c : Nat) (ds : List D) | xc
  /-- an own tree of objects -/
  | pv (k : Sh) (d : D)
/-- own lists, n deep -/
def shn : Nat → Sh
  | 0 => .lf
  | n + 1 => .nd fun _ => shn n
/-- an own instance of the class 23 -/
def shC : Nat → Sh := fun i => if i = 0 then .lf else .nd fun _ => .lf
/-- .. or a tuple of one and of frozen values -/
def shD : D → Sh
  | .obj _ _ => .nd shC
  | .tup (.obj _ _ :: _) => .nd fun i => if i = 0 then .nd shC else .lf
  | _ => .lf
/-- the shape of a new tree: n deep, or by the value -/
def shT : Nat → D → Sh
  | 0, d => shD d
  | n + 1, _ => shn (n + 1)
abbrev Sl := List Slot
abbrev ES := Sl → Out (D × Kd)
/-- what the defs give: by number and arguments; the Bool: a fresh root -/
abbrev Gam := Nat → List D → Out (D × Bool)
abbrev SZ : Nat := 16777216
def Kd.solid : Kd → Bool
  | .at _ => false
  | _ => true
def flat : D → Bool
  | .non => true
  | .bl _ => true
  | .int _ => true
  | .str _ => true
  | _ => false
/-- nothing of it lies in older objects -/
def clean (d : D) (k : Kd) : Bool := flat d || (match d, k with
  | .lst ds, .fr => ds.all flat
  | .dK _ ds, .fr => ds.all flat
  | .dT _ ds, .fr => ds.all flat
  | _, _ => false)
@[simp] theorem bind_ok {α β : Type} (a : α) (f : α → Out β) : (Out.ok a).bind f = f a := rfl
@[simp] theorem bind_ex {α β : Type} (c : Nat) (fs : List D) (f : α → Out β) : (Out.ex c fs : Out α).bind f = .ex c fs := rfl
@[simp] theorem bind_no {α β : Type} (f : α → Out β) : (Out.no : Out α).bind f = .no := rfl
def eVar (i : Nat) : ES := fun ρ => match ρ[i]? with
  | some (.va d) => .ok (d, .sh)
  | some (.ow d) => .ok (d, .at i)
  | _ => .no
def eC (d : D) : ES := fun _ => .ok (d, .sh)
def eBin (op : D → D → Out (D × Kd)) (f g : ES) : ES := fun ρ => (f ρ).bind fun x => (g ρ).bind fun y => op x.1 y.1
def eUn (op : D → Out (D × Kd)) (f : ES) : ES := fun ρ => (f ρ).bind fun x => op x.1
def eArgs : List ES → Sl → Out (List (D × Kd))
  | [], _ => .ok []
  | f :: fs, ρ => (f ρ).bind fun x => (eArgs fs ρ).bind fun xs => .ok (x :: xs)
def shr (d : D) : Out (D × Kd) := .ok (d, .sh)
def oAdd : D → D → Out (D × Kd)
  | .int i, .int j => shr (.int (i + j))
  | .str x, .str y => if x.length + y.length ≤ SZ then shr (.str (x ++ y)) else .no
  | .lst xs, .lst ys => if xs.length + ys.length ≤ SZ then .ok (.lst (xs ++ ys), .fr) else .no
  | .tup xs, .tup ys => if xs.length + ys.length ≤ SZ then shr (.tup (xs ++ ys)) else .no
  | _, _ => .no
def oSub : D → D → Out (D × Kd)
  | .int i, .int j => shr (.int (i - j))
  | _, _ => .no
def smallI (i : Int) : Bool := decide (-(2 ^ 64) < i ∧ i < 2 ^ 64)
def oMul : D → D → Out (D × Kd)
  | .int i, .int j => if smallI i || smallI j then shr (.int (i * j)) else .no
  | .lst xs, .int k => if -(2 ^ 63) ≤ k ∧ k < 2 ^ 63 ∧ xs.length * k.toNat ≤ SZ then .ok (.lst (List.replicate k.toNat xs).flatten, .fr) else .no
  | _, _ => .no
def oMod : D → D → Out (D × Kd)
  | .int i, .int j => if 0 < j then shr (.int (i % j)) else .no
  | _, _ => .no
def oDiv : D → D → Out (D × Kd)
  | .int i, .int j => if 0 < j ∧ j < 1073741824 then shr (.int (i / j)) else .no
  | _, _ => .no
def oPow : D → D → Out (D × Kd)
  | .int i, .int j => if 0 ≤ j ∧ j ≤ 1000000 ∧ i.natAbs < 2 ^ 64 then shr (.int (i ^ j.toNat)) else .no
  | _, _ => .no
def oNeg : D → Out (D × Kd)
  | .int i => shr (.int (-i))
  | _ => .no
end G
namespace G
open PySem L2
def intsOf : List D → Option (List Int)
  | [] => some []
  | .int i :: r => (intsOf r).map (i :: ·)
  | _ :: _ => none
@[simp] theorem intsOf_map : ∀ ns : List Int, intsOf (ns.map D.int) = some ns
  | [] => rfl
  | n :: ns => by simp [intsOf, intsOf_map ns]
theorem intsOf_eq : ∀ {ds : List D} {ns : List Int}, intsOf ds = some ns → ds = ns.map D.int
  | [], ns, h => by cases h; rfl
  | d :: r, ns, h => by
    cases d with
    | int i =>
      unfold intsOf at h
      cases q : intsOf r with
      | none => rw [q] at h; cases h
      | some ms =>
        rw [q] at h
        cases h
        rw [intsOf_eq q]
        rfl
    | _ => cases h
mutual
def toPy : D → Option PyData
  | .non => some .none
  | .bl b => some (.bool b)
  | .int i => some (.int i)
  | .str s => some (.str s)
  | .lst xs => (toPys xs).map .list
  | .tup xs => (toPys xs).map .tuple
  | _ => none
def toPys : List D → Option (List PyData)
  | [] => some []
  | x :: xs => (toPy x).bind fun p => (toPys xs).map (p :: ·)
end
/-- == of scalars -/
def scalEq : D → D → Option Bool
  | .non, .non => some true
  | .non, .int _ => some false
  | .int _, .non => some false
  | .non, .str _ => some false
  | .str _, .non => some false
  | .int i, .int j => some (decide (i = j))
  | .bl i, .bl j => some (decide (i = j))
  | .str i, .str j => some (decide (i = j))
  | _, _ => none
def eqD (d e : D) : Option Bool := match scalEq d e with
  | some b => some b
  | none => match toPy d, toPy e with
    | some p, some q => if SeqAt.shaped p && SeqAt.shaped q then some (PyData.eqv p q) else none
    | _, _ => none
def obl : Option Bool → Out (D × Kd)
  | some b => shr (.bl b)
  | none => .no
def oEq (d e : D) : Out (D × Kd) := obl (eqD d e)
def oNe (d e : D) : Out (D × Kd) := obl ((eqD d e).map (!·))
def oLt : D → D → Out (D × Kd)
  | .int i, .int j => shr (.bl (decide (i < j)))
  | .tup xs, .tup ys => match intsOf xs, intsOf ys with
    | some ns, some ms => shr (.bl (HT.lexLt ns ms))
    | _, _ => .no
  | _, _ => .no
def oLe : D → D → Out (D × Kd)
  | .int i, .int j => shr (.bl (decide (i ≤ j)))
  | _, _ => .no
def oGt : D → D → Out (D × Kd)
  | .int i, .int j => shr (.bl (decide (j < i)))
  | _, _ => .no
def oGe : D → D → Out (D × Kd)
  | .int i, .int j => shr (.bl (decide (j ≤ i)))
  | _, _ => .no
def isNon : D → Bool
  | .non => true
  | _ => false
/-- a op b op' c, b asked once -/
def eChain (op op' : D → D → Out (D × Kd)) (f g h : ES) : ES := fun ρ => (f ρ).bind fun x => (g ρ).bind fun y => (op x.1 y.1).bind fun z => match z.1 with
  | .bl true => (h ρ).bind fun w => op' y.1 w.1
  | .bl false => shr (.bl false)
  | _ => .no
def oBl : D → Out Bool
  | .bl b => .ok b
  | _ => .no
/-- and, or of truth values -/
def eAnd (f g : ES) : ES := fun ρ => (f ρ).bind fun x => (oBl x.1).bind fun b => if b = true then g ρ else shr (.bl false)
def eOr (f g : ES) : ES := fun ρ => (f ρ).bind fun x => (oBl x.1).bind fun b => if b = true then shr (.bl true) else g ρ
def oNot (d : D) : Out (D × Kd) := (oBl d).bind fun b => shr (.bl (!b))
abbrev TSm := Sl → Out Bool
def oTru : D → Out Bool
  | .non => .ok false
  | .bl b => .ok b
  | .int i => .ok (i != 0)
  | .lst xs => .ok (!xs.isEmpty)
  | .tup xs => .ok (!xs.isEmpty)
  | _ => .no
def tBl (f : ES) : TSm := fun ρ => (f ρ).bind fun x => oBl x.1
def tTru (f : ES) : TSm := fun ρ => (f ρ).bind fun x => oTru x.1
def tAnd (f g : TSm) : TSm := fun ρ => (f ρ).bind fun b => if b = true then g ρ else .ok false
def tOr (f g : TSm) : TSm := fun ρ => (f ρ).bind fun b => if b = true then .ok true else g ρ
def tNot (f : TSm) : TSm := fun ρ => (f ρ).bind fun b => .ok (!b)
def eIf (t : TSm) (f g : ES) : ES := fun ρ => (t ρ).bind fun b => if b = true then f ρ else g ρ
def allSolid (xs : List (D × Kd)) : Bool := xs.all fun x => x.2.solid
def eTup (fs : List ES) : ES := fun ρ => (eArgs fs ρ).bind fun xs => if allSolid xs = true ∧ xs.length ≤ SZ then shr (.tup (xs.map (·.1))) else .no
def eLst (fs : List ES) : ES := fun ρ => (eArgs fs ρ).bind fun xs => if allSolid xs = true ∧ xs.length ≤ SZ then .ok (.lst (xs.map (·.1)), .fr) else .no
/-- a key, of ints and texts; of tuples of them -/
def keyOf : D → Option Key
  | .int i => some (.inl i)
  | .str s => some (.inr s)
  | _ => none
def keysOf : List D → Option (List Key)
  | [] => some []
  | d :: r => (keyOf d).bind fun k => (keysOf r).map (k :: ·)
def tkeyOf : D → Option (List Key)
  | .tup xs => keysOf xs
  | _ => none
def lookK {κ : Type} [DecidableEq κ] : List κ → List D → κ → Option D
  | k :: ks, d :: ds, x => if k = x then some d else lookK ks ds x
  | _, _, _ => none
/-- what a dict holds at a key; the outer option: the key is of its kind -/
def dGet : D → D → Option (Option D)
  | .dK ks ds, k => (keyOf k).map fun x => lookK ks ds x
  | .dT ks ds, k => (tkeyOf k).map fun x => lookK ks ds x
  | _, _ => none
def oIx : D → D → Out (D × Kd)
  | .lst xs, .int i => match atI xs i with
    | some d => shr d
    | none => .no
  | .tup xs, .int i => match atI xs i with
    | some d => shr d
    | none => .no
  | .str z, .int i => if z.length ≤ SZ then (match atI z.cps.toList i with
    | some c => shr (.str ⟨#[c]⟩)
    | none => .no) else .no
  | d, k => match dGet d k with
    | some (some v) => shr v
    | _ => .no
def cutD (xs : List D) (lo hi : Option Int) : List D := (xs.drop (HT.sIx xs.length 0 lo)).take (HT.sIx xs.length xs.length hi - HT.sIx xs.length 0 lo)
def oSl : D → Option Int → Option Int → Out (D × Kd)
  | .lst xs, lo, hi => .ok (.lst (cutD xs lo hi), .fr)
  | .tup xs, lo, hi => shr (.tup (cutD xs lo hi))
  | _, _, _ => .no
def ePart : Option ES → Sl → Out (Option Int)
  | none, _ => .ok none
  | some f, ρ => (f ρ).bind fun x => match x.1 with
    | .int i => .ok (some i)
    | _ => .no
def eSl (f : ES) (lo hi : Option ES) : ES := fun ρ => (f ρ).bind fun x => (ePart lo ρ).bind fun l => (ePart hi ρ).bind fun h => oSl x.1 l h
/-- fields: by the class and the name, the place -/
def oFld (fx : Nat → Option Nat) : D → Out (D × Kd)
  | .obj c ds => match fx c with
    | some i => match ds[i]? with
      | some d => shr d
      | none => .no
    | none => .no
  | _ => .no
end G
namespace G
open PySem L2
def tyName : D → Option String
  | .non => some "NoneType"
  | .bl _ => some "bool"
  | .int _ => some "int"
  | .str _ => some "str"
  | .lst _ => some "list"
  | .tup _ => some "tuple"
  | .dK _ _ => some "dict"
  | _ => none
def isiT (T : String) (S : String) : Bool := decide (S = T) || (decide (S = "bool") && decide (T = "int"))
def oIsi (T : String) (d : D) : Out (D × Kd) := match tyName d with
  | some S => shr (.bl (isiT T S))
  | none => .no
/-- built-in functions of one or two arguments -/
inductive Bi where
  | len | abs | int | sum | list | max2 | min2 | all | str | min1 | max1
  deriving DecidableEq
def boolsOf : List D → Option (List Bool)
  | [] => some []
  | .bl i :: r => (boolsOf r).map (i :: ·)
  | _ :: _ => none
def minI : List Int → Int
  | [] => 0
  | [a] => a
  | a :: r => min a (minI r)
def maxI : List Int → Int
  | [] => 0
  | [a] => a
  | a :: r => max a (maxI r)
def oBi : Bi → List D → Out (D × Kd)
  | .len, [.lst xs] => shr (.int xs.length)
  | .len, [.tup xs] => shr (.int xs.length)
  | .len, [.str x] => if x.length ≤ SZ then shr (.int x.length) else .no
  | .len, [.dK ks _] => shr (.int ks.length)
  | .len, [.dT ks _] => shr (.int ks.length)
  | .abs, [.int i] => shr (.int (if i < 0 then -i else i))
  | .int, [.int i] => shr (.int i)
  | .int, [.bl k] => shr (.int (if k then 1 else 0))
  | .sum, [.lst xs] => match intsOf xs with
    | some ns => shr (.int ns.sum)
    | none => .no
  | .min1, [.lst xs] => match intsOf xs with
    | some ns => if ns ≠ [] then shr (.int (minI ns)) else .no
    | none => .no
  | .max1, [.lst xs] => match intsOf xs with
    | some ns => if ns ≠ [] then shr (.int (maxI ns)) else .no
    | none => .no
  | .list, [.lst xs] => .ok (.lst xs, .fr)
  | .list, [.tup xs] => .ok (.lst xs, .fr)
  | .max2, [.int i, .int j] => shr (.int (if j > i then j else i))
  | .min2, [.int i, .int j] => shr (.int (if j < i then j else i))
  | .all, [.lst xs] => match boolsOf xs with
    | some bs => shr (.bl (bs.all id))
    | none => .no
  | .str, [.int i] => if i.natAbs.log2 < 1920 then shr (.str (toString i)) else .no
  | _, _ => .no
def eBi (b : Bi) (fs : List ES) : ES := fun ρ => (eArgs fs ρ).bind fun xs => oBi b (xs.map (·.1))
def okArgs (xs : List (D × Kd)) : Bool := xs.all fun x => x.2.solid || notObj x.1
/-- a fresh one of these has nothing of the arguments -/
def newD : D → Bool
  | .obj _ _ => true
  | .lst ds => ds.all flat
  | _ => false
def eCall (Γ : Gam) (n : Nat) (fs : List ES) : ES := fun ρ => (eArgs fs ρ).bind fun xs => match Γ n (xs.map (·.1)) with
  | .ok (d, b) => if allSolid xs then .ok (d, if b then .fr else .sh) else if flat d && okArgs xs then shr d else if (b && newD d) && okArgs xs then .ok (d, .fr) else .no
  | .ex c gs => if allSolid xs || (gs.isEmpty && okArgs xs) then .ex c gs else .no
  | .no => .no
/-- a method of an instance: by the class's number, the def's number; a receiver that raises is not served -/
def eMeth (Γ : Gam) (mx : Nat → Option Nat) (f : ES) (fs : List ES) : ES := fun ρ => match f ρ with
  | .ok (.obj c ds, k) => match mx c with
    | some n => if k.solid then eCall Γ n (eC (.obj c ds) :: fs) ρ else .no
    | none => .no
  | _ => .no
end G
namespace G
open PySem L2
abbrev IS := Sl → Out (List D)
def itemsOf : D → Option (List D)
  | .lst xs => some xs
  | .tup xs => some xs
  | .frl ns => some (ns.map D.int)
  | .str s => some (s.cps.toList.map fun c => D.str ⟨#[c]⟩)
  | _ => none
/-- st: in a for statement (a slot's own list is not walked there) -/
def itE (st : Bool) (f : ES) : IS := fun ρ => (f ρ).bind fun x => if st && !x.2.solid then .no else match itemsOf x.1 with
  | some ds => .ok ds
  | none => .no
def in62 (i : Int) : Bool := decide (i.natAbs < 4611686018427387904)
def rngD (lo hi : Int) : List D := (List.range (hi - lo).toNat).map fun k => D.int (lo + (k : Nat))
def itR1 (f : ES) : IS := fun ρ => (f ρ).bind fun x => match x.1 with
  | .int j => if in62 j then .ok (rngD 0 j) else .no
  | _ => .no
def itR2 (f g : ES) : IS := fun ρ => (f ρ).bind fun x => (g ρ).bind fun y => match x.1, y.1 with
  | .int i, .int j => if in62 i && in62 j then .ok (rngD i j) else .no
  | _, _ => .no
def zipD : List D → List D → List D
  | x :: xs, y :: ys => .tup [x, y] :: zipD xs ys
  | _, _ => []
def enumD : Nat → List D → List D
  | _, [] => []
  | n, x :: xs => .tup [.int (n : Nat), x] :: enumD (n + 1) xs
def itZip (st : Bool) (f g : ES) : IS := fun ρ => (f ρ).bind fun x => (g ρ).bind fun y => if st && !(x.2.solid && y.2.solid) then .no else match x.1, y.1 with
  | .lst xs, .lst ys => .ok (zipD xs ys)
  | .tup xs, .tup ys => .ok (zipD xs ys)
  | _, _ => .no
def itEnum (st : Bool) (f : ES) : IS := fun ρ => (f ρ).bind fun x => if st && !x.2.solid then .no else match x.1 with
  | .lst xs => .ok (enumD 0 xs)
  | _ => .no
inductive Tg where
  | one (i : Nat) | tup (ts : List Tg)
mutual
def tgSet : Tg → D → Sl → Option Sl
  | .one i, d, ρ => if i < ρ.length then some (ρ.set i (.va d)) else none
  | .tup ts, .tup ds, ρ => tgSets ts ds ρ
  | .tup ts, .lst ds, ρ => tgSets ts ds ρ
  | _, _, _ => none
def tgSets : List Tg → List D → Sl → Option Sl
  | [], [], ρ => some ρ
  | t :: ts, d :: ds, ρ => (tgSet t d ρ).bind fun ρ' => tgSets ts ds ρ'
  | _, _, _ => none
end
mutual
def tgIdx : Tg → List Nat
  | .one i => [i]
  | .tup ts => tgIdxs ts
def tgIdxs : List Tg → List Nat
  | [] => []
  | t :: ts => tgIdx t ++ tgIdxs ts
end
def wipeS (ρ : Sl) : List Nat → Sl
  | [] => ρ
  | v :: vs => (wipeS ρ vs).set v .un
def tYes : TSm := fun _ => .ok true
/-- one turn behind another: ρ the slots as the block has them -/
def lcA (tg : Tg) (t : TSm) (e : ES) (ρ : Sl) : List D → List D → Out (List D)
  | acc, [] => .ok acc
  | acc, d :: ds => match tgSet tg d ρ with
    | none => .no
    | some ρ1 => match t ρ1 with
      | .ok true => match e ρ1 with
        | .ok (y, k) => if k.solid && decide (acc.length < SZ) then lcA tg t e ρ (acc ++ [y]) ds else .no
        | _ => .no
      | .ok false => lcA tg t e ρ acc ds
      | _ => .no
def eLc (it : IS) (tg : Tg) (t : TSm) (e : ES) (vs : List Nat) : ES := fun ρ => (it ρ).bind fun ds => (lcA tg t e (wipeS ρ vs) [] ds).bind fun r => .ok (.lst r, .fr)
end G
namespace G
open PySem L2
inductive Fl where
  | nx (ρ : Sl) | bk (ρ : Sl) | ct (ρ : Sl) | rt (d : D) (k : Kd) (ρ : Sl) | ex (n : Nat) (fs : List D) (ρ : Sl) | no
abbrev SS := Sl → Fl
def sSkip : SS := fun ρ => .nx ρ
def sSeq (f g : SS) : SS := fun ρ => match f ρ with
  | .nx ρ' => g ρ'
  | o => o
def sIf (t : TSm) (f g : SS) : SS := fun ρ => match t ρ with
  | .ok b => if b = true then f ρ else g ρ
  | .ex n fs => .ex n fs ρ
  | .no => .no
/-- what an expression gives, then a statement's end -/
def sWith {α : Type} (o : Out α) (ρ : Sl) (k : α → Fl) : Fl := match o with
  | .ok a => k a
  | .ex n fs => .ex n fs ρ
  | .no => .no
def sDrop (f : ES) : SS := fun ρ => sWith (f ρ) ρ fun _ => .nx ρ
/-- x = e; own: a fresh root is x's own -/
def asg (own : Bool) (i : Nat) (x : D × Kd) (ρ : Sl) : Fl := if i < ρ.length then (match x.2 with
  | .sh => .nx (ρ.set i (.va x.1))
  | .fr => if own then (if notObj x.1 then .nx (ρ.set i (.ow x.1)) else .no) else .nx (ρ.set i (.va x.1))
  | .tr _ => .no
  | .at _ => .no) else .no
def sAsg (own : Bool) (i : Nat) (f : ES) : SS := fun ρ => sWith (f ρ) ρ fun x => asg own i x ρ
def sTg (t : Tg) (f : ES) : SS := fun ρ => sWith (f ρ) ρ fun x => if x.2.solid then (match tgSet t x.1 ρ with
  | some ρ' => .nx ρ'
  | none => .no) else .no
def sRet (f : ES) : SS := fun ρ => sWith (f ρ) ρ fun x => .rt x.1 x.2 ρ
def sRetN : SS := fun ρ => .rt .non .sh ρ
def forL (t : Tg) (b : SS) : List D → SS
  | [], ρ => .nx ρ
  | d :: ds, ρ => match tgSet t d ρ with
    | none => .no
    | some ρ1 => match b ρ1 with
      | .nx ρ2 => forL t b ds ρ2
      | .ct ρ2 => forL t b ds ρ2
      | .bk ρ2 => .nx ρ2
      | o => o
def sFor (s : IS) (t : Tg) (b : SS) : SS := fun ρ => sWith (s ρ) ρ fun ds => forL t b ds ρ
def whileL (t : TSm) (b : SS) : Nat → SS
  | 0, _ => .no
  | n + 1, ρ => match t ρ with
    | .ok true => (match b ρ with
      | .nx ρ2 => whileL t b n ρ2
      | .ct ρ2 => whileL t b n ρ2
      | .bk ρ2 => .nx ρ2
      | o => o)
    | .ok false => .nx ρ
    | .ex n fs => .ex n fs ρ
    | .no => .no
/-- turns enough -/
@[irreducible] def FU : Nat := 1000000000
def sWhile (t : TSm) (b : SS) : SS := whileL t b FU
/-- self.f = e in __init__ -/
def sFld (fx : Nat → Nat → Bool) (i : Nat) (f : ES) : SS := fun ρ => sWith (f ρ) ρ fun x => if clean x.1 x.2 then (match ρ[i]? with
  | some (.me c ds) => if fx c ds.length then .nx (ρ.set i (.me c (ds ++ [x.1]))) else .no
  | _ => .no) else .no
end G
namespace G
open PySem PySem.Spec L2
/-- the written part, the handled exception, the classes' addresses and their fields -/
structure Th where
  K : PySem.W.Frag
  xa : Option Addr
  C : Nat → Addr
  fld : Nat → List Str
  xb : Option Addr
mutual
inductive Rep (θ : Th) (F : Hp) : D → V → Prop
  | non : Rep θ F .non .non
  | bl (b : Bool) : Rep θ F (.bl b) (.bl b)
  | int (i : Int) : Rep θ F (.int i) (.int i)
  | str (s : Str) : Rep θ F (.str s) (.str s)
  | lst {a : Addr} {xs : List V} {ds : List D} : F a = some (.lst xs) → RepL θ F ds xs → Rep θ F (.lst ds) (.ref a)
  | tup {a : Addr} {xs : List V} {ds : List D} : F a = some (.tup xs) → RepL θ F ds xs → Rep θ F (.tup ds) (.ref a)
  | dK {a : Addr} {ks : List Key} {xs : List V} {ds : List D} : F a = some (.dK (ks.zip xs)) → ks.length = ds.length → RepL θ F ds xs → Rep θ F (.dK ks ds) (.ref a)
  | dT {a : Addr} {ks : List (List Key)} {xs : List V} {ds : List D} : F a = some (.dT (ks.zip xs)) → ks.length = ds.length → RepL θ F ds xs → Rep θ F (.dT ks ds) (.ref a)
  | obj {a dx : Addr} {c : Nat} {xs : List V} {ds : List D} : F a = some (.ins (θ.C c) dx ((θ.fld c).zip xs)) → (θ.fld c).length = ds.length → RepL θ F ds xs → Rep θ F (.obj c ds) (.ref a)
  | frl {a : Addr} {ns : List Int} : SqL θ.K F a (ns.map V.int) → Rep θ F (.frl ns) (.ref a)
  /-- something that is not looked at -/
  | hx {a : Addr} : Rep θ F .hx (.ref a)
inductive RepL (θ : Th) (F : Hp) : List D → List V → Prop
  | nil : RepL θ F [] []
  | cons {d : D} {v : V} {ds : List D} {vs : List V} : Rep θ F d v → RepL θ F ds vs → RepL θ F (d :: ds) (v :: vs)
end
/-- the root of an object that is not in the frozen part -/
inductive Root (θ : Th) (F : Hp) : D → HO → Prop
  | lst {xs : List V} {ds : List D} : RepL θ F ds xs → Root θ F (.lst ds) (.lst xs)
  | dK {ks : List Key} {xs : List V} {ds : List D} : ks.length = ds.length → RepL θ F ds xs → Root θ F (.dK ks ds) (.dK (ks.zip xs))
  | dT {ks : List (List Key)} {xs : List V} {ds : List D} : ks.length = ds.length → RepL θ F ds xs → Root θ F (.dT ks ds) (.dT (ks.zip xs))
  /-- an instance, its first fields stored -/
  | obj {c : Nat} {dx : Addr} {xs : List V} {ds : List D} : ds.length ≤ (θ.fld c).length → RepL θ F ds xs → Root θ F (.obj c ds) (.ins (θ.C c) dx (((θ.fld c).take ds.length).zip xs))
/-- all fields are there -/
def Full (θ : Th) : D → Prop
  | .obj c ds => ds.length = (θ.fld c).length
  | _ => True
section
variable {θ : Th} {F F' H H' : Hp}
theorem RepL.length : ∀ {ds : List D} {xs : List V}, RepL θ F ds xs → xs.length = ds.length
  | [], _, h => by cases h; rfl
  | d :: ds, _, h => by
    cases h with
    | cons a b => simp [RepL.length b]
mutual
theorem Rep.mono (e : Same F F') : ∀ {d : D} {v : V}, Rep θ F d v → Rep θ F' d v
  | _, _, .non => .non
  | _, _, .bl b => .bl b
  | _, _, .int b => .int b
  | _, _, .str b => .str b
  | _, _, .lst h r => .lst (e _ _ h) (RepL.mono e r)
  | _, _, .tup h r => .tup (e _ _ h) (RepL.mono e r)
  | _, _, .dK h l r => .dK (e _ _ h) l (RepL.mono e r)
  | _, _, .dT h l r => .dT (e _ _ h) l (RepL.mono e r)
  | _, _, .obj h l r => .obj (e _ _ h) l (RepL.mono e r)
  | _, _, .frl h => .frl (e.seq h)
  | _, _, .hx => .hx
theorem RepL.mono (e : Same F F') : ∀ {ds : List D} {vs : List V}, RepL θ F ds vs → RepL θ F' ds vs
  | _, _, .nil => .nil
  | _, _, .cons h r => .cons (Rep.mono e h) (RepL.mono e r)
end
theorem Root.mono (e : Same F F') {d : D} {o : HO} : Root θ F d o → Root θ F' d o
  | .lst r => .lst (r.mono e)
  | .dK l r => .dK l (r.mono e)
  | .dT l r => .dT l (r.mono e)
  | .obj l r => .obj l (r.mono e)
theorem RepL.append : ∀ {ds es : List D} {xs ys : List V}, RepL θ F ds xs → RepL θ F es ys → RepL θ F (ds ++ es) (xs ++ ys)
  | _, _, _, _, .nil, s => s
  | _, _, _, _, .cons r t, s => .cons r (RepL.append t s)
theorem RepL.get : ∀ {ds : List D} {xs : List V} {i : Nat} {d : D}, RepL θ F ds xs → ds[i]? = some d → ∃ v, xs[i]? = some v ∧ Rep θ F d v
  | _, _, _, _, .nil, e => by simp at e
  | _, _, 0, _, .cons r _, e => by
    simp at e
    subst e
    exact ⟨_, rfl, r⟩
  | _, _, i + 1, d, .cons _ t, e => by
    obtain ⟨u, h1, h2⟩ := RepL.get (i := i) (d := d) t (by simpa using e)
    exact ⟨u, by simpa using h1, h2⟩
theorem RepL.take : ∀ {ds : List D} {xs : List V} (n : Nat), RepL θ F ds xs → RepL θ F (ds.take n) (xs.take n)
  | _, _, 0, _ => .nil
  | _, _, _ + 1, .nil => .nil
  | _, _, n + 1, .cons r t => .cons r (RepL.take n t)
theorem RepL.drop : ∀ {ds : List D} {xs : List V} (n : Nat), RepL θ F ds xs → RepL θ F (ds.drop n) (xs.drop n)
  | _, _, 0, r => r
  | _, _, _ + 1, .nil => .nil
  | _, _, n + 1, .cons _ t => RepL.drop n t
theorem RepL.set : ∀ {ds : List D} {xs : List V} {d : D} {v : V} (n : Nat), RepL θ F ds xs → Rep θ F d v → RepL θ F (ds.set n d) (xs.set n v)
  | _, _, _, _, _, .nil, _ => .nil
  | _, _, _, _, 0, .cons _ t, q => .cons q t
  | _, _, _, _, n + 1, .cons r t, q => .cons r (RepL.set n t q)
theorem RepL.ints : ∀ {ns : List Int} {xs : List V}, RepL θ F (ns.map D.int) xs → xs = ns.map V.int
  | [], _, h => by cases h; rfl
  | n :: ns, _, h => by
    cases h with
    | cons a b =>
      cases a
      rw [RepL.ints b]
      rfl
/-- flat values lean on no heap -/
theorem Rep.flat {d : D} {v : V} (h : G.flat d = true) (r : Rep θ F d v) : Rep θ F' d v := by
  cases r with
  | non => exact .non
  | bl b => exact .bl b
  | int b => exact .int b
  | str b => exact .str b
  | _ => cases h
/-- a root put into the frozen part -/
theorem Root.frozen {a : Addr} {o : HO} {d : D} (n : F a = none) (r : Root θ F d o) (fu : Full θ d) : Rep θ (upd F a o) d (.ref a) := by
  have e : Same F (upd F a o) := fun b u h => by rw [upd_ne (ne_of_none h n)]; exact h
  cases r with
  | lst r => exact .lst upd_same (r.mono e)
  | dK l r => exact .dK upd_same l (r.mono e)
  | dT l r => exact .dT upd_same l (r.mono e)
  | @obj c dx xs ds l r =>
    have fu : ds.length = (θ.fld c).length := fu
    have r2 := r.mono e
    rw [fu, List.take_length] at r2 ⊢
    exact .obj upd_same fu.symm r2
end
def IsDict : HO → Prop
  | .dK _ => True
  | .dT _ => True
  | _ => False
/-- F stands in H (a dict that a loop walks is locked there) -/
def Sub (F H : Hp) : Prop := ∀ a u, F a = some u → H a = some u ∨ (IsDict u ∧ ∃ o, H a = some (.frz o u))
/-- what an expression leaves: all as it was, F' further -/
structure Ext (F H F' H' : Hp) : Prop where
  sub : Sub F' H'
  ff : Same F F'
  hh : Same H H'
  nw : ∀ a u, F' a = some u → F a = some u ∨ H a = none ∨ ∃ xs, u = .tup xs
section
variable {θ : Th} {F F' F2 H H' H2 : Hp}
theorem Ext.refl (s : Sub F H) : Ext F H F H := ⟨s, .refl _, .refl _, fun _ _ h => .inl h⟩
theorem Ext.trans (a : Ext F H F' H') (b : Ext F' H' F2 H2) : Ext F H F2 H2 := by
  refine ⟨b.sub, a.ff.trans b.ff, a.hh.trans b.hh, fun c u h => ?_⟩
  rcases b.nw c u h with z | z | z
  · exact a.nw c u z
  · exact .inr (.inl (a.hh.free z))
  · exact .inr (.inr z)
/-- a new object laid, not frozen -/
theorem Sub.lay {a : Addr} {o : HO} (s : Sub F H) (n : H a = none) : Sub F (upd H a o) := fun b u h => by
  have nb : b ≠ a := fun e => by
    subst e
    rcases s b u h with z | ⟨_, _, z⟩ <;> (rw [n] at z; cases z)
  rw [upd_ne nb]
  exact s b u h
theorem Sub.tup0 {a : Addr} {xs : List V} (s : Sub F H) (h : F a = some (.tup xs)) : H a = some (.tup xs) := by
  rcases s _ _ h with z | ⟨z, _⟩
  · exact z
  · cases z
theorem Sub.free {a : Addr} (s : Sub F H) (n : H a = none) : F a = none := by
  cases q : F a with
  | none => rfl
  | some u => rcases s a u q with z | ⟨_, _, z⟩ <;> (rw [n] at z; cases z)
theorem Same.lay {a : Addr} {o : HO} (n : H a = none) : Same H (upd H a o) := fun b u h => by rw [upd_ne (ne_of_none h n)]; exact h
theorem Ext.lay {a : Addr} {o : HO} (s : Sub F H) (n : H a = none) : Ext F H F (upd H a o) := ⟨s.lay n, .refl _, Same.lay n, fun _ _ h => .inl h⟩
/-- .. and frozen -/
theorem Ext.freeze {a : Addr} {o : HO} (s : Sub F H) (h : H a = some o) (n : F a = none) (h0 : Hp) (k : Same h0 H) (n0 : h0 a = none) (F0 : Hp) (e : Ext F0 h0 F H) : Ext F0 h0 (upd F a o) H := by
  refine ⟨fun b u q => ?_, e.ff.trans (Same.lay n), e.hh, fun b u q => ?_⟩
  · by_cases hb : b = a
    · subst hb
      rw [upd_same] at q
      cases q
      exact .inl h
    · rw [upd_ne hb] at q
      exact s b u q
  · by_cases hb : b = a
    · subst hb
      exact .inr (.inl n0)
    · rw [upd_ne hb] at q
      exact e.nw b u q
/-- what of F is not in H -/
def onlyN (F H : Hp) : Hp := fun b => match H b with
  | none => F b
  | some _ => none
theorem onlyN_le {F H : Hp} : Same (onlyN F H) F := fun b u h => by
  unfold onlyN at h
  cases q : H b with
  | none => rw [q] at h; exact h
  | some w => rw [q] at h; cases h
theorem onlyN_at {F H : Hp} {a : Addr} {u : HO} (h : F a = some u) (n : H a = none) : onlyN F H a = some u := by
  unfold onlyN
  rw [n]
  exact h
theorem onlyN_mono {F F' H H' : Hp} (e : Same F F') (hn : ∀ b, H b = none → H' b = none) : Same (onlyN F H) (onlyN F' H') := fun b u h => by
  unfold onlyN at h ⊢
  cases q : H b with
  | none => rw [q] at h; rw [hn b q]; exact e b u h
  | some w => rw [q] at h; cases h
/-- an instance that is new is new through and through -/
def Nw (θ : Th) (F' H : Hp) (d : D) (o : HO) : Prop := notObj d = false → Root θ (onlyN F' H) d o
theorem Nw.mono {θ : Th} {F F' H H' : Hp} {d : D} {o : HO} (h : Nw θ F H d o) (e : Same F F') (hn : ∀ b, H b = none → H' b = none) : Nw θ F' H' d o := fun z => (h z).mono (onlyN_mono e hn)
theorem Nw.of {θ : Th} {F H : Hp} {d : D} {o : HO} (h : notObj d = true) : Nw θ F H d o := fun z => by rw [h] at z; cases z
theorem Full.of {θ : Th} {d : D} (h : notObj d = true) : Full θ d := by cases d <;> first | trivial | cases h
/-- a fresh root behind an expression -/
def FrV (θ : Th) (F' H H' : Hp) (d : D) (v : V) : Prop := Full θ d ∧ ∃ a o, v = .ref a ∧ H a = none ∧ H' a = some o ∧ F' a = none ∧ Root θ F' d o ∧ Nw θ F' H d o
theorem FrV.freeze {d : D} {v : V} (e : Ext F H F' H') (f : FrV θ F' H H' d v) : ∃ F2, Ext F H F2 H' ∧ Same F' F2 ∧ Rep θ F2 d v := by
  obtain ⟨fu, a, o, rfl, n, h, nf, r, _⟩ := f
  exact ⟨upd F' a o, Ext.freeze e.sub h nf H e.hh n F e, Same.lay nf, r.frozen nf fu⟩
end
mutual
/-- d lies at v as a tree whose objects at S are nobody else's; its leaves are frozen -/
inductive Tr (θ : Th) (B F H : Hp) : Sh → D → V → List Addr → Prop
  | lf {d : D} {v : V} : Rep θ F d v → Tr θ B F H .lf d v []
  | fl {k : Nat → Sh} {d : D} {v : V} : flat d = true → Rep θ F d v → Tr θ B F H (.nd k) d v []
  | lst {k : Nat → Sh} {a : Addr} {xs : List V} {ds : List D} {S : List Addr} : H a = some (.lst xs) → TrL θ B F H k 0 ds xs S → Tr θ B F H (.nd k) (.lst ds) (.ref a) (a :: S)
  | tup {k : Nat → Sh} {a : Addr} {xs : List V} {ds : List D} {S : List Addr} : H a = some (.tup xs) → True → TrL θ B F H k 0 ds xs S → Tr θ B F H (.nd k) (.tup ds) (.ref a) S
  | dK {k : Nat → Sh} {a : Addr} {ks : List Key} {xs : List V} {ds : List D} {S : List Addr} : H a = some (.dK (ks.zip xs)) → ks.length = ds.length → TrL θ B F H k 0 ds xs S → Tr θ B F H (.nd k) (.dK ks ds) (.ref a) (a :: S)
  | dT {k : Nat → Sh} {a : Addr} {ks : List (List Key)} {xs : List V} {ds : List D} {S : List Addr} : H a = some (.dT (ks.zip xs)) → ks.length = ds.length → TrL θ B F H k 0 ds xs S → Tr θ B F H (.nd k) (.dT ks ds) (.ref a) (a :: S)
  | obj {k : Nat → Sh} {a dx : Addr} {c : Nat} {xs : List V} {ds : List D} {S : List Addr} : H a = some (.ins (θ.C c) dx ((θ.fld c).zip xs)) → (θ.fld c).length = ds.length → TrL θ B F H k 0 ds xs S → Tr θ B F H (.nd k) (.obj c ds) (.ref a) (a :: S)
  /-- lent: at the address that the def was given -/
  | fll {k : Nat → Sh} {d : D} {v : V} : flat d = true → Rep θ F d v → Tr θ B F H (.ln k) d v []
  | f2l {k : Nat → Sh} {d : D} {v : V} : flat d = true → Rep θ F d v → Tr θ B F H (.l2 k) d v []
  | ln {k : Nat → Sh} {a : Addr} {d : D} {S : List Addr} : θ.xa = some a → Tr θ B F H (.nd k) d (.ref a) S → Tr θ B F H (.ln k) d (.ref a) S
  | l2 {k : Nat → Sh} {a : Addr} {d : D} {S : List Addr} : θ.xb = some a → Tr θ B F H (.nd k) d (.ref a) S → Tr θ B F H (.l2 k) d (.ref a) S
inductive TrL (θ : Th) (B F H : Hp) : (Nat → Sh) → Nat → List D → List V → List Addr → Prop
  | nil {k : Nat → Sh} {n : Nat} : TrL θ B F H k n [] [] []
  | cons {k : Nat → Sh} {n : Nat} {d : D} {v : V} {ds : List D} {vs : List V} {S1 S2 : List Addr} : Tr θ B F H (k n) d v S1 → TrL θ B F H k (n + 1) ds vs S2 → TrL θ B F H k n (d :: ds) (v :: vs) (S1 ++ S2)
end
section
variable {θ : Th} {B F F' H H' : Hp}
theorem TrL.length : ∀ {k : Nat → Sh} {n : Nat} {ds : List D} {vs : List V} {S : List Addr}, TrL θ B F H k n ds vs S → vs.length = ds.length
  | _, _, _, _, _, .nil => rfl
  | _, _, _, _, _, .cons _ t => by rw [List.length_cons, List.length_cons, TrL.length t]
mutual
theorem Tr.keep (ff : Same F F') (tp : ∀ b xs, H b = some (.tup xs) → H' b = some (.tup xs)) : ∀ {k : Sh} {d : D} {v : V} {S : List Addr}, (∀ b ∈ S, H' b = H b) → Tr θ B F H k d v S → Tr θ B F' H' k d v S
  | _, _, _, _, _, .lf r => .lf (r.mono ff)
  | _, _, _, _, _, .fl h r => .fl h (r.mono ff)
  | _, _, _, _, hk, .lst h t => .lst ((hk _ List.mem_cons_self).trans h) (TrL.keep ff tp (fun b hb => hk b (List.mem_cons_of_mem _ hb)) t)
  | _, _, _, _, hk, .tup h hb t => .tup (tp _ _ h) hb (TrL.keep ff tp hk t)
  | _, _, _, _, hk, .dK h l t => .dK ((hk _ List.mem_cons_self).trans h) l (TrL.keep ff tp (fun b hb => hk b (List.mem_cons_of_mem _ hb)) t)
  | _, _, _, _, hk, .dT h l t => .dT ((hk _ List.mem_cons_self).trans h) l (TrL.keep ff tp (fun b hb => hk b (List.mem_cons_of_mem _ hb)) t)
  | _, _, _, _, hk, .obj h l t => .obj ((hk _ List.mem_cons_self).trans h) l (TrL.keep ff tp (fun b hb => hk b (List.mem_cons_of_mem _ hb)) t)
  | _, _, _, _, _, .fll h r => .fll h (r.mono ff)
  | _, _, _, _, _, .f2l h r => .f2l h (r.mono ff)
  | _, _, _, _, hk, .ln h t => .ln h (Tr.keep ff tp hk t)
  | _, _, _, _, hk, .l2 h t => .l2 h (Tr.keep ff tp hk t)
theorem TrL.keep (ff : Same F F') (tp : ∀ b xs, H b = some (.tup xs) → H' b = some (.tup xs)) : ∀ {k : Nat → Sh} {n : Nat} {ds : List D} {vs : List V} {S : List Addr}, (∀ b ∈ S, H' b = H b) → TrL θ B F H k n ds vs S → TrL θ B F' H' k n ds vs S
  | _, _, _, _, _, _, .nil => .nil
  | _, _, _, _, _, hk, .cons h t => .cons (Tr.keep ff tp (fun b hb => hk b (List.mem_append_left _ hb)) h) (TrL.keep ff tp (fun b hb => hk b (List.mem_append_right _ hb)) t)
end
mutual
theorem Tr.some : ∀ {k : Sh} {d : D} {v : V} {S : List Addr}, Tr θ B F H k d v S → ∀ b ∈ S, ∃ o, H b = some o ∧ ∀ xs, o ≠ .tup xs
  | _, _, _, _, .lf r, b, hb => by cases hb
  | _, _, _, _, .fl h r, b, hb => by cases hb
  | _, _, _, _, .lst h t, b, hb => by
    rcases List.mem_cons.mp hb with rfl | hb
    · exact ⟨_, h, fun _ z => by cases z⟩
    · exact TrL.some t b hb
  | _, _, _, _, .tup h hB t, b, hb => TrL.some t b hb
  | _, _, _, _, .dK h l t, b, hb => by
    rcases List.mem_cons.mp hb with rfl | hb
    · exact ⟨_, h, fun _ z => by cases z⟩
    · exact TrL.some t b hb
  | _, _, _, _, .dT h l t, b, hb => by
    rcases List.mem_cons.mp hb with rfl | hb
    · exact ⟨_, h, fun _ z => by cases z⟩
    · exact TrL.some t b hb
  | _, _, _, _, .obj h l t, b, hb => by
    rcases List.mem_cons.mp hb with rfl | hb
    · exact ⟨_, h, fun _ z => by cases z⟩
    · exact TrL.some t b hb
  | _, _, _, _, .fll h r, b, hb => by cases hb
  | _, _, _, _, .f2l h r, b, hb => by cases hb
  | _, _, _, _, .ln h t, b, hb => Tr.some t b hb
  | _, _, _, _, .l2 h t, b, hb => Tr.some t b hb
theorem TrL.some : ∀ {k : Nat → Sh} {n : Nat} {ds : List D} {vs : List V} {S : List Addr}, TrL θ B F H k n ds vs S → ∀ b ∈ S, ∃ o, H b = some o ∧ ∀ xs, o ≠ .tup xs
  | _, _, _, _, _, .nil, b, hb => by cases hb
  | _, _, _, _, _, .cons h t, b, hb => (List.mem_append.mp hb).elim (Tr.some h b) (TrL.some t b)
end
mutual
theorem Tr.nofrz : ∀ {k : Sh} {d : D} {v : V} {S : List Addr}, Tr θ B F H k d v S → ∀ b ∈ S, ∀ o w, H b ≠ Option.some (.frz o w)
  | _, _, _, _, .lf r, b, hb => by cases hb
  | _, _, _, _, .fl h r, b, hb => by cases hb
  | _, _, _, _, .lst h t, b, hb => by
    rcases List.mem_cons.mp hb with rfl | hb
    · rw [h]; intro _ _ z; cases z
    · exact TrL.nofrz t b hb
  | _, _, _, _, .tup h hB t, b, hb => TrL.nofrz t b hb
  | _, _, _, _, .dK h l t, b, hb => by
    rcases List.mem_cons.mp hb with rfl | hb
    · rw [h]; intro _ _ z; cases z
    · exact TrL.nofrz t b hb
  | _, _, _, _, .dT h l t, b, hb => by
    rcases List.mem_cons.mp hb with rfl | hb
    · rw [h]; intro _ _ z; cases z
    · exact TrL.nofrz t b hb
  | _, _, _, _, .obj h l t, b, hb => by
    rcases List.mem_cons.mp hb with rfl | hb
    · rw [h]; intro _ _ z; cases z
    · exact TrL.nofrz t b hb
  | _, _, _, _, .fll h r, b, hb => by cases hb
  | _, _, _, _, .f2l h r, b, hb => by cases hb
  | _, _, _, _, .ln h t, b, hb => Tr.nofrz t b hb
  | _, _, _, _, .l2 h t, b, hb => Tr.nofrz t b hb
theorem TrL.nofrz : ∀ {k : Nat → Sh} {n : Nat} {ds : List D} {vs : List V} {S : List Addr}, TrL θ B F H k n ds vs S → ∀ b ∈ S, ∀ o w, H b ≠ Option.some (.frz o w)
  | _, _, _, _, _, .nil, b, hb => by cases hb
  | _, _, _, _, _, .cons h t, b, hb => (List.mem_append.mp hb).elim (Tr.nofrz h b) (TrL.nofrz t b)
end
theorem zip_inj {α : Type} : ∀ {ks : List α} {xs ys : List V}, ks.length = xs.length → ks.length = ys.length → ks.zip xs = ks.zip ys → xs = ys
  | [], [], [], _, _, _ => rfl
  | [], _ :: _, _, h, _, _ => by cases h
  | [], [], _ :: _, _, h, _ => by cases h
  | _ :: _, [], _, h, _, _ => by cases h
  | _ :: _, _ :: _, [], _, h, _ => by cases h
  | k :: ks, x :: xs, y :: ys, h1, h2, h => by
    rw [List.zip_cons_cons, List.zip_cons_cons] at h
    injection h with h3 h4
    injection h3 with _ h5
    rw [h5, zip_inj (by simpa using h1) (by simpa using h2) h4]
mutual
/-- where the objects of a tree lie is not open -/
theorem Tr.det : ∀ {k : Sh} {d : D} {v : V} {S S' : List Addr}, Tr θ B F H k d v S → Tr θ B F H k d v S' → S = S'
  | _, _, _, _, _, .lf _, g => by cases g; rfl
  | _, _, _, _, _, .fl h _, g => by
    cases g with
    | fl _ _ => rfl
    | lst _ _ => cases h
    | tup _ _ _ => cases h
    | dK _ _ _ => cases h
    | dT _ _ _ => cases h
    | obj _ _ _ => cases h
  | _, _, _, _, _, .lst h t, g => by
    cases g with
    | fl z _ => cases z
    | lst h2 t2 =>
      rw [h] at h2
      cases h2
      rw [TrL.det t t2]
  | _, _, _, _, _, .tup h hB t, g => by
    cases g with
    | fl z _ => cases z
    | tup h2 _ t2 =>
      rw [h] at h2
      cases h2
      exact TrL.det t t2
  | _, _, _, _, _, .dK h l t, g => by
    cases g with
    | fl z _ => cases z
    | dK h2 l2 t2 =>
      rw [h] at h2
      injection h2 with h2
      injection h2 with h2
      have e := zip_inj (by rw [t.length]; exact l) (by rw [t2.length]; exact l) h2
      subst e
      rw [TrL.det t t2]
  | _, _, _, _, _, .dT h l t, g => by
    cases g with
    | fl z _ => cases z
    | dT h2 l2 t2 =>
      rw [h] at h2
      injection h2 with h2
      injection h2 with h2
      have e := zip_inj (by rw [t.length]; exact l) (by rw [t2.length]; exact l) h2
      subst e
      rw [TrL.det t t2]
  | _, _, _, _, _, .obj h l t, g => by
    cases g with
    | fl z _ => cases z
    | obj h2 l2 t2 =>
      rw [h] at h2
      injection h2 with h2
      injection h2 with _ _ h2
      have e := zip_inj (by rw [t.length]; exact l) (by rw [t2.length]; exact l) h2
      subst e
      rw [TrL.det t t2]
  | _, _, _, _, _, .fll h r, g => by
    cases g with
    | fll _ _ => rfl
    | ln h2 t2 =>
      cases r with
      | lst _ _ => cases h
      | tup _ _ => cases h
      | dK _ _ _ => cases h
      | dT _ _ _ => cases h
      | obj _ _ _ => cases h
      | frl _ => cases h
      | hx => cases h
  | _, _, _, _, _, .ln h t, g => by
    cases g with
    | fll h2 r =>
      cases r with
      | lst _ _ => cases h2
      | tup _ _ => cases h2
      | dK _ _ _ => cases h2
      | dT _ _ _ => cases h2
      | obj _ _ _ => cases h2
      | frl _ => cases h2
      | hx => cases h2
    | ln h2 t2 => exact Tr.det t t2
  | _, _, _, _, _, .f2l h r, g => by
    cases g with
    | f2l _ _ => rfl
    | l2 h2 t2 =>
      cases r with
      | lst _ _ => cases h
      | tup _ _ => cases h
      | dK _ _ _ => cases h
      | dT _ _ _ => cases h
      | obj _ _ _ => cases h
      | frl _ => cases h
      | hx => cases h
  | _, _, _, _, _, .l2 h t, g => by
    cases g with
    | f2l h2 r =>
      cases r with
      | lst _ _ => cases h2
      | tup _ _ => cases h2
      | dK _ _ _ => cases h2
      | dT _ _ _ => cases h2
      | obj _ _ _ => cases h2
      | frl _ => cases h2
      | hx => cases h2
    | l2 h2 t2 => exact Tr.det t t2
theorem TrL.det : ∀ {k : Nat → Sh} {n : Nat} {ds : List D} {vs : List V} {S S' : List Addr}, TrL θ B F H k n ds vs S → TrL θ B F H k n ds vs S' → S = S'
  | _, _, _, _, _, _, .nil, g => by cases g; rfl
  | _, _, _, _, _, _, .cons h t, g => by
    cases g with
    | cons h2 t2 => rw [Tr.det h h2, TrL.det t t2]
end
end
/-- the slot's own is one object -/
def Owner (ρ : Sl) (j : Nat) : Prop := (∃ d, ρ[j]? = some (.ow d)) ∨ ∃ k ds, ρ[j]? = some (.me k ds)
/-- the own trees: at Z i that of slot i -/
def PvAll (θ : Th) (B F H : Hp) (σ : St) (ρ : Sl) (Z : Nat → List Addr) : Prop := ∀ (i : Nat) (k : Sh) (d : D), ρ[i]? = some (.pv k d) →
  (∃ v, σ[i]? = some (some v) ∧ Tr θ B F H k d v (Z i)) ∧ (Z i).Nodup ∧ (∀ b ∈ Z i, F b = none ∧ B b = none) ∧ (∀ (j : Nat) (b : Addr), Owner ρ j → σ[j]? = some (some (.ref b)) → b ∉ Z i) ∧
  ∀ (j : Nat) (k' : Sh) (d' : D), j ≠ i → ρ[j]? = some (.pv k' d') → ∀ z ∈ Z j, z ∉ Z i
theorem PvAll.step {θ : Th} {B F F' H H' : Hp} {σ σ' : St} {ρ ρ' : Sl} {Z : Nat → List Addr} (h : PvAll θ B F H σ ρ Z) (ff : Same F F') (tp : ∀ b xs, H b = some (.tup xs) → H' b = some (.tup xs))
    (st : ∀ (i : Nat) (k : Sh) (d : D), ρ'[i]? = some (.pv k d) → ρ[i]? = some (.pv k d) ∧ σ'[i]? = σ[i]? ∧ ∀ b ∈ Z i, H' b = H b ∧ F' b = none)
    (ow : ∀ (i : Nat) (k : Sh) (d : D) (j : Nat) (b : Addr), ρ'[i]? = some (.pv k d) → Owner ρ' j → σ'[j]? = some (some (.ref b)) → b ∉ Z i) : PvAll θ B F' H' σ' ρ' Z := fun i k d hi => by
  obtain ⟨g1, g2, g3⟩ := st i k d hi
  obtain ⟨⟨v, h1, h2⟩, h3, h4, h5, h6⟩ := h i k d g1
  refine ⟨⟨v, by rw [g2]; exact h1, h2.keep ff tp fun b hb => (g3 b hb).1⟩, h3, fun b hb => ⟨(g3 b hb).2, (h4 b hb).2⟩, fun j b ho hs => ow i k d j b hi ho hs, fun j k' d' hj hp => h6 j k' d' hj (st j k' d' hp).1⟩
/-- no own trees -/
theorem PvAll.empty {θ : Th} {B F H : Hp} {σ : St} {ρ : Sl} (h : ∀ (i : Nat) (k : Sh) (d : D), ρ[i]? ≠ some (.pv k d)) : PvAll θ B F H σ ρ fun _ => [] := fun i k d hi => absurd hi (h i k d)
theorem shD_flat {d : D} (h : flat d = true) : shD d = .lf := by cases d <;> first | rfl | cases h
/-- a new tree behind an expression -/
def TrV (θ : Th) (F' H H' : Hp) (n : Nat) (d : D) (v : V) : Prop := ∃ S, Tr θ H F' H' (shT n d) d v S ∧ S.Nodup ∧ ∀ b ∈ S, H b = none ∧ F' b = none
section
variable {θ : Th} {B B' F F' H H' : Hp}
mutual
theorem Tr.base (hn : ∀ b, B b = none → B' b = none) : ∀ {k : Sh} {d : D} {v : V} {S : List Addr}, Tr θ B F H k d v S → Tr θ B' F H k d v S
  | _, _, _, _, .lf r => .lf r
  | _, _, _, _, .fl h r => .fl h r
  | _, _, _, _, .lst h t => .lst h (TrL.base hn t)
  | _, _, _, _, .tup h hb t => .tup h hb (TrL.base hn t)
  | _, _, _, _, .dK h l t => .dK h l (TrL.base hn t)
  | _, _, _, _, .dT h l t => .dT h l (TrL.base hn t)
  | _, _, _, _, .obj h l t => .obj h l (TrL.base hn t)
  | _, _, _, _, .fll h r => .fll h r
  | _, _, _, _, .f2l h r => .f2l h r
  | _, _, _, _, .ln h t => .ln h (Tr.base hn t)
  | _, _, _, _, .l2 h t => .l2 h (Tr.base hn t)
theorem TrL.base (hn : ∀ b, B b = none → B' b = none) : ∀ {k : Nat → Sh} {n : Nat} {ds : List D} {vs : List V} {S : List Addr}, TrL θ B F H k n ds vs S → TrL θ B' F H k n ds vs S
  | _, _, _, _, _, .nil => .nil
  | _, _, _, _, _, .cons h t => .cons (Tr.base hn h) (TrL.base hn t)
end
end
section
variable {θ : Th} {F0 B F F' H H' : Hp}
mutual
theorem frz_tr : ∀ {k : Sh} {d : D} {v : V} {S : List Addr}, Tr θ B F H k d v S → ∃ N : List Addr, (∀ b ∈ N, b ∈ S ∨ (True ∧ ∃ xs, H b = some (.tup xs))) ∧ ∀ F', Same F F' → (∀ b ∈ N, ∀ u, H b = some u → F' b = some u) → Rep θ F' d v
  | _, _, _, _, .lf r => ⟨[], (fun _ h => by cases h), fun _ e _ => r.mono e⟩
  | _, _, _, _, .fl _ r => ⟨[], (fun _ h => by cases h), fun _ e _ => r.mono e⟩
  | _, _, _, _, .lst (a := a) h t => by
    obtain ⟨N, h1, h2⟩ := frz_trl t
    refine ⟨a :: N, fun b hb => ?_, fun F' e hN => .lst (hN a List.mem_cons_self _ h) (h2 F' e fun b hb => hN b (List.mem_cons_of_mem _ hb))⟩
    rcases List.mem_cons.mp hb with rfl | hb
    · exact .inl List.mem_cons_self
    · exact (h1 b hb).imp (List.mem_cons_of_mem _) id
  | _, _, _, _, .tup (a := a) h hB t => by
    obtain ⟨N, h1, h2⟩ := frz_trl t
    refine ⟨a :: N, fun b hb => ?_, fun F' e hN => .tup (hN a List.mem_cons_self _ h) (h2 F' e fun b hb => hN b (List.mem_cons_of_mem _ hb))⟩
    rcases List.mem_cons.mp hb with rfl | hb
    · exact .inr ⟨hB, _, h⟩
    · exact h1 b hb
  | _, _, _, _, .dK (a := a) h l t => by
    obtain ⟨N, h1, h2⟩ := frz_trl t
    refine ⟨a :: N, fun b hb => ?_, fun F' e hN => .dK (hN a List.mem_cons_self _ h) l (h2 F' e fun b hb => hN b (List.mem_cons_of_mem _ hb))⟩
    rcases List.mem_cons.mp hb with rfl | hb
    · exact .inl List.mem_cons_self
    · exact (h1 b hb).imp (List.mem_cons_of_mem _) id
  | _, _, _, _, .dT (a := a) h l t => by
    obtain ⟨N, h1, h2⟩ := frz_trl t
    refine ⟨a :: N, fun b hb => ?_, fun F' e hN => .dT (hN a List.mem_cons_self _ h) l (h2 F' e fun b hb => hN b (List.mem_cons_of_mem _ hb))⟩
    rcases List.mem_cons.mp hb with rfl | hb
    · exact .inl List.mem_cons_self
    · exact (h1 b hb).imp (List.mem_cons_of_mem _) id
  | _, _, _, _, .obj (a := a) h l t => by
    obtain ⟨N, h1, h2⟩ := frz_trl t
    refine ⟨a :: N, fun b hb => ?_, fun F' e hN => .obj (hN a List.mem_cons_self _ h) l (h2 F' e fun b hb => hN b (List.mem_cons_of_mem _ hb))⟩
    rcases List.mem_cons.mp hb with rfl | hb
    · exact .inl List.mem_cons_self
    · exact (h1 b hb).imp (List.mem_cons_of_mem _) id
  | _, _, _, _, .fll _ r => ⟨[], (fun _ h => by cases h), fun _ e _ => r.mono e⟩
  | _, _, _, _, .f2l _ r => ⟨[], (fun _ h => by cases h), fun _ e _ => r.mono e⟩
  | _, _, _, _, .ln h t => frz_tr t
  | _, _, _, _, .l2 h t => frz_tr t
theorem frz_trl : ∀ {k : Nat → Sh} {n : Nat} {ds : List D} {vs : List V} {S : List Addr}, TrL θ B F H k n ds vs S → ∃ N : List Addr, (∀ b ∈ N, b ∈ S ∨ (True ∧ ∃ xs, H b = some (.tup xs))) ∧ ∀ F', Same F F' → (∀ b ∈ N, ∀ u, H b = some u → F' b = some u) → RepL θ F' ds vs
  | _, _, _, _, _, .nil => ⟨[], (fun _ h => by cases h), fun _ _ _ => .nil⟩
  | _, _, _, _, _, .cons h t => by
    obtain ⟨N, h1, h2⟩ := frz_tr h
    obtain ⟨M, g1, g2⟩ := frz_trl t
    refine ⟨N ++ M, fun b hb => ?_, fun F' e hN => .cons (h2 F' e fun b hb => hN b (List.mem_append_left _ hb)) (g2 F' e fun b hb => hN b (List.mem_append_right _ hb))⟩
    rcases List.mem_append.mp hb with hb | hb
    · exact (h1 b hb).imp (List.mem_append_left _) id
    · exact (g1 b hb).imp (List.mem_append_right _) id
end
open Classical in
/-- F with the objects at N -/
noncomputable def addN (F H : Hp) (N : List Addr) : Hp := fun b => match F b with
  | some u => some u
  | none => if b ∈ N then H b else none
theorem addN_same {N : List Addr} : Same F (addN F H N) := fun b u h => by
  unfold addN
  rw [h]
theorem addN_some {N : List Addr} {b : Addr} {u : HO} (h : addN F H N b = some u) : F b = some u ∨ (F b = none ∧ b ∈ N ∧ H b = some u) := by
  unfold addN at h
  cases q : F b with
  | some w => rw [q] at h; exact .inl h
  | none =>
    rw [q] at h
    dsimp only at h
    by_cases m : b ∈ N
    · rw [if_pos m] at h
      exact .inr ⟨rfl, m, h⟩
    · rw [if_neg m] at h
      cases h
theorem addN_at {N : List Addr} {b : Addr} {u : HO} (s : Sub F H) (m : b ∈ N) (hu : H b = some u) (hd : ∀ o w, u ≠ .frz o w) : addN F H N b = some u := by
  unfold addN
  cases q : F b with
  | some w =>
    rcases s b w q with z | ⟨_, o, z⟩
    · rw [hu] at z; exact z.symm
    · rw [hu] at z; cases z; exact absurd rfl (hd _ _)
  | none =>
    dsimp only
    rw [if_pos m]
    exact hu
theorem TrV.freeze {n : Nat} {d : D} {v : V} (e : Ext F H F' H') (f : TrV θ F' H H' n d v) : ∃ F2, Ext F H F2 H' ∧ Same F' F2 ∧ Rep θ F2 d v := by
  obtain ⟨S, t, nd, fr⟩ := f
  obtain ⟨N, hN, rep⟩ := frz_tr t
  refine ⟨addN F' H' N, ⟨fun b u h => ?_, e.ff.trans addN_same, e.hh, fun b u h => ?_⟩, addN_same, rep _ addN_same fun b hb u hu => addN_at e.sub hb hu fun o w z => ?_⟩
  · rcases addN_some h with z | ⟨_, _, z⟩
    · exact e.sub b u z
    · exact .inl z
  · rcases addN_some h with z | ⟨_, z, hz⟩
    · exact e.nw b u z
    · rcases hN b z with g | ⟨_, xs, g⟩
      · exact .inr (.inl (fr b g).1)
      · rw [g] at hz
        exact .inr (.inr ⟨xs, (Option.some.inj hz).symm⟩)
  · subst z
    rcases hN b hb with g | ⟨_, xs, g⟩
    · exact t.nofrz b g o w hu
    · rw [hu] at g; cases g
end
/-- F0, B: the frozen part and the heap at the def's entry; L: the dicts that its loops have locked -/
structure Rel (θ : Th) (F0 B : Hp) (L : List Addr) (F H : Hp) (σ : St) (ρ : Sl) : Prop where
  sub : Sub F H
  kp : ∀ a u, B a = some u → H a = some u ∨ (a ∈ L ∧ IsDict u ∧ ∃ o, H a = some (.frz o u))
  f0 : Same F0 F
  fn : ∀ a u, F a = some u → F0 a = some u ∨ B a = none ∨ ∃ xs, u = .tup xs
  len : σ.length = ρ.length
  va : ∀ (i : Nat) (d : D), ρ[i]? = some (.va d) → ∃ v, σ[i]? = some (some v) ∧ Rep θ F d v
  ow : ∀ (i : Nat) (d : D), ρ[i]? = some (.ow d) → ∃ a o, σ[i]? = some (some (.ref a)) ∧ H a = some o ∧ F a = none ∧ B a = none ∧ Root θ F d o
  fu : ∀ (i : Nat) (d : D), ρ[i]? = some (.ow d) → notObj d = true
  dj : ∀ (i j : Nat) (d e : D) (a : Addr), i ≠ j → ρ[i]? = some (.ow d) → ρ[j]? = some (.ow e) → σ[i]? = some (some (.ref a)) → σ[j]? ≠ some (some (.ref a))
  /-- an instance that is being made -/
  me : ∀ (i k : Nat) (ds : List D), ρ[i]? = some (.me k ds) → (∃ a o, σ[i]? = some (some (.ref a)) ∧ H a = some o ∧ F a = none ∧ B a = none ∧ Root θ (onlyN F B) (.obj k ds) o ∧ a ∈ L ∧ ∀ (j : Nat) (d : D), ρ[j]? = some (.ow d) → σ[j]? ≠ some (some (.ref a))) ∧
    ∀ (j k' : Nat) (ds' : List D), j ≠ i → ρ[j]? ≠ some (.me k' ds')
  /-- the handled exception -/
  xc : ∀ i : Nat, ρ[i]? = some .xc → ∃ a, L.head? = some a ∧ σ[i]? = some (some (.ref a))
  /-- the own trees -/
  pv : ∃ Z, PvAll θ B F H σ ρ Z
section
variable {θ : Th} {F0 B F F' H H' : Hp} {L : List Addr} {σ : St} {ρ : Sl}
theorem PvAll.ext {Z : Nat → List Addr} (hZ : PvAll θ B F H σ ρ Z) (e : Ext F H F' H') : PvAll θ B F' H' σ ρ Z :=
  hZ.step e.ff (fun b xs h => e.hh _ _ h) (fun i k d h => ⟨h, rfl, fun b hb => by
    obtain ⟨⟨v, _, t⟩, _, f, _⟩ := hZ i k d h
    obtain ⟨o, ho, hnt⟩ := t.some b hb
    refine ⟨by rw [e.hh _ _ ho, ho], ?_⟩
    cases q : F' b with
    | none => rfl
    | some u =>
      rcases e.nw b u q with z | z | ⟨xs, z⟩
      · rw [(f b hb).1] at z; cases z
      · rw [ho] at z; cases z
      · subst z
        have := Sub.tup0 e.sub q
        rw [e.hh _ _ ho] at this
        exact absurd (Option.some.inj this) (hnt xs)⟩) fun i k d j b h ho hs => (hZ i k d h).2.2.2.1 j b ho hs
theorem Root.noTup {θ : Th} {F : Hp} {d : D} {o : HO} (r : Root θ F d o) : ∀ xs, o ≠ .tup xs := by
  cases r <;> (intro _ z; cases z)
theorem Rel.ext (R : Rel θ F0 B L F H σ ρ) (e : Ext F H F' H') : Rel θ F0 B L F' H' σ ρ := by
  have own : ∀ {a : Addr} {o : HO}, (∀ xs, o ≠ .tup xs) → H a = some o → F a = none → F' a = none := fun {a o} hnt h2 h3 => by
    cases q : F' a with
    | none => rfl
    | some u =>
      rcases e.nw a u q with z | z | ⟨xs, z⟩
      · rw [h3] at z; cases z
      · rw [h2] at z; cases z
      · subst z
        have := Sub.tup0 e.sub q
        rw [e.hh _ _ h2] at this
        exact absurd (Option.some.inj this) (hnt xs)
  refine ⟨e.sub, fun a u h => ?_, R.f0.trans e.ff, fun a u h => ?_, R.len, fun i d h => ?_, fun i d h => ?_, R.fu, R.dj, fun i k ds h => ?_, R.xc, ?_⟩
  rotate_right
  · obtain ⟨Z, hZ⟩ := R.pv
    exact ⟨Z, hZ.ext e⟩
  · rcases R.kp a u h with z | ⟨z1, z2, o, z⟩
    · exact .inl (e.hh _ _ z)
    · exact .inr ⟨z1, z2, o, e.hh _ _ z⟩
  · rcases e.nw a u h with z | z | z
    · exact R.fn a u z
    rotate_left
    · exact .inr (.inr z)
    · refine .inr (.inl ?_)
      cases q : B a with
      | none => rfl
      | some o => rcases R.kp a o q with y | ⟨_, _, _, y⟩ <;> (rw [z] at y; cases y)
  · obtain ⟨v, h1, h2⟩ := R.va i d h
    exact ⟨v, h1, h2.mono e.ff⟩
  · obtain ⟨a, o, h1, h2, h3, h4, h5⟩ := R.ow i d h
    exact ⟨a, o, h1, e.hh _ _ h2, own h5.noTup h2 h3, h4, h5.mono e.ff⟩
  · obtain ⟨⟨a, o, h1, h2, h3, h4, h5, h6⟩, h7⟩ := R.me i k ds h
    exact ⟨⟨a, o, h1, e.hh _ _ h2, own h5.noTup h2 h3, h4, h5.mono (onlyN_mono e.ff fun _ z => z), h6⟩, h7⟩
end
/-- own trees lie where they lay -/
theorem Rel.pvOld {θ : Th} {F0 B F F1 H H1 : Hp} {L : List Addr} {σ : St} {ρ : Sl} (R : Rel θ F0 B L F H σ ρ) (e : Ext F H F1 H1) {Z : Nat → List Addr} (hZ : PvAll θ B F1 H1 σ ρ Z) {j : Nat} {k : Sh} {d : D} (hp : ρ[j]? = some (.pv k d)) {b : Addr} (hb : b ∈ Z j) : ∃ o, H b = some o := by
  obtain ⟨Z0, h0⟩ := R.pv
  obtain ⟨⟨v, h1, t⟩, _⟩ := h0 j k d hp
  obtain ⟨⟨v1, g1, t1⟩, _⟩ := (h0.ext e) j k d hp
  obtain ⟨⟨v2, g2, t2⟩, _⟩ := hZ j k d hp
  rw [g1] at g2
  cases g2
  rw [← t1.det t2] at hb
  obtain ⟨o, ho, _⟩ := t.some b hb
  exact ⟨o, ho⟩
/-- the value that an expression gives, by its kind -/
def Val (θ : Th) (F' H H' : Hp) (σ : St) (ρ : Sl) (d : D) (k : Kd) (v : V) : Prop := match k with
  | .sh => Rep θ F' d v
  | .fr => FrV θ F' H H' d v
  | .at i => σ[i]? = some (some v) ∧ ρ[i]? = some (.ow d)
  | .tr n => TrV θ F' H H' n d v
/-- how an exception's value lies: its class, its dict -/
def ExV (θ : Th) (c : Nat) (fs : List D) (cls : Value) (dd : Option Addr) (F' H' : Hp) : Prop := cls = .ref (θ.C c) ∧ match fs with
  | [] => dd = none
  | _ => ∃ dx xs, dd = some dx ∧ F' dx = some (.xd ((θ.fld c).zip xs)) ∧ (θ.fld c).length = fs.length ∧ RepL θ F' fs xs
/-- the fixed part of a def's readings -/
structure Cn where
  θ : Th
  F0 : Hp
  B : Hp
/-- «f gives it»: Q of the value, W of the exception -/
def tEv (c : Cn) (L : List Addr) (W : WX) (f : ES) : TE := fun σ H Q => ∃ F ρ, Rel c.θ c.F0 c.B L F H σ ρ ∧ match f ρ with
  | .ok (d, k) => ∀ v F' H', Ext F H F' H' → Val c.θ F' H H' σ ρ d k v → Q v H'
  | .ex n fs => ∀ cls dd F' H', Ext F H F' H' → ExV c.θ n fs cls dd F' H' → W cls dd σ H'
  | .no => False
/-- what may be read of a value whose kind is any: the value itself, or its root -/
def Rd1 (θ : Th) (F H : Hp) (d : D) (v : V) : Prop := Rep θ F d v ∨ ∃ a o, v = .ref a ∧ H a = some o ∧ Root θ F d o
end G
namespace G
open PySem PySem.Spec L2
/-- what is asked of an outcome -/
def Res (c : Cn) (W : WX) (σ : L2.St) (ρ : Sl) (F H : Hp) (Q : VK) : Out (D × Kd) → Prop
  | .ok (d, k) => ∀ v F' H', Ext F H F' H' → Val c.θ F' H H' σ ρ d k v → Q v H'
  | .ex n fs => ∀ cls dd F' H', Ext F H F' H' → ExV c.θ n fs cls dd F' H' → W cls dd σ H'
  | .no => False
section
variable {c : Cn} {L : List Addr} {W : WX} {σ : L2.St} {ρ : Sl} {F F1 F2 H H1 H2 : Hp} {Q : VK} {f g : ES} {P : V → Hp → Prop}
theorem tEv_of (R : Rel c.θ c.F0 c.B L F H σ ρ) (h : Res c W σ ρ F H Q (f ρ)) : tEv c L W f σ H Q := by
  refine ⟨F, ρ, R, ?_⟩
  revert h
  cases f ρ with
  | ok x => obtain ⟨d, k⟩ := x; exact id
  | ex n fs => exact id
  | no => exact id
theorem of_tEv (h : tEv c L W f σ H Q) : ∃ F ρ, Rel c.θ c.F0 c.B L F H σ ρ ∧ Res c W σ ρ F H Q (f ρ) := by
  obtain ⟨F, ρ, R, h⟩ := h
  refine ⟨F, ρ, R, ?_⟩
  revert h
  cases f ρ with
  | ok x => obtain ⟨d, k⟩ := x; exact id
  | ex n fs => exact id
  | no => exact id
theorem FrV.back {θ : Th} {d : D} {v : V} (e : Ext F H F1 H1) (f : FrV θ F2 H1 H2 d v) : FrV θ F2 H H2 d v := by
  obtain ⟨fu, a, o, rfl, n, h1, h2, h3, h4⟩ := f
  exact ⟨fu, a, o, rfl, e.hh.free n, h1, h2, h3, h4.mono (.refl _) fun _ z => e.hh.free z⟩
theorem TrV.back {θ : Th} {n : Nat} {d : D} {v : V} (e : Ext F H F1 H1) (f : TrV θ F2 H1 H2 n d v) : TrV θ F2 H H2 n d v := by
  obtain ⟨S, t, nd, fr⟩ := f
  exact ⟨S, t.base fun _ z => e.hh.free z, nd, fun b hb => ⟨e.hh.free (fr b hb).1, (fr b hb).2⟩⟩
theorem Val.back {d : D} {k : Kd} {v : V} (e : Ext F H F1 H1) (h : Val c.θ F2 H1 H2 σ ρ d k v) : Val c.θ F2 H H2 σ ρ d k v := by
  cases k with
  | sh => exact h
  | fr => exact FrV.back e h
  | «at» i => exact h
  | tr n => exact TrV.back e h
theorem Res.mono {o : Out (D × Kd)} (h : Res c W σ ρ F H Q o) (e : Ext F H F1 H1) : Res c W σ ρ F1 H1 Q o := by
  cases o with
  | ok x =>
    obtain ⟨d, k⟩ := x
    intro v F' H' e' hv
    exact h v F' H' (e.trans e') (Val.back e hv)
  | ex n fs =>
    intro cls dd F' H' e' hv
    exact h cls dd F' H' (e.trans e') hv
  | no => exact h
theorem Rd1.ext {θ : Th} {d : D} {v : V} (e : Ext F H F1 H1) (h : Rd1 θ F H d v) : Rd1 θ F1 H1 d v := by
  rcases h with h | ⟨a, o, rfl, h, r⟩
  · exact .inl (h.mono e.ff)
  · exact .inr ⟨a, o, rfl, e.hh _ _ h, r.mono e.ff⟩
/-- the operand is used: frozen where it is fresh, read where it is a slot's own -/
theorem Val.use {d : D} {k : Kd} {v : V} (R : Rel c.θ c.F0 c.B L F H σ ρ) (e : Ext F H F1 H1) (h : Val c.θ F1 H H1 σ ρ d k v) :
    ∃ F2, Ext F H F2 H1 ∧ Same F1 F2 ∧ Rd1 c.θ F2 H1 d v ∧ (k.solid = true → Rep c.θ F2 d v) := by
  cases k with
  | sh => exact ⟨F1, e, .refl _, .inl h, fun _ => h⟩
  | fr =>
    obtain ⟨F2, e2, s, r⟩ := FrV.freeze e h
    exact ⟨F2, e2, s, .inl r, fun _ => r⟩
  | tr n =>
    obtain ⟨F2, e2, s, r⟩ := TrV.freeze e h
    exact ⟨F2, e2, s, .inl r, fun _ => r⟩
  | «at» i =>
    obtain ⟨h1, h2⟩ := h
    obtain ⟨a, o, h3, h4, _, _, h5⟩ := R.ow i d h2
    rw [h1] at h3
    cases h3
    exact ⟨F1, e, .refl _, .inr ⟨a, o, rfl, e.hh _ _ h4, h5.mono e.ff⟩, fun z => by cases z⟩
/-- an operand, then what follows -/
theorem ev_bind {g : D × Kd → Out (D × Kd)} (R : Rel c.θ c.F0 c.B L F H σ ρ) (h : Res c W σ ρ F H Q ((f ρ).bind g))
    (hp : ∀ d k x F1 H1, f ρ = .ok (d, k) → Ext F H F1 H1 → Rd1 c.θ F1 H1 d x → (k.solid = true → Rep c.θ F1 d x) → Rel c.θ c.F0 c.B L F1 H1 σ ρ → Res c W σ ρ F1 H1 Q (g (d, k)) → P x H1) : tEv c L W f σ H P := by
  refine ⟨F, ρ, R, ?_⟩
  cases hf : f ρ with
  | ok x =>
    obtain ⟨d, k⟩ := x
    rw [hf] at h
    intro v F' H' e hv
    obtain ⟨F2, e2, _, rd, so⟩ := Val.use R e hv
    exact hp d k v F2 H' hf e2 rd so (R.ext e2) (Res.mono (show Res c W σ ρ F H Q (g (d, k)) from h) e2)
  | ex n fs =>
    rw [hf] at h
    exact h
  | no =>
    rw [hf] at h
    exact h
end
section
variable {θ : Th} {F H : Hp} {v : V}
theorem Rd1.int {i : Int} (h : Rd1 θ F H (.int i) v) : v = .int i := by
  rcases h with h | ⟨a, o, rfl, h, r⟩
  · cases h; rfl
  · cases r
theorem Rd1.str {i : Str} (h : Rd1 θ F H (.str i) v) : v = .str i := by
  rcases h with h | ⟨a, o, rfl, h, r⟩
  · cases h; rfl
  · cases r
theorem Rd1.bl {i : Bool} (h : Rd1 θ F H (.bl i) v) : v = .bl i := by
  rcases h with h | ⟨a, o, rfl, h, r⟩
  · cases h; rfl
  · cases r
theorem Rd1.non (h : Rd1 θ F H .non v) : v = .non := by
  rcases h with h | ⟨a, o, rfl, h, r⟩
  · cases h; rfl
  · cases r
theorem Sub.lst {a : Addr} {xs : List V} (s : Sub F H) (h : F a = some (.lst xs)) : H a = some (.lst xs) := by
  rcases s a _ h with z | ⟨z, _⟩
  · exact z
  · cases z
theorem Sub.tup {a : Addr} {xs : List V} (s : Sub F H) (h : F a = some (.tup xs)) : H a = some (.tup xs) := by
  rcases s a _ h with z | ⟨z, _⟩
  · exact z
  · cases z
theorem Sub.ins {a C dx : Addr} {fs : List (Str × V)} (s : Sub F H) (h : F a = some (.ins C dx fs)) : H a = some (.ins C dx fs) := by
  rcases s a _ h with z | ⟨z, _⟩
  · exact z
  · cases z
theorem Rd1.lst {ds : List D} (s : Sub F H) (h : Rd1 θ F H (.lst ds) v) : ∃ a xs, v = .ref a ∧ H a = some (.lst xs) ∧ RepL θ F ds xs := by
  rcases h with h | ⟨a, o, rfl, h, r⟩
  · cases h with
    | lst h r => exact ⟨_, _, rfl, s.lst h, r⟩
  · cases r with
    | lst r => exact ⟨_, _, rfl, h, r⟩
theorem Rd1.tup {ds : List D} (s : Sub F H) (h : Rd1 θ F H (.tup ds) v) : ∃ a xs, v = .ref a ∧ H a = some (.tup xs) ∧ RepL θ F ds xs ∧ Rep θ F (.tup ds) v := by
  rcases h with h | ⟨a, o, rfl, h, r⟩
  · cases h with
    | tup h r => exact ⟨_, _, rfl, s.tup h, r, .tup h r⟩
  · cases r
theorem Sub.seq {K : PySem.W.Frag} {a : Addr} {xs : List V} (s : Sub F H) (h : SqL K F a xs) : SqL K H a xs := by
  rcases h with (h | ⟨o, h⟩) | h
  · exact .inl (.inl (s.lst h))
  · rcases s a _ h with z | ⟨z, _⟩
    · exact .inl (.inr ⟨o, z⟩)
    · cases z
  · exact .inr h
theorem Rd1.frl {ns : List Int} (s : Sub F H) (h : Rd1 θ F H (.frl ns) v) : ∃ a, v = .ref a ∧ SqL θ.K H a (ns.map V.int) := by
  rcases h with h | ⟨a, o, rfl, h, r⟩
  · cases h with
    | frl h => exact ⟨_, rfl, s.seq h⟩
  · cases r
theorem SZ_le : SZ ≤ sizeLine := by rw [sizeLine_eq]; exact Nat.le_refl _
end
section
variable {c : Cn} {L : List Addr} {W : WX} {σ : L2.St} {ρ : Sl} {F F1 H H1 : Hp} {Q : VK}
theorem Res.sh {d : D} {v : V} (h : Res c W σ ρ F H Q (shr d)) (s : Sub F H) (r : Rep c.θ F d v) : Q v H := h v F H (Ext.refl s) r
theorem Res.bl {b : Bool} (h : Res c W σ ρ F H Q (shr (.bl b))) (s : Sub F H) : Q (.bl b) H := h.sh s (.bl b)
theorem Res.int {b : Int} (h : Res c W σ ρ F H Q (shr (.int b))) (s : Sub F H) : Q (.int b) H := h.sh s (.int b)
theorem Res.str {b : Str} (h : Res c W σ ρ F H Q (shr (.str b))) (s : Sub F H) : Q (.str b) H := h.sh s (.str b)
theorem Res.ite {p : Prop} [Decidable p] {o : Out (D × Kd)} (h : Res c W σ ρ F H Q (if p then o else .no)) : p ∧ Res c W σ ρ F H Q o := by
  by_cases q : p
  · rw [if_pos q] at h
    exact ⟨q, h⟩
  · rw [if_neg q] at h
    exact h.elim
/-- a new list -/
theorem Res.lay {d : D} {o : HO} (h : Res c W σ ρ F H Q (.ok (d, .fr))) (s : Sub F H) (r : Root c.θ F d o) {p : Addr} (n : H p = none) (no : notObj d = true := by rfl) : Q (.ref p) (upd H p o) :=
  h _ F _ (Ext.lay s n) ⟨Full.of no, p, o, rfl, n, upd_same, s.free n, r, Nw.of no⟩
/-- a new tuple -/
theorem Res.layT {ds : List D} {xs : List V} (h : Res c W σ ρ F H Q (shr (.tup ds))) (s : Sub F H) (r : RepL c.θ F ds xs) {p : Addr} (n : H p = none) : Q (.ref p) (upd H p (.tup xs)) := by
  have nf := s.free n
  have e : Ext F H (upd F p (.tup xs)) (upd H p (.tup xs)) := Ext.freeze (s.lay n) upd_same nf H (Same.lay n) n F (Ext.lay s n)
  exact h _ _ _ e (.tup upd_same (r.mono (Same.lay nf)))
end
section
variable {X : Cx} {c : Cn} {L : List Addr} {W : WX} {f g : ES} {a b : Expr} {pos : Pos}
theorem pe_ev {e : Expr} {t : TE} (h : PE X e t) (hi : ∀ (σ : L2.St) (H : Hp) (Q : VK), tEv c L W f σ H Q → t σ H Q) : PE X e (tEv c L W f) := ⟨fun pins s σ H Q I hw => h.run pins s σ H Q I (hi σ H Q hw)⟩
theorem pg_var {i : Nat} {x : Str} (hN : X.N[i]? = some x) (hv : Vis X.env.scope x) (hd : (x == ("__debug__" : Str)) = false) (hcd : (x == ("__classdict__" : Str)) = false) : PE X (.Name x pos) (tEv c L W (eVar i)) := by
  refine pe_ev (pe_var hN hv hd hcd) fun σ H Q h => ?_
  obtain ⟨F, ρ, R, h⟩ := of_tEv h
  unfold eVar at h
  cases q : ρ[i]? with
  | none => rw [q] at h; exact h.elim
  | some sl =>
    rw [q] at h
    cases sl with
    | un => exact h.elim
    | va d =>
      obtain ⟨v, h1, h2⟩ := R.va i d q
      exact ⟨v, h1, h v F H (Ext.refl R.sub) h2⟩
    | ow d =>
      obtain ⟨a, o, h1, h2, _⟩ := R.ow i d q
      exact ⟨_, h1, h _ F H (Ext.refl R.sub) ⟨h1, q⟩⟩
    | me k ds => exact h.elim
    | xc => exact h.elim
    | pv k d => exact h.elim
theorem pg_const {e : Expr} {v : V} {d : D} (h : PE X e (tC v)) (r : ∀ θ F, Rep θ F d v) : PE X e (tEv c L W (eC d)) := by
  refine pe_ev h fun σ H Q h => ?_
  obtain ⟨F, ρ, R, h⟩ := of_tEv h
  exact h v F H (Ext.refl R.sub) (r _ _)
/-- the operator's rule by pure values -/
def OpD (c : Cn) (W : WX) (op : D → D → Out (D × Kd)) (r : V → V → Hp → VK → Prop) : Prop := ∀ (σ : L2.St) (ρ : Sl) (F H : Hp) (Q : VK) (x y : V) (d e : D), Sub F H → Rd1 c.θ F H d x → Rd1 c.θ F H e y → Res c W σ ρ F H Q (op d e) → r x y H Q
theorem pg_bin {o : Operator} {op : D → D → Out (D × Kd)} {r : V → V → Hp → VK → Prop} (ho : OpR X (binaryOp o) r) (hd : OpD c W op r) (ha : PE X a (tEv c L W f)) (hb : PE X b (tEv c L W g)) : PE X (.BinOp a o b pos) (tEv c L W (eBin op f g)) := by
  refine pe_ev (pe_op ho ha hb) fun σ H Q h => ?_
  obtain ⟨F, ρ, R, h⟩ := of_tEv h
  refine ev_bind R h fun d k x F1 H1 _ e1 rd1 _ R1 h1 => ?_
  exact ev_bind R1 h1 fun d2 k2 y F2 H2 _ e2 rd2 _ R2 h2 => hd σ ρ F2 H2 Q x y d d2 R2.sub (rd1.ext e2) rd2 h2
theorem pg_cmp {o : CmpOp} {op : D → D → Out (D × Kd)} {r : V → V → Hp → VK → Prop} (ho : OpR X (compareOp o) r) (hm : behindInMarks o b = false) (hd : OpD c W op r) (ha : PE X a (tEv c L W f)) (hb : PE X b (tEv c L W g)) : PE X (.Compare a [o] [b] pos) (tEv c L W (eBin op f g)) := by
  refine pe_ev (pe_cmpR ho ha hb hm) fun σ H Q h => ?_
  obtain ⟨F, ρ, R, h⟩ := of_tEv h
  refine ev_bind R h fun d k x F1 H1 _ e1 rd1 _ R1 h1 => ?_
  exact ev_bind R1 h1 fun d2 k2 y F2 H2 _ e2 rd2 _ R2 h2 => hd σ ρ F2 H2 Q x y d d2 R2.sub (rd1.ext e2) rd2 h2
theorem od_add : OpD c W oAdd (fun x y H Q => rI0 (fun i j => .int (i + j)) x y H Q ∨ (∃ i j, x = .str i ∧ y = .str j ∧ i.length + j.length ≤ sizeLine ∧ Q (.str (i ++ j)) H) ∨ rCat x y H Q ∨ rCatA c.θ.K x y H Q) := by
  intro σ ρ F H Q x y d e s rx ry h
  cases d <;> cases e <;> first | exact h.elim | skip
  · cases rx.int; cases ry.int
    exact .inl ⟨_, _, rfl, rfl, h.int s⟩
  · cases rx.str; cases ry.str
    obtain ⟨hl, h⟩ := Res.ite h
    exact .inr (.inl ⟨_, _, rfl, rfl, Nat.le_trans hl SZ_le, h.str s⟩)
  · obtain ⟨p, xs, rfl, hp, r1⟩ := rx.lst s
    obtain ⟨q, ys, rfl, hq, r2⟩ := ry.lst s
    obtain ⟨hl, h⟩ := Res.ite h
    refine .inr (.inr (.inl ⟨p, q, xs, ys, rfl, rfl, hp, hq, ?_, fun l hl => h.lay s (.lst (r1.append r2)) hl⟩))
    rw [r1.length, r2.length]
    exact Nat.le_trans hl SZ_le
  · obtain ⟨p, xs, rfl, hp, r1, z1⟩ := rx.tup s
    obtain ⟨q, ys, rfl, hq, r2, z2⟩ := ry.tup s
    obtain ⟨hl, h⟩ := Res.ite h
    refine .inr (.inr (.inr ⟨p, q, xs, ys, rfl, rfl, .inl (.inl hp), .inl (.inl hq), ?_, fun e => ?_, fun _ e => ?_, fun _ _ l hl => h.layT s (r1.append r2) hl⟩))
    · rw [r1.length, r2.length]
      exact Nat.le_trans hl SZ_le
    · subst e
      cases r1
      exact h.sh s z2
    · subst e
      cases r2
      rw [List.append_nil] at h
      exact h.sh s z1
end
end G
namespace G
open PySem PySem.Spec L2
section
variable {X : Cx} {c : Cn} {L : List Addr} {W : WX} {f g h : ES} {a b e : Expr} {pos : Pos}
theorem od_sub : OpD c W oSub (rI0 fun i j => .int (i - j)) := by
  intro σ ρ F H Q x y d e s rx ry h
  cases d <;> cases e <;> first | exact h.elim | skip
  cases rx.int; cases ry.int
  exact ⟨_, _, rfl, rfl, h.int s⟩
theorem smallI_ok {i : Int} (h : smallI i = true) : -(2 ^ 64) < i ∧ i < 2 ^ 64 := of_decide_eq_true h
theorem od_mul : OpD c W oMul (fun x y H Q => rI CMul (fun i j => .int (i * j)) x y H Q ∨ rRep x y H Q) := by
  intro σ ρ F H Q x y d e s rx ry h
  cases d <;> cases e <;> first | exact h.elim | skip
  · cases rx.int; cases ry.int
    obtain ⟨hl, h⟩ := Res.ite h
    refine .inl ⟨_, _, rfl, rfl, ?_, h.int s⟩
    rcases Bool.or_eq_true_iff.mp hl with z | z
    · exact .inl (smallI_ok z)
    · exact .inr (smallI_ok z)
  · obtain ⟨p, xs, rfl, hp, r1⟩ := rx.lst s
    cases ry.int
    obtain ⟨⟨h1, h2, h3⟩, h⟩ := Res.ite h
    refine .inr ⟨p, _, xs, rfl, rfl, hp, h1, h2, ?_, fun l hl => h.lay s (.lst ?_) hl⟩
    · rw [r1.length]
      exact Nat.le_trans h3 SZ_le
    · have key : ∀ n : Nat, RepL c.θ F (List.replicate n _).flatten (List.replicate n xs).flatten := fun n => by
        induction n with
        | zero => exact .nil
        | succ n ih =>
          rw [List.replicate_succ, List.replicate_succ, List.flatten_cons, List.flatten_cons]
          exact r1.append ih
      exact key _
theorem od_mod : OpD c W oMod (rI (fun _ j => 0 < j) fun i j => .int (i % j)) := by
  intro σ ρ F H Q x y d e s rx ry h
  cases d <;> cases e <;> first | exact h.elim | skip
  cases rx.int; cases ry.int
  obtain ⟨hl, h⟩ := Res.ite h
  exact ⟨_, _, rfl, rfl, hl, h.int s⟩
theorem od_div : OpD c W oDiv (rI CDiv fun i j => .int (i / j)) := by
  intro σ ρ F H Q x y d e s rx ry h
  cases d <;> cases e <;> first | exact h.elim | skip
  cases rx.int; cases ry.int
  obtain ⟨hl, h⟩ := Res.ite h
  exact ⟨_, _, rfl, rfl, hl, h.int s⟩
theorem od_pow : OpD c W oPow (rI CPow fun i j => .int (i ^ j.toNat)) := by
  intro σ ρ F H Q x y d e s rx ry h
  cases d <;> cases e <;> first | exact h.elim | skip
  cases rx.int; cases ry.int
  obtain ⟨hl, h⟩ := Res.ite h
  exact ⟨_, _, rfl, rfl, hl, h.int s⟩
theorem pg_neg (ha : PE X a (tEv c L W f)) : PE X (.UnaryOp .USub a pos) (tEv c L W (eUn oNeg f)) := by
  refine pe_ev (pe_un un_neg ha) fun σ H Q h => ?_
  obtain ⟨F, ρ, R, h⟩ := of_tEv h
  refine ev_bind R h fun d k x F1 H1 _ e1 rd1 _ R1 h1 => ?_
  cases d <;> first | exact h1.elim | skip
  cases rd1.int
  exact ⟨_, rfl, h1.int R1.sub⟩
mutual
theorem rep_py {θ : Th} {F H : Hp} (s : Sub F H) : ∀ {d : D} {v : V} {p : PyData}, Rep θ F d v → toPy d = some p → Dp θ.K H v p
  | _, _, _, .non, h => by cases h; exact .non
  | _, _, _, .bl b, h => by cases h; exact .bl b
  | _, _, _, .int b, h => by cases h; exact .int b
  | _, _, _, .str b, h => by cases h; exact .str b
  | .lst ds, _, _, .lst e r, h => by
    unfold toPy at h
    cases q : toPys ds with
    | none => rw [q] at h; cases h
    | some ps =>
      rw [q] at h
      cases h
      exact .lst (.inl (.inl (s.lst e))) (repl_py s r q)
  | .tup ds, _, _, .tup e r, h => by
    unfold toPy at h
    cases q : toPys ds with
    | none => rw [q] at h; cases h
    | some ps =>
      rw [q] at h
      cases h
      exact .tup (.inl (.inl (s.tup e))) (repl_py s r q)
  | _, _, _, .dK _ _ _, h => by cases h
  | _, _, _, .dT _ _ _, h => by cases h
  | _, _, _, .obj _ _ _, h => by cases h
  | _, _, _, .frl _, h => by cases h
  | _, _, _, .hx, h => by cases h
theorem repl_py {θ : Th} {F H : Hp} (s : Sub F H) : ∀ {ds : List D} {vs : List V} {ps : List PyData}, RepL θ F ds vs → toPys ds = some ps → DpAll θ.K H vs ps
  | _, _, _, .nil, h => by cases h; exact .nil
  | d :: ds, _, _, .cons r rs, h => by
    unfold toPys at h
    cases q : toPy d with
    | none => rw [q] at h; cases h
    | some p =>
      rw [q] at h
      cases q2 : toPys ds with
      | none => rw [q2] at h; cases h
      | some ps =>
        rw [q2] at h
        cases h
        exact .cons (rep_py s r q) (repl_py s rs q2)
end
theorem rd_py {θ : Th} {F H : Hp} (s : Sub F H) {d : D} {v : V} {p : PyData} (r : Rd1 θ F H d v) (h : toPy d = some p) : Dp θ.K H v p := by
  rcases r with r | ⟨a, o, rfl, ha, r⟩
  · exact rep_py s r h
  · cases r with
    | @lst xs ds r =>
      unfold toPy at h
      cases q : toPys ds with
      | none => rw [q] at h; cases h
      | some ps =>
        rw [q] at h
        cases h
        exact .lst (.inl (.inl ha)) (repl_py s r q)
    | dK => cases h
    | dT => cases h
    | obj => cases h
theorem dec_eq {α β : Type} [DecidableEq α] [DecidableEq β] {f : α → β} (hf : ∀ x y, f x = f y → x = y) (i j : α) : decide (f i = f j) = decide (i = j) := by
  by_cases e : i = j
  · rw [decide_eq_true e, decide_eq_true (congrArg f e)]
  · rw [decide_eq_false e, decide_eq_false fun z => e (hf _ _ z)]
theorem scal_ok {θ : Th} {F H : Hp} {d e : D} {x y : V} {b : Bool} (h : scalEq d e = some b) (rx : Rd1 θ F H d x) (ry : Rd1 θ F H e y) : scal x y = true ∧ decide (x = y) = b := by
  cases d <;> cases e <;> first | cases h | skip
  all_goals first
    | (cases rx.non; cases ry.non; exact ⟨rfl, rfl⟩)
    | (cases rx.int; cases ry.non; exact ⟨rfl, rfl⟩)
    | (cases rx.non; cases ry.int; exact ⟨rfl, rfl⟩)
    | (cases rx.str; cases ry.non; exact ⟨rfl, rfl⟩)
    | (cases rx.non; cases ry.str; exact ⟨rfl, rfl⟩)
    | (cases rx.int; cases ry.int; exact ⟨rfl, dec_eq (f := V.int) (fun _ _ z => V.int.inj z) _ _⟩)
    | (cases rx.bl; cases ry.bl; exact ⟨rfl, dec_eq (f := V.bl) (fun _ _ z => V.bl.inj z) _ _⟩)
    | (cases rx.str; cases ry.str; exact ⟨rfl, dec_eq (f := V.str) (fun _ _ z => V.str.inj z) _ _⟩)
theorem eqD_cases {d e : D} {b : Bool} (h : eqD d e = some b) : scalEq d e = some b ∨ ∃ p q, toPy d = some p ∧ toPy e = some q ∧ SeqAt.shaped p = true ∧ SeqAt.shaped q = true ∧ PyData.eqv p q = b := by
  unfold eqD at h
  cases s : scalEq d e with
  | some b' =>
    rw [s] at h
    exact .inl h
  | none =>
    rw [s] at h
    cases q1 : toPy d with
    | none => rw [q1] at h; cases h
    | some p =>
      rw [q1] at h
      cases q2 : toPy e with
      | none => rw [q2] at h; cases h
      | some q =>
        rw [q2] at h
        have h' : (if (SeqAt.shaped p && SeqAt.shaped q) = true then some (PyData.eqv p q) else none) = some b := h
        by_cases z : (SeqAt.shaped p && SeqAt.shaped q) = true
        · rw [if_pos z] at h'
          obtain ⟨z1, z2⟩ := Bool.and_eq_true_iff.mp z
          exact .inr ⟨p, q, rfl, rfl, z1, z2, Option.some.inj h'⟩
        · rw [if_neg z] at h'
          cases h'
theorem od_eq : OpD c W oEq (fun x y H Q => rEq x y H Q ∨ rEqD c.θ.K x y H Q) := by
  intro σ ρ F H Q x y d e s rx ry h
  have h : Res c W σ ρ F H Q (obl (eqD d e)) := h
  cases q : eqD d e with
  | none => rw [q] at h; exact h.elim
  | some b =>
    rw [q] at h
    rcases eqD_cases q with z | ⟨p, q, z1, z2, z3, z4, z5⟩
    · obtain ⟨h1, h2⟩ := scal_ok z rx ry
      refine .inl ⟨h1, ?_⟩
      rw [h2]
      exact h.bl s
    · refine .inr ⟨p, q, rd_py s rx z1, rd_py s ry z2, z3, z4, ?_⟩
      rw [z5]
      exact h.bl s
theorem od_ne : OpD c W oNe (fun x y H Q => rNe x y H Q ∨ rNeD c.θ.K x y H Q) := by
  intro σ ρ F H Q x y d e s rx ry h
  have h : Res c W σ ρ F H Q (obl ((eqD d e).map (!·))) := h
  cases q : eqD d e with
  | none => rw [q] at h; exact h.elim
  | some b =>
    rw [q] at h
    rcases eqD_cases q with z | ⟨p, q, z1, z2, z3, z4, z5⟩
    · obtain ⟨h1, h2⟩ := scal_ok z rx ry
      refine .inl ⟨h1, ?_⟩
      rw [h2]
      exact h.bl s
    · refine .inr ⟨p, q, rd_py s rx z1, rd_py s ry z2, z3, z4, ?_⟩
      rw [z5]
      exact h.bl s
theorem od_le : OpD c W oLe (rI0 fun i j => .bl (decide (i ≤ j))) := by
  intro σ ρ F H Q x y d e s rx ry h
  cases d <;> cases e <;> first | exact h.elim | skip
  cases rx.int; cases ry.int
  exact ⟨_, _, rfl, rfl, h.bl s⟩
theorem od_gt : OpD c W oGt (rI0 fun i j => .bl (decide (j < i))) := by
  intro σ ρ F H Q x y d e s rx ry h
  cases d <;> cases e <;> first | exact h.elim | skip
  cases rx.int; cases ry.int
  exact ⟨_, _, rfl, rfl, h.bl s⟩
theorem od_ge : OpD c W oGe (rI0 fun i j => .bl (decide (j ≤ i))) := by
  intro σ ρ F H Q x y d e s rx ry h
  cases d <;> cases e <;> first | exact h.elim | skip
  cases rx.int; cases ry.int
  exact ⟨_, _, rfl, rfl, h.bl s⟩
theorem od_lt : OpD c W oLt (fun x y H Q => rI0 (fun i j => .bl (decide (i < j))) x y H Q ∨ rLtT c.θ.K x y H Q) := by
  intro σ ρ F H Q x y d e s rx ry h
  cases d <;> cases e <;> first | exact h.elim | skip
  · cases rx.int; cases ry.int
    exact .inl ⟨_, _, rfl, rfl, h.bl s⟩
  · rename_i ds es
    obtain ⟨p, xs, rfl, hp, r1, _⟩ := rx.tup s
    obtain ⟨q, ys, rfl, hq, r2, _⟩ := ry.tup s
    have hh : Res c W σ ρ F H Q (match intsOf ds, intsOf es with
      | some ns, some ms => shr (.bl (HT.lexLt ns ms))
      | _, _ => .no) := h
    cases q1 : intsOf ds with
    | none => rw [q1] at hh; exact hh.elim
    | some ns =>
      cases q2 : intsOf es with
      | none => rw [q1, q2] at hh; exact hh.elim
      | some ms =>
        rw [q1, q2] at hh
        cases intsOf_eq q1
        cases intsOf_eq q2
        cases r1.ints
        cases r2.ints
        exact .inr ⟨p, q, ns, ms, rfl, rfl, .inl (.inl hp), .inl (.inl hq), hh.bl s⟩
end
end G
namespace G
open PySem PySem.Spec L2
section
variable {X : Cx} {c : Cn} {L : List Addr} {W : WX} {f g h : ES} {a b e : Expr} {pos : Pos} {es : List Expr}
theorem bind_assoc' {α β γ : Type} (o : Out α) (f : α → Out β) (g : β → Out γ) : (o.bind f).bind g = o.bind fun a => (f a).bind g := by cases o <;> rfl
theorem rd_chain {op op' : D → D → Out (D × Kd)} {r r' : V → V → Hp → VK → Prop} (hd : ∀ W, OpD c W op r) (hd' : OpD c W op' r') {σ : L2.St} {H : Hp} {Q : VK} (hq : tEv c L W (eChain op op' f g h) σ H Q) : tChain r r' (tEv c L W f) (tEv c L W g) (tEv c L W h) σ H Q := by
  obtain ⟨F, ρ, R, hq⟩ := of_tEv hq
  refine ev_bind R hq fun d1 k1 x F1 H1 _ e1 rd1 _ R1 h1 => ?_
  refine ev_bind R1 h1 fun d2 k2 y F2 H2 _ e2 rd2 _ R2 h2 => ?_
  -- the first comparison's own outcome
  refine hd W σ ρ F2 H2 _ x y d1 d2 R2.sub (rd1.ext e2) rd2 ?_
  cases q : op d1 d2 with
  | no => rw [q] at h2; exact h2.elim
  | ex n fs => rw [q] at h2; exact h2
  | ok z =>
    obtain ⟨z, kz⟩ := z
    rw [q] at h2
    intro v F' H' e3 hv
    cases z with
    | bl k =>
      have e : v = .bl k := by
        cases kz with
        | sh => cases hv; rfl
        | tr n =>
          obtain ⟨_, z, _⟩ := hv
          cases n with
          | zero => cases z with | lf r => cases r; rfl
          | succ n => cases z with | fl _ r => cases r; rfl
        | fr => obtain ⟨_, _, _, _, _, _, _, z, _⟩ := hv; cases z
        | «at» i =>
          obtain ⟨_, z⟩ := hv
          obtain ⟨_, _, _, _, _, _, z⟩ := R2.ow i _ z
          cases z
      subst e
      refine ⟨k, rfl, ?_⟩
      have h3 := Res.mono h2 e3
      have R3 := R2.ext e3
      cases k with
      | true =>
        refine iteT ?_
        exact ev_bind R3 h3 fun d4 k4 w F4 H4 _ e4 rd4 _ R4 h4 => hd' σ ρ F4 H4 Q y w d2 d4 R4.sub ((rd2.ext e3).ext e4) rd4 h4
      | false =>
        refine iteF ?_
        exact h3.bl R3.sub
    | _ => exact (show False from h2).elim
theorem oBl_ok {d : D} {k : Bool} (h : oBl d = .ok k) : d = .bl k := by
  cases d <;> first | (cases h; rfl) | cases h
def tTv (c : Cn) (L : List Addr) (W : WX) (f : TSm) : TT := fun σ H Q => ∃ F ρ, Rel c.θ c.F0 c.B L F H σ ρ ∧ match f ρ with
  | .ok b => ∀ F' H', Ext F H F' H' → Q b H'
  | .ex n fs => ∀ cls dd F' H', Ext F H F' H' → ExV c.θ n fs cls dd F' H' → W cls dd σ H'
  | .no => False
def ResT (c : Cn) (W : WX) (σ : L2.St) (F H : Hp) (Q : Bool → Hp → Prop) : Out Bool → Prop
  | .ok b => ∀ F' H', Ext F H F' H' → Q b H'
  | .ex n fs => ∀ cls dd F' H', Ext F H F' H' → ExV c.θ n fs cls dd F' H' → W cls dd σ H'
  | .no => False
section
variable {σ : L2.St} {ρ : Sl} {F F1 H H1 : Hp} {Q : Bool → Hp → Prop} {t u : TSm}
theorem tTv_of (R : Rel c.θ c.F0 c.B L F H σ ρ) (h : ResT c W σ F H Q (t ρ)) : tTv c L W t σ H Q := by
  refine ⟨F, ρ, R, ?_⟩
  revert h
  cases t ρ <;> exact id
theorem of_tTv (h : tTv c L W t σ H Q) : ∃ F ρ, Rel c.θ c.F0 c.B L F H σ ρ ∧ ResT c W σ F H Q (t ρ) := by
  obtain ⟨F, ρ, R, h⟩ := h
  refine ⟨F, ρ, R, ?_⟩
  revert h
  cases t ρ <;> exact id
theorem ResT.mono {o : Out Bool} (h : ResT c W σ F H Q o) (e : Ext F H F1 H1) : ResT c W σ F1 H1 Q o := by
  cases o with
  | ok b => exact fun F' H' e' => h F' H' (e.trans e')
  | ex n fs => exact fun cls dd F' H' e' hv => h cls dd F' H' (e.trans e') hv
  | no => exact h
/-- an operand of a test -/
theorem tv_bind {k : D × Kd → Out Bool} {P : V → Hp → Prop} (R : Rel c.θ c.F0 c.B L F H σ ρ) (h : ResT c W σ F H Q ((f ρ).bind k))
    (hp : ∀ d kd x F1 H1, f ρ = .ok (d, kd) → Ext F H F1 H1 → Rd1 c.θ F1 H1 d x → (kd.solid = true → Rep c.θ F1 d x) → Rel c.θ c.F0 c.B L F1 H1 σ ρ → ResT c W σ F1 H1 Q (k (d, kd)) → P x H1) : tEv c L W f σ H P := by
  refine ⟨F, ρ, R, ?_⟩
  cases hf : f ρ with
  | ok x =>
    obtain ⟨d, kd⟩ := x
    rw [hf] at h
    intro v F' H' e hv
    obtain ⟨F2, e2, _, rd, so⟩ := Val.use R e hv
    exact hp d kd v F2 H' hf e2 rd so (R.ext e2) (ResT.mono (show ResT c W σ F H Q (k (d, kd)) from h) e2)
  | ex n fs =>
    rw [hf] at h
    exact h
  | no =>
    rw [hf] at h
    exact h
/-- a test, then what follows -/
theorem tt_bind {k : Bool → Out Bool} {P : Bool → Hp → Prop} (R : Rel c.θ c.F0 c.B L F H σ ρ) (h : ResT c W σ F H Q ((t ρ).bind k))
    (hp : ∀ b F1 H1, Ext F H F1 H1 → Rel c.θ c.F0 c.B L F1 H1 σ ρ → ResT c W σ F1 H1 Q (k b) → P b H1) : tTv c L W t σ H P := by
  refine ⟨F, ρ, R, ?_⟩
  cases hf : t ρ with
  | ok b =>
    rw [hf] at h
    exact fun F' H' e => hp b F' H' e (R.ext e) (ResT.mono (show ResT c W σ F H Q (k b) from h) e)
  | ex n fs =>
    rw [hf] at h
    exact h
  | no =>
    rw [hf] at h
    exact h
end
theorem pt_ev {e : Expr} {t : TT} {f : TSm} (h : PT X e t) (hi : ∀ (σ : L2.St) (H : Hp) (Q : Bool → Hp → Prop), tTv c L W f σ H Q → t σ H Q) : PT X e (tTv c L W f) := ⟨fun pins s σ H Q I hw => h.run pins s σ H Q I (hi σ H Q hw)⟩
theorem pw_ev {e : Expr} {t : TT} {f : TSm} (h : PW X e t) (hi : ∀ (σ : L2.St) (H : Hp) (Q : Bool → Hp → Prop), tTv c L W f σ H Q → t σ H Q) : PW X e (tTv c L W f) := ⟨fun wh pins s σ H Q I hw => h.run wh pins s σ H Q I (hi σ H Q hw)⟩
/-- a comparison as a test -/
theorem bl_of_oBl {θ : Th} {F H : Hp} {d : D} {x : V} {b : Bool} (q : oBl d = .ok b) (rd : Rd1 θ F H d x) : x = .bl b := by
  cases oBl_ok q
  exact rd.bl
theorem pgt_of_bool {e : Expr} {t : TE} (h : PT X e (tTest t)) (hi : ∀ (σ : L2.St) (H : Hp) (Q : VK), tEv c L W f σ H Q → t σ H Q) : PT X e (tTv c L W (tBl f)) := by
  refine pt_ev h fun σ H Q hq => hi σ H _ ?_
  obtain ⟨F, ρ, R, hq⟩ := of_tTv hq
  refine tv_bind R hq fun d kd x F1 H1 _ e1 rd1 _ R1 h1 => ?_
  cases q : oBl d with
  | no => rw [q] at h1; exact h1.elim
  | ex n fs => cases d <;> cases q
  | ok b =>
    rw [q] at h1
    exact ⟨b, bl_of_oBl q rd1, h1 F1 H1 (Ext.refl R1.sub)⟩
theorem pgt_cmp {o : CmpOp} {op : D → D → Out (D × Kd)} {r : V → V → Hp → VK → Prop} (ho : OpR X (compareOp o) r) (hm : behindInMarks o b = false) (hd : OpD c W op r) (ha : PE X a (tEv c L W f)) (hb : PE X b (tEv c L W g)) : PT X (.Compare a [o] [b] pos) (tTv c L W (tBl (eBin op f g))) := by
  refine pgt_of_bool (pt_cmpR ho ha hb hm) fun σ H Q h => ?_
  obtain ⟨F, ρ, R, h⟩ := of_tEv h
  refine ev_bind R h fun d k x F1 H1 _ e1 rd1 _ R1 h1 => ?_
  exact ev_bind R1 h1 fun d2 k2 y F2 H2 _ e2 rd2 _ R2 h2 => hd σ ρ F2 H2 Q x y d d2 R2.sub (rd1.ext e2) rd2 h2
theorem pgt_chain {d : Expr} {o o' : CmpOp} {op op' : D → D → Out (D × Kd)} {r r' : V → V → Hp → VK → Prop} (ho : OpR X (compareOp o) r) (ho' : OpR X (compareOp o') r') (hm : lastMarks [o, o'] [b, d] = false)
    (hd : ∀ W, OpD c W op r) (hd' : OpD c W op' r') (ha : PE X a (tEv c L W f)) (hb : PE X b (tEv c L W g)) (hc : PE X d (tEv c L W h)) : PT X (.Compare a [o, o'] [b, d] pos) (tTv c L W (tBl (eChain op op' f g h))) :=
  pgt_of_bool (pt_chain ho ho' ha hb hc hm) fun σ H Q h => rd_chain hd hd' h
/-- any expression's value as a test -/
theorem pgt_tru (ha : PE X a (tEv c L W f)) (he : ∀ whole, isTrue a X.env whole = (do let v ← whole; standAt a.pos; holding [v] (truthy v))) (hK : X.K = c.θ.K) : PT X a (tTv c L W (tTru f)) := by
  refine pt_ev (pt_truth ha he) fun σ H Q h => ?_
  obtain ⟨F, ρ, R, h⟩ := of_tTv h
  refine tv_bind R h fun d k x F1 H1 _ e1 rd1 _ R1 h1 => ?_
  have s := R1.sub
  have fin : ∀ b : Bool, TruV X.K x H1 b → ResT c W σ F1 H1 Q (.ok b) → ∃ k, TruV X.K x H1 k ∧ Q k H1 := fun b t z => ⟨b, t, z F1 H1 (Ext.refl s)⟩
  cases d <;> first | exact (show False from h1).elim | skip
  · cases rd1.non
    exact fin _ rfl h1
  · cases rd1.bl
    exact fin _ rfl h1
  · cases rd1.int
    exact fin _ rfl h1
  · obtain ⟨p, xs, rfl, hp, r⟩ := rd1.lst s
    refine fin _ (.inl ⟨xs, .inl (.inl hp), ?_⟩) h1
    cases r <;> rfl
  · obtain ⟨p, xs, rfl, hp, r, _⟩ := rd1.tup s
    refine fin _ (.inr (.inl ⟨xs, .inl (.inl hp), ?_⟩)) h1
    cases r <;> rfl
theorem pgw_and {t u : TSm} {rest : List Expr} (ha : PT X a (tTv c L W t)) (hb : PW X (.BoolOp .And (b :: rest) pos) (tTv c L W u)) : PW X (.BoolOp .And (a :: b :: rest) pos) (tTv c L W (G.tAnd t u)) := by
  refine pw_ev (pw_and ha hb) fun σ H Q h => ?_
  obtain ⟨F, ρ, R, h⟩ := of_tTv h
  refine tt_bind (k := fun b => if b = true then u ρ else .ok false) R h fun b F1 H1 e1 R1 h1 => ?_
  cases b with
  | true => exact iteT (tTv_of R1 h1)
  | false => exact iteF ((show ResT c W σ F1 H1 Q (.ok false) from h1) F1 H1 (Ext.refl R1.sub))
theorem pgw_or {t u : TSm} {rest : List Expr} (ha : PT X a (tTv c L W t)) (hb : PW X (.BoolOp .Or (b :: rest) pos) (tTv c L W u)) : PW X (.BoolOp .Or (a :: b :: rest) pos) (tTv c L W (G.tOr t u)) := by
  refine pw_ev (pw_or ha hb) fun σ H Q h => ?_
  obtain ⟨F, ρ, R, h⟩ := of_tTv h
  refine tt_bind (k := fun b => if b = true then .ok true else u ρ) R h fun b F1 H1 e1 R1 h1 => ?_
  cases b with
  | true => exact iteT ((show ResT c W σ F1 H1 Q (.ok true) from h1) F1 H1 (Ext.refl R1.sub))
  | false => exact iteF (tTv_of R1 h1)
end
end G
namespace G
open PySem PySem.Spec L2
inductive ArgR (θ : Th) (F H : Hp) : List (D × Kd) → List V → Prop
  | nil : ArgR θ F H [] []
  | cons {d : D} {k : Kd} {v : V} {xs : List (D × Kd)} {vs : List V} : Rd1 θ F H d v → (k.solid = true → Rep θ F d v) → ArgR θ F H xs vs → ArgR θ F H ((d, k) :: xs) (v :: vs)
theorem ArgR.ext {θ : Th} {F H F1 H1 : Hp} (e : Ext F H F1 H1) : ∀ {xs : List (D × Kd)} {vs : List V}, ArgR θ F H xs vs → ArgR θ F1 H1 xs vs
  | _, _, .nil => .nil
  | _, _, .cons r s t => .cons (r.ext e) (fun z => (s z).mono e.ff) (ArgR.ext e t)
theorem ArgR.solid {θ : Th} {F H : Hp} : ∀ {xs : List (D × Kd)} {vs : List V}, ArgR θ F H xs vs → allSolid xs = true → RepL θ F (xs.map (·.1)) vs
  | _, _, .nil, _ => .nil
  | _, _, .cons r s t, h => by
    obtain ⟨h1, h2⟩ := Bool.and_eq_true_iff.mp (show (Kd.solid _ && allSolid _) = true from h)
    exact .cons (s h1) (ArgR.solid t h2)
def tAv (c : Cn) (L : List Addr) (W : WX) (fs : List ES) : TA := fun σ H Q => ∃ F ρ, Rel c.θ c.F0 c.B L F H σ ρ ∧ match eArgs fs ρ with
  | .ok xs => ∀ vs F' H', Ext F H F' H' → ArgR c.θ F' H' xs vs → Q vs H'
  | .ex n fs => ∀ cls dd F' H', Ext F H F' H' → ExV c.θ n fs cls dd F' H' → W cls dd σ H'
  | .no => False
section
variable {X : Cx} {c : Cn} {L : List Addr} {W : WX} {f g h : ES} {a b e : Expr} {pos : Pos} {es : List Expr} {fs : List ES}
theorem pga_nil : PA X [] (tAv c L W []) := by
  refine ⟨fun pos pins s σ H Q I h => pa_nil.run pos pins s σ H Q I ?_⟩
  obtain ⟨F, ρ, R, h⟩ := h
  exact h [] F H (Ext.refl R.sub) .nil
theorem pga_cons (ha : PE X e (tEv c L W f)) (hr : PA X es (tAv c L W fs)) (hs : starEach (e :: es) X.env = (false, eval e X.env) :: starEach es X.env) : PA X (e :: es) (tAv c L W (f :: fs)) := by
  refine ⟨fun pos pins s σ H Q I h => (pa_cons ha hr hs).run pos pins s σ H Q I ?_⟩
  obtain ⟨F, ρ, R, h⟩ := h
  refine ⟨F, ρ, R, ?_⟩
  unfold eArgs at h
  cases hf : f ρ with
  | no => rw [hf] at h; exact h
  | ex n fs => rw [hf] at h; exact h
  | ok x =>
    obtain ⟨d, k⟩ := x
    rw [hf] at h
    intro v F1 H1 e1 hv
    obtain ⟨F2, e2, _, rd, so⟩ := Val.use R e1 hv
    refine ⟨F2, ρ, R.ext e2, ?_⟩
    have h : match (eArgs fs ρ).bind fun xs => Out.ok ((d, k) :: xs) with
      | .ok xs => ∀ vs F' H', Ext F H F' H' → ArgR c.θ F' H' xs vs → Q vs H'
      | .ex n fs => ∀ cls dd F' H', Ext F H F' H' → ExV c.θ n fs cls dd F' H' → W cls dd σ H'
      | .no => False := h
    cases hg : eArgs fs ρ with
    | no => rw [hg] at h; exact h
    | ex n gs =>
      rw [hg] at h
      exact fun cls dd F' H' e3 => h cls dd F' H' (e2.trans e3)
    | ok xs =>
      rw [hg] at h
      exact fun vs F' H' e3 hr => h (v :: vs) F' H' (e2.trans e3) (.cons (rd.ext e3) (fun z => (so z).mono e3.ff) hr)
/-- arguments, then what follows -/
theorem av_bind {σ : L2.St} {ρ : Sl} {F H : Hp} {Q : VK} {k : List (D × Kd) → Out (D × Kd)} {P : List V → Hp → Prop} (R : Rel c.θ c.F0 c.B L F H σ ρ) (h : Res c W σ ρ F H Q ((eArgs fs ρ).bind k))
    (hp : ∀ xs vs F1 H1, eArgs fs ρ = .ok xs → Ext F H F1 H1 → ArgR c.θ F1 H1 xs vs → Rel c.θ c.F0 c.B L F1 H1 σ ρ → Res c W σ ρ F1 H1 Q (k xs) → P vs H1) : tAv c L W fs σ H P := by
  refine ⟨F, ρ, R, ?_⟩
  cases hf : eArgs fs ρ with
  | ok xs =>
    rw [hf] at h
    exact fun vs F' H' e hv => hp xs vs F' H' hf e hv (R.ext e) (Res.mono (show Res c W σ ρ F H Q (k xs) from h) e)
  | ex n fs =>
    rw [hf] at h
    exact h
  | no =>
    rw [hf] at h
    exact h
theorem pg_tup {x1 : Nat} (ha : PA X es (tAv c L W fs)) : PE X (.Tuple es x1 pos) (tEv c L W (eTup fs)) := by
  refine pe_ev (pe_tup ha) fun σ H Q h => ?_
  obtain ⟨F, ρ, R, h⟩ := of_tEv h
  refine av_bind R h fun xs vs F1 H1 _ e1 ar R1 h1 => ?_
  obtain ⟨⟨h2, h3⟩, h1⟩ := Res.ite h1
  have r := ar.solid h2
  refine ⟨?_, fun p hp => h1.layT R1.sub r hp⟩
  rw [r.length, List.length_map]
  exact Nat.le_trans h3 SZ_le
theorem pg_lst (ha : PA X es (tAv c L W fs)) : PE X (.List es pos) (tEv c L W (eLst fs)) := by
  refine pe_ev (pe_lst ha) fun σ H Q h => ?_
  obtain ⟨F, ρ, R, h⟩ := of_tEv h
  refine av_bind R h fun xs vs F1 H1 _ e1 ar R1 h1 => ?_
  obtain ⟨⟨h2, h3⟩, h1⟩ := Res.ite h1
  have r := ar.solid h2
  refine ⟨?_, fun p hp => h1.lay R1.sub (.lst r) hp⟩
  rw [r.length, List.length_map]
  exact Nat.le_trans h3 SZ_le
theorem atI_rep {θ : Th} {F : Hp} {ds : List D} {xs : List V} {i : Int} {d : D} (r : RepL θ F ds xs) (h : atI ds i = some d) : ∃ v, atI xs i = some v ∧ Rep θ F d v := by
  unfold atI at h ⊢
  rw [r.length]
  cases q : ixN ds.length i with
  | none => rw [q] at h; cases h
  | some j =>
    rw [q] at h
    exact r.get h
theorem keyOf_kV {d : D} {k : Key} (h : keyOf d = some k) : ∀ {θ : Th} {F H : Hp} {v : V}, Rd1 θ F H d v → v = kV k := by
  intro θ F H v r
  cases d <;> first | cases h | skip
  · exact r.int
  · exact r.str
theorem keysOf_kV {θ : Th} {F : Hp} : ∀ {ds : List D} {ks : List Key} {vs : List V}, keysOf ds = some ks → RepL θ F ds vs → vs = ks.map kV
  | [], _, _, h, r => by cases h; cases r; rfl
  | d :: ds, _, _, h, r => by
    unfold keysOf at h
    cases q : keyOf d with
    | none => rw [q] at h; cases h
    | some k =>
      rw [q] at h
      cases q2 : keysOf ds with
      | none => rw [q2] at h; cases h
      | some ks =>
        rw [q2] at h
        cases h
        cases r with
        | cons a b =>
          rw [keysOf_kV q2 b, keyOf_kV (H := F) q (.inl a)]
          rfl
def InD {κ : Type} [DecidableEq κ] (θ : Th) (F : Hp) (kvs : List (κ × V)) (k : κ) : Option D → Prop
  | some d => ∃ v, valV kvs k = some v ∧ Rep θ F d v
  | none => valV kvs k = none
theorem valV_zip {κ : Type} [DecidableEq κ] {θ : Th} {F : Hp} : ∀ {ks : List κ} {ds : List D} {xs : List V} (k : κ), RepL θ F ds xs → ks.length = ds.length → InD θ F (ks.zip xs) k (lookK ks ds k)
  | [], [], _, k, .nil, l => rfl
  | [], _ :: _, _, _, _, l => by simp at l
  | _ :: _, [], _, _, .nil, l => by simp at l
  | k' :: ks, d :: ds, v :: vs, k, .cons a b, l => by
    have ih := valV_zip (ks := ks) k b (by simpa using l)
    unfold lookK
    by_cases q : k' = k
    · rw [if_pos q]
      refine ⟨v, ?_, a⟩
      unfold valV
      rw [List.zip_cons_cons, List.find?_cons_of_pos (by simpa using q)]
      rfl
    · rw [if_neg q]
      have e : valV ((k' :: ks).zip (v :: vs)) k = valV (ks.zip vs) k := by
        unfold valV
        rw [List.zip_cons_cons, List.find?_cons_of_neg (by simpa using q)]
      unfold InD
      rw [e]
      exact ih
/-- a dict is read -/
def GotD (θ : Th) (F H : Hp) (a : Addr) (y : V) : Option D → Prop
  | some x => ∃ z, DGet H a y (some z) ∧ Rep θ F x z
  | none => DGet H a y none
theorem Rd1.dict {θ : Th} {F H : Hp} {d k : D} {v y : V} {o : Option D} (s : Sub F H) (rd : Rd1 θ F H d v) (rk : Rd1 θ F H k y) (h : dGet d k = some o) : ∃ a, v = .ref a ∧ IsD H a ∧ GotD θ F H a y o := by
  have rdk : ∀ {a : Addr} {u : HO}, IsDict u → (F a = some u ∨ H a = some u) → Rd H a u := fun {a u} iu z => by
    rcases z with z | z
    · rcases s a u z with z | ⟨_, o, z⟩
      · exact .inl z
      · exact .inr ⟨o, z⟩
    · exact .inl z
  cases d <;> first | cases h | skip
  · rename_i ks ds
    cases q : keyOf k with
    | none => rw [show dGet (.dK ks ds) k = (keyOf k).map fun x => lookK ks ds x from rfl, q] at h; cases h
    | some x =>
      rw [show dGet (.dK ks ds) k = (keyOf k).map fun x => lookK ks ds x from rfl, q] at h
      have ey := keyOf_kV q rk
      obtain ⟨a, xs, e, l, r, rh⟩ : ∃ a xs, v = .ref a ∧ ks.length = ds.length ∧ RepL θ F ds xs ∧ Rd H a (.dK (ks.zip xs)) := by
        rcases rd with rd | ⟨a, o, e, ha, rd⟩
        · cases rd with
          | dK e l r => exact ⟨_, _, rfl, l, r, rdk True.intro (.inl e)⟩
        · cases rd with
          | dK l r => exact ⟨a, _, e, l, r, rdk True.intro (.inr ha)⟩
      have z := valV_zip x r l
      have eo : lookK ks ds x = o := Option.some.inj h
      rw [eo] at z
      refine ⟨a, e, .inl ⟨_, rh⟩, ?_⟩
      cases o with
      | some w =>
        obtain ⟨u, z1, z2⟩ := z
        exact ⟨u, .inl ⟨_, x, rh, ey, z1.symm⟩, z2⟩
      | none => exact .inl ⟨_, x, rh, ey, z.symm⟩
  · rename_i ks ds
    cases q : tkeyOf k with
    | none => rw [show dGet (.dT ks ds) k = (tkeyOf k).map fun x => lookK ks ds x from rfl, q] at h; cases h
    | some x =>
      rw [show dGet (.dT ks ds) k = (tkeyOf k).map fun x => lookK ks ds x from rfl, q] at h
      obtain ⟨ts, rfl⟩ : ∃ ts, k = .tup ts := by cases k <;> first | exact ⟨_, rfl⟩ | cases q
      obtain ⟨t, zs, ey, ht, rt, _⟩ := rk.tup s
      have ez := keysOf_kV (show keysOf ts = some x from q) rt
      obtain ⟨a, xs, e, l, r, rh⟩ : ∃ a xs, v = .ref a ∧ ks.length = ds.length ∧ RepL θ F ds xs ∧ Rd H a (.dT (ks.zip xs)) := by
        rcases rd with rd | ⟨a, o, e, ha, rd⟩
        · cases rd with
          | dT e l r => exact ⟨_, _, rfl, l, r, rdk True.intro (.inl e)⟩
        · cases rd with
          | dT l r => exact ⟨a, _, e, l, r, rdk True.intro (.inr ha)⟩
      have z := valV_zip x r l
      have eo : lookK ks ds x = o := Option.some.inj h
      rw [eo] at z
      rw [ez] at ht
      refine ⟨a, e, .inr ⟨_, rh⟩, ?_⟩
      cases o with
      | some w =>
        obtain ⟨u, z1, z2⟩ := z
        exact ⟨u, .inr ⟨_, x, t, rh, ey, ht, z1.symm⟩, z2⟩
      | none => exact .inr ⟨_, x, t, rh, ey, ht, z.symm⟩
theorem od_row {σ : L2.St} {ρ : Sl} {F H : Hp} {Q : VK} {x y : V} {d e : D} (n1 : ∀ ks ds, d ≠ .dK ks ds) (n2 : ∀ ks ds, d ≠ .dT ks ds) (s : Sub F H) (rx : Rd1 c.θ F H d x) (ry : Rd1 c.θ F H e y) (h : Res c W σ ρ F H Q (oIx d e)) : rIx c.θ.K x y H Q := by
  cases d <;> first | exact absurd rfl (n1 _ _) | exact absurd rfl (n2 _ _) | exact (show False from h).elim | skip
  · rename_i z
    cases e <;> first | exact (show False from h).elim | skip
    rename_i i
    cases rx.str; cases ry.int
    obtain ⟨hl, h⟩ := Res.ite h
    cases q : atI z.cps.toList i with
    | none => rw [q] at h; exact h.elim
    | some v =>
      rw [q] at h
      exact .inr (.inr ⟨z, i, v, rfl, rfl, Nat.le_trans hl SZ_le, q, h.str s⟩)
  · rename_i ds
    cases e <;> first | exact (show False from h).elim | skip
    rename_i i
    obtain ⟨p, xs, rfl, hp, r⟩ := rx.lst s
    cases ry.int
    have h : Res c W σ ρ F H Q (match atI ds i with
      | some d => shr d
      | none => .no) := h
    cases q : atI ds i with
    | none => rw [q] at h; exact h.elim
    | some v =>
      rw [q] at h
      obtain ⟨z, z1, z2⟩ := atI_rep r q
      exact .inl ⟨p, xs, i, z, rfl, rfl, .inl (.inl hp), z1, h.sh s z2⟩
  · rename_i ds
    cases e <;> first | exact (show False from h).elim | skip
    rename_i i
    obtain ⟨p, xs, rfl, hp, r, _⟩ := rx.tup s
    cases ry.int
    have h : Res c W σ ρ F H Q (match atI ds i with
      | some d => shr d
      | none => .no) := h
    cases q : atI ds i with
    | none => rw [q] at h; exact h.elim
    | some v =>
      rw [q] at h
      obtain ⟨z, z1, z2⟩ := atI_rep r q
      exact .inr (.inl ⟨p, xs, i, z, rfl, rfl, .inl (.inl hp), z1, h.sh s z2⟩)
theorem pg_ix (hu : X.A.units + 1 < cLine) (hK : X.K = c.θ.K) (ha : PE X a (tEv c L W f)) (hb : PE X b (tEv c L W g)) (hs : PlainIx b) : PE X (.Subscript a b pos) (tEv c L W (eBin oIx f g)) := by
  refine ⟨fun pins s σ H Q I h => ?_⟩
  obtain ⟨F, ρ, R, h⟩ := of_tEv h
  -- a dict, or a row
  have dct : (∀ d k, f ρ = .ok (d, k) → (∃ ks ds, d = .dK ks ds) ∨ ∃ ks ds, d = .dT ks ds) → wpAny (model X.prog X.w) X.A (eval (.Subscript a b pos) X.env) (EP X pins σ Q) X.xe s := fun hd => by
    refine (pe_dget hu ha hb hs).run pins s σ H Q I ?_
    refine ev_bind R h fun d k x F1 H1 ef e1 rd1 _ R1 h1 => ?_
    refine ev_bind R1 h1 fun d2 k2 y F2 H2 _ e2 rd2 _ R2 h2 => ?_
    have h2 : Res c W σ ρ F2 H2 Q (oIx d d2) := h2
    have key : oIx d d2 = match dGet d d2 with
      | some (some v) => shr v
      | _ => .no := by
      rcases hd d k ef with ⟨ks, ds, rfl⟩ | ⟨ks, ds, rfl⟩ <;> rfl
    rw [key] at h2
    cases q : dGet d d2 with
    | none => rw [q] at h2; exact h2.elim
    | some o =>
      cases o with
      | none => rw [q] at h2; exact h2.elim
      | some v =>
        rw [q] at h2
        obtain ⟨p, e, _, z, hz, rz⟩ := Rd1.dict R2.sub (rd1.ext e2) rd2 q
        exact ⟨p, z, e, hz, h2.sh R2.sub rz⟩
  have row : (∀ d k, f ρ = .ok (d, k) → (∀ ks ds, d ≠ .dK ks ds) ∧ ∀ ks ds, d ≠ .dT ks ds) → wpAny (model X.prog X.w) X.A (eval (.Subscript a b pos) X.env) (EP X pins σ Q) X.xe s := fun hd => by
    refine (pe_ix ix_seq ha hb hs).run pins s σ H Q I ?_
    refine ev_bind R h fun d k x F1 H1 ef e1 rd1 _ R1 h1 => ?_
    refine ev_bind R1 h1 fun d2 k2 y F2 H2 _ e2 rd2 _ R2 h2 => ?_
    rw [hK]
    obtain ⟨n1, n2⟩ := hd d k ef
    exact od_row n1 n2 R2.sub (rd1.ext e2) rd2 h2
  cases hf : f ρ with
  | ok x =>
    obtain ⟨d, k⟩ := x
    by_cases q : (∃ ks ds, d = .dK ks ds) ∨ ∃ ks ds, d = .dT ks ds
    · refine dct fun d' k' e => ?_
      rw [hf] at e
      cases e
      exact q
    · refine row fun d' k' e => ?_
      rw [hf] at e
      cases e
      exact ⟨fun ks ds e => q (.inl ⟨ks, ds, e⟩), fun ks ds e => q (.inr ⟨ks, ds, e⟩)⟩
  | ex n fs => exact row fun d' k' e => by rw [hf] at e; cases e
  | no => exact row fun d' k' e => by rw [hf] at e; cases e
def ResP (c : Cn) (W : WX) (σ : L2.St) (F H : Hp) (Q : Option Int → Hp → Prop) : Out (Option Int) → Prop
  | .ok i => ∀ F' H', Ext F H F' H' → Q i H'
  | .ex n fs => ∀ cls dd F' H', Ext F H F' H' → ExV c.θ n fs cls dd F' H' → W cls dd σ H'
  | .no => False
def tPo (c : Cn) (L : List Addr) (W : WX) (o : Option ES) : TO := fun σ H Q => ∃ F ρ, Rel c.θ c.F0 c.B L F H σ ρ ∧ ResP c W σ F H Q (ePart o ρ)
theorem pgo_none : PO X none (tPo c L W none) := ⟨fun pins s σ H Q I h => po_none.run pins s σ H Q I (by
  obtain ⟨F, ρ, R, h⟩ := h
  exact h F H (Ext.refl R.sub))⟩
def oPart : D × Kd → Out (Option Int) := fun x => match x.1 with
  | .int i => .ok (some i)
  | _ => .no
theorem pgo_some (ha : PE X a (tEv c L W f)) : PO X (some a) (tPo c L W (some f)) := ⟨fun pins s σ H Q I h => (po_some ha).run pins s σ H Q I (by
  obtain ⟨F, ρ, R, h⟩ := h
  replace h : ResP c W σ F H Q ((f ρ).bind oPart) := h
  refine ⟨F, ρ, R, ?_⟩
  cases hf : f ρ with
  | no => rw [hf] at h; exact h
  | ex n fs => rw [hf] at h; exact h
  | ok x =>
    obtain ⟨d, k⟩ := x
    rw [hf] at h
    intro v F1 H1 e1 hv
    obtain ⟨F2, e2, _, rd, _⟩ := Val.use R e1 hv
    cases d <;> first | exact (show False from h).elim | skip
    cases rd.int
    exact ⟨_, rfl, h F2 H1 e2⟩)⟩
/-- a part of a slice, then what follows -/
theorem po_bind {o : Option ES} {σ : L2.St} {ρ : Sl} {F H : Hp} {Q : VK} {k : Option Int → Out (D × Kd)} {P : Option Int → Hp → Prop} (R : Rel c.θ c.F0 c.B L F H σ ρ) (h : Res c W σ ρ F H Q ((ePart o ρ).bind k))
    (hp : ∀ i F1 H1, Ext F H F1 H1 → Rel c.θ c.F0 c.B L F1 H1 σ ρ → Res c W σ ρ F1 H1 Q (k i) → P i H1) : tPo c L W o σ H P := by
  refine ⟨F, ρ, R, ?_⟩
  cases hf : ePart o ρ with
  | ok i =>
    rw [hf] at h
    exact fun F' H' e => hp i F' H' e (R.ext e) (Res.mono (show Res c W σ ρ F H Q (k i) from h) e)
  | ex n fs =>
    rw [hf] at h
    exact h
  | no =>
    rw [hf] at h
    exact h
theorem cut_rep {θ : Th} {F : Hp} {ds : List D} {xs : List V} (r : RepL θ F ds xs) (lo hi : Option Int) : RepL θ F (cutD ds lo hi) (cutV xs lo hi) := by
  unfold cutD cutV
  rw [r.length]
  exact (r.drop _).take _
theorem pg_sl {p2 : Pos} {lo hi : Option Expr} {fl fh : Option ES} (hK : X.K = c.θ.K) (ha : PE X a (tEv c L W f)) (hl : PO X lo (tPo c L W fl)) (hh : PO X hi (tPo c L W fh)) : PE X (.Subscript a (.Slice lo hi none p2) pos) (tEv c L W (eSl f fl fh)) := by
  refine pe_ev (pe_slice (SlR.or sl_list sl_tupA) ha hl hh) fun σ H Q h => ?_
  obtain ⟨F, ρ, R, h⟩ := of_tEv h
  refine ev_bind R h fun d k x F1 H1 ef e1 rd1 so R1 h1 => ?_
  refine po_bind R1 h1 fun l F2 H2 e2 R2 h2 => ?_
  refine po_bind R2 h2 fun u F3 H3 e3 R3 h3 => ?_
  have rd := (rd1.ext e2).ext e3
  replace h3 : Res c W σ ρ F3 H3 Q (oSl d l u) := h3
  clear h h1 h2 so ef
  cases d <;> first | exact (show False from h3).elim | skip
  · obtain ⟨p, xs, rfl, hp, r⟩ := rd.lst R3.sub
    exact .inl ⟨p, xs, rfl, .inl (.inl hp), fun q hq => h3.lay R3.sub (.lst (cut_rep r l u)) hq⟩
  · rename_i ds
    obtain ⟨p, xs, rfl, hp, r, z⟩ := rd.tup R3.sub
    refine .inr ⟨p, xs, rfl, .inl (.inl hp), fun ⟨e1, e2⟩ => ?_, fun _ q hq => h3.layT R3.sub (cut_rep r l u) hq⟩
    have e : cutD ds l u = ds := by
      unfold cutD
      rw [r.length] at e1 e2
      rw [e1, e2, List.drop_zero, Nat.sub_zero, List.take_length]
    have h4 : Res c W σ ρ F3 H3 Q (shr (.tup (cutD ds l u))) := h3
    rw [e] at h4
    exact h4.sh R3.sub z
theorem zip_lookup {θ : Th} {F : Hp} : ∀ {names : List Str} {ds : List D} {xs : List V} {i : Nat} {n : Str} {d : D}, names.Nodup → RepL θ F ds xs → names[i]? = some n → ds[i]? = some d → ∃ v, (names.zip xs).lookup n = some v ∧ Rep θ F d v
  | [], _, _, _, _, _, _, _, h, _ => by simp at h
  | _ :: _, _, _, _, _, _, _, .nil, _, h => by simp at h
  | m :: names, _, _, 0, n, d, nd, .cons a b, h1, h2 => by
    simp at h1 h2
    subst h1 h2
    exact ⟨_, by rw [List.zip_cons_cons, List.lookup_cons, beq_self_eq_true], a⟩
  | m :: names, _, _, i + 1, n, d, nd, .cons a b, h1, h2 => by
    have h1' : names[i]? = some n := by simpa using h1
    obtain ⟨v, e, r⟩ := zip_lookup (i := i) (List.nodup_cons.mp nd).2 b h1' (by simpa using h2)
    refine ⟨v, ?_, r⟩
    have ne : (n == m) = false := beq_eq_false_iff_ne.mpr fun z => by
      subst z
      exact (List.nodup_cons.mp nd).1 (List.mem_of_getElem? h1')
    rw [List.zip_cons_cons, List.lookup_cons, ne]
    exact e
/-- what of the text a field's reading leans on: of class n -/
structure FldOk (c : Cn) (x : Str) (fx : Nat → Option Nat) : Prop where
  ok : ∀ n i, fx n = some i → Cls c.θ.K (c.θ.C n) ∧ NoAttr c.θ.K (c.θ.C n) x ∧ (c.θ.fld n)[i]? = some x ∧ (c.θ.fld n).Nodup
theorem pg_fld {x : Str} {fx : Nat → Option Nat} (T : FldOk c x fx) (hK : X.K = c.θ.K) (ha : PE X a (tEv c L W f)) (hb : attributeBase a x X.env (eval a X.env) = eval a X.env) : PE X (.Attribute a x pos) (tEv c L W (eUn (oFld fx) f)) := by
  refine pe_ev (pe_fld ha hb) fun σ H Q h => ?_
  obtain ⟨F, ρ, R, h⟩ := of_tEv h
  refine ev_bind R h fun d k v F1 H1 ef e1 rd so R1 h1 => ?_
  clear h so ef
  replace h1 : Res c W σ ρ F1 H1 Q (oFld fx d) := h1
  cases d <;> first | exact (show False from h1).elim | skip
  rename_i n ds
  replace h1 : Res c W σ ρ F1 H1 Q (match fx n with
    | some i => match ds[i]? with
      | some d => shr d
      | none => .no
    | none => .no) := h1
  cases q : fx n with
  | none => rw [q] at h1; exact h1.elim
  | some i =>
    rw [q] at h1
    replace h1 : Res c W σ ρ F1 H1 Q (match ds[i]? with
      | some d => shr d
      | none => .no) := h1
    cases q2 : ds[i]? with
    | none => rw [q2] at h1; exact h1.elim
    | some d =>
      rw [q2] at h1
      obtain ⟨z1, z2, z3, z4⟩ := T.ok n i q
      rcases rd with rd | ⟨p, o, rfl, ho, rd⟩
      · cases rd with
        | obj e l r =>
          obtain ⟨w, lw, rw'⟩ := zip_lookup z4 r z3 q2
          rw [hK]
          exact ⟨_, _, _, _, w, rfl, R1.sub.ins e, z1, z2, lw, h1.sh R1.sub rw'⟩
      · cases rd with
        | obj l r =>
          have hi : i < ds.length := (List.getElem?_eq_some_iff.mp q2).1
          obtain ⟨w, lw, rw'⟩ := zip_lookup (z4.sublist (List.take_sublist _ _)) r (by rw [List.getElem?_take_of_lt hi]; exact z3) q2
          rw [hK]
          exact ⟨_, _, _, _, w, rfl, ho, z1, z2, lw, h1.sh R1.sub rw'⟩
end
end G
namespace G
open PySem PySem.Spec L2
section
variable {X : Cx} {c : Cn} {L : List Addr} {W : WX} {f g h : ES} {a b e : Expr} {pos : Pos} {es : List Expr} {fs : List ES}
def BiD (c : Cn) (W : WX) (b : Bi) (r : List V → Hp → VK → Prop) : Prop := ∀ (σ : L2.St) (ρ : Sl) (F H : Hp) (Q : VK) (xs : List (D × Kd)) (vs : List V), Sub F H → ArgR c.θ F H xs vs → Res c W σ ρ F H Q (oBi b (xs.map (·.1))) → r vs H Q
theorem pg_bi {b : Bi} {id : String} {x : Str} {p : Pos} {r : List V → Hp → VK → Prop} (hc : CallR X (.builtin id) r) (hd : BiD c W b r) (hg : Gl X x) (hm : X.mg x = none) (hv : bootBuiltins x = some (.builtin id)) (ha : PA X (e :: es) (tAv c L W fs)) (hn : x ≠ "__name__") (hdb : (x == ("__debug__" : Str)) = false)
    (he : starEach (e :: es) X.env = (false, eval e X.env) :: starEach es X.env) (hpl : (backTo pos (starEach es X.env)).any (·.1) = false) : PE X (.Call (.Name x p) (e :: es) [] pos) (tEv c L W (eBi b fs)) := by
  refine pe_ev (pe_callB hc hg hm hv ha hn hdb he hpl) fun σ H Q h => ?_
  obtain ⟨F, ρ, R, h⟩ := of_tEv h
  exact av_bind R h fun xs vs F1 H1 _ e1 ar R1 h1 => hd σ ρ F1 H1 Q xs vs R1.sub ar h1
theorem pg_biTy {b : Bi} {id : String} {x : Str} {p : Pos} {r : List V → Hp → VK → Prop} (hc : CallR X (.type id) r) (hd : BiD c W b r) (hg : Gl X x) (hm : X.mg x = none) (hv : bootBuiltins x = some (.type id)) (ha : PA X (e :: es) (tAv c L W fs)) (hn : x ≠ "__name__") (hdb : (x == ("__debug__" : Str)) = false)
    (he : starEach (e :: es) X.env = (false, eval e X.env) :: starEach es X.env) (hpl : (backTo pos (starEach es X.env)).any (·.1) = false) : PE X (.Call (.Name x p) (e :: es) [] pos) (tEv c L W (eBi b fs)) := by
  refine pe_ev (pe_callTy hc hg hm hv ha hn hdb he hpl) fun σ H Q h => ?_
  obtain ⟨F, ρ, R, h⟩ := of_tEv h
  exact av_bind R h fun xs vs F1 H1 _ e1 ar R1 h1 => hd σ ρ F1 H1 Q xs vs R1.sub ar h1
/-- one argument, two -/
theorem bi1 {b : Bi} {r : List V → Hp → VK → Prop} (h0 : ∀ d e l, oBi b (d :: e :: l) = .no) (hn : oBi b [] = .no)
    (h : ∀ (σ : L2.St) (ρ : Sl) (F H : Hp) (Q : VK) (d : D) (v : V), Sub F H → Rd1 c.θ F H d v → Res c W σ ρ F H Q (oBi b [d]) → r [v] H Q) : BiD c W b r := by
  intro σ ρ F H Q xs vs s ar hr
  cases ar with
  | nil => rw [List.map_nil, hn] at hr; exact hr.elim
  | cons rd so t =>
    cases t with
    | nil => exact h σ ρ F H Q _ _ s rd hr
    | cons rd2 so2 t =>
      rw [List.map_cons, List.map_cons, h0] at hr
      exact hr.elim
theorem bi2 {b : Bi} {r : List V → Hp → VK → Prop} (h0 : ∀ d e g l, oBi b (d :: e :: g :: l) = .no) (hn : oBi b [] = .no) (h1 : ∀ d, oBi b [d] = .no)
    (h : ∀ (σ : L2.St) (ρ : Sl) (F H : Hp) (Q : VK) (d e : D) (v u : V), Sub F H → Rd1 c.θ F H d v → Rd1 c.θ F H e u → Res c W σ ρ F H Q (oBi b [d, e]) → r [v, u] H Q) : BiD c W b r := by
  intro σ ρ F H Q xs vs s ar hr
  cases ar with
  | nil => rw [List.map_nil, hn] at hr; exact hr.elim
  | cons rd so t =>
    cases t with
    | nil => rw [List.map_cons, List.map_nil, h1] at hr; exact hr.elim
    | cons rd2 so2 t =>
      cases t with
      | nil => exact h σ ρ F H Q _ _ _ _ s rd rd2 hr
      | cons rd3 so3 t =>
        rw [List.map_cons, List.map_cons, List.map_cons, h0] at hr
        exact hr.elim
theorem Rd1.dK {θ : Th} {F H : Hp} {ks : List Key} {ds : List D} {v : V} (s : Sub F H) (rd : Rd1 θ F H (.dK ks ds) v) : ∃ a xs, v = .ref a ∧ ks.length = ds.length ∧ RepL θ F ds xs ∧ Rd H a (.dK (ks.zip xs)) := by
  rcases rd with rd | ⟨a, o, rfl, ha, rd⟩
  · cases rd with
    | dK e l r =>
      rcases s _ _ e with z | ⟨_, o, z⟩
      · exact ⟨_, _, rfl, l, r, .inl z⟩
      · exact ⟨_, _, rfl, l, r, .inr ⟨o, z⟩⟩
  · cases rd with
    | dK l r => exact ⟨a, _, rfl, l, r, .inl ha⟩
theorem Rd1.dT {θ : Th} {F H : Hp} {ks : List (List Key)} {ds : List D} {v : V} (s : Sub F H) (rd : Rd1 θ F H (.dT ks ds) v) : ∃ a xs, v = .ref a ∧ ks.length = ds.length ∧ RepL θ F ds xs ∧ Rd H a (.dT (ks.zip xs)) := by
  rcases rd with rd | ⟨a, o, rfl, ha, rd⟩
  · cases rd with
    | dT e l r =>
      rcases s _ _ e with z | ⟨_, o, z⟩
      · exact ⟨_, _, rfl, l, r, .inl z⟩
      · exact ⟨_, _, rfl, l, r, .inr ⟨o, z⟩⟩
  · cases rd with
    | dT l r => exact ⟨a, _, rfl, l, r, .inl ha⟩
theorem bd_len : BiD c W .len (fun xs H Q => (∃ x n, xs = [x] ∧ LenV c.θ.K x H n ∧ Q (.int n) H) ∨ (∃ a kvs, xs = [V.ref a] ∧ Rd H a (.dK kvs) ∧ Q (.int (kvs.length : Nat)) H) ∨ (∃ a kvs, xs = [V.ref a] ∧ Rd H a (.dT kvs) ∧ Q (.int (kvs.length : Nat)) H)) := by
  refine bi1 (fun d e l => by cases d <;> rfl) rfl fun σ ρ F H Q d v s rd h => ?_
  cases d <;> first | exact (show False from h).elim | skip
  · cases rd.str
    obtain ⟨hl, h⟩ := Res.ite h
    exact .inl ⟨_, _, rfl, ⟨Nat.le_trans hl SZ_le, rfl⟩, h.int s⟩
  · obtain ⟨a, xs, rfl, ha, r⟩ := rd.lst s
    refine .inl ⟨_, xs.length, rfl, .inl ⟨xs, .inl (.inl ha), rfl⟩, ?_⟩
    rw [r.length]
    exact Res.int h s
  · obtain ⟨a, xs, rfl, ha, r, _⟩ := rd.tup s
    refine .inl ⟨_, xs.length, rfl, .inr ⟨xs, .inl (.inl ha), rfl⟩, ?_⟩
    rw [r.length]
    exact Res.int h s
  · obtain ⟨a, xs, rfl, l, r, ha⟩ := rd.dK s
    refine .inr (.inl ⟨a, _, rfl, ha, ?_⟩)
    rw [List.length_zip, r.length, ← l, Nat.min_self]
    exact Res.int h s
  · obtain ⟨a, xs, rfl, l, r, ha⟩ := rd.dT s
    refine .inr (.inr ⟨a, _, rfl, ha, ?_⟩)
    rw [List.length_zip, r.length, ← l, Nat.min_self]
    exact Res.int h s
theorem bd_abs : BiD c W .abs (fun xs H Q => ∃ i, xs = [.int i] ∧ Q (.int (if i < 0 then -i else i)) H) := by
  refine bi1 (fun d e l => by cases d <;> rfl) rfl fun σ ρ F H Q d v s rd h => ?_
  cases d <;> first | exact (show False from h).elim | skip
  cases rd.int
  exact ⟨_, rfl, Res.int h s⟩
theorem minI_spec : ∀ {ns : List Int}, ns ≠ [] → minI ns ∈ ns ∧ ∀ y ∈ ns, minI ns ≤ y
  | [a], _ => ⟨by simp [minI], fun y hy => by simp at hy; subst hy; exact Int.le_refl _⟩
  | a :: b :: r, _ => by
    obtain ⟨h1, h2⟩ := minI_spec (ns := b :: r) (by simp)
    have e : minI (a :: b :: r) = min a (minI (b :: r)) := rfl
    rw [e]
    refine ⟨?_, fun y hy => ?_⟩
    · by_cases q : a ≤ minI (b :: r)
      · rw [Int.min_eq_left q]; exact List.mem_cons_self
      · rw [Int.min_eq_right (by omega)]; exact List.mem_cons_of_mem _ h1
    · rcases List.mem_cons.mp hy with rfl | hy
      · omega
      · have := h2 y hy; omega
theorem maxI_spec : ∀ {ns : List Int}, ns ≠ [] → maxI ns ∈ ns ∧ ∀ y ∈ ns, y ≤ maxI ns
  | [a], _ => ⟨by simp [maxI], fun y hy => by simp at hy; subst hy; exact Int.le_refl _⟩
  | a :: b :: r, _ => by
    obtain ⟨h1, h2⟩ := maxI_spec (ns := b :: r) (by simp)
    have e : maxI (a :: b :: r) = max a (maxI (b :: r)) := rfl
    rw [e]
    refine ⟨?_, fun y hy => ?_⟩
    · by_cases q : maxI (b :: r) ≤ a
      · rw [Int.max_eq_left q]; exact List.mem_cons_self
      · rw [Int.max_eq_right (by omega)]; exact List.mem_cons_of_mem _ h1
    · rcases List.mem_cons.mp hy with rfl | hy
      · omega
      · have := h2 y hy; omega
theorem bd_max1 : BiD c W .max1 (rMax c.θ.K) := by
  refine bi1 (fun d e l => by cases d <;> rfl) rfl fun σ ρ F H Q d v s rd h => ?_
  cases d <;> first | exact (show False from h).elim | skip
  rename_i ds
  obtain ⟨a, xs, rfl, ha, r⟩ := rd.lst s
  replace h : Res c W σ ρ F H Q (match intsOf ds with
    | some ns => if ns ≠ [] then shr (.int (maxI ns)) else .no
    | none => .no) := h
  cases q : intsOf ds with
  | none => rw [q] at h; exact h.elim
  | some ns =>
    rw [q] at h
    obtain ⟨hn, h⟩ := Res.ite h
    rw [intsOf_eq q] at r
    cases r.ints
    refine ⟨a, ns, rfl, .inl (.inl ha), List.length_pos_iff.mpr hn, fun m m1 m2 => ?_⟩
    obtain ⟨z1, z2⟩ := maxI_spec hn
    have e : m = maxI ns := Int.le_antisymm (z2 _ m1) (m2 _ z1)
    rw [e]
    exact h.int s
theorem bd_list : BiD c W .list (fun xs H Q => ∃ p ys, xs = [.ref p] ∧ (SqL c.θ.K H p ys ∨ SqT c.θ.K H p ys) ∧ ∀ l, H l = none → Q (.ref l) (upd H l (.lst ys))) := by
  refine bi1 (fun d e l => by cases d <;> rfl) rfl fun σ ρ F H Q d v s rd h => ?_
  cases d <;> first | exact (show False from h).elim | skip
  · obtain ⟨a, xs, rfl, ha, r⟩ := rd.lst s
    exact ⟨a, xs, rfl, .inl (.inl (.inl ha)), fun l hl => Res.lay h s (.lst r) hl⟩
  · obtain ⟨a, xs, rfl, ha, r, _⟩ := rd.tup s
    exact ⟨a, xs, rfl, .inr (.inl (.inl ha)), fun l hl => Res.lay h s (.lst r) hl⟩
theorem bd_min2 : BiD c W .min2 (fun xs H Q => ∃ i j, xs = [.int i, .int j] ∧ Q (.int (if j < i then j else i)) H) := by
  refine bi2 (fun d e g l => by cases d <;> cases e <;> rfl) rfl (fun d => by cases d <;> rfl) fun σ ρ F H Q d e v u s rd rd2 h => ?_
  cases d <;> cases e <;> first | exact (show False from h).elim | skip
  cases rd.int; cases rd2.int
  exact ⟨_, _, rfl, Res.int h s⟩
end
end G
namespace G
open PySem PySem.Spec L2
/-- old objects as they were frozen ahead -/
noncomputable def newN (F F' H : Hp) : Hp := fun b => match H b with
  | none => F' b
  | some _ => F b
theorem newN_ext {F F2 F' H H' : Hp} (s : Sub F H) (s2 : Same F F2) (e : Ext F2 H F' H') : Ext F H (newN F F' H) H' := by
  refine ⟨fun b u h => ?_, fun b u h => ?_, e.hh, fun b u h => ?_⟩
  · unfold newN at h
    cases q : H b with
    | none => rw [q] at h; exact e.sub b u h
    | some w =>
      rw [q] at h
      exact e.sub b u (e.ff _ _ (s2 _ _ h))
  · have : ∃ w, H b = some w := by
      rcases s b u h with z | ⟨_, _, z⟩ <;> exact ⟨_, z⟩
    obtain ⟨w, hw⟩ := this
    unfold newN
    rw [hw]
    exact h
  · unfold newN at h
    cases q : H b with
    | none => exact .inr (.inl rfl)
    | some w => rw [q] at h; exact .inl h
theorem repl_flatF {θ : Th} {F F' : Hp} : ∀ {ds : List D} {vs : List V}, ds.all flat = true → RepL θ F ds vs → RepL θ F' ds vs
  | _, _, _, .nil => .nil
  | _, _, h, .cons r t => by
    rw [List.all_cons, Bool.and_eq_true] at h
    exact .cons (r.flat h.1) (repl_flatF h.2 t)
theorem FrV.new {θ : Th} {F F' H H' : Hp} {d : D} {v : V} (hd : newD d = true) (f : FrV θ F' H H' d v) : FrV θ (newN F F' H) H H' d v := by
  obtain ⟨fu, a, o, rfl, n, ha, nf, ro, nw⟩ := f
  have nf2 : newN F F' H a = none := by unfold newN; rw [n]; exact nf
  have le : Same (onlyN F' H) (newN F F' H) := fun b u h => by
    unfold onlyN at h
    unfold newN
    cases q : H b with
    | none => rw [q] at h; exact h
    | some w => rw [q] at h; cases h
  have le2 : Same (onlyN F' H) (onlyN (newN F F' H) H) := fun b u h => by
    have h2 := le b u h
    unfold onlyN at h ⊢
    cases q : H b with
    | none => exact h2
    | some w => rw [q] at h; cases h
  cases d with
  | lst ds =>
    cases ro with
    | lst rl => exact ⟨trivial, a, _, rfl, n, ha, nf2, .lst (repl_flatF hd rl), Nw.of rfl⟩
  | obj k ds => exact ⟨fu, a, o, rfl, n, ha, nf2, (nw rfl).mono le, fun z => (nw z).mono le2⟩
  | _ => cases hd
theorem FrV.notFlat {θ : Th} {F' H H' : Hp} {d : D} {v : V} (f : FrV θ F' H H' d v) (h : flat d = true) : False := by
  obtain ⟨_, _, _, _, _, _, _, ro, _⟩ := f
  cases ro <;> cases h
theorem TrV.flat {θ : Th} {F F' H H' : Hp} {n : Nat} {d : D} {v : V} (h : G.flat d = true) (f : TrV θ F' H H' n d v) : Rep θ F d v := by
  obtain ⟨S, t, _⟩ := f
  cases n with
  | zero =>
    replace t : Tr θ H F' H' (shD d) d v S := t
    rw [shD_flat h] at t
    cases t with
    | lf r => exact r.flat h
  | succ n =>
    cases t with
    | fl _ r => exact r.flat h
    | lst _ _ => cases h
    | tup _ _ _ => cases h
    | dK _ _ _ => cases h
    | dT _ _ _ => cases h
    | obj _ _ _ => cases h
def ResF (θ : Th) (F H : Hp) (Q : VK) (E : XK) : Out (D × Bool) → Prop
  | .ok (d, true) => ∀ v F' H', Ext F H F' H' → FrV θ F' H H' d v → Q v H'
  | .ok (d, false) => ∀ v F' H', Ext F H F' H' → Rep θ F' d v → Q v H'
  | .ex n fs => ∀ cls dd F' H', Ext F H F' H' → ExV θ n fs cls dd F' H' → E cls dd H'
  | .no => False
/-- a def whose value on ds is S ds -/
def spOf (θ : Th) (m : Nat) (S : List D → Out (D × Bool)) : Sp := fun vs H Q E => vs.length = m ∧ ∃ F ds, Sub F H ∧ RepL θ F ds vs ∧ ResF θ F H Q E (S ds)
/-- an __init__ of class k: what it makes of its arguments -/
def spInit (θ : Th) (m k : Nat) (S : List D → Out (D × Bool)) : Sp := fun vs H Q E => vs.length = m + 1 ∧ ∃ F ds H0 x dx us, vs = .ref x :: us ∧ H0 x = none ∧ H0 dx = none ∧ dx ≠ x ∧ H = upd (upd H0 dx (.own x)) x (.ins (θ.C k) dx []) ∧ Sub F H0 ∧ RepL θ F ds us ∧
  ResF θ F H0 (fun v H' => v = .ref x → Q .non H') E (S ds)
/-- own roots among the arguments are frozen for the call -/
theorem ArgR.freeze {θ : Th} {F H : Hp} : ∀ {xs : List (D × Kd)} {vs : List V}, Sub F H → ArgR θ F H xs vs → okArgs xs = true → ∃ F2, Same F F2 ∧ Sub F2 H ∧ RepL θ F2 (xs.map (·.1)) vs
  | _, _, s, .nil, _ => ⟨F, .refl _, s, .nil⟩
  | _, _, s, .cons (d := d) (k := k) (v := v) rd so t, hf => by
    obtain ⟨hf1, hf2⟩ := Bool.and_eq_true_iff.mp (show ((k.solid || notObj d) && okArgs _) = true from hf)
    obtain ⟨F2, e, s2, r⟩ := ArgR.freeze s t hf2
    by_cases sol : k.solid = true
    · exact ⟨F2, e, s2, .cons ((so sol).mono e) r⟩
    rcases rd with rd | ⟨a, o, rfl, ha, ro⟩
    · exact ⟨F2, e, s2, .cons (rd.mono e) r⟩
    · have fu : Full θ d := by
        rcases Bool.or_eq_true_iff.mp hf1 with z | z
        · exact absurd z sol
        · cases d <;> first | trivial | cases z
      cases q : F2 a with
      | none =>
        have e2 : Same F2 (upd F2 a o) := Same.lay q
        refine ⟨upd F2 a o, e.trans e2, fun b u h => ?_, .cons ((ro.mono e).frozen q fu) (r.mono e2)⟩
        by_cases hb : b = a
        · subst hb
          rw [upd_same] at h
          cases h
          exact .inl ha
        · rw [upd_ne hb] at h
          exact s2 b u h
      | some u =>
        have eu : u = o := by
          rcases s2 a u q with z | ⟨_, o', z⟩
          · rw [ha] at z
            exact (Option.some.inj z).symm
          · rw [ha] at z
            cases z
            cases ro
        subst eu
        refine ⟨F2, e, s2, .cons ?_ r⟩
        have ro := ro.mono e
        cases ro with
        | lst r => exact .lst q r
        | dK l r => exact .dK q l r
        | dT l r => exact .dT q l r
        | @obj c dx xs ds l r =>
          have fu : ds.length = (θ.fld c).length := fu
          rw [fu, List.take_length] at q
          exact .obj q fu.symm r
section
variable {X : Cx} {c : Cn} {L : List Addr} {W : WX} {f g h : ES} {a b e : Expr} {pos : Pos} {es : List Expr} {fs : List ES}
theorem eArgs_length : ∀ {fs : List ES} {ρ : Sl} {xs : List (D × Kd)}, eArgs fs ρ = .ok xs → xs.length = fs.length
  | [], _, _, h => by cases h; rfl
  | f :: fs, ρ, xs, h => by
    unfold eArgs at h
    cases q : f ρ with
    | no => rw [q] at h; cases h
    | ex n gs => rw [q] at h; cases h
    | ok x =>
      rw [q] at h
      cases q2 : eArgs fs ρ with
      | no => rw [bind_ok, q2] at h; cases h
      | ex n gs => rw [bind_ok, q2] at h; cases h
      | ok ys =>
        rw [bind_ok, q2] at h
        cases h
        rw [List.length_cons, List.length_cons, eArgs_length q2]
/-- what the call's outcome says of the def -/
theorem call_core {Γ : Gam} {n : Nat} {σ : L2.St} {ρ : Sl} {F H : Hp} {Q : VK} {xs : List (D × Kd)} {vs : List V} (s : Sub F H) (ar : ArgR c.θ F H xs vs)
    (h : Res c W σ ρ F H Q (match Γ n (xs.map (·.1)) with
      | .ok (d, b) => if allSolid xs then .ok (d, if b then .fr else .sh) else if flat d && okArgs xs then shr d else if (b && newD d) && okArgs xs then .ok (d, .fr) else .no
      | .ex c gs => if allSolid xs || (gs.isEmpty && okArgs xs) then .ex c gs else .no
      | .no => .no)) : ∃ F2, Same F F2 ∧ Sub F2 H ∧ RepL c.θ F2 (xs.map (·.1)) vs ∧ ResF c.θ F2 H Q (WE W σ) (Γ n (xs.map (·.1))) := by
  by_cases q : allSolid xs = true
  · refine ⟨F, .refl _, s, ar.solid q, ?_⟩
    cases hg : Γ n (xs.map (·.1)) with
    | no => rw [hg] at h; exact h
    | ex k gs =>
      rw [hg] at h
      replace h : Res c W σ ρ F H Q (if (allSolid xs || (gs.isEmpty && okArgs xs)) = true then .ex k gs else .no) := h
      exact (Res.ite h).2
    | ok z =>
      obtain ⟨d, b⟩ := z
      rw [hg] at h
      replace h : Res c W σ ρ F H Q (if allSolid xs = true then .ok (d, if b then .fr else .sh) else if (flat d && okArgs xs) = true then shr d else if ((b && newD d) && okArgs xs) = true then .ok (d, .fr) else .no) := h
      rw [if_pos q] at h
      cases b with
      | true => exact h
      | false => exact h
  · have go : okArgs xs = true → ∃ F2, Same F F2 ∧ Sub F2 H ∧ RepL c.θ F2 (xs.map (·.1)) vs := ar.freeze s
    have back : ∀ {F2 F' H' : Hp}, Same F F2 → Ext F2 H F' H' → Ext F H F H' := fun {F2 F' H'} e x => ⟨fun a u z => x.sub a u (x.ff _ _ (e _ _ z)), .refl _, x.hh, fun _ _ z => .inl z⟩
    cases hg : Γ n (xs.map (·.1)) with
    | no => rw [hg] at h; exact h.elim
    | ex k gs =>
      rw [hg] at h
      replace h : Res c W σ ρ F H Q (if (allSolid xs || (gs.isEmpty && okArgs xs)) = true then .ex k gs else .no) := h
      obtain ⟨h1, h2⟩ := Res.ite h
      rcases Bool.or_eq_true_iff.mp h1 with z | z
      · exact absurd z q
      obtain ⟨z1, z2⟩ := Bool.and_eq_true_iff.mp z
      obtain ⟨F2, e, s2, r⟩ := go z2
      have eg : gs = [] := List.isEmpty_iff.mp z1
      subst eg
      exact ⟨F2, e, s2, r, fun cls dd F' H' x hv => h2 cls dd F H' (back e x) hv⟩
    | ok z =>
      obtain ⟨d, b⟩ := z
      rw [hg] at h
      replace h : Res c W σ ρ F H Q (if allSolid xs = true then .ok (d, if b then .fr else .sh) else if (flat d && okArgs xs) = true then shr d else if ((b && newD d) && okArgs xs) = true then .ok (d, .fr) else .no) := h
      rw [if_neg q] at h
      by_cases h1 : (flat d && okArgs xs) = true
      rotate_left
      · rw [if_neg h1] at h
        obtain ⟨h1, h2⟩ := Res.ite h
        obtain ⟨z1, z2⟩ := Bool.and_eq_true_iff.mp h1
        obtain ⟨z0, z1⟩ := Bool.and_eq_true_iff.mp z1
        subst z0
        obtain ⟨F2, e, s2, r⟩ := go z2
        exact ⟨F2, e, s2, r, fun v F' H' x hv => h2 v _ H' (newN_ext s e x) (hv.new z1)⟩
      rw [if_pos h1] at h
      have h2 := h
      obtain ⟨z1, z2⟩ := Bool.and_eq_true_iff.mp h1
      obtain ⟨F2, e, s2, r⟩ := go z2
      refine ⟨F2, e, s2, r, ?_⟩
      cases b with
      | true =>
        intro v F' H' x hv
        exact (hv.notFlat z1).elim
      | false => exact fun v F' H' x hv => h2 v F H' (back e x) (hv.flat z1)
theorem ResF.imp {θ : Th} {F H : Hp} {Q Q' : VK} {E : XK} {o : Out (D × Bool)} (h : ResF θ F H Q E o) (k : ∀ v H', Q v H' → Q' v H') : ResF θ F H Q' E o := by
  cases o with
  | no => exact h
  | ex n fs => exact h
  | ok z =>
    obtain ⟨d, b⟩ := z
    cases b with
    | true => exact fun v F' H' x hv => k _ _ (h v F' H' x hv)
    | false => exact fun v F' H' x hv => k _ _ (h v F' H' x hv)
/-- f(..) -/
theorem pg_call {Γ : Gam} {n k m : Nat} {fa : Addr} {fd : FuncData} {ps : List Str} {x : Str} {p : Pos} (F : FnOk X.prog X.w X.K X.mg X.base (L2N.CX X.prog X.w) k fa fd ps (spOf c.θ m (Γ n))) (hr : Room k X.A) (hg : Gl X x) (hm : X.mg x = some (.ref fa))
    (hk : PySem.W.keepIn X.K (.ref fa) = true) (hb : Binds X.K fd ps []) (tk : L2N.Takes X W) (ha : PA X (e :: es) (tAv c L W fs)) (hl : fs.length = m) (hdb : (x == ("__debug__" : Str)) = false) (he : starEach (e :: es) X.env = (false, eval e X.env) :: starEach es X.env)
    (hpl : (backTo pos (starEach es X.env)).any (·.1) = false) : PE X (.Call (.Name x p) (e :: es) [] pos) (tEv c L W (eCall Γ n fs)) := by
  refine pe_ev (pe_callS (E := WE W) F hr hg hm hk hb (fun σ => L2N.passAt tk σ) ha hdb he hpl) fun σ H Q h => ?_
  obtain ⟨F, ρ, R, h⟩ := of_tEv h
  refine av_bind R h fun xs vs F1 H1 ef e1 ar R1 h1 => ?_
  obtain ⟨F2, _, s2, r, hf⟩ := call_core R1.sub ar h1
  refine ⟨?_, F2, _, s2, r, hf⟩
  rw [r.length, List.length_map, ← hl]
  exact eArgs_length ef
end
end G
namespace G
open PySem PySem.Spec L2
section
variable {X : Cx} {CX : CXT} {k : Nat} {f C : Addr} {fd : FuncData} {ps : List Str} {sp : Sp} {E : L2.St → XK} {x m : Str} {p pos apos : Pos} {e o : Expr} {es : List Expr} {ta : TE} {t : TA}
def tMethS (C : Addr) (m : Str) (sp : Sp) (E : L2.St → XK) (ta : TE) (t : TA) : TE := fun σ H Q => ta σ H fun x H1 => ∃ a dx fs, x = .ref a ∧ H1 a = some (.ins C dx fs) ∧ fs.lookup m = none ∧ t σ H1 fun vs H2 => sp (x :: vs) H2 Q (E σ)
theorem pe_methS {pl : Sem Bool} (he : PE X o ta) (c : Cls X.K C) (hm : Meth X.K C m f) (F : FnOk X.prog X.w X.K X.mg X.base CX k f fd ps sp) (hr : Room k X.A) (hb : Binds X.K fd ps []) (hx : ∀ σ, PassesAt CX X σ (E σ)) (ha : PA X (e :: es) t)
    (hst : starEach (e :: es) X.env = (false, eval e X.env) :: starEach es X.env) (hpl : (backTo pos (starEach es X.env)).any (·.1) = false)
    (ht : eval (.Call (.Attribute o m apos) (e :: es) [] pos) X.env = (do
      let ov ← eval o X.env
      standAt apos.atName
      let (f, first) ← holding [ov] (getMethod ov m pl)
      callWith pos f first (backTo pos (starEach (e :: es) X.env)) (backToKw pos (keywordEach [] X.env)))) :
    PE X (.Call (.Attribute o m apos) (e :: es) [] pos) (tMethS C m sp E ta t) := by
  refine ⟨fun pins s σ H Q I h => ?_⟩
  refine PySem.W.methodCall_KW (pl := pl) (thn (he.run pins s σ H _ I h) fun u s1 ⟨x, H1, I1, rx, a, dx, fs, ex, ea, l, q⟩ => ?_) ht
  subst ex
  obtain rfl : u = Value.ref a := rx
  refine getmeth_ok I1 ea c hm l ?_
  refine PySem.W.callWith_K (first := [.ref a]) (h₀ := X.base) I.ok.mod.kin hm.kp (thn (ha.run pos pins s1 σ H1 _ I1 q) fun us s2 ⟨vs, H2, I2, r, q2⟩ => ⟨I2.kIn, ?_⟩) hst hpl
  exact run_fnS (us := .ref a :: us) (vs := .ref a :: vs) F hr hb (hx σ) I2 (.cons rfl r) q2
theorem pe_methS0 {pl : Sem Bool} (he : PE X o ta) (c : Cls X.K C) (hm : Meth X.K C m f) (F : FnOk X.prog X.w X.K X.mg X.base CX k f fd ps sp) (hr : Room k X.A) (hb : Binds X.K fd ps []) (hx : ∀ σ, PassesAt CX X σ (E σ))
    (ht : eval (.Call (.Attribute o m apos) [] [] pos) X.env = (do
      let ov ← eval o X.env
      standAt apos.atName
      let (f, first) ← holding [ov] (getMethod ov m pl)
      callWith pos f first (backTo pos (starEach [] X.env)) (backToKw pos (keywordEach [] X.env)))) :
    PE X (.Call (.Attribute o m apos) [] [] pos) (tMethS C m sp E ta tNil) := by
  refine ⟨fun pins s σ H Q I h => ?_⟩
  refine PySem.W.methodCall_KW (pl := pl) (thn (he.run pins s σ H _ I h) fun u s1 ⟨x, H1, I1, rx, a, dx, fs, ex, ea, l, q⟩ => ?_) ht
  subst ex
  obtain rfl : u = Value.ref a := rx
  refine getmeth_ok I1 ea c hm l ?_
  exact PySem.W.callWith_K0 (first := [.ref a]) I1.kIn hm.kp (run_fnS (us := [.ref a]) (vs := [.ref a]) F hr hb (hx σ) I1 (.cons rfl .nil) q)
def tMakeS (C : Addr) (sp : Sp) (E : L2.St → XK) (t : TA) : TE := fun σ H Q => t σ H fun vs H1 => ∀ x dx, H1 x = none → H1 dx = none → dx ≠ x → sp (.ref x :: vs) (upd (upd H1 dx (.own x)) x (.ins C dx [])) (fun v H2 => v = .non ∧ Q (.ref x) H2) (E σ)
theorem run_makeS {pins : List (Addr × Obj)} {σ : L2.St} {H : Hp} {s : Shared} {Q : VK} {us : List Value} {vs : List V} (M : Mk X.K C f) (F : FnOk X.prog X.w X.K X.mg X.base CX k f fd ps sp) (hr : Room (k + 1) X.A) (hb : Binds X.K fd ps [])
    (hx : PassesAt CX X σ (E σ)) (I : Inv X pins σ H s) (r : Vals vs us)
    (h : ∀ x dx, H x = none → H dx = none → dx ≠ x → sp (.ref x :: vs) (upd (upd H dx (.own x)) x (.ins C dx [])) (fun v H2 => v = .non ∧ Q (.ref x) H2) (E σ)) :
    wpAny (model X.prog X.w) X.A (call (.ref C) us) (EP X pins σ Q) X.xe s := by
  have hq := h (s.heap.objs.size + 1) s.heap.objs.size (I.hok.fresh (Nat.le_succ _)) (I.hok.fresh (Nat.le_refl _)) (Nat.ne_of_lt (Nat.lt_succ_self _))
  have I2 := Inv.made (C := C) I
  have r2 : Vals (V.ref (s.heap.objs.size + 1) :: vs) (Value.ref (s.heap.objs.size + 1) :: us) := .cons rfl r
  have hl : (Value.ref (s.heap.objs.size + 1) :: us).length = ps.length := by
    have e := r2.length
    rw [F.len _ _ _ _ hq] at e
    exact e.symm
  have b := hb s (Value.ref (s.heap.objs.size + 1) :: us)
  refine wpAny_call (make_map (f := f) I.kIn M.makes M.init (beq_iff_eq.mp M.fn) (codeAny_mono (F.run _ X.stack _ _ ⟨Value.ref (s.heap.objs.size + 1) :: us, []⟩ (Value.ref (s.heap.objs.size + 1) :: us) _ _ (E σ) (hr.make C us [])
    (I2.env0.make C us []) ?_ r2 hq) fun r s' hq' => ?_))
  · have b := hb _ (Value.ref (s.heap.objs.size + 1) :: us) I2.kIn (by rw [List.append_nil]; exact hl)
    rw [List.append_nil] at b
    exact b
  cases r with
  | error e => exact hx pins _ _ e s' I2 hq'
  | ok fl =>
    cases fl with
    | ret u =>
      obtain ⟨v, H', I3, rv, ev, q3⟩ := I2.after hq'
      subst ev
      exact ⟨rv, ⟨V.ref (s.heap.objs.size + 1), H', I3, rfl, q3⟩⟩
    | next => exact False.elim hq'
    | brk => exact False.elim hq'
    | cont => exact False.elim hq'
theorem pe_makeS (M : Mk X.K C f) (F : FnOk X.prog X.w X.K X.mg X.base CX k f fd ps sp) (hr : Room (k + 1) X.A) (hg : Gl X x) (hm : X.mg x = some (.ref C)) (hb : Binds X.K fd ps []) (hx : ∀ σ, PassesAt CX X σ (E σ))
    (ha : PA X (e :: es) t) (hdb : (x == ("__debug__" : Str)) = false) (he : starEach (e :: es) X.env = (false, eval e X.env) :: starEach es X.env) (hpl : (backTo pos (starEach es X.env)).any (·.1) = false) :
    PE X (.Call (.Name x p) (e :: es) [] pos) (tMakeS C sp E t) := by
  refine ⟨fun pins s σ H Q I h => ?_⟩
  refine wpAny_Call_Name_kw (ld_glob I hg hm ?_ hdb)
  refine PySem.W.callWith_K (h₀ := X.base) I.ok.mod.kin M.kp (thn (ha.run pos pins s σ H _ I h) fun us s1 ⟨vs, H1, I1, r, q⟩ => ⟨I1.kIn, ?_⟩) he hpl
  exact run_makeS M F hr hb (hx σ) I1 r q
end
section
variable {X : Cx} {c : Cn} {L : List Addr} {W : WX} {f g h : ES} {a b e o : Expr} {pos apos : Pos} {es : List Expr} {fs : List ES} {x m : Str} {p : Pos}
/-- C(..) -/
theorem pg_make {Γ : Gam} {n k m cn : Nat} {fa : Addr} {fd : FuncData} {ps : List Str} (M : Mk X.K (c.θ.C cn) fa) (F : FnOk X.prog X.w X.K X.mg X.base (L2N.CX X.prog X.w) k fa fd ps (spInit c.θ m cn (Γ n))) (hr : Room (k + 1) X.A) (hg : Gl X x) (hm : X.mg x = some (.ref (c.θ.C cn)))
    (hb : Binds X.K fd ps []) (tk : L2N.Takes X W) (ha : PA X (e :: es) (tAv c L W fs)) (hl : fs.length = m) (hdb : (x == ("__debug__" : Str)) = false) (he : starEach (e :: es) X.env = (false, eval e X.env) :: starEach es X.env)
    (hpl : (backTo pos (starEach es X.env)).any (·.1) = false) : PE X (.Call (.Name x p) (e :: es) [] pos) (tEv c L W (eCall Γ n fs)) := by
  refine pe_ev (pe_makeS (E := WE W) M F hr hg hm hb (fun σ => L2N.passAt tk σ) ha hdb he hpl) fun σ H Q h => ?_
  obtain ⟨F, ρ, R, h⟩ := of_tEv h
  refine av_bind R h fun xs vs F1 H1 ef e1 ar R1 h1 => ?_
  obtain ⟨F2, _, s2, r, hf⟩ := call_core R1.sub ar h1
  intro y dx ny nd ne
  refine ⟨?_, F2, _, H1, y, dx, vs, rfl, ny, nd, ne, rfl, s2, r, hf.imp fun v H' q ev => ⟨rfl, ?_⟩⟩
  · rw [List.length_cons, r.length, List.length_map, ← hl, eArgs_length ef]
  · rw [← ev]
    exact q
/-- what stands behind a method's name: by the receiver's class -/
structure MethOk (X : Cx) (c : Cn) (Γ : Gam) (m : Str) (mx : Nat → Option Nat) (l : Nat) : Prop where
  ok : ∀ k n, mx k = some n → ∃ fa fd ps kk, FnOk X.prog X.w X.K X.mg X.base (L2N.CX X.prog X.w) kk fa fd ps (spOf c.θ (l + 1) (Γ n)) ∧ Room kk X.A ∧ Cls X.K (c.θ.C k) ∧ Meth X.K (c.θ.C k) m fa ∧ Binds X.K fd ps [] ∧ m ∉ c.θ.fld k
theorem zip_no {m : Str} : ∀ {names : List Str} {xs : List V}, m ∉ names → (names.zip xs).lookup m = none
  | [], _, _ => rfl
  | _ :: _, [], _ => rfl
  | n :: names, x :: xs, h => by
    have ne : (m == n) = false := beq_eq_false_iff_ne.mpr fun z => h (z ▸ List.mem_cons_self)
    rw [List.zip_cons_cons, List.lookup_cons, ne]
    exact zip_no fun z => h (List.mem_cons_of_mem _ z)
theorem meth_core {Γ : Gam} {mx : Nat → Option Nat} {σ : L2.St} {ρ : Sl} {F H : Hp} {Q : VK} (h : Res c W σ ρ F H Q (eMeth Γ mx f fs ρ)) : ∃ k ds kd n, f ρ = .ok (.obj k ds, kd) ∧ mx k = some n ∧ kd.solid = true ∧ Res c W σ ρ F H Q (eCall Γ n (eC (.obj k ds) :: fs) ρ) := by
  unfold eMeth at h
  cases q : f ρ with
  | no => rw [q] at h; exact h.elim
  | ex n gs => rw [q] at h; exact h.elim
  | ok z =>
    obtain ⟨d, kd⟩ := z
    rw [q] at h
    cases d <;> first | exact (show False from h).elim | skip
    rename_i k ds
    replace h : Res c W σ ρ F H Q (match mx k with
      | some n => if kd.solid = true then eCall Γ n (eC (.obj k ds) :: fs) ρ else .no
      | none => .no) := h
    cases q2 : mx k with
    | none => rw [q2] at h; exact h.elim
    | some n =>
      rw [q2] at h
      obtain ⟨h1, h2⟩ := Res.ite h
      exact ⟨k, ds, kd, n, rfl, q2, h1, h2⟩
theorem meth_args {Γ : Gam} {n : Nat} {d : D} {ρ : Sl} : eCall Γ n (eC d :: fs) ρ = (eArgs fs ρ).bind fun xs => match Γ n (((d, Kd.sh) :: xs).map (·.1)) with
      | .ok (d', b) => if allSolid ((d, Kd.sh) :: xs) then .ok (d', if b then .fr else .sh) else if flat d' && okArgs ((d, Kd.sh) :: xs) then shr d' else if (b && newD d') && okArgs ((d, Kd.sh) :: xs) then .ok (d', .fr) else .no
      | .ex c gs => if allSolid ((d, Kd.sh) :: xs) || (gs.isEmpty && okArgs ((d, Kd.sh) :: xs)) then .ex c gs else .no
      | .no => .no := by
  unfold eCall
  show (((eC d ρ).bind fun x => (eArgs fs ρ).bind fun xs => .ok (x :: xs)).bind _) = _
  show (((eArgs fs ρ).bind fun xs => .ok ((d, Kd.sh) :: xs)).bind _) = _
  rw [bind_assoc']
  rfl
theorem pg_meth {Γ : Gam} {mx : Nat → Option Nat} {pl : Sem Bool} (T : MethOk X c Γ m mx fs.length) (tk : L2N.Takes X W) (ho : PE X o (tEv c L W f)) (ha : PA X (e :: es) (tAv c L W fs))
    (hst : starEach (e :: es) X.env = (false, eval e X.env) :: starEach es X.env) (hpl : (backTo pos (starEach es X.env)).any (·.1) = false)
    (ht : eval (.Call (.Attribute o m apos) (e :: es) [] pos) X.env = (do
      let ov ← eval o X.env
      standAt apos.atName
      let (f, first) ← holding [ov] (getMethod ov m pl)
      callWith pos f first (backTo pos (starEach (e :: es) X.env)) (backToKw pos (keywordEach [] X.env)))) : PE X (.Call (.Attribute o m apos) (e :: es) [] pos) (tEv c L W (eMeth Γ mx f fs)) := by
  refine ⟨fun pins s σ H Q I h => ?_⟩
  obtain ⟨F, ρ, R, h⟩ := of_tEv h
  obtain ⟨k, ds, kd, n, ef, em, es, h⟩ := meth_core h
  obtain ⟨fa, fd, ps, kk, t1, t2, t3, t4, t5, t6⟩ := T.ok k n em
  refine (pe_methS (E := WE W) (pl := pl) ho t3 t4 t1 t2 t5 (fun σ => L2N.passAt tk σ) ha hst hpl ht).run pins s σ H Q I ?_
  rw [meth_args] at h
  refine ev_bind (g := fun _ => (eArgs fs ρ).bind _) R (by rw [ef]; exact h) fun d' k' x F1 H1 ef' e1 rd so R1 h1 => ?_
  rw [ef] at ef'
  cases ef'
  have rep := so es
  cases rep with
  | obj ho l r =>
    refine ⟨_, _, _, rfl, R1.sub.ins ho, zip_no t6, ?_⟩
    refine av_bind R1 h1 fun xs vs F2 H2 ea e2 ar R2 h2 => ?_
    have ar2 : ArgR c.θ F2 H2 ((.obj k ds, Kd.sh) :: xs) _ := .cons (rd.ext e2) (fun _ => (so es).mono e2.ff) ar
    obtain ⟨F3, _, s3, r3, hf⟩ := call_core R2.sub ar2 h2
    refine ⟨?_, F3, _, s3, r3, hf⟩
    rw [r3.length, List.length_map, List.length_cons, eArgs_length ea]
theorem pg_meth0 {Γ : Gam} {mx : Nat → Option Nat} {pl : Sem Bool} (T : MethOk X c Γ m mx 0) (tk : L2N.Takes X W) (ho : PE X o (tEv c L W f))
    (ht : eval (.Call (.Attribute o m apos) [] [] pos) X.env = (do
      let ov ← eval o X.env
      standAt apos.atName
      let (f, first) ← holding [ov] (getMethod ov m pl)
      callWith pos f first (backTo pos (starEach [] X.env)) (backToKw pos (keywordEach [] X.env)))) : PE X (.Call (.Attribute o m apos) [] [] pos) (tEv c L W (eMeth Γ mx f [])) := by
  refine ⟨fun pins s σ H Q I h => ?_⟩
  obtain ⟨F, ρ, R, h⟩ := of_tEv h
  obtain ⟨k, ds, kd, n, ef, em, es, h⟩ := meth_core h
  obtain ⟨fa, fd, ps, kk, t1, t2, t3, t4, t5, t6⟩ := T.ok k n em
  refine (pe_methS0 (E := WE W) (pl := pl) ho t3 t4 t1 t2 t5 (fun σ => L2N.passAt tk σ) ht).run pins s σ H Q I ?_
  refine ev_bind (g := fun _ => eCall Γ n [eC (.obj k ds)] ρ) R (by rw [ef]; exact h) fun d' k' x F1 H1 ef' e1 rd so R1 h1 => ?_
  rw [ef] at ef'
  cases ef'
  have rep := so es
  cases rep with
  | obj ho l r =>
    refine ⟨_, _, _, rfl, R1.sub.ins ho, zip_no t6, ?_⟩
    have ar2 : ArgR c.θ F1 H1 [(.obj k ds, Kd.sh)] _ := .cons rd (fun _ => so es) .nil
    obtain ⟨F3, _, s3, r3, hf⟩ := call_core R1.sub ar2 h1
    exact ⟨rfl, F3, _, s3, r3, hf⟩
end
end G
namespace G
open PySem PySem.Spec L2
/-- J walks ds, wherever F goes on and the heap keeps H (st = false) -/
structure Walks (θ : Th) (st : Bool) (J : It) (F H : Hp) (ds : List D) : Prop where
  go : ∀ (F2 H2 : Hp) (i : Nat) (d : D), Same F F2 → Sub F2 H2 → (st = false → Same H H2) → ds[i]? = some d → J.go i H2 ∧ ∀ x H', J.yld i H2 x H' → ∃ F3, Ext F2 H2 F3 H' ∧ Rep θ F3 d x
  stop : ∀ (F2 H2 : Hp), Same F F2 → Sub F2 H2 → (st = false → Same H H2) → J.stop ds.length H2
def ResI (c : Cn) (W : WX) (σ : L2.St) (st : Bool) (F H : Hp) (R : It → Hp → Prop) : Out (List D) → Prop
  | .ok ds => ∀ J F' H', Ext F H F' H' → Walks c.θ st J F' H' ds → R J H'
  | .ex n fs => ∀ cls dd F' H', Ext F H F' H' → ExV c.θ n fs cls dd F' H' → W cls dd σ H'
  | .no => False
def tIv (c : Cn) (L : List Addr) (W : WX) (st : Bool) (s : IS) : TI := fun σ H R => ∃ F ρ, Rel c.θ c.F0 c.B L F H σ ρ ∧ ResI c W σ st F H R (s ρ)
section
variable {X : Cx} {c : Cn} {L : List Addr} {W : WX} {st : Bool} {f g : ES} {a b e tg iter : Expr} {pos p : Pos} {s : IS}
theorem ResI.mono {σ : L2.St} {F F1 H H1 : Hp} {R : It → Hp → Prop} {o : Out (List D)} (h : ResI c W σ st F H R o) (e : Ext F H F1 H1) : ResI c W σ st F1 H1 R o := by
  cases o with
  | ok b => exact fun J F' H' e' w => h J F' H' (e.trans e') w
  | ex n fs => exact fun cls dd F' H' e' hv => h cls dd F' H' (e.trans e') hv
  | no => exact h
theorem iv_bind {σ : L2.St} {ρ : Sl} {F H : Hp} {R : It → Hp → Prop} {k : D × Kd → Out (List D)} {P : V → Hp → Prop} (Rl : Rel c.θ c.F0 c.B L F H σ ρ) (h : ResI c W σ st F H R ((f ρ).bind k))
    (hp : ∀ d kd x F1 H1, f ρ = .ok (d, kd) → Ext F H F1 H1 → Rd1 c.θ F1 H1 d x → (kd.solid = true → Rep c.θ F1 d x) → Rel c.θ c.F0 c.B L F1 H1 σ ρ → ResI c W σ st F1 H1 R (k (d, kd)) → P x H1) : tEv c L W f σ H P := by
  refine ⟨F, ρ, Rl, ?_⟩
  cases hf : f ρ with
  | ok x =>
    obtain ⟨d, kd⟩ := x
    rw [hf] at h
    intro v F' H' e hv
    obtain ⟨F2, e2, _, rd, so⟩ := Val.use Rl e hv
    exact hp d kd v F2 H' hf e2 rd so (Rl.ext e2) (ResI.mono (show ResI c W σ st F H R (k (d, kd)) from h) e2)
  | ex n fs =>
    rw [hf] at h
    exact h
  | no =>
    rw [hf] at h
    exact h
theorem pi_ev {t : TI} (h : PI X tg iter t) (hi : ∀ (σ : L2.St) (H : Hp) (R : It → Hp → Prop), tIv c L W st s σ H R → t σ H R) : PI X tg iter (tIv c L W st s) := ⟨fun pins s' σ H R I hw => h.run pins s' σ H R I (hi σ H R hw)⟩
/-- a list that is read stays so -/
theorem keepL {θ : Th} {F H : Hp} {d : D} {k : Kd} {x : V} {ds : List D} (hd : d = .lst ds) (s : Sub F H) (rd : Rd1 θ F H d x) (so : k.solid = true → Rep θ F d x) (hs : (st && !k.solid) = false) :
    ∃ a xs, x = .ref a ∧ H a = some (.lst xs) ∧ RepL θ F ds xs ∧ ∀ (F2 H2 : Hp), Same F F2 → Sub F2 H2 → (st = false → Same H H2) → H2 a = some (.lst xs) := by
  subst hd
  by_cases q : k.solid = true
  · cases so q with
    | lst e r => exact ⟨_, _, rfl, s.lst e, r, fun F2 H2 h1 h2 _ => h2.lst (h1 _ _ e)⟩
  · have e : st = false := by
      cases st with
      | false => rfl
      | true => simp [q] at hs
    obtain ⟨a, xs, rfl, ha, r⟩ := rd.lst s
    exact ⟨a, xs, rfl, ha, r, fun F2 H2 _ _ h3 => h3 e _ _ ha⟩
theorem keepT {θ : Th} {F H : Hp} {x : V} {ds : List D} (s : Sub F H) (rd : Rd1 θ F H (.tup ds) x) :
    ∃ a xs, x = .ref a ∧ H a = some (.tup xs) ∧ RepL θ F ds xs ∧ ∀ (F2 H2 : Hp), Same F F2 → Sub F2 H2 → H2 a = some (.tup xs) := by
  rcases rd with rd | ⟨_, _, _, _, rd⟩
  · cases rd with
    | tup e r => exact ⟨_, _, rfl, s.tup e, r, fun F2 H2 h1 h2 => h2.tup (h1 _ _ e)⟩
  · cases rd
theorem RepL.getD {θ : Th} {F F2 : Hp} {ds : List D} {xs : List V} {i : Nat} {d : D} {x : V} (r : RepL θ F ds xs) (e : Same F F2) (h : ds[i]? = some d) (hx : xs[i]? = some x) : Rep θ F2 d x := by
  obtain ⟨v, h1, h2⟩ := r.get h
  rw [hx] at h1
  cases h1
  exact h2.mono e
theorem RepL.ix {θ : Th} {F : Hp} {ds : List D} {xs : List V} {i : Nat} {d : D} (r : RepL θ F ds xs) (h : ds[i]? = some d) : ∃ x, xs[i]? = some x := by
  obtain ⟨v, h1, _⟩ := r.get h
  exact ⟨v, h1⟩
theorem walk_l {θ : Th} {F H : Hp} {a : Addr} {ds : List D} {xs : List V} (r : RepL θ F ds xs) (k : ∀ (F2 H2 : Hp), Same F F2 → Sub F2 H2 → (st = false → Same H H2) → H2 a = some (.lst xs)) : Walks θ st (Itl θ.K a) F H ds where
  go := fun F2 H2 i d h1 h2 h3 hd => by
    have q := k F2 H2 h1 h2 h3
    obtain ⟨x, hx⟩ := r.ix hd
    refine ⟨⟨xs, x, .inl (.inl q), hx⟩, fun y H' hy => ?_⟩
    obtain ⟨rfl, hy⟩ := hy
    exact ⟨F2, Ext.refl h2, r.getD h1 hd (hy xs (.inl (.inl q)))⟩
  stop := fun F2 H2 h1 h2 h3 => ⟨xs, .inl (.inl (k F2 H2 h1 h2 h3)), by rw [r.length]; exact Nat.le_refl _⟩
theorem walk_t {θ : Th} {F H : Hp} {a : Addr} {ds : List D} {xs : List V} (r : RepL θ F ds xs) (k : ∀ (F2 H2 : Hp), Same F F2 → Sub F2 H2 → H2 a = some (.tup xs)) : Walks θ st (Itt θ.K a) F H ds where
  go := fun F2 H2 i d h1 h2 h3 hd => by
    have q := k F2 H2 h1 h2
    obtain ⟨x, hx⟩ := r.ix hd
    refine ⟨⟨xs, x, .inl (.inl q), hx⟩, fun y H' hy => ?_⟩
    obtain ⟨rfl, hy⟩ := hy
    exact ⟨F2, Ext.refl h2, r.getD h1 hd (hy xs (.inl (.inl q)))⟩
  stop := fun F2 H2 h1 h2 h3 => ⟨xs, .inl (.inl (k F2 H2 h1 h2)), by rw [r.length]; exact Nat.le_refl _⟩
theorem walk_s {θ : Th} {F H : Hp} (z : Str) : Walks θ st (Its z) F H (z.cps.toList.map fun c => D.str ⟨#[c]⟩) where
  go := fun F2 H2 i d h1 h2 h3 hd => by
    rw [List.getElem?_map] at hd
    cases q : z.cps.toList[i]? with
    | none => rw [q] at hd; cases hd
    | some w =>
      rw [q] at hd
      cases hd
      have q' : z.cps[i]? = some w := by simpa using q
      refine ⟨(Array.getElem?_eq_some_iff.mp q').1, fun y H' hy => ?_⟩
      obtain ⟨rfl, w', hw, rfl⟩ := hy
      rw [q'] at hw
      cases hw
      exact ⟨F2, Ext.refl h2, .str _⟩
  stop := fun F2 H2 h1 h2 h3 => by
    show z.cps.size ≤ _
    simp
/-- a row is walked -/
theorem gi_list (hK : X.K = c.θ.K) (ha : PE X iter (tEv c L W f)) : PI X tg iter (tIv c L W st (itE st f)) := by
  refine ⟨fun pins s' σ H R I hw => ?_⟩
  obtain ⟨F, ρ, Rl, h⟩ := hw
  have txt : (∀ d k, f ρ = .ok (d, k) → ∃ z, d = .str z) → wpAny (model X.prog X.w) X.A (eval iter X.env) (fun v s1 => wpAny (model X.prog X.w) X.A (pyIter v) (PIE X pins σ tg R) X.xe s1) X.xe s' := fun hd => by
    refine (pi_str ha).run pins s' σ H R I ?_
    refine iv_bind Rl h fun d k x F1 H1 ef e1 rd so R1 h1 => ?_
    obtain ⟨z, rfl⟩ := hd d k ef
    replace h1 : ResI c W σ st F1 H1 R (if (st && !k.solid) = true then .no else .ok _) := h1
    by_cases q : (st && !k.solid) = true
    · rw [if_pos q] at h1; exact h1.elim
    · rw [if_neg q] at h1
      exact ⟨z, rd.str, h1 _ F1 H1 (Ext.refl R1.sub) (walk_s z)⟩
  have tup : (∀ d k, f ρ = .ok (d, k) → ∃ z, d = .tup z) → wpAny (model X.prog X.w) X.A (eval iter X.env) (fun v s1 => wpAny (model X.prog X.w) X.A (pyIter v) (PIE X pins σ tg R) X.xe s1) X.xe s' := fun hd => by
    refine (pi_tup ha).run pins s' σ H R I ?_
    refine iv_bind Rl h fun d k x F1 H1 ef e1 rd so R1 h1 => ?_
    obtain ⟨z, rfl⟩ := hd d k ef
    replace h1 : ResI c W σ st F1 H1 R (if (st && !k.solid) = true then .no else .ok _) := h1
    by_cases q : (st && !k.solid) = true
    · rw [if_pos q] at h1; exact h1.elim
    · rw [if_neg q] at h1
      obtain ⟨a, xs, rfl, ha, r, kp⟩ := keepT R1.sub rd
      rw [hK]
      exact ⟨a, rfl, ⟨xs, .inl (.inl ha)⟩, h1 _ F1 H1 (Ext.refl R1.sub) (walk_t r kp)⟩
  have lst : (∀ d k, f ρ = .ok (d, k) → (∀ z, d ≠ .str z) ∧ ∀ z, d ≠ .tup z) → wpAny (model X.prog X.w) X.A (eval iter X.env) (fun v s1 => wpAny (model X.prog X.w) X.A (pyIter v) (PIE X pins σ tg R) X.xe s1) X.xe s' := fun hd => by
    refine (pi_list ha).run pins s' σ H R I ?_
    refine iv_bind Rl h fun d k x F1 H1 ef e1 rd so R1 h1 => ?_
    obtain ⟨n1, n2⟩ := hd d k ef
    clear ef
    replace h1 : ResI c W σ st F1 H1 R (if (st && !k.solid) = true then .no else match itemsOf d with
      | some ds => .ok ds
      | none => .no) := h1
    by_cases q : (st && !k.solid) = true
    · rw [if_pos q] at h1; exact h1.elim
    rw [if_neg q] at h1
    have q' : (st && !k.solid) = false := by simpa using q
    rw [hK]
    cases d <;> first | exact absurd rfl (n1 _) | exact absurd rfl (n2 _) | exact (show False from h1).elim | skip
    · rename_i ds
      obtain ⟨a, xs, rfl, ha, r, kp⟩ := keepL (st := st) rfl R1.sub rd so q'
      exact ⟨a, rfl, ⟨xs, .inl (.inl ha)⟩, h1 _ F1 H1 (Ext.refl R1.sub) (walk_l r kp)⟩
    · rename_i ns
      rcases rd with rd | ⟨_, _, _, _, rd⟩
      · cases rd with
        | @frl a _ sq =>
          refine ⟨a, rfl, ⟨_, R1.sub.seq sq⟩, h1 _ F1 H1 (Ext.refl R1.sub) ⟨fun F2 H2 i d e1 e2 e3 hd => ?_, fun F2 H2 e1 e2 e3 => ⟨_, e2.seq (e1.seq sq), by simp⟩⟩⟩
          have q2 := e2.seq (e1.seq sq)
          rw [List.getElem?_map] at hd
          cases z : ns[i]? with
          | none => rw [z] at hd; cases hd
          | some w =>
            rw [z] at hd
            cases hd
            have hw : (ns.map V.int)[i]? = some (.int w) := by rw [List.getElem?_map, z]; rfl
            refine ⟨⟨_, _, q2, hw⟩, fun y H' hy => ?_⟩
            obtain ⟨rfl, hy⟩ := hy
            have := hy _ q2
            rw [hw] at this
            cases this
            exact ⟨F2, Ext.refl e2, .int w⟩
      · cases rd
  cases hf : f ρ with
  | ok x =>
    obtain ⟨d, k⟩ := x
    by_cases q : ∃ z, d = .str z
    · exact txt fun d' k' e => by rw [hf] at e; cases e; exact q
    · by_cases q2 : ∃ z, d = .tup z
      · exact tup fun d' k' e => by rw [hf] at e; cases e; exact q2
      · exact lst fun d' k' e => by rw [hf] at e; cases e; exact ⟨fun z e => q ⟨z, e⟩, fun z e => q2 ⟨z, e⟩⟩
  | ex n fs => exact lst fun d' k' e => by rw [hf] at e; cases e
  | no => exact lst fun d' k' e => by rw [hf] at e; cases e
theorem in62_ok {i : Int} (h : in62 i = true) : -(2 ^ 62) ≤ i ∧ i < 2 ^ 62 := by
  have h2 : i.natAbs < 4611686018427387904 := of_decide_eq_true h
  omega
theorem walk_r {θ : Th} {F H : Hp} (lo hi : Int) : Walks θ st (Itr lo (hi - lo).toNat) F H (rngD lo hi) where
  go := fun F2 H2 i d h1 h2 h3 hd => by
    unfold rngD at hd
    rw [List.getElem?_map] at hd
    have hi' : i < (hi - lo).toNat := by
      cases q : (List.range (hi - lo).toNat)[i]? with
      | none => rw [q] at hd; cases hd
      | some w =>
        have := (List.getElem?_eq_some_iff.mp q).1
        simpa using this
    rw [List.getElem?_range hi'] at hd
    cases hd
    refine ⟨hi', fun y H' hy => ?_⟩
    obtain ⟨rfl, rfl⟩ := hy
    exact ⟨F2, Ext.refl h2, .int _⟩
  stop := fun F2 H2 h1 h2 h3 => by
    show _ ≤ _
    unfold rngD
    simp
theorem gi_r1 (hg : Gl X "range") (hm : X.mg "range" = none) (ha : PE X a (tEv c L W f)) (hs : starEach [a] X.env = (false, eval a X.env) :: starEach [] X.env) : PI X tg (.Call (.Name "range" p) [a] [] pos) (tIv c L W st (itR1 f)) := by
  refine pi_ev (pi_range1 hg hm (pa_cons ha pa_nil hs) hs) fun σ H R h => ?_
  obtain ⟨F, ρ, Rl, h⟩ := h
  refine iv_bind Rl h fun d k x F1 H1 ef e1 rd so R1 h1 => ?_
  clear ef so h
  cases d <;> first | exact (show False from h1).elim | skip
  rename_i j
  cases rd.int
  replace h1 : ResI c W σ st F1 H1 R (if in62 j = true then .ok (rngD 0 j) else .no) := h1
  by_cases q : in62 j = true
  · rw [if_pos q] at h1
    obtain ⟨q1, q2⟩ := in62_ok q
    have w := walk_r (st := st) (θ := c.θ) (F := F1) (H := H1) 0 j
    rw [Int.sub_zero] at w
    exact ⟨j, rfl, q1, q2, h1 _ F1 H1 (Ext.refl R1.sub) w⟩
  · rw [if_neg q] at h1; exact h1.elim
theorem gi_r2 (hg : Gl X "range") (hm : X.mg "range" = none) (ha : PE X a (tEv c L W f)) (hb : PE X b (tEv c L W g)) (hs : starEach [a, b] X.env = (false, eval a X.env) :: starEach [b] X.env) (hs2 : starEach [b] X.env = (false, eval b X.env) :: starEach [] X.env) : PI X tg (.Call (.Name "range" p) [a, b] [] pos) (tIv c L W st (itR2 f g)) := by
  refine pi_ev (pi_range2 hg hm (pa_cons ha (pa_cons hb pa_nil hs2) hs) (by rw [hs, hs2]; rfl) hs2) fun σ H R h => ?_
  obtain ⟨F, ρ, Rl, h⟩ := h
  refine iv_bind Rl h fun d k x F1 H1 ef e1 rd so R1 h1 => ?_
  refine iv_bind R1 h1 fun d2 k2 y F2 H2 ef2 e2 rd2 so2 R2 h2 => ?_
  clear ef ef2 so so2 h h1
  cases d <;> cases d2 <;> first | exact (show False from h2).elim | skip
  rename_i i j
  cases rd.int; cases rd2.int
  replace h2 : ResI c W σ st F2 H2 R (if (in62 i && in62 j) = true then .ok (rngD i j) else .no) := h2
  by_cases q : (in62 i && in62 j) = true
  · rw [if_pos q] at h2
    obtain ⟨q1, q2⟩ := Bool.and_eq_true_iff.mp q
    obtain ⟨z1, z2⟩ := in62_ok q1
    obtain ⟨z3, z4⟩ := in62_ok q2
    exact ⟨i, j, rfl, ⟨z1, z2, z3, z4⟩, h2 _ F2 H2 (Ext.refl R2.sub) (walk_r i j)⟩
  · rw [if_neg q] at h2; exact h2.elim
end
end G
namespace G
open PySem PySem.Spec L2
section
variable {X : Cx} {c : Cn} {L : List Addr} {W : WX} {st : Bool} {f g : ES} {a b e tg iter : Expr} {pos p : Pos} {s : IS}
theorem enumD_get : ∀ {xs : List D} {n i : Nat} {d : D}, (enumD n xs)[i]? = some d → ∃ x, xs[i]? = some x ∧ d = .tup [.int ((n + i : Nat) : Int), x]
  | [], _, _, _, h => by simp [enumD] at h
  | x :: xs, n, 0, d, h => by
    simp [enumD] at h
    exact ⟨x, rfl, h.symm⟩
  | x :: xs, n, i + 1, d, h => by
    obtain ⟨u, h1, h3⟩ := enumD_get (xs := xs) (n := n + 1) (i := i) (d := d) (by simpa [enumD] using h)
    refine ⟨u, by simpa using h1, ?_⟩
    rw [h3, show n + 1 + i = n + (i + 1) from by omega]
theorem enumD_len : ∀ (xs : List D) (n : Nat), (enumD n xs).length = xs.length
  | [], _ => rfl
  | x :: xs, n => by simp only [enumD, List.length_cons, enumD_len xs]
/-- a tuple that the walk has just made -/
theorem new_tup {θ : Th} {F H : Hp} {ds : List D} {xs : List V} {T : Addr} (s : Sub F H) (n : H T = none) (r : RepL θ F ds xs) : ∃ F3, Ext F H F3 (upd H T (.tup xs)) ∧ Rep θ F3 (.tup ds) (.ref T) := by
  have nf := s.free n
  exact ⟨upd F T (.tup xs), Ext.freeze (s.lay n) upd_same nf H (Same.lay n) n F (Ext.lay s n), .tup upd_same (r.mono (Same.lay nf))⟩
theorem gi_enum {e1 : Expr} {elts : List Expr} {kk : Nat} {tpos : Pos} (hK : X.K = c.θ.K) (hg : Gl X "enumerate") (hm : X.mg "enumerate" = none) (ha : PE X e1 (tEv c L W f)) (hs : starEach [e1] X.env = (false, eval e1 X.env) :: starEach [] X.env) :
    PI X (.Tuple elts kk tpos) (.Call (.Name "enumerate" p) [e1] [] pos) (tIv c L W st (itEnum st f)) := by
  refine pi_ev (pi_enum hg hm (pa_cons ha pa_nil hs) hs) fun σ H R h => ?_
  obtain ⟨F, ρ, Rl, h⟩ := h
  refine iv_bind Rl h fun d k x F2 H2 ef x1 rd so R2 h2 => ?_
  clear ef h
  replace h2 : ResI c W σ st F2 H2 R (if (st && !k.solid) = true then .no else match (generalizing := false) d with
    | .lst xs => .ok (enumD 0 xs)
    | _ => .no) := h2
  by_cases q : (st && !k.solid) = true
  · rw [if_pos q] at h2; exact h2.elim
  rw [if_neg q] at h2
  rw [hK]
  cases d <;> first | exact (show False from h2).elim | skip
  rename_i ds
  obtain ⟨a, xs, rfl, ha, r, kp⟩ := keepL (st := st) rfl R2.sub rd so (by simpa using q)
  refine ⟨a, xs, rfl, .inl (.inl ha), h2 _ F2 H2 (Ext.refl R2.sub) ⟨fun F3 H3 i d e1 e2 e3 hd => ?_, fun F3 H3 e1 e2 e3 => ⟨xs, .inl (.inl (kp F3 H3 e1 e2 e3)), ?_⟩⟩⟩
  · obtain ⟨u, h3, rfl⟩ := enumD_get hd
    obtain ⟨x, hx⟩ := r.ix h3
    have z1 : SqL c.θ.K H3 a xs := .inl (.inl (kp F3 H3 e1 e2 e3))
    refine ⟨⟨xs, x, z1, hx⟩, fun w H' hw => ?_⟩
    obtain ⟨T, x', rfl, hT, rfl, h5⟩ := hw
    rw [Nat.zero_add]
    exact new_tup e2 hT (.cons (.int _) (.cons (r.getD e1 h3 (h5 xs z1)) .nil))
  · rw [enumD_len, r.length]
    exact Nat.le_refl _
/-- a slot changes; what it then holds is said; the others stay -/
theorem Rel.put {θ : Th} {F0 B F F' H H' : Hp} {σ : L2.St} {ρ : Sl} {i : Nat} {sl : Slot} {v : V} (R : Rel θ F0 B L F H σ ρ) (s : Sub F' H') (kp : ∀ a u, B a = some u → H' a = some u ∨ (a ∈ L ∧ IsDict u ∧ ∃ o, H' a = some (.frz o u))) (ff : Same F F') (fn : ∀ a u, F' a = some u → F0 a = some u ∨ B a = none ∨ ∃ xs, u = .tup xs)
    (oth : ∀ (j : Nat) (a : Addr) (o : HO), j ≠ i → ((∃ d, ρ[j]? = some (.ow d)) ∨ ∃ k ds, ρ[j]? = some (.me k ds)) → σ[j]? = some (some (.ref a)) → H a = some o → F a = none → H' a = some o ∧ F' a = none)
    (va : ∀ d, sl = .va d → Rep θ F' d v)
    (ow : ∀ d, sl = .ow d → notObj d = true ∧ ∃ a o, v = .ref a ∧ H' a = some o ∧ F' a = none ∧ B a = none ∧ Root θ F' d o ∧ ∀ (j : Nat), j ≠ i → ((∃ d, ρ[j]? = some (.ow d)) ∨ ∃ k ds, ρ[j]? = some (.me k ds)) → σ[j]? ≠ some (some (.ref a)))
    (me : ∀ k ds, sl = .me k ds → (∃ a o, v = .ref a ∧ H' a = some o ∧ F' a = none ∧ B a = none ∧ Root θ (onlyN F' B) (.obj k ds) o ∧ a ∈ L ∧ ∀ (j : Nat), j ≠ i → (∃ d, ρ[j]? = some (.ow d)) → σ[j]? ≠ some (some (.ref a))) ∧ ∀ (j k' : Nat) (ds' : List D), j ≠ i → ρ[j]? ≠ some (.me k' ds'))
    (pvk : ∀ Z, PvAll θ B F H σ ρ Z → ∀ (j : Nat) (k : Sh) (d : D), j ≠ i → ρ[j]? = some (.pv k d) → ∀ b ∈ Z j, H' b = H b ∧ F' b = F b ∧ (((∃ d, sl = .ow d) ∨ ∃ k ds, sl = .me k ds) → v ≠ .ref b))
    (tp : ∀ b xs, H b = some (.tup xs) → H' b = some (.tup xs) := by exact fun _ _ h => h) (nxc : sl ≠ .xc := by exact fun h => by cases h) (npv : ∀ k d, sl ≠ .pv k d := by exact fun _ _ h => by cases h) :
    Rel θ F0 B L F' H' (σ.set i (some v)) (ρ.set i sl) := by
  have atσ : i < ρ.length → (σ.set i (some v))[i]? = some (some v) := fun hi => List.getElem?_set_self (by rw [R.len]; exact hi)
  have at_ : ∀ {j : Nat} {x : Slot}, (ρ.set i sl)[j]? = some x → (j = i ∧ x = sl ∧ i < ρ.length) ∨ (j ≠ i ∧ ρ[j]? = some x) := fun {j x} h => by
    by_cases q : i = j
    · subst q
      have hi : i < ρ.length := by
        have := (List.getElem?_eq_some_iff.mp h).1
        simpa using this
      rw [List.getElem?_set_self hi] at h
      exact .inl ⟨rfl, (Option.some.inj h).symm, hi⟩
    · rw [List.getElem?_set_ne q] at h
      exact .inr ⟨fun e => q e.symm, h⟩
  have ne : ∀ {j : Nat}, j ≠ i → (σ.set i (some v))[j]? = σ[j]? := fun {j} h => List.getElem?_set_ne fun e => h e.symm
  refine ⟨s, kp, R.f0.trans ff, fn, by simpa using R.len, fun j d h => ?_, fun j d h => ?_, fun j d h => ?_, fun j k d e a hn h1 h2 h3 => ?_, fun j k ds h => ?_, fun j h => ?_, ?_⟩
  rotate_right
  · obtain ⟨Z, hZ⟩ := R.pv
    have own : ∀ {j : Nat}, Owner (ρ.set i sl) j → (j = i ∧ ((∃ d, sl = .ow d) ∨ ∃ k ds, sl = .me k ds) ∧ i < ρ.length) ∨ (j ≠ i ∧ Owner ρ j) := fun {j} ho => by
      rcases ho with ⟨d, hd⟩ | ⟨k, ds, hd⟩
      · rcases at_ hd with ⟨rfl, e, hi⟩ | ⟨q, h⟩
        · exact .inl ⟨rfl, .inl ⟨d, e.symm⟩, hi⟩
        · exact .inr ⟨q, .inl ⟨d, h⟩⟩
      · rcases at_ hd with ⟨rfl, e, hi⟩ | ⟨q, h⟩
        · exact .inl ⟨rfl, .inr ⟨k, ds, e.symm⟩, hi⟩
        · exact .inr ⟨q, .inr ⟨k, ds, h⟩⟩
    refine ⟨Z, hZ.step ff tp (fun j k d h => ?_) fun j k d l b h ho hs => ?_⟩
    · rcases at_ h with ⟨rfl, e, hi⟩ | ⟨q, h⟩
      · exact absurd e.symm (npv k d)
      · refine ⟨h, ne q, fun b hb => ?_⟩
        obtain ⟨z1, z2, _⟩ := pvk Z hZ j k d q h b hb
        exact ⟨z1, by rw [z2]; exact ((hZ j k d h).2.2.1 b hb).1⟩
    · rcases at_ h with ⟨rfl, e, hi⟩ | ⟨q, g⟩
      · exact absurd e.symm (npv k d)
      · rcases own ho with ⟨rfl, os, hi⟩ | ⟨ql, ho⟩
        · rw [atσ hi] at hs
          have ev : v = .ref b := Option.some.inj (Option.some.inj hs)
          intro hb
          exact (pvk Z hZ j k d q g b hb).2.2 os ev
        · rw [ne ql] at hs
          exact (hZ j k d g).2.2.2.1 l b ho hs
  rotate_right
  · rcases at_ h with ⟨rfl, e, hi⟩ | ⟨q, h⟩
    · exact absurd e.symm nxc
    · rw [ne q]
      exact R.xc j h
  · rcases at_ h with ⟨rfl, e, hi⟩ | ⟨q, h⟩
    · exact ⟨v, atσ hi, va d e.symm⟩
    · rw [ne q]
      obtain ⟨w, h1, h2⟩ := R.va j d h
      exact ⟨w, h1, h2.mono ff⟩
  · rcases at_ h with ⟨rfl, e, hi⟩ | ⟨q, h⟩
    · obtain ⟨_, a, o, rfl, h1, h2, h3, h4, _⟩ := ow d e.symm
      exact ⟨a, o, atσ hi, h1, h2, h3, h4⟩
    · rw [ne q]
      obtain ⟨a, o, h1, h2, h3, h4, h5⟩ := R.ow j d h
      obtain ⟨z1, z2⟩ := oth j a o q (.inl ⟨d, h⟩) h1 h2 h3
      exact ⟨a, o, h1, z1, z2, h4, h5.mono ff⟩
  · rcases at_ h with ⟨rfl, e, hi⟩ | ⟨q, h⟩
    · exact (ow d e.symm).1
    · exact R.fu j d h
  · rcases at_ h1 with ⟨rfl, e1, hi⟩ | ⟨q1, g1⟩
    · rcases at_ h2 with ⟨rfl, e2, hi2⟩ | ⟨q2, g2⟩
      · exact absurd rfl hn
      · rw [atσ hi] at h3
        obtain ⟨_, a', o, ev, _, _, _, _, h6⟩ := ow d e1.symm
        subst ev
        cases h3
        rw [ne q2]
        exact h6 k q2 (.inl ⟨e, g2⟩)
    · rw [ne q1] at h3
      rcases at_ h2 with ⟨rfl, e2, hi2⟩ | ⟨q2, g2⟩
      · rw [atσ hi2]
        intro z
        obtain ⟨_, a', o, ev, _, _, _, _, h6⟩ := ow e e2.symm
        subst ev
        cases z
        exact h6 j q1 (.inl ⟨d, g1⟩) h3
      · rw [ne q2]
        exact R.dj j k d e a hn g1 g2 h3
  · rcases at_ h with ⟨rfl, e, hi⟩ | ⟨q, gm⟩
    · obtain ⟨⟨a, o, ev, h1, h2, h3, h4, hm, h5⟩, h6⟩ := me k ds e.symm
      subst ev
      refine ⟨⟨a, o, atσ hi, h1, h2, h3, h4, hm, fun l d hl => ?_⟩, fun l k' ds' hl z => ?_⟩
      · rcases at_ hl with ⟨rfl, e2, _⟩ | ⟨ql, hl⟩
        · rw [← e] at e2; cases e2
        · rw [ne ql]
          exact h5 l ql ⟨d, hl⟩
      · rcases at_ z with ⟨q, _, _⟩ | ⟨_, z⟩
        · exact hl q
        · exact h6 l k' ds' hl z
    · obtain ⟨⟨a, o, h1, h2, h3, h4, h5, hm, h6⟩, h7⟩ := R.me j k ds gm
      obtain ⟨z1, z2⟩ := oth j a o q (.inr ⟨k, ds, gm⟩) h1 h2 h3
      refine ⟨⟨a, o, by rw [ne q]; exact h1, z1, z2, h4, h5.mono (onlyN_mono ff fun _ z => z), hm, fun l d hl => ?_⟩, fun l k' ds' hl z => ?_⟩
      · rcases at_ hl with ⟨rfl, e2, hi⟩ | ⟨ql, hl⟩
        · rw [atσ hi]
          intro z
          obtain ⟨_, a', o', ev, _, _, _, _, h8⟩ := ow d e2.symm
          subst ev
          cases z
          exact h8 j q (.inr ⟨k, ds, gm⟩) h1
        · rw [ne ql]
          exact h6 l d hl
      · rcases at_ z with ⟨rfl, e2, hi⟩ | ⟨ql, z⟩
        · exact (me k' ds' e2.symm).2 j k ds q gm
        · exact h7 l k' ds' hl z
theorem Rel.set {θ : Th} {F0 B F H : Hp} {σ : L2.St} {ρ : Sl} {i : Nat} {d : D} {v : V} (R : Rel θ F0 B L F H σ ρ) (r : Rep θ F d v) : Rel θ F0 B L F H (σ.set i (some v)) (ρ.set i (.va d)) :=
  R.put R.sub R.kp (.refl _) R.fn (fun _ _ _ _ _ _ h n => ⟨h, n⟩) (fun e h => by cases h; exact r) (fun _ h => by cases h) (fun _ _ h => by cases h) fun _ _ _ _ _ _ _ _ _ => ⟨rfl, rfl, fun z => by rcases z with ⟨_, z⟩ | ⟨_, _, z⟩ <;> cases z⟩
/-- σ' differs from σ at the places is alone -/
def Agree (is : List Nat) (σ σ' : L2.St) : Prop := σ'.length = σ.length ∧ ∀ j : Nat, j ∉ is → σ'[j]? = σ[j]?
theorem Agree.refl (σ : L2.St) (is : List Nat) : Agree is σ σ := ⟨rfl, fun _ _ => rfl⟩
theorem Agree.trans {is js : List Nat} {σ σ1 σ2 : L2.St} (a : Agree is σ σ1) (b : Agree js σ1 σ2) : Agree (is ++ js) σ σ2 :=
  ⟨b.1.trans a.1, fun j h => (b.2 j fun z => h (List.mem_append_right _ z)).trans (a.2 j fun z => h (List.mem_append_left _ z))⟩
theorem Agree.set {σ : L2.St} {i : Nat} {v : Option V} : Agree [i] σ (σ.set i v) := ⟨by simp, fun j h => by
  rw [List.getElem?_set_ne]
  rintro rfl
  exact h (by simp)⟩
theorem wipe_get {σ : L2.St} : ∀ {vs : List Nat} {j : Nat}, (wipe σ vs)[j]? = if j ∈ vs then (σ[j]?).map (fun _ => none) else σ[j]?
  | [], j => by simp [wipe]
  | v :: vs, j => by
    unfold wipe
    by_cases q : v = j
    · subst q
      rw [if_pos List.mem_cons_self]
      have l := wipe_length σ vs
      by_cases hv : v < σ.length
      · rw [List.getElem?_set_self (by rw [l]; exact hv), List.getElem?_eq_getElem hv]
        rfl
      · rw [List.getElem?_eq_none (by rw [List.length_set, l]; omega), List.getElem?_eq_none (by omega)]
        rfl
    · rw [List.getElem?_set_ne q, wipe_get (vs := vs)]
      by_cases m : j ∈ vs
      · rw [if_pos m, if_pos (List.mem_cons_of_mem _ m)]
      · rw [if_neg m, if_neg (fun z => (List.mem_cons.mp z).elim (fun e => q e.symm) m)]
theorem Agree.wipe {is vs : List Nat} {σ σ' : L2.St} (a : Agree is σ σ') (h : ∀ i ∈ is, i ∈ vs) : L2.wipe σ' vs = L2.wipe σ vs := by
  refine List.ext_getElem? fun j => ?_
  rw [wipe_get, wipe_get]
  by_cases m : j ∈ vs
  · rw [if_pos m, if_pos m]
    have e : ∀ τ : L2.St, (τ[j]?).map (fun _ => (none : Option V)) = if j < τ.length then some none else none := fun τ => by
      by_cases q : j < τ.length
      · rw [if_pos q, List.getElem?_eq_getElem q]; rfl
      · rw [if_neg q, List.getElem?_eq_none (by omega)]; rfl
    rw [e, e, a.1]
  · rw [if_neg m, if_neg m]
    exact a.2 j fun z => m (h j z)
/-- a target's reading -/
def gTv (c : Cn) (L : List Addr) (t : Tg) : TG := fun v σ H Q => ∃ F ρ d ρ', Rel c.θ c.F0 c.B L F H σ ρ ∧ Rep c.θ F d v ∧ tgSet t d ρ = some ρ' ∧ ∀ σ', Rel c.θ c.F0 c.B L F H σ' ρ' → Agree (tgIdx t) σ σ' → Q σ' H
def gTvs (c : Cn) (L : List Addr) (ts : List Tg) : TGs := fun vs σ H Q => ∃ F ρ ds ρ', Rel c.θ c.F0 c.B L F H σ ρ ∧ RepL c.θ F ds vs ∧ tgSets ts ds ρ = some ρ' ∧ ∀ σ', Rel c.θ c.F0 c.B L F H σ' ρ' → Agree (tgIdxs ts) σ σ' → Q σ' H
theorem gg_name {i : Nat} {x : Str} (hN : X.N.Nodup) (hi : X.N[i]? = some x) (hx : Loc X.env.scope x) (hf : X.fn x = true ∨ X.env.scope.names.lookup x = some .local) : PG X (.Name x pos) (gTv c L (.one i)) := by
  refine ⟨fun pins s σ H v u Q I r h => (pg_name hN hi hx hf).run pins s σ H v u Q I r ?_⟩
  obtain ⟨F, ρ, d, ρ', R, rp, e, h⟩ := h
  replace e : (if i < ρ.length then some (ρ.set i (.va d)) else none) = some ρ' := e
  by_cases q : i < ρ.length
  · rw [if_pos q] at e
    cases e
    exact h _ (R.set rp) Agree.set
  · rw [if_neg q] at e
    cases e
theorem ggs_nil : PGs X [] (gTvs c L []) := by
  refine ⟨fun pins s σ H vs us Q I r h => pgs_nil.run pins s σ H vs us Q I r ?_⟩
  obtain ⟨F, ρ, ds, ρ', R, rp, e, h⟩ := h
  cases ds with
  | nil =>
    cases rp
    cases e
    exact ⟨rfl, h σ R (Agree.refl _ _)⟩
  | cons d ds => cases e
theorem ggs_cons {es : List Expr} {t : Tg} {ts : List Tg} (h1 : PG X e (gTv c L t)) (h2 : PGs X es (gTvs c L ts)) (hs : (assignEach (e :: es) X.env).map (·.2) = assign e X.env :: (assignEach es X.env).map (·.2)) : PGs X (e :: es) (gTvs c L (t :: ts)) := by
  refine ⟨fun pins s σ H vs us Q I r h => (pgs_cons h1 h2 hs).run pins s σ H vs us Q I r ?_⟩
  obtain ⟨F, ρ, ds, ρ', R, rp, e, h⟩ := h
  cases ds with
  | nil => cases e
  | cons d ds =>
    cases rp with
    | cons a b =>
      replace e : ((tgSet t d ρ).bind fun ρ' => tgSets ts ds ρ') = some ρ' := e
      cases q : tgSet t d ρ with
      | none => rw [q] at e; cases e
      | some ρ1 =>
        rw [q] at e
        exact ⟨_, _, rfl, F, ρ, d, ρ1, R, a, q, fun σ1 R1 a1 => ⟨F, ρ1, ds, ρ', R1, b, e, fun σ2 R2 a2 => h σ2 R2 (a1.trans a2)⟩⟩
theorem gg_tup {es : List Expr} {k n : Nat} {ts : List Tg} (hc : X.calm = true) (hK : X.K = c.θ.K) (h : PGs X es (gTvs c L ts)) (hn : (assignEach es X.env).length = n) (hst : (assignEach es X.env).findIdx? (·.1) = none) (hl : ts.length = n) : PG X (.Tuple es k pos) (gTv c L (.tup ts)) := by
  have len : ∀ {ts : List Tg} {ds : List D} {ρ ρ' : Sl}, tgSets ts ds ρ = some ρ' → ds.length = ts.length := by
    intro ts
    induction ts with
    | nil => intro ds ρ ρ' e; cases ds with
      | nil => rfl
      | cons d ds => cases e
    | cons t ts ih => intro ds ρ ρ' e; cases ds with
      | nil => cases e
      | cons d ds =>
        replace e : ((tgSet t d ρ).bind fun ρ' => tgSets ts ds ρ') = some ρ' := e
        cases q : tgSet t d ρ with
        | none => rw [q] at e; cases e
        | some ρ1 =>
          rw [q] at e
          rw [List.length_cons, List.length_cons, ih e]
  refine ⟨fun pins s σ H v u Q I r hw => ?_⟩
  obtain ⟨F, ρ, d, ρ', R, rp, e, hw⟩ := hw
  cases d <;> first | cases e | skip
  · rename_i ds
    cases rp with
    | lst hf rl =>
      refine (L2.pg_lst hc h hn hst).run pins s σ H _ u Q I r ⟨_, _, rfl, by rw [hK]; exact .inl (.inl (R.sub.lst hf)), ?_, F, ρ, ds, ρ', R, rl, e, hw⟩
      rw [rl.length, len e, hl]
  · rename_i ds
    cases rp with
    | tup hf rl =>
      refine (L2.pg_tup hc h hn hst).run pins s σ H _ u Q I r ⟨_, _, rfl, by rw [hK]; exact .inl (.inl (R.sub.tup hf)), ?_, F, ρ, ds, ρ', R, rl, e, hw⟩
      rw [rl.length, len e, hl]
theorem wipeS_length (ρ : Sl) : ∀ vs : List Nat, (wipeS ρ vs).length = ρ.length
  | [] => rfl
  | v :: vs => by unfold wipeS; rw [List.length_set, wipeS_length ρ vs]
theorem wipeS_some {ρ : Sl} {i : Nat} {x : Slot} (hx : x ≠ .un) : ∀ {vs : List Nat}, (wipeS ρ vs)[i]? = some x → ρ[i]? = some x ∧ i ∉ vs
  | [], h => ⟨h, by simp⟩
  | v :: vs, h => by
    unfold wipeS at h
    by_cases hi : v = i
    · subst hi
      by_cases hv : v < (wipeS ρ vs).length
      · rw [List.getElem?_set_self hv] at h
        exact absurd (Option.some.inj h).symm hx
      · rw [List.getElem?_eq_none (by rw [List.length_set]; omega)] at h; cases h
    · rw [List.getElem?_set_ne hi] at h
      obtain ⟨h1, h2⟩ := wipeS_some hx h
      exact ⟨h1, by simp only [List.mem_cons, not_or]; exact ⟨fun e => hi e.symm, h2⟩⟩
theorem Rel.wipe {θ : Th} {F0 B F H : Hp} {σ : L2.St} {ρ : Sl} (R : Rel θ F0 B L F H σ ρ) (vs : List Nat) : Rel θ F0 B L F H (L2.wipe σ vs) (wipeS ρ vs) := by
  have at_ : ∀ {i : Nat}, i ∉ vs → (L2.wipe σ vs)[i]? = σ[i]? := fun {i} h => by rw [wipe_get, if_neg h]
  refine ⟨R.sub, R.kp, R.f0, R.fn, by rw [wipe_length, wipeS_length]; exact R.len, fun i d h => ?_, fun i d h => ?_, fun i d h => R.fu i d (wipeS_some (by intro z; cases z) h).1, fun i j d e a hn h1 h2 h3 => ?_, fun i k ds h => ?_, fun i h => ?_, ?_⟩
  rotate_right
  · obtain ⟨Z, hZ⟩ := R.pv
    refine ⟨Z, hZ.step (.refl _) (fun _ _ h => h) (fun i k d h => ?_) fun i k d j b h ho hs => ?_⟩
    · obtain ⟨h1, h2⟩ := wipeS_some (by intro z; cases z) h
      exact ⟨h1, at_ h2, fun b hb => ⟨rfl, ((hZ i k d h1).2.2.1 b hb).1⟩⟩
    · obtain ⟨h1, h2⟩ := wipeS_some (by intro z; cases z) h
      rcases ho with ⟨d2, hd⟩ | ⟨k2, ds, hd⟩
      · obtain ⟨g1, g2⟩ := wipeS_some (by intro z; cases z) hd
        rw [at_ g2] at hs
        exact (hZ i k d h1).2.2.2.1 j b (.inl ⟨d2, g1⟩) hs
      · obtain ⟨g1, g2⟩ := wipeS_some (by intro z; cases z) hd
        rw [at_ g2] at hs
        exact (hZ i k d h1).2.2.2.1 j b (.inr ⟨k2, ds, g1⟩) hs
  rotate_right
  · obtain ⟨h1, h2⟩ := wipeS_some (by intro z; cases z) h
    rw [at_ h2]
    exact R.xc i h1
  · obtain ⟨h1, h2⟩ := wipeS_some (by intro z; cases z) h
    rw [at_ h2]
    exact R.va i d h1
  · obtain ⟨h1, h2⟩ := wipeS_some (by intro z; cases z) h
    rw [at_ h2]
    exact R.ow i d h1
  · obtain ⟨g1, g2⟩ := wipeS_some (by intro z; cases z) h1
    obtain ⟨g3, g4⟩ := wipeS_some (by intro z; cases z) h2
    rw [at_ g2] at h3
    rw [at_ g4]
    exact R.dj i j d e a hn g1 g3 h3
  · obtain ⟨g1, g2⟩ := wipeS_some (by intro z; cases z) h
    obtain ⟨⟨a, o, h1, h2, h3, h4, h5, hm, h6⟩, h7⟩ := R.me i k ds g1
    refine ⟨⟨a, o, by rw [at_ g2]; exact h1, h2, h3, h4, h5, hm, fun j d hj => ?_⟩, fun j k' ds' hj z => h7 j k' ds' hj (wipeS_some (by intro z; cases z) z).1⟩
    obtain ⟨g3, g4⟩ := wipeS_some (by intro z; cases z) hj
    rw [at_ g4]
    exact h6 j d g3
end
end G
namespace G
open PySem PySem.Spec L2
abbrev WF : WX := fun _ _ _ _ => False
theorem lcA_ex {tg : Tg} {t : TSm} {e : ES} {ρ : Sl} {n : Nat} {fs : List D} : ∀ {ds acc : List D}, lcA tg t e ρ acc ds ≠ .ex n fs
  | [], acc, h => by cases h
  | d :: ds, acc, h => by
    unfold lcA at h
    cases q : tgSet tg d ρ with
    | none => rw [q] at h; cases h
    | some ρ1 =>
      rw [q] at h
      dsimp only at h
      cases q2 : t ρ1 with
      | no => rw [q2] at h; cases h
      | ex => rw [q2] at h; cases h
      | ok b =>
        rw [q2] at h
        cases b with
        | false => exact lcA_ex h
        | true =>
          dsimp only at h
          cases q3 : e ρ1 with
          | no => rw [q3] at h; cases h
          | ex => rw [q3] at h; cases h
          | ok y =>
            rw [q3] at h
            dsimp only at h
            split at h
            · exact lcA_ex h
            · cases h
/-- a turn, read off its outcome -/
theorem lcA_turn {tg : Tg} {t : TSm} {e : ES} {ρ : Sl} {d : D} {ds acc r : List D} (h : lcA tg t e ρ acc (d :: ds) = .ok r) : ∃ ρ1 b, tgSet tg d ρ = some ρ1 ∧ t ρ1 = .ok b ∧
    ((b = false ∧ lcA tg t e ρ acc ds = .ok r) ∨ (b = true ∧ ∃ y k, e ρ1 = .ok (y, k) ∧ k.solid = true ∧ acc.length < SZ ∧ lcA tg t e ρ (acc ++ [y]) ds = .ok r)) := by
  unfold lcA at h
  cases q : tgSet tg d ρ with
  | none => rw [q] at h; cases h
  | some ρ1 =>
    rw [q] at h
    dsimp only at h
    cases q2 : t ρ1 with
    | no => rw [q2] at h; cases h
    | ex => rw [q2] at h; cases h
    | ok b =>
      rw [q2] at h
      refine ⟨ρ1, b, rfl, q2, ?_⟩
      cases b with
      | false => exact .inl ⟨rfl, h⟩
      | true =>
        dsimp only at h
        cases q3 : e ρ1 with
        | no => rw [q3] at h; cases h
        | ex => rw [q3] at h; cases h
        | ok y =>
          obtain ⟨y, k⟩ := y
          rw [q3] at h
          dsimp only at h
          split at h
          · rename_i z
            obtain ⟨z1, z2⟩ := Bool.and_eq_true_iff.mp z
            exact .inr ⟨rfl, y, k, rfl, z1, of_decide_eq_true z2, h⟩
          · cases h
theorem wipe_wipe (σ : L2.St) (vs : List Nat) : wipe (wipe σ vs) vs = wipe σ vs := by
  refine List.ext_getElem? fun j => ?_
  rw [wipe_get, wipe_get]
  by_cases m : j ∈ vs
  · rw [if_pos m, if_pos m, Option.map_map]
    rfl
  · rw [if_neg m, if_neg m]
theorem Ext.mut {F H F' H' : Hp} {a : Addr} {o : HO} (e : Ext F H F' H') (nf : F' a = none) (nh : H a = none) : Ext F H F' (upd H' a o) :=
  ⟨fun b u h => by rw [upd_ne (ne_of_none h nf)]; exact e.sub b u h, e.ff, fun b u h => by rw [upd_ne (ne_of_none h nh)]; exact e.hh b u h, e.nw⟩
theorem Ext.none {F H F' H' : Hp} {a : Addr} {o : HO} (e : Ext F H F' H') (nf : F a = none) (h : H a = some o) (nt : ∀ xs, o ≠ .tup xs := by intro _ z; cases z) : F' a = none := by
  cases q : F' a with
  | none => rfl
  | some u =>
    rcases e.nw a u q with z | z | ⟨xs, z⟩
    · rw [nf] at z; cases z
    · rw [h] at z; cases z
    · subst z
      have := Sub.tup0 e.sub q
      rw [e.hh _ _ h] at this
      exact absurd (Option.some.inj this) (nt xs)
section
variable {X : Cx} {c : Cn} {L : List Addr} {W : WX} {f g : ES} {a b e tg iter elt : Expr} {pos p : Pos} {s : IS} {t : Tg} {tst : TSm} {vs : List Nat}
theorem rd_lc (hv : ∀ i ∈ tgIdx t, i ∈ vs) {σ : L2.St} {H : Hp} {Q : VK} (h : tEv c L W (eLc s t tst f vs) σ H Q) : tLc (tIv c L W false s) (gTv c L t) (tTv c L WF tst) (tEv c L WF f) vs σ H Q := by
  obtain ⟨F, ρ, R, h⟩ := of_tEv h
  refine ⟨F, ρ, R, ?_⟩
  replace h : Res c W σ ρ F H Q ((s ρ).bind fun ds => (lcA t tst f (wipeS ρ vs) [] ds).bind fun r => .ok (.lst r, .fr)) := h
  cases q : s ρ with
  | no => rw [q] at h; exact h
  | ex n fs => rw [q] at h; exact h
  | ok ds =>
    rw [q] at h
    intro J F1 H1 e1 wk D hD
    rw [bind_ok] at h
    cases q2 : lcA t tst f (wipeS ρ vs) [] ds with
    | no => rw [q2] at h; exact h.elim
    | ex n fs => exact absurd q2 lcA_ex
    | ok r =>
      rw [q2] at h
      have h := Res.mono h e1
      refine ⟨fun i m H2 => m = ds.length - i ∧ i ≤ ds.length ∧ ∃ F2 acc ad, Ext F1 H1 F2 H2 ∧ H2 D = some (.lst acc) ∧ F2 D = none ∧ RepL c.θ F2 ad acc ∧ lcA t tst f (wipeS ρ vs) ad (ds.drop i) = .ok r,
        ⟨ds.length, rfl, Nat.zero_le _, F1, [], [], Ext.lay e1.sub hD, upd_same, e1.sub.free hD, .nil, q2⟩, ?_⟩
      rintro i m H2 ⟨rfl, hi, F2, acc, ad, e2, hacc, nf, rp, hl⟩
      by_cases lt : i < ds.length
      · have hd : ds[i]? = some ds[i] := List.getElem?_eq_getElem lt
        rw [List.drop_eq_getElem_cons lt] at hl
        obtain ⟨ρ1, b, t1, t2, t3⟩ := lcA_turn hl
        obtain ⟨g1, g2⟩ := wk.go F2 H2 i ds[i] e2.ff e2.sub (fun _ => e2.hh) hd
        refine .inr ⟨g1, fun H' => ∃ F2 acc ad, Ext F1 H1 F2 H' ∧ H' D = some (.lst acc) ∧ F2 D = none ∧ RepL c.θ F2 ad acc ∧ lcA t tst f (wipeS ρ vs) ad (ds.drop (i + 1)) = .ok r, fun H' nx => ⟨ds.length - (i + 1), by omega, rfl, lt, nx⟩, fun x H' hy => ?_⟩
        obtain ⟨F3, e3, r3⟩ := g2 x H' hy
        refine ⟨F3, wipeS ρ vs, ds[i], ρ1, ((R.wipe vs).ext ((e1.trans e2).trans e3)), r3, t1, fun σ2 R2 ag => ⟨(ag.wipe hv).trans (wipe_wipe σ vs), ?_⟩⟩
        refine tTv_of R2 ?_
        rw [t2]
        intro F4 H4 e4
        have e34 := e3.trans e4
        have nf4 : F4 D = none := e34.none nf hacc
        have acc4 : H4 D = some (.lst acc) := e34.hh _ _ hacc
        rcases t3 with ⟨rfl, t3⟩ | ⟨rfl, y, k, t4, t5, t6, t7⟩
        · exact iteF ⟨F4, acc, ad, e2.trans e34, acc4, nf4, rp.mono e34.ff, t3⟩
        · refine iteT (tEv_of (R2.ext e4) ?_)
          rw [t4]
          intro v F5 H5 e5 hv5
          obtain ⟨F6, e6, _, _, so⟩ := Val.use (R2.ext e4) e5 hv5
          refine ⟨acc, e6.hh _ _ acc4, ?_, F6, acc ++ [v], ad ++ [y], ((e2.trans e34).trans e6).mut (e6.none nf4 acc4) hD, upd_same, e6.none nf4 acc4, ((rp.mono e34.ff).mono e6.ff).append (.cons (so t5) .nil), t7⟩
          rw [rp.length]
          exact Nat.lt_of_lt_of_le t6 SZ_le
      · have ei : i = ds.length := by omega
        subst ei
        rw [List.drop_length] at hl
        cases hl
        exact .inl ⟨wk.stop F2 H2 e2.ff e2.sub (fun _ => e2.hh), h _ F2 H2 e2 ⟨trivial, D, _, rfl, hD, hacc, nf, .lst rp, Nw.of rfl⟩⟩
theorem pg_lc {ifs : List Expr} {scope : Scope} {own : List (Str × Nat)} (hv : ∀ i ∈ tgIdx t, i ∈ own.map (·.2)) (hc : X.calm = true) (hN : X.N.Nodup) (hi : PI X tg iter (tIv c L W false s)) (ok : BlkOk X.N X.env.scope scope own)
    (hg : ∀ (s : Shared) (H : Hp) (C : Addr) (cl : List (Str × Addr)) (fp : List Addr), PG (X.blk s H scope (compEnvC scope cl C X.env) fp) tg (gTv c L t)) (ht : ∀ (s : Shared) (H : Hp) (C : Addr) (cl : List (Str × Addr)) (fp : List Addr), PTs (X.blk s H scope (compEnvC scope cl C X.env) fp) ifs (tTv c L WF tst))
    (he : ∀ (s : Shared) (H : Hp) (C : Addr) (cl : List (Str × Addr)) (fp : List Addr), PE (X.blk s H scope (compEnvC scope cl C X.env) fp) elt (tEv c L WF f)) (hs : ∀ x, foldedSetIterable iter X.env x = pure x) : PE X (.ListComp elt [⟨tg, iter, ifs, 0⟩] scope pos) (tEv c L W (eLc s t tst f (own.map (·.2)))) :=
  pe_ev (pe_lc hc hN hi ok hg ht he hs) fun σ H Q h => rd_lc hv h
theorem pgts_nil : PTs X [] (tTv c L W tYes) := ⟨fun pins s σ H Q I h => pts_nil.run pins s σ H Q I (by
  obtain ⟨F, ρ, R, h⟩ := h
  exact h F H (Ext.refl R.sub))⟩
theorem pgts_one (h : PT X e (tTv c L W tst)) : PTs X [e] (tTv c L W tst) := pts_one h
end
end G
namespace G
open PySem PySem.Spec L2
theorem vis_of {sc : Scope} {x : Str} (h : Loc sc x) : Vis sc x := h.elim .inl fun z => .inr (.inl z)
/-- how a value is given back: B the heap at the entry -/
def RtV (θ : Th) (B F' H' : Hp) (d : D) (k : Kd) (v : V) : Prop := match k with
  | .sh => Rep θ F' d v
  | .tr n => TrV θ F' B H' n d v
  | _ => FrV θ F' B H' d v
/-- what is asked of a statement's outcome -/
def ResS (c : Cn) (L : List Addr) (W : WX) (F : Hp) (E : Ends) : Fl → Prop
  | .nx ρ' => ∀ σ' F' H', Same F F' → Rel c.θ c.F0 c.B L F' H' σ' ρ' → E.nx σ' H'
  | .bk ρ' => ∀ σ' F' H', Same F F' → Rel c.θ c.F0 c.B L F' H' σ' ρ' → E.bk σ' H'
  | .ct ρ' => ∀ σ' F' H', Same F F' → Rel c.θ c.F0 c.B L F' H' σ' ρ' → E.ct σ' H'
  | .rt d k ρ' => ∀ v σ' F' H', Same F F' → Rel c.θ c.F0 c.B L F' H' σ' ρ' → RtV c.θ c.B F' H' d k v → E.rt v H'
  | .ex n fs ρ' => ∀ cls dd σ' F' H', Same F F' → Rel c.θ c.F0 c.B L F' H' σ' ρ' → ExV c.θ n fs cls dd F' H' → W cls dd σ' H'
  | .no => False
def tSv (c : Cn) (L : List Addr) (W : WX) (f : SS) : TS := fun E σ H => ∃ F ρ, Rel c.θ c.F0 c.B L F H σ ρ ∧ ResS c L W F E (f ρ)
section
variable {X : Cx} {c : Cn} {L : List Addr} {W : WX} {f g : ES} {a b e tg iter : Expr} {pos p : Pos} {s : IS} {t : Tg} {tst : TSm} {k : D × Kd → Fl} {F F1 H H1 : Hp} {σ : L2.St} {ρ : Sl} {En : Ends}
theorem ResS.ite {p : Prop} [Decidable p] {o : Fl} (h : ResS c L W F En (if p then o else .no)) : p ∧ ResS c L W F En o := by
  by_cases q : p
  · rw [if_pos q] at h
    exact ⟨q, h⟩
  · rw [if_neg q] at h
    exact h.elim
theorem ResS.mono {o : Fl} (h : ResS c L W F En o) (e : Same F F1) : ResS c L W F1 En o := by
  cases o with
  | nx ρ' => exact fun σ' F' H' e' => h σ' F' H' (e.trans e')
  | bk ρ' => exact fun σ' F' H' e' => h σ' F' H' (e.trans e')
  | ct ρ' => exact fun σ' F' H' e' => h σ' F' H' (e.trans e')
  | rt d k ρ1 => exact fun v σ' F' H' e' => h v σ' F' H' (e.trans e')
  | ex n fs ρ' => exact fun cls dd σ' F' H' e' => h cls dd σ' F' H' (e.trans e')
  | no => exact h
theorem Rel.same (R : Rel c.θ c.F0 c.B L F H σ ρ) : Same F F := Same.refl F
/-- an expression, then a statement's end -/
theorem sv_with {P : V → Hp → Prop} (R : Rel c.θ c.F0 c.B L F H σ ρ) (h : ResS c L W F En (sWith (f ρ) ρ k))
    (hp : ∀ d kd x F1 H1, f ρ = .ok (d, kd) → Ext F H F1 H1 → Val c.θ F1 H H1 σ ρ d kd x → Rel c.θ c.F0 c.B L F1 H1 σ ρ → ResS c L W F1 En (k (d, kd)) → P x H1) : tEv c L W f σ H P := by
  refine ⟨F, ρ, R, ?_⟩
  cases hf : f ρ with
  | ok x =>
    obtain ⟨d, kd⟩ := x
    rw [hf] at h
    exact fun v F' H' e hv => hp d kd v F' H' hf e hv (R.ext e) (ResS.mono (show ResS c L W F En (k (d, kd)) from h) e.ff)
  | ex n fs =>
    rw [hf] at h
    exact fun cls dd F' H' e hv => h cls dd σ F' H' e.ff (R.ext e) hv
  | no =>
    rw [hf] at h
    exact h
/-- .. frozen where it is fresh -/
theorem Val.sol {d : D} {kd : Kd} {x : V} (R : Rel c.θ c.F0 c.B L F H σ ρ) (e : Ext F H F1 H1) (h : Val c.θ F1 H H1 σ ρ d kd x) (hk : kd.solid = true) : ∃ F2, Ext F H F2 H1 ∧ Same F1 F2 ∧ Rep c.θ F2 d x := by
  obtain ⟨F2, e2, s, _, so⟩ := Val.use R e h
  exact ⟨F2, e2, s, so hk⟩
theorem ps_ev {st : Stmt} {t : TS} {u : SS} (h : PS X st t) (hi : ∀ (E : Ends) (σ : L2.St) (H : Hp), tSv c L W u E σ H → t E σ H) : PS X st (tSv c L W u) := ⟨fun pins s σ H D I hw => h.run pins s σ H D I (hi D σ H hw)⟩
theorem pss_ev {st : List Stmt} {t : TS} {u : SS} (h : PSs X st t) (hi : ∀ (E : Ends) (σ : L2.St) (H : Hp), tSv c L W u E σ H → t E σ H) : PSs X st (tSv c L W u) := ⟨fun pins s σ H D I hw => h.run pins s σ H D I (hi D σ H hw)⟩
theorem gss_nil : PSs X [] (tSv c L W sSkip) := pss_ev pss_nil fun E σ H h => by
  obtain ⟨F, ρ, R, h⟩ := h
  exact h σ F H (.refl _) R
theorem gss_one {st : Stmt} {u : SS} (h : PS X st (tSv c L W u)) : PSs X [st] (tSv c L W u) := pss_one h
theorem gss_cons {st : Stmt} {rest : List Stmt} {u v : SS} (h1 : PS X st (tSv c L W u)) (h2 : PSs X rest (tSv c L W v)) : PSs X (st :: rest) (tSv c L W (sSeq u v)) := by
  refine pss_ev (pss_cons h1 h2) fun E σ H h => ?_
  obtain ⟨F, ρ, R, h⟩ := h
  refine ⟨F, ρ, R, ?_⟩
  replace h : ResS c L W F E (match u ρ with
    | .nx ρ' => v ρ'
    | o => o) := h
  cases q : u ρ with
  | nx ρ' =>
    rw [q] at h
    exact fun σ' F' H' e' R' => ⟨F', ρ', R', ResS.mono h e'⟩
  | bk ρ' => rw [q] at h; exact h
  | ct ρ' => rw [q] at h; exact h
  | rt d k ρ1 => rw [q] at h; exact h
  | ex n fs ρ' => rw [q] at h; exact h
  | no => rw [q] at h; exact h
theorem gs_if {ss ts : List Stmt} {u v : SS} (ht : PT X e (tTv c L W tst)) (h1 : PSs X ss (tSv c L W u)) (h2 : PSs X ts (tSv c L W v)) : PS X (.If e ss ts pos) (tSv c L W (G.sIf tst u v)) := by
  refine ps_ev (ps_if ht h1 h2) fun E σ H h => ?_
  obtain ⟨F, ρ, R, h⟩ := h
  refine tTv_of R ?_
  replace h : ResS c L W F E (match tst ρ with
    | .ok b => if b = true then u ρ else v ρ
    | .ex n fs => .ex n fs ρ
    | .no => .no) := h
  cases q : tst ρ with
  | no => rw [q] at h; exact h
  | ex n fs =>
    rw [q] at h
    exact fun cls dd F' H' e' hv => h cls dd σ F' H' e'.ff (R.ext e') hv
  | ok b =>
    rw [q] at h
    intro F' H' e'
    have h := ResS.mono h e'.ff
    cases b with
    | true => exact iteT ⟨F', ρ, R.ext e', h⟩
    | false => exact iteF ⟨F', ρ, R.ext e', h⟩
theorem gs_drop (ha : PE X e (tEv c L W f)) (hs : swapsWith e none pos.line X.env = pure false := by rfl) : PS X (.Expr e pos) (tSv c L W (sDrop f)) := by
  refine ps_ev (ps_expr ha hs) fun E σ H h => ?_
  obtain ⟨F, ρ, R, h⟩ := h
  refine sv_with R h fun d kd x F1 H1 ef e1 hv R1 h1 => ?_
  exact h1 σ F1 H1 (.refl _) R1
theorem Rel.noneB {a : Addr} (R : Rel c.θ c.F0 c.B L F H σ ρ) (h : H a = none) : c.B a = none := by
  cases q : c.B a with
  | none => rfl
  | some o => rcases R.kp a o q with y | ⟨_, _, _, y⟩ <;> (rw [h] at y; cases y)
theorem FrV.toB {d : D} {v : V} (R : Rel c.θ c.F0 c.B L F H σ ρ) (f : FrV c.θ F1 H H1 d v) : FrV c.θ F1 c.B H1 d v := by
  obtain ⟨fu, a, o, rfl, n, h1, h2, h3, h4⟩ := f
  exact ⟨fu, a, o, rfl, R.noneB n, h1, h2, h3, h4.mono (.refl _) fun _ z => R.noneB z⟩
theorem TrV.toB {n : Nat} {d : D} {v : V} (R : Rel c.θ c.F0 c.B L F H σ ρ) (f : TrV c.θ F1 H H1 n d v) : TrV c.θ F1 c.B H1 n d v := by
  obtain ⟨S, t, nd, fr⟩ := f
  exact ⟨S, t.base fun _ z => R.noneB z, nd, fun b hb => ⟨R.noneB (fr b hb).1, (fr b hb).2⟩⟩
theorem gs_ret (ha : PE X e (tEv c L W f)) : PS X (.Return (some e) pos) (tSv c L W (sRet f)) := by
  refine ps_ev (ps_ret ha) fun E σ H h => ?_
  obtain ⟨F, ρ, R, h⟩ := h
  refine sv_with R h fun d kd x F1 H1 ef e1 hv R1 h1 => ?_
  refine h1 x σ F1 H1 (.refl _) R1 ?_
  cases kd with
  | sh => exact hv
  | fr => exact FrV.toB R hv
  | «at» i =>
    obtain ⟨z1, z2⟩ := hv
    obtain ⟨a, o, y1, y2, y3, y4, y5⟩ := R1.ow i d z2
    rw [z1] at y1
    cases y1
    exact ⟨Full.of (R1.fu i d z2), a, o, rfl, y4, y2, y3, y5, Nw.of (R1.fu i d z2)⟩
  | tr n => exact TrV.toB R hv
/-- a slot takes a fresh root as its own -/
theorem Rel.setOw {i : Nat} {d : D} {v : V} (R : Rel c.θ c.F0 c.B L F H σ ρ) (e : Ext F H F1 H1) (f : FrV c.θ F1 H H1 d v) (no : notObj d = true) : Rel c.θ c.F0 c.B L F1 H1 (σ.set i (some v)) (ρ.set i (.ow d)) := by
  have R1 := R.ext e
  obtain ⟨fu, a, o, rfl, n, h, nf, ro, _⟩ := f
  refine R1.put R1.sub R1.kp (.refl _) R1.fn (fun _ _ _ _ _ _ h n => ⟨h, n⟩) (fun e h => by cases h) (fun d' h => ?_) (fun _ _ h => by cases h) fun Z hZ j k d hj hp b hb => ⟨rfl, rfl, fun _ z => by cases z; obtain ⟨o, ho⟩ := R.pvOld e hZ hp hb; rw [n] at ho; cases ho⟩
  cases h
  refine ⟨no, a, o, rfl, h, nf, R.noneB n, ro, fun j hj ho => ?_⟩
  rcases ho with ⟨d2, hd⟩ | ⟨k, ds, hd⟩
  · obtain ⟨a2, o2, y1, y2, _⟩ := R.ow j d2 hd
    rw [y1]
    intro z
    cases z
    rw [n] at y2
    cases y2
  · obtain ⟨⟨a2, o2, y1, y2, _⟩, _⟩ := R.me j k ds hd
    rw [y1]
    intro z
    cases z
    rw [n] at y2
    cases y2
theorem asg_core {own : Bool} {i : Nat} {d : D} {kd : Kd} {x : V} (R : Rel c.θ c.F0 c.B L F H σ ρ) (e : Ext F H F1 H1) (hv : Val c.θ F1 H H1 σ ρ d kd x) (h : ResS c L W F1 En (G.asg own i (d, kd) ρ)) : En.nx (σ.set i (some x)) H1 := by
  unfold G.asg at h
  by_cases q : i < ρ.length
  · rw [if_pos q] at h
    cases kd with
    | sh => exact h _ F1 H1 (.refl _) ((R.ext e).set hv)
    | fr =>
      cases own with
      | true =>
        obtain ⟨no, h⟩ := ResS.ite (show ResS c L W F1 En (if notObj d = true then .nx (ρ.set i (.ow d)) else .no) from h)
        exact h _ F1 H1 (.refl _) (R.setOw e hv no)
      | false =>
        obtain ⟨F2, e2, s2, r⟩ := Val.sol R e hv rfl
        exact h _ F2 H1 s2 ((R.ext e2).set r)
    | «at» j => exact h.elim
    | tr n => exact h.elim
  · rw [if_neg q] at h
    exact h.elim
theorem gs_set {own : Bool} {i : Nat} {x : Str} {pos' : Pos} (hN : X.N.Nodup) (ha : PE X e (tEv c L W f)) (hx : Loc X.env.scope x) (hf : X.fn x = true ∨ X.env.scope.names.lookup x = some .local := by exact Or.inl rfl) (hi : X.N[i]? = some x := by rfl) (hs : swapsWith e (some (.Name x pos')) pos.line X.env = pure false := by rfl) :
    PS X (.Assign [.Name x pos'] e pos) (tSv c L W (G.sAsg own i f)) := by
  refine ps_ev (ps_set hN hi hx ha hs hf) fun E σ H h => ?_
  obtain ⟨F, ρ, R, h⟩ := h
  exact sv_with R h fun d kd x F1 H1 ef e1 hv R1 h1 => asg_core R e1 hv h1
theorem gs_setLc {own : Bool} {i : Nat} {y : Str} {py : Pos} {elt : Expr} {ifs : List Expr} {scope : Scope} {ow : List (Str × Nat)} {spos : Pos} (hv : ∀ j ∈ tgIdx t, j ∈ ow.map (·.2)) (hc : X.calm = true) (hN : X.N.Nodup) (hy : X.N[i]? = some y) (hyl : X.env.scope.names.lookup y = some .local)
    (hsw : swapsWith (.ListComp elt [⟨tg, iter, ifs, 0⟩] scope pos) (some (.Name y py)) spos.line X.env = pure true) (hi : PI X tg iter (tIv c L W false s)) (ok : BlkOk X.N X.env.scope scope ow)
    (hg : ∀ (s : Shared) (H : Hp) (C : Addr) (cl : List (Str × Addr)) (fp : List Addr), PG (X.blk s H scope (compEnvC scope cl C X.env) fp) tg (gTv c L t)) (ht : ∀ (s : Shared) (H : Hp) (C : Addr) (cl : List (Str × Addr)) (fp : List Addr), PTs (X.blk s H scope (compEnvC scope cl C X.env) fp) ifs (tTv c L WF tst))
    (he : ∀ (s : Shared) (H : Hp) (C : Addr) (cl : List (Str × Addr)) (fp : List Addr), PE (X.blk s H scope (compEnvC scope cl C X.env) fp) elt (tEv c L WF f)) (hs : ∀ x, foldedSetIterable iter X.env x = pure x) : PS X (.Assign [.Name y py] (.ListComp elt [⟨tg, iter, ifs, 0⟩] scope pos) spos) (tSv c L W (G.sAsg own i (eLc s t tst f (ow.map (·.2))))) := by
  refine ps_ev (ps_setLc hc hN hy hyl hsw hi ok hg ht he hs) fun E σ H h => ?_
  obtain ⟨F, ρ, R, h⟩ := h
  exact rd_lc hv (sv_with R h fun d kd x F1 H1 ef e1 hv R1 h1 => asg_core R e1 hv h1)
/-- targets on a line: a tuple taken apart -/
theorem gs_tg (ha : PE X e (tEv c L W f)) (hg : PG X tg (gTv c L t)) (hs : swapsWithSole [tg] e pos.line X.env = pure false := by rfl) (hw : swappedStores [tg] e X.env = pure none := by rfl)
    (h1 : (assignEach [tg] X.env).map (·.2) = [assign tg X.env] := by rfl) : PS X (.Assign [tg] e pos) (tSv c L W (G.sTg t f)) := by
  refine ps_ev (ps_asg ha hg hs hw h1) fun E σ H h => ?_
  obtain ⟨F, ρ, R, h⟩ := h
  refine sv_with R h fun d kd x F1 H1 ef e1 hv R1 h1 => ?_
  by_cases q : kd.solid = true
  · replace h1 : ResS c L W F1 E (if kd.solid = true then (match (generalizing := false) tgSet t d ρ with
      | some ρ' => .nx ρ'
      | none => .no) else .no) := h1
    rw [if_pos q] at h1
    obtain ⟨F2, e2, s2, r⟩ := Val.sol R e1 hv q
    cases q2 : tgSet t d ρ with
    | none => rw [q2] at h1; exact h1.elim
    | some ρ' =>
      rw [q2] at h1
      exact ⟨F2, ρ, d, ρ', R.ext e2, r, q2, fun σ' R' _ => h1 σ' F2 H1 s2 R'⟩
  · replace h1 : ResS c L W F1 E (if kd.solid = true then (match (generalizing := false) tgSet t d ρ with
      | some ρ' => .nx ρ'
      | none => .no) else .no) := h1
    rw [if_neg q] at h1
    exact h1.elim
/-- for -/
theorem gs_for {body : List Stmt} {u : SS} (hp : PassesOwn (model X.prog X.w) X.A X.env X.xe) (hc : X.calm = true) (hi : PI X tg iter (tIv c L W true s)) (hg : PG X tg (gTv c L t)) (hb : PSs X body (tSv c L W u)) (hs : ∀ x, foldedSetIterable iter X.env x = pure x := by intro _; rfl) :
    PS X (.For tg iter body [] pos) (tSv c L W (G.sFor s t u)) := by
  refine ps_ev (ps_for hp hc hi hg hb hs) fun E σ H h => ?_
  obtain ⟨F, ρ, R, h⟩ := h
  refine ⟨F, ρ, R, ?_⟩
  replace h : ResS c L W F E (sWith (s ρ) ρ fun ds => forL t u ds ρ) := h
  cases q : s ρ with
  | no => rw [q] at h; exact h
  | ex n fs =>
    rw [q] at h
    exact fun cls dd F' H' e' hv => h cls dd σ F' H' e'.ff (R.ext e') hv
  | ok ds =>
    rw [q] at h
    intro J F1 H1 e1 wk
    replace h : ResS c L W F1 E (forL t u ds ρ) := ResS.mono (show ResS c L W F E (forL t u ds ρ) from h) e1.ff
    refine ⟨fun i m σ2 H2 => m = ds.length - i ∧ i ≤ ds.length ∧ ∃ F2 ρ2, Same F1 F2 ∧ Rel c.θ c.F0 c.B L F2 H2 σ2 ρ2 ∧ ResS c L W F2 E (forL t u (ds.drop i) ρ2),
      ⟨ds.length, rfl, Nat.zero_le _, F1, ρ, .refl _, R.ext e1, h⟩, ?_⟩
    rintro i m σ2 H2 ⟨rfl, hi, F2, ρ2, e2, R2, h2⟩
    by_cases lt : i < ds.length
    · have hd : ds[i]? = some ds[i] := List.getElem?_eq_getElem lt
      rw [List.drop_eq_getElem_cons lt] at h2
      obtain ⟨g1, g2⟩ := wk.go F2 H2 i ds[i] e2 R2.sub (fun z => by cases z) hd
      refine .inr ⟨g1, fun σ3 H3 => ∃ F3 ρ3, Same F1 F3 ∧ Rel c.θ c.F0 c.B L F3 H3 σ3 ρ3 ∧ ResS c L W F3 E (forL t u (ds.drop (i + 1)) ρ3), fun σ3 H3 nx => ⟨ds.length - (i + 1), by omega, rfl, lt, nx⟩, fun x H' hy => ?_⟩
      obtain ⟨F3, e3, r3⟩ := g2 x H' hy
      unfold forL at h2
      cases q1 : tgSet t ds[i] ρ2 with
      | none => rw [q1] at h2; exact h2.elim
      | some ρ3 =>
        rw [q1] at h2
        refine ⟨F3, ρ2, ds[i], ρ3, R2.ext e3, r3, q1, fun σ4 R4 _ => ⟨F3, ρ3, R4, ?_⟩⟩
        replace h2 : ResS c L W F2 E (match u ρ3 with
          | .nx ρ2 => forL t u (ds.drop (i + 1)) ρ2
          | .ct ρ2 => forL t u (ds.drop (i + 1)) ρ2
          | .bk ρ2 => .nx ρ2
          | o => o) := h2
        cases q3 : u ρ3 with
        | nx ρ4 =>
          rw [q3] at h2
          exact fun σ' F' H' e' R' => ⟨F', ρ4, (e2.trans e3.ff).trans e', R', ResS.mono h2 (e3.ff.trans e')⟩
        | ct ρ4 =>
          rw [q3] at h2
          exact fun σ' F' H' e' R' => ⟨F', ρ4, (e2.trans e3.ff).trans e', R', ResS.mono h2 (e3.ff.trans e')⟩
        | bk ρ4 =>
          rw [q3] at h2
          exact ResS.mono (o := .nx ρ4) h2 e3.ff
        | rt d k ρ1 => rw [q3] at h2; exact ResS.mono (o := .rt d k ρ1) h2 e3.ff
        | ex n fs ρ' => rw [q3] at h2; exact ResS.mono (o := .ex n fs ρ') h2 e3.ff
        | no => rw [q3] at h2; exact h2
    · have ei : i = ds.length := by omega
      subst ei
      rw [List.drop_length] at h2
      exact .inl ⟨wk.stop F2 H2 e2 R2.sub (fun z => by cases z), h2 σ2 F2 H2 (.refl _) R2⟩
/-- while -/
theorem gs_while {body : List Stmt} {u : SS} (hp : PassesOwn (model X.prog X.w) X.A X.env X.xe) (ht : PT X e (tTv c L W tst)) (hb : PSs X body (tSv c L W u)) : PS X (.While e body [] pos) (tSv c L W (G.sWhile tst u)) := by
  refine ps_ev (ps_while hp ht hb) fun E σ H h => ?_
  obtain ⟨F, ρ, R, h⟩ := h
  refine ⟨fun m σ2 H2 => ∃ F2 ρ2, Rel c.θ c.F0 c.B L F2 H2 σ2 ρ2 ∧ ResS c L W F2 E (whileL tst u m ρ2), ⟨FU, F, ρ, R, h⟩, ?_⟩
  rintro m σ2 H2 ⟨F2, ρ2, R2, h2⟩
  cases m with
  | zero => exact h2.elim
  | succ m =>
    refine tTv_of R2 ?_
    unfold whileL at h2
    cases q : tst ρ2 with
    | no => rw [q] at h2; exact h2
    | ex n fs =>
      rw [q] at h2
      exact fun cls dd F' H' e' hv => h2 cls dd σ2 F' H' e'.ff (R2.ext e') hv
    | ok b =>
      rw [q] at h2
      intro F' H' e'
      cases b with
      | false => exact iteF (h2 σ2 F' H' e'.ff (R2.ext e'))
      | true =>
        refine iteT ⟨fun σ3 H3 => ∃ F3 ρ3, Rel c.θ c.F0 c.B L F3 H3 σ3 ρ3 ∧ ResS c L W F3 E (whileL tst u m ρ3), fun σ3 H3 nx => ⟨m, Nat.lt_succ_self _, nx⟩, F', ρ2, R2.ext e', ?_⟩
        replace h2 : ResS c L W F2 E (match u ρ2 with
          | .nx ρ2 => whileL tst u m ρ2
          | .ct ρ2 => whileL tst u m ρ2
          | .bk ρ2 => .nx ρ2
          | o => o) := h2
        cases q3 : u ρ2 with
        | nx ρ4 =>
          rw [q3] at h2
          exact fun σ' F3 H' e3 R' => ⟨F3, ρ4, R', ResS.mono h2 (e'.ff.trans e3)⟩
        | ct ρ4 =>
          rw [q3] at h2
          exact fun σ' F3 H' e3 R' => ⟨F3, ρ4, R', ResS.mono h2 (e'.ff.trans e3)⟩
        | bk ρ4 =>
          rw [q3] at h2
          exact ResS.mono (o := .nx ρ4) h2 e'.ff
        | rt d k ρ1 => rw [q3] at h2; exact ResS.mono (o := .rt d k ρ1) h2 e'.ff
        | ex n fs ρ' => rw [q3] at h2; exact ResS.mono (o := .ex n fs ρ') h2 e'.ff
        | no => rw [q3] at h2; exact h2
end
end G
namespace G
open PySem PySem.Spec L2
/-- a, b = e, e' of two locals on a line -/
def sPar (o1 o2 : Bool) (i j : Nat) (f g : ES) : SS := fun ρ => sWith (f ρ) ρ fun x => sWith (g ρ) ρ fun y => match asg o1 i x ρ with
  | .nx ρ1 => asg o2 j y ρ1
  | o => o
/-- x.m(e), x.m() on a slot's own list -/
def sOwL (i : Nat) (k : List D → D → Option (List D)) (f : ES) : SS := fun ρ => match ρ[i]? with
  | some (.ow (.lst xs)) => sWith (f ρ) ρ fun y => if y.2.solid then (match k xs y.1 with
    | some ys => .nx (ρ.set i (.ow (.lst ys)))
    | none => .no) else .no
  | _ => .no
def sOwL0 (i : Nat) (k : List D → Option (List D)) : SS := fun ρ => match ρ[i]? with
  | some (.ow (.lst xs)) => (match k xs with
    | some ys => .nx (ρ.set i (.ow (.lst ys)))
    | none => .no)
  | _ => .no
def kAp (xs : List D) (y : D) : Option (List D) := if xs.length < SZ then some (xs ++ [y]) else none
/-- a slot's own object is no more its own: nothing is done -/
def sFrz (i : Nat) : SS := fun ρ => match ρ[i]? with
  | some (.ow d) => .nx (ρ.set i (.va d))
  | _ => .nx ρ
/-- ds with what stands at a key changed, or put at the end -/
def putD {κ : Type} [DecidableEq κ] (k : κ) (d : D) (ks : List κ) (ds : List D) : List κ × List D :=
  if k ∈ ks then (ks, List.zipWith (fun x y => if x = k then d else y) ks ds) else (ks ++ [k], ds ++ [d])
def kPut : D → D → D → Option D
  | .lst xs, .int n, v => (ixN xs.length n).map fun j => .lst (xs.set j v)
  | .dK ks ds, k, v => match keyOf k with
    | some x => if ks.length < SZ then some (.dK (putD x v ks ds).1 (putD x v ks ds).2) else none
    | none => none
  | .dT ks ds, k, v => match tkeyOf k with
    | some x => if ks.length < SZ then some (.dT (putD x v ks ds).1 (putD x v ks ds).2) else none
    | none => none
  | _, _, _ => none
/-- x[e] = e' on a slot's own object -/
def sPut (i : Nat) (fk fv : ES) : SS := fun ρ => sWith (fv ρ) ρ fun v => if v.2.solid then (match ρ[i]? with
  | some (.ow d) => sWith (fk ρ) ρ fun k => (match kPut d k.1 v.1 with
    | some d' => .nx (ρ.set i (.ow d'))
    | none => .no)
  | _ => .no) else .no
section
variable {X : Cx} {c : Cn} {L : List Addr} {W : WX} {f g : ES} {a b e tg iter : Expr} {pos p : Pos} {s : IS} {t : Tg} {tst : TSm} {F F1 H H1 : Hp} {σ : L2.St} {ρ : Sl} {En : Ends}
/-- a slot's own object, changed in place -/
theorem Rel.mut {i : Nat} {d d' : D} {a : Addr} {o' : HO} (R : Rel c.θ c.F0 c.B L F H σ ρ) (hs : ρ[i]? = some (.ow d)) (ha : σ[i]? = some (some (.ref a))) (hn : notObj d' = true) (r : Root c.θ F d' o') : Rel c.θ c.F0 c.B L F (upd H a o') σ (ρ.set i (.ow d')) := by
  obtain ⟨a2, o2, y1, y2, y3, y4, y5⟩ := R.ow i d hs
  rw [ha] at y1
  cases y1
  have keep : ∀ {b : Addr} {u : HO}, F b = some u → b ≠ a := fun h z => by
    subst z
    rw [y3] at h
    cases h
  have keepB : ∀ {b : Addr} {u : HO}, c.B b = some u → b ≠ a := fun h z => by
    subst z
    rw [y4] at h
    cases h
  have R2 := R.put (F' := F) (H' := upd H a o') (i := i) (v := .ref a) (sl := .ow d') (fun b u h => by rw [upd_ne (keep h)]; exact R.sub b u h) (fun b u h => by rw [upd_ne (keepB h)]; exact R.kp b u h) (.refl _) R.fn
    (fun j a3 o3 hj ho hs3 h3 n3 => ?_) (fun _ h => by cases h) (fun e h => ?_) (fun _ _ h => by cases h) (fun Z hZ j k d2 hj hp b hb => by
      have nb : b ≠ a := fun z => by
        subst z
        exact (hZ j k d2 hp).2.2.2.1 i b (.inl ⟨d, hs⟩) ha hb
      exact ⟨upd_ne nb, rfl, fun _ z => by cases z; exact nb rfl⟩) (tp := fun b xs h => by
      rw [upd_ne fun z => ?_]
      · exact h
      · subst z
        rw [y2] at h
        cases h
        cases y5)
  · have e : σ.set i (some (.ref a)) = σ := List.ext_getElem? fun j => by
      by_cases q : i = j
      · subst q
        rw [List.getElem?_set_self (List.getElem?_eq_some_iff.mp ha).1, ha]
      · rw [List.getElem?_set_ne q]
    rwa [e] at R2
  · have ne : a3 ≠ a := fun z => by
      subst z
      rcases ho with ⟨d3, hd⟩ | ⟨k, ds, hd⟩
      · exact R.dj i j d d3 a3 hj.symm hs hd ha hs3
      · obtain ⟨⟨a4, _, z1, _, _, _, _, _, z6⟩, _⟩ := R.me j k ds hd
        rw [hs3] at z1
        cases z1
        exact z6 i d hs ha
    exact ⟨by rw [upd_ne ne]; exact h3, n3⟩
  · cases h
    refine ⟨?_, a, o', rfl, upd_same, y3, y4, r, fun j hj ho hs3 => ?_⟩
    · cases d' <;> first | trivial | cases hn
    · rcases ho with ⟨d3, hd⟩ | ⟨k, ds, hd⟩
      · exact R.dj i j d d3 a hj.symm hs hd ha hs3
      · obtain ⟨⟨a4, _, z1, _, _, _, _, _, z6⟩, _⟩ := R.me j k ds hd
        rw [hs3] at z1
        cases z1
        exact z6 i d hs ha
/-- the slot's own object as a value -/
theorem ow_val {i : Nat} {d : D} (R : Rel c.θ c.F0 c.B L F H σ ρ) (hs : ρ[i]? = some (.ow d)) : ∃ a o, σ[i]? = some (some (.ref a)) ∧ H a = some o ∧ F a = none ∧ Root c.θ F d o := by
  obtain ⟨a, o, y1, y2, y3, _, y5⟩ := R.ow i d hs
  exact ⟨a, o, y1, y2, y3, y5⟩
/-- .. is frozen -/
theorem Rel.frz {i : Nat} {d : D} (R : Rel c.θ c.F0 c.B L F H σ ρ) (hs : ρ[i]? = some (.ow d)) : ∃ F2, Same F F2 ∧ Rel c.θ c.F0 c.B L F2 H σ (ρ.set i (.va d)) := by
  obtain ⟨a, o, y1, y2, y3, y4, y5⟩ := R.ow i d hs
  have e2 : Same F (upd F a o) := Same.lay y3
  refine ⟨upd F a o, e2, ?_⟩
  have R2 := R.put (F' := upd F a o) (H' := H) (i := i) (v := .ref a) (sl := .va d) (fun b u h => ?_) R.kp e2 (fun b u h => ?_) (fun j a3 o3 hj ho hs3 h3 n3 => ⟨h3, ?_⟩) (fun e h => ?_) (fun _ h => by cases h) (fun _ _ h => by cases h) (fun Z hZ j k d2 hj hp b hb => by
      have nb : b ≠ a := fun z => by
        subst z
        exact (hZ j k d2 hp).2.2.2.1 i b (.inl ⟨d, hs⟩) y1 hb
      exact ⟨rfl, upd_ne nb, fun z => by rcases z with ⟨_, z⟩ | ⟨_, _, z⟩ <;> cases z⟩)
  · have e : σ.set i (some (.ref a)) = σ := List.ext_getElem? fun j => by
      by_cases q : i = j
      · subst q
        rw [List.getElem?_set_self (List.getElem?_eq_some_iff.mp y1).1, y1]
      · rw [List.getElem?_set_ne q]
    rwa [e] at R2
  · by_cases hb : b = a
    · subst hb
      rw [upd_same] at h
      cases h
      exact .inl y2
    · rw [upd_ne hb] at h
      exact R.sub b u h
  · by_cases hb : b = a
    · subst hb
      exact .inr (.inl y4)
    · rw [upd_ne hb] at h
      exact R.fn b u h
  · have ne : a3 ≠ a := fun z => by
      subst z
      rcases ho with ⟨d3, hd⟩ | ⟨k, ds, hd⟩
      · exact R.dj i j d d3 a3 hj.symm hs hd y1 hs3
      · obtain ⟨⟨a4, _, z1, _, _, _, _, _, z6⟩, _⟩ := R.me j k ds hd
        rw [hs3] at z1
        cases z1
        exact z6 i d hs y1
    rw [upd_ne ne]
    exact n3
  · cases h
    exact y5.frozen y3 (Full.of (R.fu i d hs))
theorem gs_frz {st : Stmt} {u : SS} (i : Nat) (h : PS X st (tSv c L W u)) : PS X st (tSv c L W (sSeq (sFrz i) u)) := by
  refine ps_ev h fun E σ H h => ?_
  obtain ⟨F, ρ, R, h⟩ := h
  replace h : ResS c L W F E (match sFrz i ρ with
    | .nx ρ' => u ρ'
    | o => o) := h
  unfold sFrz at h
  cases q : ρ[i]? with
  | none => rw [q] at h; exact ⟨F, ρ, R, h⟩
  | some sl =>
    rw [q] at h
    cases sl with
    | ow d =>
      obtain ⟨F2, e, R2⟩ := R.frz q
      exact ⟨F2, _, R2, ResS.mono h e⟩
    | un => exact ⟨F, ρ, R, h⟩
    | va d => exact ⟨F, ρ, R, h⟩
    | me n ds => exact ⟨F, ρ, R, h⟩
    | xc => exact ⟨F, ρ, R, h⟩
    | pv k d => exact ⟨F, ρ, R, h⟩
theorem rd_owL {i : Nat} {k : List D → D → Option (List D)} {r : V → List V → Hp → VK → Prop} {K : PySem.W.Frag}
    (hr : ∀ (F H : Hp) (a : Addr) (xs : List V) (ds es : List D) (y : D) (v : V) (Q : VK), H a = some (.lst xs) → RepL c.θ F ds xs → Rep c.θ F y v → k ds y = some es → (∀ ys, RepL c.θ F es ys → Q .non (upd H a (.lst ys))) → r (.ref a) [v] H Q)
    {E : Ends} (h : tSv c L W (sOwL i k f) E σ H) : tDrop (tBM K "list" r (tVar i) (tCons (tEv c L W f) tNil)) E σ H := by
  obtain ⟨F, ρ, R, h⟩ := h
  unfold sOwL at h
  cases q : ρ[i]? with
  | none => rw [q] at h; exact h.elim
  | some sl =>
    rw [q] at h
    cases sl with
    | ow d =>
      cases d <;> first | exact (show False from h).elim | skip
      rename_i ds
      obtain ⟨a, o, h1, h2, h3, ro⟩ := ow_val R q
      cases ro with
      | @lst xs _ rl =>
      refine ⟨_, h1, .inl ⟨rfl, xs, .inl (.inl h2)⟩, ?_⟩
      refine sv_with R h fun d kd x F1 H1 ef e1 hv R1 h1' => ?_
      replace h1' : ResS c L W F1 E (if kd.solid = true then (match (generalizing := false) k ds d with
          | some ys => .nx (ρ.set i (.ow (.lst ys)))
          | none => .no) else .no) := h1'
      by_cases so : kd.solid = true
      · rw [if_pos so] at h1'
        obtain ⟨F2, e2, s2, rp⟩ := Val.sol R e1 hv so
        cases q2 : k ds d with
        | none => rw [q2] at h1'; exact h1'.elim
        | some ys =>
          rw [q2] at h1'
          exact hr F2 H1 a xs ds ys d x _ (e2.hh _ _ h2) (rl.mono e2.ff) rp q2 fun zs rz => h1' σ F2 _ s2 ((R.ext e2).mut q h1 rfl (.lst rz))
      · rw [if_neg so] at h1'
        exact h1'.elim
    | un => exact h.elim
    | va d => exact h.elim
    | me n ds => exact h.elim
    | xc => exact h.elim
    | pv k d => exact h.elim
theorem gs_append {i : Nat} {x : Str} {apos cpos : Pos} (ha : PE X e (tEv c L W f)) (hx : Loc X.env.scope x) (hf : X.fn x = true ∨ X.env.scope.names.lookup x = some .local := by exact Or.inl rfl) (hi : X.N[i]? = some x := by rfl) (hd : (x == ("__debug__" : Str)) = false := by decide) (hcd : (x == ("__classdict__" : Str)) = false := by decide)
    (hs : swapsWith (.Call (.Attribute (.Name x p) "append" apos) [e] [] cpos) none pos.line X.env = pure false := by rfl)
    (hbase : attributeBase (.Name x p) "append" X.env (eval (.Name x p) X.env) = eval (.Name x p) X.env := by rfl)
    (hfew : ((backTo cpos (starEach [e] X.env)).all (fun x => !x.1) && (backToKw cpos (keywordEach [] X.env)).all (fun x => x.1.isSome)
      && decide ([e].length + ([] : List Keyword).length + (if ([] : List Keyword).isEmpty then 0 else 1) < 30)) = true := by rfl)
    (hline : (apos.endLine == cpos.line) = true := by rfl) (hst : starEach [e] X.env = (false, eval e X.env) :: starEach [] X.env := by rfl) : PS X (.Expr (.Call (.Attribute (.Name x p) "append" apos) [e] [] cpos) pos) (tSv c L W (sOwL i kAp f)) := by
  refine ps_ev (ps_expr (pe_bm PySem.F.plainAttrs_list PySem.F.slot_list_append PySem.F.type_list_append mt_append (pe_var hi (vis_of hx) hd hcd) (pa_cons ha pa_nil hst) hbase hfew hline hst rfl) hs) fun E σ H h => ?_
  refine rd_owL (fun F H a xs ds es y v Q h1 h2 h3 h4 h5 => ?_) h
  unfold kAp at h4
  by_cases q : ds.length < SZ
  · rw [if_pos q] at h4
    cases h4
    exact ⟨a, xs, v, rfl, rfl, h1, by rw [h2.length]; exact Nat.lt_of_lt_of_le q SZ_le, h5 _ (h2.append (.cons h3 .nil))⟩
  · rw [if_neg q] at h4
    cases h4
end
end G
namespace G
open PySem PySem.Spec L2
/-- x op= e of ints -/
def sAugI (op : Int → Int → Int) (i : Nat) (f : ES) : SS := fun ρ => match ρ[i]? with
  | some (.va (.int a)) => sWith (f ρ) ρ fun y => (match y.1 with
    | .int b => .nx (ρ.set i (.va (.int (op a b))))
    | _ => .no)
  | _ => .no
/-- raise C() -/
def sRaise (n : Nat) : SS := fun ρ => .ex n [] ρ
section
variable {X : Cx} {c : Cn} {L : List Addr} {W : WX} {f g : ES} {a b e tg iter : Expr} {pos p : Pos} {s : IS} {t : Tg} {tst : TSm} {F F1 H H1 : Hp} {σ : L2.St} {ρ : Sl} {En : Ends}
theorem Owner.va {i l : Nat} {d : D} (h : Owner (ρ.set i (.va d)) l) : l ≠ i ∧ Owner ρ l := by
  have ne : l ≠ i := fun e => by
    subst e
    have at_ : ∀ {x : Slot}, (ρ.set l (.va d))[l]? = some x → x = .va d := fun {x} e => by
      have hl := (List.getElem?_eq_some_iff.mp e).1
      rw [List.length_set] at hl
      rw [List.getElem?_set_self hl] at e
      exact (Option.some.inj e).symm
    rcases h with ⟨d2, h⟩ | ⟨k, ds, h⟩ <;> cases at_ h
  refine ⟨ne, ?_⟩
  unfold Owner at h ⊢
  rwa [List.getElem?_set_ne (Ne.symm ne)] at h
end
end G
namespace G
open PySem PySem.Spec L2
section
variable {θ : Th} {F H : Hp}
theorem zip_put {κ : Type} [DecidableEq κ] {k : κ} {v : V} : ∀ {ks : List κ} {xs : List V}, ks.length = xs.length →
    (ks.zip xs).map (fun kv => if kv.1 = k then (kv.1, v) else kv) = ks.zip (List.zipWith (fun x y => if x = k then v else y) ks xs)
  | [], [], _ => rfl
  | x :: ks, y :: xs, h => by
    simp only [List.zip_cons_cons, List.map_cons, List.zipWith_cons_cons]
    rw [zip_put (by simpa using h)]
    by_cases q : x = k
    · rw [if_pos q, if_pos q]
    · rw [if_neg q, if_neg q]
theorem zip_any {κ : Type} [DecidableEq κ] {k : κ} : ∀ {ks : List κ} {xs : List V}, ks.length = xs.length → ((ks.zip xs).any fun kv => decide (kv.1 = k)) = decide (k ∈ ks)
  | [], [], _ => rfl
  | x :: ks, y :: xs, h => by
    rw [List.zip_cons_cons, List.any_cons, zip_any (by simpa using h)]
    by_cases q : x = k
    · simp [q]
    · simp [q, Ne.symm q, List.mem_cons, eq_comm]
theorem RepL.zipPut {κ : Type} [DecidableEq κ] {k : κ} {d : D} {v : V} (r : Rep θ F d v) : ∀ {ks : List κ} {ds : List D} {xs : List V}, RepL θ F ds xs → RepL θ F (List.zipWith (fun x y => if x = k then d else y) ks ds) (List.zipWith (fun x y => if x = k then v else y) ks xs)
  | [], _, _, _ => by simpa using RepL.nil
  | _ :: _, _, _, .nil => .nil
  | x :: ks, _, _, .cons a t => by
    rw [List.zipWith_cons_cons, List.zipWith_cons_cons]
    by_cases q : x = k
    · rw [if_pos q, if_pos q]; exact .cons r (RepL.zipPut r t)
    · rw [if_neg q, if_neg q]; exact .cons a (RepL.zipPut r t)
theorem put_rep {κ : Type} [DecidableEq κ] {k : κ} {d : D} {v : V} {ks : List κ} {ds : List D} {xs : List V} (r : Rep θ F d v) (l : ks.length = ds.length) (rl : RepL θ F ds xs) :
    ∃ ys, putK (ks.zip xs) k v = (putD k d ks ds).1.zip ys ∧ RepL θ F (putD k d ks ds).2 ys ∧ (putD k d ks ds).1.length = (putD k d ks ds).2.length := by
  have l2 : ks.length = xs.length := by rw [l, rl.length]
  unfold putK putD
  rw [zip_any l2]
  by_cases q : k ∈ ks
  · rw [if_pos (decide_eq_true q), if_pos q]
    exact ⟨_, zip_put l2, rl.zipPut r, by simp [l]⟩
  · rw [if_neg (by simpa using q), if_neg q]
    refine ⟨xs ++ [v], ?_, rl.append (.cons r .nil), by simp [l]⟩
    show ks.zip xs ++ [(k, v)] = (ks ++ [k]).zip (xs ++ [v])
    rw [List.zip_append l2]
    rfl
/-- a key's value -/
theorem keyOf_v {d : D} {k : Key} {v : V} (h : keyOf d = some k) (r : Rd1 θ F H d v) : v = kV k := by
  cases d <;> first | (cases h; done) | skip
  · cases h; exact r.int
  · cases h; exact r.str
theorem keysOf_v : ∀ {ds : List D} {ks : List Key} {vs : List V}, keysOf ds = some ks → RepL θ F ds vs → vs = ks.map kV
  | [], _, _, h, r => by cases h; cases r; rfl
  | d :: ds, ks, _, h, .cons (v := v) (vs := vs) a t => by
    unfold keysOf at h
    cases q : keyOf d with
    | none => rw [q] at h; cases h
    | some k =>
      rw [q] at h
      cases q2 : keysOf ds with
      | none => rw [q2] at h; cases h
      | some ks2 =>
        rw [q2] at h
        cases h
        rw [keysOf_v q2 t, keyOf_v (H := F) q (.inl a)]
        rfl
theorem tkeyOf_v {d : D} {k : List Key} {v : V} (s : Sub F H) (h : tkeyOf d = some k) (r : Rd1 θ F H d v) : ∃ b, v = .ref b ∧ H b = some (.tup (k.map kV)) := by
  cases d <;> first | (cases h; done) | skip
  rename_i ds
  obtain ⟨a, xs, rfl, ha, rl, _⟩ := r.tup s
  rw [keysOf_v h rl] at ha
  exact ⟨a, rfl, ha⟩
end
/-- a root stored into by values -/
def rPut : TSet := fun o i v H Q => rSetL o i v H Q ∨ rSetD o i v H Q
theorem set_put {X : Cx} (hu : X.A.units + 1 < cLine) : PSet X rPut := fun pins s σ H o i v ov iv u Q I ro ri rv h => by
  rcases h with h | h
  · exact set_list pins s σ H o i v ov iv u Q I ro ri rv h
  · exact set_dict hu pins s σ H o i v ov iv u Q I ro ri rv h
section
variable {X : Cx} {c : Cn} {L : List Addr} {W : WX} {f g : ES} {a b e o ix tg iter : Expr} {pos p : Pos} {s : IS} {t : Tg} {tst : TSm} {F F1 H H1 : Hp} {σ : L2.St} {ρ : Sl} {En : Ends}
theorem put_core {i : Nat} {d d' dk dv : D} {ad : Addr} {vk vv : V} {Q : Hp → Prop} (R : Rel c.θ c.F0 c.B L F H σ ρ) (hs : ρ[i]? = some (.ow d)) (ha : σ[i]? = some (some (.ref ad))) (hk : Rd1 c.θ F H dk vk) (hv : Rep c.θ F dv vv)
    (hp : kPut d dk dv = some d') (q : ∀ H', Rel c.θ c.F0 c.B L F H' σ (ρ.set i (.ow d')) → Q H') : rPut (.ref ad) vk vv H Q := by
  obtain ⟨a2, o2, y1, y2, y3, y4⟩ := ow_val R hs
  rw [ha] at y1
  cases y1
  cases y4 with
  | @lst xs ds rl =>
    cases dk <;> first | (cases hp; done) | skip
    rename_i n
    replace hp : (ixN ds.length n).map (fun j => D.lst (ds.set j dv)) = some d' := hp
    cases qj : ixN ds.length n with
    | none => rw [qj] at hp; cases hp
    | some j =>
      rw [qj] at hp
      cases hp
      exact .inl ⟨ad, xs, n, j, rfl, hk.int, y2, by rw [rl.length]; exact qj, q _ (R.mut hs ha rfl (.lst (rl.set j hv)))⟩
  | @dK ks xs ds l rl =>
    replace hp : (match keyOf dk with
      | some x => if ks.length < SZ then some (.dK (putD x dv ks ds).1 (putD x dv ks ds).2) else none
      | none => none) = some d' := hp
    cases qk : keyOf dk with
    | none => rw [qk] at hp; cases hp
    | some x =>
      rw [qk] at hp
      replace hp : (if ks.length < SZ then some (D.dK (putD x dv ks ds).1 (putD x dv ks ds).2) else none) = some d' := hp
      by_cases z : ks.length < SZ
      · rw [if_pos z] at hp
        cases hp
        obtain ⟨ys, e1, e2, e3⟩ := put_rep (k := x) hv l rl
        refine .inr ⟨ad, _, rfl, .inl ⟨ks.zip xs, x, y2, keyOf_v qk hk, ?_, rfl⟩, q _ ?_⟩
        · rw [List.length_zip, ← rl.length] at *
          exact Nat.lt_of_le_of_lt (Nat.min_le_left _ _) (Nat.lt_of_lt_of_le z SZ_le)
        · rw [e1]
          exact R.mut hs ha rfl (.dK e3 e2)
      · rw [if_neg z] at hp
        cases hp
  | @dT ks xs ds l rl =>
    replace hp : (match tkeyOf dk with
      | some x => if ks.length < SZ then some (.dT (putD x dv ks ds).1 (putD x dv ks ds).2) else none
      | none => none) = some d' := hp
    cases qk : tkeyOf dk with
    | none => rw [qk] at hp; cases hp
    | some x =>
      rw [qk] at hp
      replace hp : (if ks.length < SZ then some (D.dT (putD x dv ks ds).1 (putD x dv ks ds).2) else none) = some d' := hp
      by_cases z : ks.length < SZ
      · rw [if_pos z] at hp
        cases hp
        obtain ⟨ys, e1, e2, e3⟩ := put_rep (k := x) hv l rl
        obtain ⟨b, eb, hb⟩ := tkeyOf_v R.sub qk hk
        refine .inr ⟨ad, _, rfl, .inr ⟨ks.zip xs, x, b, y2, eb, hb, ?_, rfl⟩, q _ ?_⟩
        · exact Nat.lt_of_le_of_lt (by rw [List.length_zip]; exact Nat.min_le_left _ _) (Nat.lt_of_lt_of_le z SZ_le)
        · rw [e1]
          exact R.mut hs ha rfl (.dT e3 e2)
      · rw [if_neg z] at hp
        cases hp
  | obj l rl => cases hp
theorem gs_put {i : Nat} {x : Str} {pos' : Pos} (hu : X.A.units + 1 < cLine) (hb : PE X ix (tEv c L W f)) (ha : PE X e (tEv c L W g)) (hs : swapsWithSole [.Subscript (.Name x p) ix pos'] e pos.line X.env = pure false) (hw : swappedStores [.Subscript (.Name x p) ix pos'] e X.env = pure none)
    (h1 : (assignEach [.Subscript (.Name x p) ix pos'] X.env).map (·.2) = [assign (.Subscript (.Name x p) ix pos') X.env])
    (has : ∀ v, assign (.Subscript (.Name x p) ix pos') X.env v = (do
      let ov ← holding [v] (eval (.Name x p) X.env)
      let iv ← holding [v, ov] (eval ix X.env)
      standAt pos'
      holding [v, ov, iv] (setItem ov iv v)
      release [v, ov, iv] []))
    (hx : Loc X.env.scope x) (hf : X.fn x = true ∨ X.env.scope.names.lookup x = some .local := by exact Or.inl rfl) (hi : X.N[i]? = some x := by rfl) (hd : (x == ("__debug__" : Str)) = false := by decide) (hcd : (x == ("__classdict__" : Str)) = false := by decide) :
    PS X (.Assign [.Subscript (.Name x p) ix pos'] e pos) (tSv c L W (sPut i f g)) := by
  refine ps_ev (ps_asg ha (pg_sub (pe_var hi (vis_of hx) hd hcd) hb (set_put hu) has) hs hw h1) fun E σ H h => ?_
  obtain ⟨F, ρ, R, h⟩ := h
  refine sv_with R h fun d kd v F1 H1 ef e1 hv R1 h1 => ?_
  clear ef h
  replace h1 : ResS c L W F1 E (if kd.solid = true then (match ρ[i]? with
    | some (.ow d0) => sWith (f ρ) ρ fun k => (match kPut d0 k.1 d with
      | some d' => .nx (ρ.set i (.ow d'))
      | none => .no)
    | _ => .no) else .no) := h1
  by_cases so : kd.solid = true
  · rw [if_pos so] at h1
    obtain ⟨F2, e2, s2, rp⟩ := Val.sol R e1 hv so
    have R2 := R.ext e2
    cases q : ρ[i]? with
    | none => rw [q] at h1; exact h1.elim
    | some sl =>
      rw [q] at h1
      cases sl with
      | ow d0 =>
        obtain ⟨ad, ob, y1, y2, y3, y4⟩ := ow_val R2 q
        refine ⟨_, y1, ?_⟩
        have h1 : ResS c L W F2 E (sWith (f ρ) ρ fun k => (match kPut d0 k.1 d with
          | some d' => .nx (ρ.set i (.ow d'))
          | none => .no)) := ResS.mono h1 s2
        refine sv_with R2 h1 fun dk kk vk F3 H3 ef e3 hv3 R3 h3 => ?_
        clear ef h1
        obtain ⟨F4, e4, s4, rd, _⟩ := Val.use R2 e3 hv3
        replace h3 : ResS c L W F3 E (match kPut d0 dk d with
          | some d' => .nx (ρ.set i (.ow d'))
          | none => .no) := h3
        cases q2 : kPut d0 dk d with
        | none => rw [q2] at h3; exact h3.elim
        | some d' =>
          rw [q2] at h3
          exact put_core (R2.ext e4) q y1 rd (rp.mono e4.ff) q2 fun H' R' => h3 σ F4 H' s4 R'
      | un => exact h1.elim
      | va d => exact h1.elim
      | me n ds => exact h1.elim
      | xc => exact h1.elim
      | pv k d => exact h1.elim
  · rw [if_neg so] at h1
    exact h1.elim
theorem putF_end {fn : Str} {v : V} : ∀ {fs : List (Str × V)}, (∀ q ∈ fs, q.1 ≠ fn) → putF fn v fs = fs ++ [(fn, v)]
  | [], _ => rfl
  | (g, x) :: r, h => by
    unfold putF
    rw [if_neg (h (g, x) List.mem_cons_self), putF_end fun q hq => h q (List.mem_cons_of_mem _ hq)]
    rfl
theorem Val.clean {d : D} {kd : Kd} {v : V} (hv : Val c.θ F1 H H1 σ ρ d kd v) (R : Rel c.θ c.F0 c.B L F H σ ρ) (e1 : Ext F H F1 H1) (so : G.clean d kd = true) : ∃ F2, Ext F H F2 H1 ∧ Same F1 F2 ∧ Rep c.θ F2 d v ∧ Rep c.θ (onlyN F2 c.B) d v := by
  rcases Bool.or_eq_true_iff.mp so with z | z
  · have r : Rep c.θ F1 d v := by
      cases kd with
      | sh => exact hv
      | fr => exact ((show FrV c.θ F1 H H1 d v from hv).notFlat z).elim
      | tr n => exact (show TrV c.θ F1 H H1 n d v from hv).flat z
      | «at» i =>
        obtain ⟨_, h2⟩ := (show _ ∧ _ from hv)
        obtain ⟨_, _, _, _, _, _, ro⟩ := R.ow i d h2
        cases ro <;> cases z
    exact ⟨F1, e1, .refl _, r, r.flat z⟩
  · cases kd with
    | sh => cases d <;> cases z
    | tr n => cases d <;> cases z
    | «at» i => cases d <;> cases z
    | fr =>
      obtain ⟨fu, a, o, rfl, n, ha, nf, ro, _⟩ := (show FrV c.θ F1 H H1 d v from hv)
      have nB := R.noneB n
      have at_ : onlyN (upd F1 a o) c.B a = some o := onlyN_at upd_same nB
      refine ⟨upd F1 a o, Ext.freeze e1.sub ha nf H e1.hh n F e1, Same.lay nf, ro.frozen nf fu, ?_⟩
      cases ro with
      | lst rl => exact .lst at_ (repl_flatF z rl)
      | dK l rl => exact .dK at_ l (repl_flatF z rl)
      | dT l rl => exact .dT at_ l (repl_flatF z rl)
      | obj l rl => cases z
theorem gs_fld {i : Nat} {x fn : Str} {fx : Nat → Nat → Bool} {pos' : Pos} (ha : PE X e (tEv c L W f)) (hfx : ∀ k n, fx k n = true → (c.θ.fld k)[n]? = some fn ∧ fn ∉ (c.θ.fld k).take n ∧ Cls X.K (c.θ.C k) ∧ NoAttr X.K (c.θ.C k) fn ∧ n < 1000)
    (hx : Loc X.env.scope x) (hs : swapsWith e (some (.Attribute (.Name x p) fn pos')) pos.line X.env = pure false := by rfl) (hf : X.fn x = true ∨ X.env.scope.names.lookup x = some .local := by exact Or.inl rfl) (hi : X.N[i]? = some x := by rfl) (hd : (x == ("__debug__" : Str)) = false := by decide) (hcd : (x == ("__classdict__" : Str)) = false := by decide) :
    PS X (.Assign [.Attribute (.Name x p) fn pos'] e pos) (tSv c L W (G.sFld fx i f)) := by
  refine ps_ev (ps_fld (pe_var hi (vis_of hx) hd hcd) ha hs) fun E σ H h => ?_
  obtain ⟨F, ρ, R, h⟩ := h
  refine sv_with R h fun d kd v F1 H1 ef e1 hv R1 h1 => ?_
  clear ef h
  replace h1 : ResS c L W F1 E (if clean d kd = true then (match ρ[i]? with
    | some (.me c ds) => if fx c ds.length then .nx (ρ.set i (.me c (ds ++ [d]))) else .no
    | _ => .no) else .no) := h1
  by_cases so : clean d kd = true
  · rw [if_pos so] at h1
    obtain ⟨F2, e2, s2, rp, rpn⟩ := hv.clean R e1 so
    have R2 := R.ext e2
    cases q : ρ[i]? with
    | none => rw [q] at h1; exact h1.elim
    | some sl =>
      rw [q] at h1
      cases sl with
      | me k ds =>
        replace h1 : ResS c L W F1 E (if fx k ds.length then .nx (ρ.set i (.me k (ds ++ [d]))) else .no) := h1
        by_cases qf : fx k ds.length = true
        · rw [if_pos qf] at h1
          obtain ⟨z1, z2, z3, z4, z5⟩ := hfx k _ qf
          obtain ⟨⟨ad, ob, y1, y2, y3, y4, y5, ym, y6⟩, y7⟩ := R2.me i k ds q
          refine ⟨_, y1, ad, ?_⟩
          cases y5 with
          | @obj _ dx xs _ l rl =>
          have lt : ds.length < (c.θ.fld k).length := (List.getElem?_eq_some_iff.mp z1).1
          have lx : ((c.θ.fld k).take ds.length).length = xs.length := by rw [rl.length, List.length_take]; omega
          refine ⟨_, dx, _, rfl, y2, z3, z4, ?_, ?_⟩
          · rw [List.length_zip, lx, Nat.min_self, rl.length]
            exact z5
          · have ep : putF fn v (((c.θ.fld k).take ds.length).zip xs) = ((c.θ.fld k).take (ds ++ [d]).length).zip (xs ++ [v]) := by
              rw [putF_end fun q hq => ?_]
              · rw [List.length_append, List.length_singleton, List.take_succ, z1]
                show _ = (List.take ds.length (c.θ.fld k) ++ [fn]).zip _
                rw [List.zip_append lx]
                rfl
              · intro z
                exact z2 (z ▸ (List.of_mem_zip hq).1)
            rw [ep]
            refine h1 σ F2 _ s2 ?_
            have keep : ∀ {b : Addr} {u : HO}, F2 b = some u → b ≠ ad := fun h z => by
              subst z
              rw [y3] at h
              cases h
            have keepB : ∀ {b : Addr} {u : HO}, c.B b = some u → b ≠ ad := fun h z => by
              subst z
              rw [y4] at h
              cases h
            have R3 := R2.put (F' := F2) (H' := upd H1 ad (.ins (c.θ.C k) dx (((c.θ.fld k).take (ds ++ [d]).length).zip (xs ++ [v])))) (i := i) (v := .ref ad) (sl := .me k (ds ++ [d])) (fun b u h => by rw [upd_ne (keep h)]; exact R2.sub b u h) (fun b u h => by rw [upd_ne (keepB h)]; exact R2.kp b u h) (.refl _) R2.fn
              (fun j a3 o3 hj ho hs3 h3 n3 => ?_) (fun _ h => by cases h) (fun _ h => by cases h) (fun k2 ds2 h => ?_) (fun Z hZ j k3 d2 hj hp b hb => by
                have nb : b ≠ ad := fun z => by
                  subst z
                  exact (hZ j k3 d2 hp).2.2.2.1 i b (.inr ⟨k, ds, q⟩) y1 hb
                exact ⟨upd_ne nb, rfl, fun _ z => by cases z; exact nb rfl⟩) (tp := fun b xs h => by
                rw [upd_ne fun z => ?_]
                · exact h
                · subst z
                  rw [y2] at h
                  cases h)
            · have e : σ.set i (some (.ref ad)) = σ := List.ext_getElem? fun j => by
                by_cases q : i = j
                · subst q
                  rw [List.getElem?_set_self (List.getElem?_eq_some_iff.mp y1).1, y1]
                · rw [List.getElem?_set_ne q]
              rwa [e] at R3
            · have ne : a3 ≠ ad := fun z => by
                subst z
                rcases ho with ⟨d3, hd⟩ | ⟨k3, ds3, hd⟩
                · exact y6 j d3 hd hs3
                · exact y7 j k3 ds3 hj hd
              exact ⟨by rw [upd_ne ne]; exact h3, n3⟩
            · cases h
              exact ⟨⟨ad, _, rfl, upd_same, y3, y4, .obj (by rw [List.length_append, List.length_singleton]; omega) (rl.append (.cons rpn .nil)), ym, fun j _ ⟨d3, hd⟩ => y6 j d3 hd⟩, fun j k' ds' hj => y7 j k' ds' hj⟩
        · rw [if_neg qf] at h1
          exact h1.elim
      | un => exact h1.elim
      | va d => exact h1.elim
      | ow d => exact h1.elim
      | xc => exact h1.elim
      | pv k d => exact h1.elim
  · rw [if_neg so] at h1
    exact h1.elim
/-- C() of an own exception class -/
theorem pmk_own0 {C : Addr} {bmB : List Value} {B newId initId : String} {x : Str} {p pos : Pos} (F : ExcBaseFacts B newId initId bmB) (q : PySem.W.excIn X.K C bmB newId = true) (gC : X.mg x = some (.ref C)) (kC : PySem.W.keepIn X.K (.ref C) = true) (r : Raises X (.ref C)) (hg : Gl X x)
    (hdb : (x == ("__debug__" : Str)) = false := by decide) : L2N.PMk X (.Call (.Name x p) [] [] pos) (fun _ H Q => Q (.ref C) none H) := by
  intro pins s σ H Q I h
  refine wpAny_Call_Name_kw (ld_glob I hg gC ?_ hdb)
  refine PySem.W.callWith_K0 (first := []) I.kIn kC ?_
  obtain ⟨bm, N, nm, qn, bs, hdct, sn, sub, ab, col, dd, k0, k1, k2, k3, k5, mN, hC, hN, hni, T⟩ := exc_obj I.kIn q
  refine wpAny_call_exc_subT F T hC hN hni (fun h' e hm => ?_) (by show 0 ≤ sizeLine; exact Nat.zero_le _)
  exact L2N.mk_of I hm r h (I.hok.gone hm.new)
theorem gs_raise0 {n : Nat} {bmB : List Value} {B newId initId : String} {x : Str} {p pos pos' : Pos} (hc : X.calm = true) (tk : L2N.Takes X W) (F : ExcBaseFacts B newId initId bmB) (q : PySem.W.excIn X.K (c.θ.C n) bmB newId = true) (gC : X.mg x = some (.ref (c.θ.C n))) (kC : PySem.W.keepIn X.K (.ref (c.θ.C n)) = true) (r : Raises X (.ref (c.θ.C n))) (hg : Gl X x)
    (hdb : (x == ("__debug__" : Str)) = false := by decide) : PS X (.Raise (some (.Call (.Name x p) [] [] pos)) none pos') (tSv c L W (sRaise n)) := by
  refine ps_ev (L2N.ps_raise hc tk (pmk_own0 F q gC kC r hg hdb)) fun E σ H h => ?_
  obtain ⟨F, ρ, R, h⟩ := h
  exact h _ _ σ F H (.refl _) R ⟨rfl, rfl⟩
end
end G
namespace G
open PySem PySem.Spec L2
def slots (N : Nat) (ds : List D) : Sl := ds.map .va ++ List.replicate (N - ds.length) .un
/-- what a def of N slots gives -/
def denF (N : Nat) (u : SS) (ds : List D) : Out (D × Bool) := match u (slots N ds) with
  | .nx _ => .ok (.non, false)
  | .rt d .sh _ => .ok (d, false)
  | .rt d (.tr _) _ => .ok (d, false)
  | .rt d _ _ => .ok (d, true)
  | .ex n fs _ => .ex n fs
  | _ => .no
/-- .. an __init__ of class k with nf fields -/
def denI (N k nf : Nat) (u : SS) (ds : List D) : Out (D × Bool) := match u (.me k [] :: slots (N - 1) ds) with
  | .nx ρ => (match ρ[0]? with
    | some (Slot.me k' fs) => if k' = k ∧ fs.length = nf then .ok (.obj k fs, true) else .no
    | _ => .no)
  | .ex n fs _ => .ex n fs
  | _ => .no
section
variable {θ : Th} {F H B F' H' : Hp}
theorem slots_va {N : Nat} {ds : List D} {i : Nat} {d : D} (h : (slots N ds)[i]? = some (.va d)) : ds[i]? = some d := by
  unfold slots at h
  by_cases q : i < (ds.map Slot.va).length
  · rw [List.getElem?_append_left q, List.getElem?_map] at h
    cases z : ds[i]? with
    | none => rw [z] at h; cases h
    | some e => rw [z] at h; cases h; rfl
  · rw [List.getElem?_append_right (by omega)] at h
    have := List.mem_of_getElem? h
    exact absurd (List.eq_of_mem_replicate this) (by intro z; cases z)
theorem slots_no {N : Nat} {ds : List D} {i : Nat} {sl : Slot} (h : (slots N ds)[i]? = some sl) : sl = .un ∨ ∃ d, sl = .va d := by
  have := List.mem_of_getElem? h
  unfold slots at this
  rcases List.mem_append.mp this with z | z
  · obtain ⟨d, _, e⟩ := List.mem_map.mp z
    exact .inr ⟨d, e.symm⟩
  · exact .inl (List.eq_of_mem_replicate z)
theorem start_rel {N : List Str} {vs : List V} {ds : List D} (s : Sub F H) (r : RepL θ F ds vs) : Rel θ F H [] F H (L2.start N vs) (slots N.length ds) := by
  have lv := r.length
  refine ⟨s, fun a u h => .inl h, .refl _, fun a u h => .inl h, ?_, fun i d h => ?_, fun i d h => ?_, fun i d h => ?_, fun i j d e a hn h1 => ?_, fun i k ds' h => ?_, fun i h => ?_, ⟨_, PvAll.empty fun i k d h => ?_⟩⟩
  · unfold L2.start slots
    simp [lv]
  · have h := slots_va h
    obtain ⟨v, h1, h2⟩ := r.get h
    refine ⟨v, ?_, h2⟩
    unfold L2.start
    rw [List.getElem?_append_left (by rw [List.length_map]; exact (List.getElem?_eq_some_iff.mp h1).1), List.getElem?_map, h1]
    rfl
  all_goals first
    | (rcases slots_no h with z | ⟨_, z⟩ <;> cases z; done)
    | (rcases slots_no h1 with z | ⟨_, z⟩ <;> cases z; done)
theorem Rel.same0 {F0 : Hp} {σ : L2.St} {ρ : Sl} (R : Rel θ F0 B [] F' H' σ ρ) : Same B H' := fun a u h => by
  rcases R.kp a u h with z | ⟨z, _⟩
  · exact z
  · cases z
abbrev EnF (Q : VK) : Ends := { nx := fun _ H' => Q .non H', rt := Q }
theorem body_of {N : List Str} {m : Nat} {u : SS} {vs : List V} {Q : VK} {E : XK} (h : spOf θ m (denF N.length u) vs H Q E) : ∃ F, tSv ⟨θ, F, H⟩ [] (fun cls d _ H => E cls d H) u (EnF Q) (L2.start N vs) H := by
  obtain ⟨hl, F, ds, s, r, hf⟩ := h
  refine ⟨F, F, _, start_rel s r, ?_⟩
  unfold denF at hf
  cases q : u (slots N.length ds) with
  | nx ρ' =>
    rw [q] at hf
    exact fun σ' F' H' e R => hf .non F' H' ⟨R.sub, e, R.same0, R.fn⟩ .non
  | bk ρ' => rw [q] at hf; exact hf.elim
  | ct ρ' => rw [q] at hf; exact hf.elim
  | rt d k ρ1 =>
    rw [q] at hf
    cases k with
    | sh => exact fun v σ' F' H' e R hv => hf v F' H' ⟨R.sub, e, R.same0, R.fn⟩ hv
    | fr => exact fun v σ' F' H' e R hv => hf v F' H' ⟨R.sub, e, R.same0, R.fn⟩ hv
    | «at» i => exact fun v σ' F' H' e R hv => hf v F' H' ⟨R.sub, e, R.same0, R.fn⟩ hv
    | tr n =>
      intro v σ' F' H' e R hv
      obtain ⟨F2, x, _, r⟩ := TrV.freeze ⟨R.sub, e, R.same0, R.fn⟩ hv
      exact hf v F2 H' x r
  | ex n fs ρ' =>
    rw [q] at hf
    exact fun cls dd σ' F' H' e R hv => hf cls dd F' H' ⟨R.sub, e, R.same0, R.fn⟩ hv
  | no => rw [q] at hf; exact hf.elim
theorem init_rel {N : List Str} {vs : List V} {ds : List D} {H0 : Hp} {x dx : Addr} {k : Nat} {n : Str} (s : Sub F H0) (nx : H0 x = none) (nd : H0 dx = none) (ne : dx ≠ x) (r : RepL θ F ds vs) :
    Rel θ F (upd H0 dx (.own x)) [x] F (upd (upd H0 dx (.own x)) x (.ins (θ.C k) dx [])) (L2.start (n :: N) (.ref x :: vs)) (.me k [] :: slots N.length ds) := by
  have nx' : upd H0 dx (.own x) x = none := by rw [upd_ne (fun z => ne z.symm)]; exact nx
  have R := start_rel (N := N) (s.lay (o := .own x) nd |>.lay (o := .ins (θ.C k) dx []) nx') r
  have st : L2.start (n :: N) (.ref x :: vs) = some (.ref x) :: L2.start N vs := by
    unfold L2.start
    simp
  rw [st]
  have sc : ∀ {i : Nat} {sl : Slot}, (Slot.me k [] :: slots N.length ds)[i]? = some sl → (i = 0 ∧ sl = .me k []) ∨ ∃ j, i = j + 1 ∧ (slots N.length ds)[j]? = some sl := fun {i sl} h => by
    cases i with
    | zero => exact .inl ⟨rfl, (Option.some.inj h).symm⟩
    | succ j => exact .inr ⟨j, rfl, by simpa using h⟩
  refine ⟨R.sub, fun a u h => .inl ?_, .refl _, fun a u h => .inl h, by simpa using R.len, fun i d h => ?_, fun i d h => ?_, fun i d h => ?_, fun i j d e a hn h1 => ?_, fun i k' ds' h => ?_, fun i h => ?_, ⟨_, PvAll.empty fun i k d h => ?_⟩⟩
  rotate_right
  · rcases sc h with ⟨_, z⟩ | ⟨j, rfl, z⟩
    · cases z
    · rcases slots_no z with z | ⟨_, z⟩ <;> cases z
  · rw [upd_ne]
    · exact h
    · intro z
      subst z
      rw [nx'] at h
      cases h
  · rcases sc h with ⟨_, z⟩ | ⟨j, rfl, z⟩
    · cases z
    · obtain ⟨v, h1, h2⟩ := R.va j d z
      exact ⟨v, by simpa using h1, h2⟩
  · rcases sc h with ⟨_, z⟩ | ⟨j, rfl, z⟩
    · cases z
    · rcases slots_no z with z | ⟨_, z⟩ <;> cases z
  · rcases sc h with ⟨_, z⟩ | ⟨j, rfl, z⟩
    · cases z
    · rcases slots_no z with z | ⟨_, z⟩ <;> cases z
  · rcases sc h1 with ⟨_, z⟩ | ⟨j, rfl, z⟩
    · cases z
    · rcases slots_no z with z | ⟨_, z⟩ <;> cases z
  · rcases sc h with ⟨rfl, z⟩ | ⟨j, rfl, z⟩
    · cases z
      refine ⟨⟨x, _, rfl, upd_same, s.free nx, nx', ?_, by simp, fun j d hj => ?_⟩, fun j k2 ds2 hj z => ?_⟩
      · exact .obj (xs := []) (ds := []) (Nat.zero_le _) .nil
      · rcases sc hj with ⟨_, z⟩ | ⟨j, rfl, z⟩
        · cases z
        · rcases slots_no z with z | ⟨_, z⟩ <;> cases z
      · rcases sc z with ⟨z, _⟩ | ⟨j, rfl, z⟩
        · exact hj z
        · rcases slots_no z with z | ⟨_, z⟩ <;> cases z
    · rcases slots_no z with z | ⟨_, z⟩ <;> cases z
  · rcases sc h with ⟨_, z⟩ | ⟨j, rfl, z⟩
    · cases z
    · rcases slots_no z with z | ⟨_, z⟩ <;> cases z
theorem init_of {N : List Str} {n : Str} {m k nf : Nat} {u : SS} {vs : List V} {Q : VK} {E : XK} (hnf : nf = (θ.fld k).length) (h : spInit θ m k (denI (n :: N).length k nf u) vs H Q E) :
    ∃ F B x, tSv ⟨θ, F, B⟩ [x] (fun cls d _ H => E cls d H) u (EnF Q) (L2.start (n :: N) vs) H := by
  obtain ⟨hl, F, ds, H0, x, dx, us, rfl, nx, nd, ne, rfl, s, r, hf⟩ := h
  refine ⟨F, upd H0 dx (.own x), x, F, _, init_rel s nx nd ne r, ?_⟩
  have nx' : upd H0 dx (.own x) x = none := by rw [upd_ne (fun z => ne z.symm)]; exact nx
  have ext : ∀ {F' H' : Hp} {σ : L2.St} {ρ : Sl}, Same F F' → Rel θ F (upd H0 dx (.own x)) [x] F' H' σ ρ → Ext F H0 F' H' := fun {F' H' σ ρ} e R => by
    refine ⟨R.sub, e, fun a u h => ?_, fun a u h => ?_⟩
    · have hb : upd H0 dx (.own x) a = some u := by rw [upd_ne (ne_of_none h nd)]; exact h
      rcases R.kp a u hb with z | ⟨z, _⟩
      · exact z
      · simp at z
        subst z
        rw [nx] at h
        cases h
    · rcases R.fn a u h with z | z | z
      · exact .inl z
      rotate_left
      · exact .inr (.inr z)
      · refine .inr (.inl ?_)
        by_cases q : a = dx
        · rw [q]; exact nd
        · rwa [upd_ne q] at z
  unfold denI at hf
  replace hf : ResF θ F H0 (fun v H' => v = .ref x → Q .non H') E (match (generalizing := false) u (.me k [] :: slots N.length ds) with
    | .nx ρ => (match ρ[0]? with
      | some (Slot.me k' fs) => if k' = k ∧ fs.length = nf then .ok (.obj k fs, true) else .no
      | _ => .no)
    | .ex n fs _ => .ex n fs
    | _ => .no) := hf
  cases q : u (.me k [] :: slots N.length ds) with
  | nx ρ' =>
    rw [q] at hf
    replace hf : ResF θ F H0 (fun v H' => v = .ref x → Q .non H') E (match (generalizing := false) ρ'[0]? with
      | some (Slot.me k' fs) => if k' = k ∧ fs.length = nf then .ok (.obj k fs, true) else .no
      | _ => .no) := hf
    intro σ' F' H' e R
    cases z : ρ'[0]? with
    | none => rw [z] at hf; exact hf.elim
    | some sl =>
      rw [z] at hf
      cases sl with
      | me k' fs =>
        replace hf : ResF θ F H0 (fun v H' => v = .ref x → Q .non H') E (if k' = k ∧ fs.length = nf then .ok (.obj k fs, true) else .no) := hf
        by_cases y : k' = k ∧ fs.length = nf
        · rw [if_pos y] at hf
          obtain ⟨rfl, y2⟩ := y
          obtain ⟨⟨a, o, g1, g2, g3, g4, g5, g6, _⟩, _⟩ := R.me 0 k' fs z
          have ea : a = x := by simpa using g6
          subst ea
          exact hf (.ref a) F' H' (ext e R) ⟨(y2.trans hnf : fs.length = (θ.fld k').length), a, o, rfl, nx, g2, g3, g5.mono onlyN_le, fun _ => g5.mono (onlyN_mono (.refl _) fun b hb => by
            replace hb : upd H0 dx (.own a) b = none := hb
            by_cases q : b = dx
            · rw [q]; exact nd
            · rwa [upd_ne q] at hb)⟩ rfl
        · rw [if_neg y] at hf
          exact hf.elim
      | un => exact hf.elim
      | va d => exact hf.elim
      | ow d => exact hf.elim
      | xc => exact hf.elim
      | pv k d => exact hf.elim
  | bk ρ' => rw [q] at hf; exact hf.elim
  | ct ρ' => rw [q] at hf; exact hf.elim
  | rt d k ρ1 => rw [q] at hf; exact hf.elim
  | ex n fs ρ' =>
    rw [q] at hf
    exact fun cls dd σ' F' H' e R hv => hf cls dd F' H' (ext e R) hv
  | no => rw [q] at hf; exact hf.elim
end
section
variable {P : Program} {w : World} {K : PySem.W.Frag} {mg : Str → Option Value} {base : Heap} {x qual : Str} {params : Arguments} {body : List Stmt} {scope : Scope} {f : Addr} {fd : FuncData} {θ : Th}
/-- the context of a body -/
abbrev BX (P : Program) (w : World) (K : PySem.W.Frag) (mg : Str → Option Value) (base : Heap) (N : List Str) (qual : Str) (scope : Scope) (f : Addr) (cdv : Value) (A : Around) (outer : List Env) (s : Shared) (H : Hp) (E : XK) : Cx := cxOf (L2N.CX P w) P w K mg base N qual scope f cdv A outer s H E
/-- what is at hand in a body -/
structure BodyOk (X : Cx) (W : WX) (k : Nat) : Prop where
  tk : L2N.Takes X W
  po : PassesOwn (model X.prog X.w) X.A X.env X.xe
  rm : Room k X.A
theorem BodyOk.u {X : Cx} {W : WX} {k : Nat} (b : BodyOk X W k) : X.A.units + 1 < cLine := by have := b.rm.units; omega
theorem fn_ok {N ps : List Str} {k m : Nat} {u : SS} (F : FunD K x qual params body scope [] [] f fd) (S : FnScope N ps scope) (hm : m = ps.length)
    (hb : ∀ (cdv : Value) (A : Around) (outer : List Env) (s : Shared) (H : Hp) (E : XK) (F0 B : Hp) (L : List Addr), BodyOk (BX P w K mg base N qual scope f cdv A outer s H E) (fun cls d _ H => E cls d H) k → PSs (BX P w K mg base N qual scope f cdv A outer s H E) body (tSv ⟨θ, F0, B⟩ L (fun cls d _ H => E cls d H) u)) :
    FnOk P w K mg base (L2N.CX P w) (k + 1) f fd ps (spOf θ m (denF N.length u)) := by
  refine F.ok S (fun vs H Q E h => by rw [h.1, hm]) fun cdv A outer s H vs Q E hr h => ?_
  obtain ⟨F0, h⟩ := body_of h
  exact ⟨_, hb cdv A outer s H E F0 H [] ⟨L2N.takes_of rfl rfl rfl rfl, passes_of rfl, hr⟩, h⟩
theorem init_ok {N ps : List Str} {n : Str} {k m cn nf : Nat} {u : SS} (F : FunD K x qual params body scope [] [] f fd) (S : FnScope (n :: N) ps scope) (hm : m + 1 = ps.length) (hnf : nf = (θ.fld cn).length)
    (hb : ∀ (cdv : Value) (A : Around) (outer : List Env) (s : Shared) (H : Hp) (E : XK) (F0 B : Hp) (L : List Addr), BodyOk (BX P w K mg base (n :: N) qual scope f cdv A outer s H E) (fun cls d _ H => E cls d H) k → PSs (BX P w K mg base (n :: N) qual scope f cdv A outer s H E) body (tSv ⟨θ, F0, B⟩ L (fun cls d _ H => E cls d H) u)) :
    FnOk P w K mg base (L2N.CX P w) (k + 1) f fd ps (spInit θ m cn (denI (n :: N).length cn nf u)) := by
  refine F.ok S (fun vs H Q E h => by rw [h.1, hm]) fun cdv A outer s H vs Q E hr h => ?_
  obtain ⟨F0, B, y, h⟩ := init_of hnf h
  exact ⟨_, hb cdv A outer s H E F0 B [y] ⟨L2N.takes_of rfl rfl rfl rfl, passes_of rfl, hr⟩, h⟩
end
end G
namespace G
open PySem PySem.Spec L2
/-- what holds in every context -/
structure XB (X : Cx) (c : Cn) : Prop where
  K : X.K = c.θ.K
  nd : X.N.Nodup
  hu2 : X.A.units + 128 < cLine
/-- .. where no exception is handled -/
structure XC (X : Cx) (c : Cn) : Prop extends XB X c where
  calm : X.calm = true
instance {X : Cx} {c : Cn} : Coe (XC X c) (XB X c) := ⟨XC.toXB⟩
section
variable {X : Cx} {c : Cn} {L : List Addr} {W : WX} {f g h : ES} {a b e d tg iter : Expr} {pos p : Pos} {s : IS} {t u : TSm}
theorem u128 {k : Nat} {A : Around} (r : Room k A) : A.units + 128 < cLine := by have := r.un; omega
theorem XB.hu (x : XB X c) : X.A.units + 64 < cLine := by have := x.hu2; omega
theorem XC.blk (x : XC X c) {s : Shared} {H : Hp} {scope : Scope} {cenv : Env} {fp : List Addr} : XC (X.blk s H scope cenv fp) c := ⟨⟨x.K, x.nd, x.hu2⟩, x.calm⟩
theorem XB.u1 (x : XB X c) : X.A.units + 1 < cLine := by have := x.hu; omega
theorem XB.u0 (x : XB X c) : X.A.units < cLine := by have := x.hu; omega
def OpB (X : Cx) (c : Cn) (o : Operator) (op : D → D → Out (D × Kd)) : Prop := ∃ r, OpR X (binaryOp o) r ∧ ∀ W, OpD c W op r
def OpC (X : Cx) (c : Cn) (o : CmpOp) (op : D → D → Out (D × Kd)) : Prop := ∃ r, OpR X (compareOp o) r ∧ ∀ W, OpD c W op r
theorem ob_add (x : XB X c) : OpB X c .Add oAdd := ⟨_, op_add.or (op_add_str.or (op_cat.or (by rw [← x.K]; exact op_catA))), fun _ => od_add⟩
theorem ob_sub (x : XB X c) : OpB X c .Sub oSub := ⟨_, op_sub, fun _ => od_sub⟩
theorem ob_mul (x : XB X c) : OpB X c .Mult oMul := ⟨_, op_mul.or op_rep, fun _ => od_mul⟩
theorem ob_mod (x : XB X c) : OpB X c .Mod oMod := ⟨_, op_mod, fun _ => od_mod⟩
theorem ob_div (x : XB X c) : OpB X c .FloorDiv oDiv := ⟨_, op_fdiv, fun _ => od_div⟩
theorem ob_pow (x : XB X c) : OpB X c .Pow oPow := ⟨_, op_pow, fun _ => od_pow⟩
theorem oc_eq (x : XB X c) : OpC X c .Eq oEq := ⟨_, op_eq.or (by rw [← x.K]; exact op_eqD x.hu), fun _ => od_eq⟩
theorem oc_ne (x : XB X c) : OpC X c .NotEq oNe := ⟨_, op_ne.or (by rw [← x.K]; exact op_neD x.hu), fun _ => od_ne⟩
theorem oc_lt (x : XB X c) : OpC X c .Lt oLt := ⟨_, op_lt.or (by rw [← x.K]; exact op_ltT x.u0), fun _ => od_lt⟩
theorem oc_le (x : XB X c) : OpC X c .LtE oLe := ⟨_, op_le, fun _ => od_le⟩
theorem oc_gt (x : XB X c) : OpC X c .Gt oGt := ⟨_, op_gt, fun _ => od_gt⟩
theorem oc_ge (x : XB X c) : OpC X c .GtE oGe := ⟨_, op_ge, fun _ => od_ge⟩
theorem g_bin {o : Operator} {op : D → D → Out (D × Kd)} (ho : OpB X c o op) (ha : PE X a (tEv c L W f)) (hb : PE X b (tEv c L W g)) : PE X (.BinOp a o b pos) (tEv c L W (eBin op f g)) := by
  obtain ⟨r, h1, h2⟩ := ho
  exact pg_bin h1 (h2 W) ha hb
theorem g_cmp {o : CmpOp} {op : D → D → Out (D × Kd)} (ho : OpC X c o op) (ha : PE X a (tEv c L W f)) (hb : PE X b (tEv c L W g)) (hm : behindInMarks o b = false := by rfl) : PE X (.Compare a [o] [b] pos) (tEv c L W (eBin op f g)) := by
  obtain ⟨r, h1, h2⟩ := ho
  exact pg_cmp h1 hm (h2 W) ha hb
theorem t_cmp {o : CmpOp} {op : D → D → Out (D × Kd)} (ho : OpC X c o op) (ha : PE X a (tEv c L W f)) (hb : PE X b (tEv c L W g)) (hm : behindInMarks o b = false := by rfl) : PT X (.Compare a [o] [b] pos) (tTv c L W (tBl (eBin op f g))) := by
  obtain ⟨r, h1, h2⟩ := ho
  exact pgt_cmp h1 hm (h2 W) ha hb
theorem t_chain {o o' : CmpOp} {op op' : D → D → Out (D × Kd)} (ho : OpC X c o op) (ho' : OpC X c o' op') (ha : PE X a (tEv c L W f)) (hb : PE X b (tEv c L W g)) (hd : PE X d (tEv c L W h)) (hm : lastMarks [o, o'] [b, d] = false := by rfl) : PT X (.Compare a [o, o'] [b, d] pos) (tTv c L W (tBl (eChain op op' f g h))) := by
  obtain ⟨r, h1, h2⟩ := ho
  obtain ⟨r', h1', h2'⟩ := ho'
  exact pgt_chain h1 h1' hm h2 (h2' W) ha hb hd
theorem g_var (i : Nat) {x : Str} (hv : Vis X.env.scope x) (hN : X.N[i]? = some x := by rfl) (hd : (x == ("__debug__" : Str)) = false := by rfl) (hcd : (x == ("__classdict__" : Str)) = false := by rfl) : PE X (.Name x pos) (tEv c L W (eVar i)) := pg_var hN hv hd hcd
theorem g_int {i : Int} {j : Nat} : PE X (.Constant (.int i) j pos) (tEv c L W (eC (.int i))) := pg_const pe_int fun _ _ => .int _
theorem g_str {i : Str} {j : Nat} : PE X (.Constant (.str i) j pos) (tEv c L W (eC (.str i))) := pg_const pe_str fun _ _ => .str _
theorem g_bl {i : Bool} {j : Nat} : PE X (.Constant (.bool i) j pos) (tEv c L W (eC (.bl i))) := pg_const pe_bl fun _ _ => .bl _
theorem g_non {j : Nat} : PE X (.Constant .none j pos) (tEv c L W (eC .non)) := pg_const pe_non fun _ _ => .non
theorem g_globI {x : Str} {i : Int} (hm : ∃ t, X.mg x = some (.int i t)) (hg : Gl X x := by rfl) (hd : (x == ("__debug__" : Str)) = false := by rfl) : PE X (.Name x pos) (tEv c L W (eC (.int i))) := by
  obtain ⟨t, hm⟩ := hm
  exact pg_const (pe_glob (v := .int i) hg hm ⟨t, rfl⟩ hd) fun _ _ => .int _
theorem g_cons {es : List Expr} {fs : List ES} (ha : PE X e (tEv c L W f)) (hr : PA X es (tAv c L W fs)) (hs : starEach (e :: es) X.env = (false, eval e X.env) :: starEach es X.env := by rfl) : PA X (e :: es) (tAv c L W (f :: fs)) := pga_cons ha hr hs
theorem g_ix (x : XB X c) (ha : PE X a (tEv c L W f)) (hb : PE X b (tEv c L W g)) (hs : PlainIx b := by exact fun _ _ => rfl) : PE X (.Subscript a b pos) (tEv c L W (eBin oIx f g)) := pg_ix x.u1 x.K ha hb hs
theorem g_sl {p2 : Pos} {lo hi : Option Expr} {fl fh : Option ES} (x : XB X c) (ha : PE X a (tEv c L W f)) (hl : PO X lo (tPo c L W fl)) (hh : PO X hi (tPo c L W fh)) : PE X (.Subscript a (.Slice lo hi none p2) pos) (tEv c L W (eSl f fl fh)) := pg_sl x.K ha hl hh
theorem g_fld {n : Str} {fx : Nat → Option Nat} (x : XB X c) (T : FldOk c n fx) (ha : PE X a (tEv c L W f)) (hb : attributeBase a n X.env (eval a X.env) = eval a X.env := by rfl) : PE X (.Attribute a n pos) (tEv c L W (eUn (oFld fx) f)) := pg_fld T x.K ha hb
theorem t_tru (x : XB X c) (ha : PE X a (tEv c L W f)) (he : ∀ whole, isTrue a X.env whole = (do let v ← whole; standAt a.pos; holding [v] (truthy v)) := by exact fun _ => rfl) : PT X a (tTv c L W (tTru f)) := pgt_tru ha he x.K
theorem t_pw (h : PW X e (tTv c L W t)) : PT X e (tTv c L W t) := h.pt
def BiF (X : Cx) (c : Cn) (b : Bi) (x : Str) : Prop := (∃ id r, bootBuiltins x = some (.builtin id) ∧ CallR X (.builtin id) r ∧ ∀ W, BiD c W b r) ∨ ∃ id r, bootBuiltins x = some (.type id) ∧ CallR X (.type id) r ∧ ∀ W, BiD c W b r
theorem call_lenK : CallR X (.builtin "len") (fun xs H Q => ∃ a kvs, xs = [V.ref a] ∧ Rd H a (.dK kvs) ∧ Q (.int (kvs.length : Nat)) H) := by
  intro pins s σ H xs us Q I r h
  obtain ⟨a, kvs, rfl, ha, q⟩ := h
  obtain ⟨u, rfl, ru⟩ := vals1 r
  cases ru
  exact d_len I ha fun t s' I' => ⟨.int kvs.length, H, I', ⟨t, rfl⟩, q⟩
theorem call_lenT : CallR X (.builtin "len") (fun xs H Q => ∃ a kvs, xs = [V.ref a] ∧ Rd H a (.dT kvs) ∧ Q (.int (kvs.length : Nat)) H) := by
  intro pins s σ H xs us Q I r h
  obtain ⟨p, kvs, rfl, hp, q⟩ := h
  obtain ⟨u, rfl, rx⟩ := vals1 r
  obtain rfl : u = .ref p := rx
  obtain ⟨z, hd, ys, rel, dd⟩ := dt_rd I.hok hp
  have hl : kvs.length = ys.length := Paired.length rel
  refine call_len_dictH hd dd (by rw [← hl]; rw [sizeLine_eq] at z; omega) ?_
  rw [← hl]
  exact ⟨.int ((kvs.length : Nat) : Int), H, I.tok _, ⟨_, rfl⟩, q⟩
theorem bf_len (x : XB X c) : BiF X c .len "len" := .inl ⟨_, _, by decide +kernel, (by rw [← x.K]; exact call_len : CallR X (.builtin "len") (fun xs H Q => ∃ x n, xs = [x] ∧ LenV c.θ.K x H n ∧ Q (.int n) H)).or (call_lenK.or call_lenT), fun _ => bd_len⟩
theorem bf_abs (x : XB X c) : BiF X c .abs "abs" := .inl ⟨_, _, by decide +kernel, call_abs, fun _ => bd_abs⟩
theorem bf_max1 (x : XC X c) : BiF X c .max1 "max" := .inl ⟨_, _, by decide +kernel, (by rw [← x.K]; exact cr_max x.calm : CallR X (.builtin "max") (rMax c.θ.K)), fun _ => bd_max1⟩
theorem bf_list (x : XB X c) : BiF X c .list "list" := .inr ⟨_, _, by decide +kernel, (by rw [← x.K]; exact call_list_of : CallR X (.type "list") (fun xs H Q => ∃ p ys, xs = [.ref p] ∧ (SqL c.θ.K H p ys ∨ SqT c.θ.K H p ys) ∧ ∀ l, H l = none → Q (.ref l) (upd H l (.lst ys)))), fun _ => bd_list⟩
theorem bf_min2 (x : XC X c) : BiF X c .min2 "min" := .inl ⟨_, _, by decide +kernel, call_min2 x.calm, fun _ => bd_min2⟩
theorem g_bi {bi : Bi} {x : Str} {es : List Expr} {fs : List ES} (hb : BiF X c bi x) (hm : X.mg x = none) (ha : PA X (e :: es) (tAv c L W fs)) (hg : Gl X x := by rfl) (hn : x ≠ "__name__" := by decide) (hdb : (x == ("__debug__" : Str)) = false := by rfl)
    (he : starEach (e :: es) X.env = (false, eval e X.env) :: starEach es X.env := by rfl) (hpl : (backTo pos (starEach es X.env)).any (·.1) = false := by rfl) : PE X (.Call (.Name x p) (e :: es) [] pos) (tEv c L W (eBi bi fs)) := by
  rcases hb with ⟨id, r, h1, h2, h3⟩ | ⟨id, r, h1, h2, h3⟩
  · exact pg_bi h2 (h3 W) hg hm h1 ha hn hdb he hpl
  · exact pg_biTy h2 (h3 W) hg hm h1 ha hn hdb he hpl
/-- a def of m parameters that gives R; k: its depth -/
structure CallOk (X : Cx) (θ : Th) (k : Nat) (fa : Addr) (m : Nat) (R : List D → Out (D × Bool)) : Prop where
  ok : ∃ fd ps, FnOk X.prog X.w X.K X.mg X.base (L2N.CX X.prog X.w) k fa fd ps (spOf θ m R) ∧ Binds X.K fd ps [] ∧ PySem.W.keepIn X.K (.ref fa) = true
def eFn (R : List D → Out (D × Bool)) (fs : List ES) : ES := eCall (fun _ => R) 0 fs
theorem g_call {R : List D → Out (D × Bool)} {k k' m : Nat} {fa : Addr} {x : Str} {es : List Expr} {fs : List ES} (F : CallOk X c.θ k fa m R) (hr : Room k' X.A) (hk : k ≤ k') (tk : L2N.Takes X W) (hm : X.mg x = some (.ref fa)) (ha : PA X (e :: es) (tAv c L W fs)) (hl : fs.length = m := by rfl) (hg : Gl X x := by rfl)
    (hdb : (x == ("__debug__" : Str)) = false := by rfl) (he : starEach (e :: es) X.env = (false, eval e X.env) :: starEach es X.env := by rfl) (hpl : (backTo pos (starEach es X.env)).any (·.1) = false := by rfl) : PE X (.Call (.Name x p) (e :: es) [] pos) (tEv c L W (eFn R fs)) := by
  obtain ⟨fd, ps, F, hb, hkp⟩ := F.ok
  exact pg_call (Γ := fun _ => R) (n := 0) F (hr.mono hk) hg hm hkp hb tk ha hl hdb he hpl
structure MakeOk (X : Cx) (θ : Th) (k cn : Nat) (m : Nat) (R : List D → Out (D × Bool)) : Prop where
  ok : ∃ fa fd ps, FnOk X.prog X.w X.K X.mg X.base (L2N.CX X.prog X.w) k fa fd ps (spInit θ m cn R) ∧ Binds X.K fd ps [] ∧ Mk X.K (θ.C cn) fa
theorem g_make {R : List D → Out (D × Bool)} {k k' m cn : Nat} {x : Str} {es : List Expr} {fs : List ES} (F : MakeOk X c.θ k cn m R) (hr : Room k' X.A) (hk : k + 1 ≤ k') (tk : L2N.Takes X W) (hm : X.mg x = some (.ref (c.θ.C cn))) (ha : PA X (e :: es) (tAv c L W fs)) (hl : fs.length = m := by rfl) (hg : Gl X x := by rfl)
    (hdb : (x == ("__debug__" : Str)) = false := by rfl) (he : starEach (e :: es) X.env = (false, eval e X.env) :: starEach es X.env := by rfl) (hpl : (backTo pos (starEach es X.env)).any (·.1) = false := by rfl) : PE X (.Call (.Name x p) (e :: es) [] pos) (tEv c L W (eFn R fs)) := by
  obtain ⟨fa, fd, ps, F, hb, M⟩ := F.ok
  exact pg_make (Γ := fun _ => R) (n := 0) M F (hr.mono hk) hg hm hb tk ha hl hdb he hpl
/-- a method: by the class's number -/
abbrev MTab := List (Nat × (List D → Out (D × Bool)))
def mGam (l : MTab) : Gam := fun n => match l.lookup n with
  | some R => R
  | none => fun _ => .no
def mIx (l : MTab) : Nat → Option Nat := fun n => match l.lookup n with
  | some _ => some n
  | none => none
def eM (l : MTab) (f : ES) (fs : List ES) : ES := eMeth (mGam l) (mIx l) f fs
structure MetOk (X : Cx) (θ : Th) (k cn : Nat) (m : Str) (l : Nat) (R : List D → Out (D × Bool)) : Prop where
  ok : ∃ fa fd ps, FnOk X.prog X.w X.K X.mg X.base (L2N.CX X.prog X.w) k fa fd ps (spOf θ (l + 1) R) ∧ Cls X.K (θ.C cn) ∧ Meth X.K (θ.C cn) m fa ∧ Binds X.K fd ps [] ∧ m ∉ θ.fld cn
theorem methOk_of {l : MTab} {m : Str} {n k : Nat} (hr : Room k X.A) (h : ∀ q ∈ l, ∃ k', k' ≤ k ∧ MetOk X c.θ k' q.1 m n q.2) : MethOk X c (mGam l) m (mIx l) n := by
  refine ⟨fun cn j hj => ?_⟩
  unfold mIx at hj
  cases q : l.lookup cn with
  | none => rw [q] at hj; cases hj
  | some R =>
    rw [q] at hj
    cases hj
    have mem : (cn, R) ∈ l := by
      clear h
      induction l with
      | nil => cases q
      | cons z r ih =>
        rw [List.lookup_cons] at q
        cases e : cn == z.1 with
        | true =>
          rw [e] at q
          cases q
          rw [beq_iff_eq.mp e]
          exact List.mem_cons_self
        | false =>
          rw [e] at q
          exact List.mem_cons_of_mem _ (ih q)
    obtain ⟨k', hk, fa, fd, ps, F, c1, m1, b1, n1⟩ := h _ mem
    refine ⟨fa, fd, ps, k', ?_, hr.mono hk, c1, m1, b1, n1⟩
    have e : mGam l cn = R := by
      unfold mGam
      rw [q]
    rw [e]
    exact F
theorem g_meth {l : MTab} {pl : Sem Bool} {o : Expr} {m : Str} {apos : Pos} {es : List Expr} {fs : List ES} {k n : Nat} (hr : Room k X.A) (tk : L2N.Takes X W) (h : ∀ q ∈ l, ∃ k', k' ≤ k ∧ MetOk X c.θ k' q.1 m n q.2) (ho : PE X o (tEv c L W f)) (ha : PA X (e :: es) (tAv c L W fs)) (hl : fs.length = n := by rfl)
    (hst : starEach (e :: es) X.env = (false, eval e X.env) :: starEach es X.env := by rfl) (hpl : (backTo pos (starEach es X.env)).any (·.1) = false := by rfl)
    (ht : eval (.Call (.Attribute o m apos) (e :: es) [] pos) X.env = (do
      let ov ← eval o X.env
      standAt apos.atName
      let (f, first) ← holding [ov] (getMethod ov m pl)
      callWith pos f first (backTo pos (starEach (e :: es) X.env)) (backToKw pos (keywordEach [] X.env))) := by rfl) : PE X (.Call (.Attribute o m apos) (e :: es) [] pos) (tEv c L W (eM l f fs)) :=
  pg_meth (pl := pl) (by rw [hl]; exact methOk_of hr h) tk ho ha hst hpl ht
theorem g_meth0 {l : MTab} {pl : Sem Bool} {o : Expr} {m : Str} {apos : Pos} {k : Nat} (hr : Room k X.A) (tk : L2N.Takes X W) (h : ∀ q ∈ l, ∃ k', k' ≤ k ∧ MetOk X c.θ k' q.1 m 0 q.2) (ho : PE X o (tEv c L W f))
    (ht : eval (.Call (.Attribute o m apos) [] [] pos) X.env = (do
      let ov ← eval o X.env
      standAt apos.atName
      let (f, first) ← holding [ov] (getMethod ov m pl)
      callWith pos f first (backTo pos (starEach [] X.env)) (backToKw pos (keywordEach [] X.env))) := by rfl) : PE X (.Call (.Attribute o m apos) [] [] pos) (tEv c L W (eM l f [])) :=
  pg_meth0 (pl := pl) (methOk_of hr h) tk ho ht
theorem i_list {st : Bool} (x : XB X c) (ha : PE X iter (tEv c L W f)) : PI X tg iter (tIv c L W st (itE st f)) := gi_list x.K ha
theorem i_r1 {st : Bool} (hm : X.mg "range" = none) (ha : PE X a (tEv c L W f)) (hg : Gl X "range" := by rfl) (hs : starEach [a] X.env = (false, eval a X.env) :: starEach [] X.env := by rfl) : PI X tg (.Call (.Name "range" p) [a] [] pos) (tIv c L W st (itR1 f)) := gi_r1 hg hm ha hs
theorem i_r2 {st : Bool} (hm : X.mg "range" = none) (ha : PE X a (tEv c L W f)) (hb : PE X b (tEv c L W g)) (hg : Gl X "range" := by rfl) (hs : starEach [a, b] X.env = (false, eval a X.env) :: starEach [b] X.env := by rfl) (hs2 : starEach [b] X.env = (false, eval b X.env) :: starEach [] X.env := by rfl) : PI X tg (.Call (.Name "range" p) [a, b] [] pos) (tIv c L W st (itR2 f g)) := gi_r2 hg hm ha hb hs hs2
theorem i_enum {st : Bool} {e1 : Expr} {elts : List Expr} {kk : Nat} {tpos : Pos} (x : XB X c) (hm : X.mg "enumerate" = none) (ha : PE X e1 (tEv c L W f)) (hg : Gl X "enumerate" := by rfl) (hs : starEach [e1] X.env = (false, eval e1 X.env) :: starEach [] X.env := by rfl) :
    PI X (.Tuple elts kk tpos) (.Call (.Name "enumerate" p) [e1] [] pos) (tIv c L W st (itEnum st f)) := gi_enum x.K hg hm ha hs
theorem t_name (x : XB X c) (i : Nat) {n : Str} (hx : Loc X.env.scope n) (hf : X.fn n = true ∨ X.env.scope.names.lookup n = some .local) (hi : X.N[i]? = some n := by rfl) : PG X (.Name n pos) (gTv c L (.one i)) := gg_name x.nd hi hx hf
theorem ts_cons {es : List Expr} {t : Tg} {ts : List Tg} (h1 : PG X e (gTv c L t)) (h2 : PGs X es (gTvs c L ts)) (hs : (assignEach (e :: es) X.env).map (·.2) = assign e X.env :: (assignEach es X.env).map (·.2) := by rfl) : PGs X (e :: es) (gTvs c L (t :: ts)) := ggs_cons h1 h2 hs
theorem t_tup {es : List Expr} {k n : Nat} {ts : List Tg} (x : XC X c) (h : PGs X es (gTvs c L ts)) (hl : ts.length = n := by rfl) (hn : (assignEach es X.env).length = n := by rfl) (hst : (assignEach es X.env).findIdx? (·.1) = none := by rfl) : PG X (.Tuple es k pos) (gTv c L (.tup ts)) := gg_tup x.calm x.K h hn hst hl
end
end G
namespace G
open PySem PySem.Spec L2
def AllL {α : Type} (P : α → Prop) : List α → Prop
  | [] => True
  | a :: l => P a ∧ AllL P l
theorem AllL.mem {α : Type} {P : α → Prop} : ∀ {l : List α}, AllL P l → ∀ q ∈ l, P q
  | a :: l, h, q, hq => by
    rcases List.mem_cons.mp hq with rfl | z
    · exact h.1
    · exact AllL.mem h.2 q z
/-- a def of the text that gives R -/
def Fine (P : Program) (w : World) (K : PySem.W.Frag) (mg : Str → Option Value) (base : Heap) (θ : Th) (k : Nat) (d : He.DefD) (m : Nat) (R : List D → Out (D × Bool)) : Prop :=
  ∃ fd ps, FnOk P w K mg base (L2N.CX P w) k (He.fAd K d.at_) fd ps (spOf θ m R) ∧ Binds K fd ps [] ∧ PySem.W.keepIn K (.ref (He.fAd K d.at_)) = true
def FineI (P : Program) (w : World) (K : PySem.W.Frag) (mg : Str → Option Value) (base : Heap) (θ : Th) (k cn : Nat) (d : He.DefD) (m : Nat) (R : List D → Out (D × Bool)) : Prop :=
  ∃ fd ps, FnOk P w K mg base (L2N.CX P w) k (He.fAd K d.at_) fd ps (spInit θ m cn R) ∧ Binds K fd ps []
section
variable {X : Cx} {c : Cn} {L : List Addr} {W : WX} {f g h : ES} {a b e d tg iter : Expr} {pos p : Pos}
theorem Fine.call {θ : Th} {k m : Nat} {dd : He.DefD} {R : List D → Out (D × Bool)} (F : Fine X.prog X.w X.K X.mg X.base θ k dd m R) : CallOk X θ k (He.fAd X.K dd.at_) m R := by
  obtain ⟨fd, ps, h1, h2, h3⟩ := F
  exact ⟨fd, ps, h1, h2, h3⟩
theorem FineI.make {θ : Th} {k cn m : Nat} {dd : He.DefD} {R : List D → Out (D × Bool)} (F : FineI X.prog X.w X.K X.mg X.base θ k cn dd m R) (M : Mk X.K (θ.C cn) (He.fAd X.K dd.at_)) : MakeOk X θ k cn m R := by
  obtain ⟨fd, ps, h1, h2⟩ := F
  exact ⟨_, fd, ps, h1, h2, M⟩
theorem Fine.met {θ : Th} {k cn l : Nat} {dd : He.DefD} {m : Str} {R : List D → Out (D × Bool)} (F : Fine X.prog X.w X.K X.mg X.base θ k dd (l + 1) R) (c1 : Cls X.K (θ.C cn)) (m1 : Meth X.K (θ.C cn) m (He.fAd X.K dd.at_)) (n1 : m ∉ θ.fld cn) : MetOk X θ k cn m l R := by
  obtain ⟨fd, ps, h1, h2, _⟩ := F
  exact ⟨_, fd, ps, h1, c1, m1, h2, n1⟩
/-- a field's place by the class's number -/
def fxT (l : List (Nat × Nat)) : Nat → Option Nat := fun n => l.lookup n
theorem lookup_memN {α : Type} {n : Nat} {r : α} : ∀ {l : List (Nat × α)}, l.lookup n = some r → (n, r) ∈ l
  | (k, v) :: l, h => by
    rw [List.lookup_cons] at h
    cases e : n == k with
    | true =>
      rw [e] at h
      cases h
      rw [beq_iff_eq.mp e]
      exact List.mem_cons_self
    | false =>
      rw [e] at h
      exact List.mem_cons_of_mem _ (lookup_memN h)
theorem fldOk_of {x : Str} {l : List (Nat × Nat)} (h : AllL (fun q : Nat × Nat => Cls c.θ.K (c.θ.C q.1) ∧ NoAttr c.θ.K (c.θ.C q.1) x ∧ (c.θ.fld q.1)[q.2]? = some x ∧ (c.θ.fld q.1).Nodup) l) : FldOk c x (fxT l) :=
  ⟨fun n i hi => h.mem _ (lookup_memN hi)⟩
def fxOne (cn i : Nat) : Nat → Nat → Bool := fun k n => k == cn && n == i
theorem fx_of {K : PySem.W.Frag} {θ : Th} {cn i : Nat} {fn : Str} (h1 : (θ.fld cn)[i]? = some fn) (h2 : fn ∉ (θ.fld cn).take i) (h3 : Cls K (θ.C cn)) (h4 : NoAttr K (θ.C cn) fn) (h5 : i < 1000) :
    ∀ k n, fxOne cn i k n = true → (θ.fld k)[n]? = some fn ∧ fn ∉ (θ.fld k).take n ∧ Cls K (θ.C k) ∧ NoAttr K (θ.C k) fn ∧ n < 1000 := fun k n h => by
  obtain ⟨e1, e2⟩ := Bool.and_eq_true_iff.mp h
  obtain rfl := beq_iff_eq.mp e1
  obtain rfl := beq_iff_eq.mp e2
  exact ⟨h1, h2, h3, h4, h5⟩
theorem g_mt {l : MTab} {pl : Sem Bool} {o : Expr} {m : Str} {apos : Pos} {es : List Expr} {fs : List ES} {k n : Nat} (hr : Room k X.A) (tk : L2N.Takes X W) (h : AllL (fun q : Nat × (List D → Out (D × Bool)) => ∃ k', k' ≤ k ∧ MetOk X c.θ k' q.1 m n q.2) l) (ho : PE X o (tEv c L W f)) (ha : PA X (e :: es) (tAv c L W fs)) (hl : fs.length = n := by rfl)
    (hst : starEach (e :: es) X.env = (false, eval e X.env) :: starEach es X.env := by rfl) (hpl : (backTo pos (starEach es X.env)).any (·.1) = false := by rfl)
    (ht : eval (.Call (.Attribute o m apos) (e :: es) [] pos) X.env = (do
      let ov ← eval o X.env
      standAt apos.atName
      let (f, first) ← holding [ov] (getMethod ov m pl)
      callWith pos f first (backTo pos (starEach (e :: es) X.env)) (backToKw pos (keywordEach [] X.env))) := by rfl) : PE X (.Call (.Attribute o m apos) (e :: es) [] pos) (tEv c L W (eM l f fs)) := g_meth hr tk h.mem ho ha hl hst hpl ht
theorem g_mt0 {l : MTab} {pl : Sem Bool} {o : Expr} {m : Str} {apos : Pos} {k : Nat} (hr : Room k X.A) (tk : L2N.Takes X W) (h : AllL (fun q : Nat × (List D → Out (D × Bool)) => ∃ k', k' ≤ k ∧ MetOk X c.θ k' q.1 m 0 q.2) l) (ho : PE X o (tEv c L W f))
    (ht : eval (.Call (.Attribute o m apos) [] [] pos) X.env = (do
      let ov ← eval o X.env
      standAt apos.atName
      let (f, first) ← holding [ov] (getMethod ov m pl)
      callWith pos f first (backTo pos (starEach [] X.env)) (backToKw pos (keywordEach [] X.env))) := by rfl) : PE X (.Call (.Attribute o m apos) [] [] pos) (tEv c L W (eM l f [])) := g_meth0 hr tk h.mem ho ht
theorem g_raise {n : Nat} {x : Str} {pos' : Pos} (xc : XC X c) (tk : L2N.Takes X W) (gC : X.mg x = some (.ref (c.θ.C n))) (e : PySem.W.excIn X.K (c.θ.C n) He.veBase "ValueError.__new__" = true ∧ PySem.W.keepIn X.K (.ref (c.θ.C n)) = true ∧ PySem.W.subIn X.K (.ref (c.θ.C n)) (.type "BaseException") = some true ∧ PySem.W.typeIn X.K (.ref (c.θ.C n)) = some (.type "type"))
    (hg : Gl X x := by rfl) (hdb : (x == ("__debug__" : Str)) = false := by rfl) : PS X (.Raise (some (.Call (.Name x p) [] [] pos)) none pos') (tSv c L W (sRaise n)) :=
  gs_raise0 xc.calm tk PySem.F.excBase_ValueError e.1 gC e.2.1 (raises_own e.2.2.1 e.2.2.2) hg hdb
end
/-- the law's promise -/
theorem law_sp {θ : Th} {R : List D → Out (D × Bool)} {n : Nat} (h : ∀ ns : List Int, ns.length ≤ n → R [.frl ns] = .ok (.bl true, false)) (H : Hp) (a : Addr) (ns : List Int) (hl : ns.length ≤ n) (hS : SqL θ.K H a (ns.map V.int)) :
    spOf θ 1 R [.ref a] H (fun v _ => v = .bl true) fun _ _ _ => False := by
  refine ⟨rfl, H, [.frl ns], fun _ _ h => .inl h, .cons (.frl hS) .nil, ?_⟩
  rw [h ns hl]
  intro v F' H' _ hv
  cases hv
  rfl
/-- nothing leaves where no wish is met -/
theorem cx_never {P : Program} {w : World} (H : Hp) (s : Shared) (e : Value) (s' : Shared) : L2N.CX P w [] H s (fun _ _ _ => False) e s' → False := fun ⟨_, _, _, _, _, _, _, _, _, _, _, _, h⟩ => h
end G
namespace G
open PySem PySem.Spec L2
/-- what may leave, in any world -/
def CXW (P : Program) : CXT := fun outer H s E u s' => ∃ w, L2N.CX P w outer H s E u s'
theorem wcx {P : Program} {w : World} {K : PySem.W.Frag} {mg : Str → Option Value} {base : Heap} {k : Nat} {f : Addr} {fd : FuncData} {ps : List Str} {sp : Sp} (F : FnOk P w K mg base (L2N.CX P w) k f fd ps sp) : FnOk P w K mg base (CXW P) k f fd ps sp :=
  ⟨F.len, fun A outer s H args us vs Q E hr he hb hv hs => codeAny_mono (F.run A outer s H args us vs Q E hr he hb hv hs) fun r s' h => by
    cases r with
    | error e => exact ⟨w, h⟩
    | ok fl => cases fl <;> exact h⟩
theorem cxw_never {P : Program} (H : Hp) (s : Shared) (e : Value) (s' : Shared) : CXW P [] H s (fun _ _ _ => False) e s' → False := fun ⟨w, h⟩ => cx_never H s e s' h
end G
namespace G
open PySem PySem.Spec L2
end G
namespace G
open PySem PySem.Spec L2
def oRev : D → Out (D × Kd)
  | .lst xs => .ok (.lst xs.reverse, .fr)
  | _ => .no
def sNo : SS := fun _ => .no
def eDK : ES := fun _ => .ok (.dK [] [], .fr)
def eDT : ES := fun _ => .ok (.dT [] [], .fr)
def oInD : D → D → Out (D × Kd) := fun k d => match dGet d k with
  | some r => shr (.bl r.isSome)
  | none => .no
def oNiD : D → D → Out (D × Kd) := fun k d => match dGet d k with
  | some r => shr (.bl (!r.isSome))
  | none => .no
section
variable {X : Cx} {c : Cn} {L : List Addr} {W : WX} {f g h : ES} {a b e d tg iter : Expr} {pos p : Pos}
theorem RepL.reverse {θ : Th} {F : Hp} : ∀ {ds : List D} {xs : List V}, RepL θ F ds xs → RepL θ F ds.reverse xs.reverse
  | _, _, .nil => .nil
  | _, _, .cons r t => by
    rw [List.reverse_cons, List.reverse_cons]
    exact (RepL.reverse t).append (.cons r .nil)
theorem g_rev {k : Nat} {p1 p2 p3 : Pos} (x : XB X c) (ha : PE X e (tEv c L W f)) : PE X (.Subscript e (.Slice none none (some (.UnaryOp .USub (.Constant (.int 1) k p1) p2)) p3) pos) (tEv c L W (eUn oRev f)) := by
  refine pe_ev (pe_revL ha) fun σ H Q h => ?_
  obtain ⟨F, ρ, R, h⟩ := of_tEv h
  refine ev_bind R h fun d k v F1 H1 ef e1 rd so R1 h1 => ?_
  clear ef h so
  cases d <;> first | exact (show False from h1).elim | skip
  obtain ⟨q, xs, rfl, hq, r⟩ := rd.lst R1.sub
  exact ⟨q, xs, rfl, .inl (.inl hq), fun l hl => h1.lay R1.sub (.lst r.reverse) hl⟩
theorem g_dK : PE X (.Dict [] [] pos) (tEv c L W eDK) := by
  refine pe_ev pe_dnewK fun σ H Q h => ?_
  obtain ⟨F, ρ, R, h⟩ := of_tEv h
  intro q hq
  exact h _ F _ (Ext.lay R.sub hq) ⟨trivial, q, _, rfl, hq, upd_same, R.sub.free hq, .dK (xs := []) rfl .nil, Nw.of rfl⟩
theorem g_dT : PE X (.Dict [] [] pos) (tEv c L W eDT) := by
  refine pe_ev pe_dnewT fun σ H Q h => ?_
  obtain ⟨F, ρ, R, h⟩ := of_tEv h
  intro q hq
  exact h _ F _ (Ext.lay R.sub hq) ⟨trivial, q, _, rfl, hq, upd_same, R.sub.free hq, .dT (xs := []) rfl .nil, Nw.of rfl⟩
theorem lookK_valV {θ : Th} {F : Hp} {κ : Type} [DecidableEq κ] {k : κ} : ∀ {ks : List κ} {ds : List D} {xs : List V}, RepL θ F ds xs → (valV (ks.zip xs) k).isSome = (lookK ks ds k).isSome
  | [], _, _, _ => rfl
  | _ :: _, _, _, .nil => rfl
  | x :: ks, _, _, .cons (d := d) (v := v) r t => by
    by_cases q : x = k
    · rw [List.zip_cons_cons, valV_pos q]
      unfold lookK
      rw [if_pos q]
      rfl
    · rw [List.zip_cons_cons, valV_neg q]
      unfold lookK
      rw [if_neg q]
      exact lookK_valV t
theorem dget_some {σ : L2.St} {ρ : Sl} {F H : Hp} {Q : VK} {dk dd : D} {vk vd : V} {r : Option D} (s : Sub F H) (rk : Rd1 c.θ F H dk vk) (rd : Rd1 c.θ F H dd vd) (q : dGet dd dk = some r) : ∃ a o, vd = .ref a ∧ DGet H a vk o ∧ o.isSome = r.isSome := by
  cases dd <;> first | (cases q; done) | skip
  · rename_i ks ds
    obtain ⟨a, xs, rfl, l, rl, ha⟩ := rd.dK s
    replace q : (keyOf dk).map (fun x => lookK ks ds x) = some r := q
    cases qk : keyOf dk with
    | none => rw [qk] at q; cases q
    | some k =>
      rw [qk] at q
      cases q
      exact ⟨a, _, rfl, .inl ⟨_, k, ha, keyOf_v qk rk, rfl⟩, lookK_valV rl⟩
  · rename_i ks ds
    obtain ⟨a, xs, rfl, l, rl, ha⟩ := rd.dT s
    replace q : (tkeyOf dk).map (fun x => lookK ks ds x) = some r := q
    cases qk : tkeyOf dk with
    | none => rw [qk] at q; cases q
    | some k =>
      rw [qk] at q
      cases q
      obtain ⟨b, rfl, hb⟩ := tkeyOf_v s qk rk
      exact ⟨a, _, rfl, .inr ⟨_, k, b, ha, rfl, hb, rfl⟩, lookK_valV rl⟩
theorem rd_inD {σ : L2.St} {H : Hp} {Q : VK} (h : tEv c L W (eBin oInD f g) σ H Q) : tDIn (tEv c L W f) (tEv c L W g) σ H Q := by
  obtain ⟨F, ρ, R, h⟩ := of_tEv h
  refine ev_bind R h fun d k v F1 H1 _ e1 rd1 _ R1 h1 => ?_
  refine ev_bind R1 h1 fun d2 k2 y F2 H2 _ e2 rd2 _ R2 h2 => ?_
  replace h2 : Res c W σ ρ F2 H2 Q (match dGet d2 d with
    | some r => shr (.bl r.isSome)
    | none => .no) := h2
  cases q : dGet d2 d with
  | none => rw [q] at h2; exact h2.elim
  | some r =>
    rw [q] at h2
    obtain ⟨a, o, e, g1, g2⟩ := dget_some (σ := σ) (ρ := ρ) (Q := Q) R2.sub (rd1.ext e2) rd2 q
    refine ⟨a, o, e, g1, ?_⟩
    rw [g2]
    exact h2.bl R2.sub
theorem rd_niD {σ : L2.St} {H : Hp} {Q : VK} (h : tEv c L W (eBin oNiD f g) σ H Q) : tDNotIn (tEv c L W f) (tEv c L W g) σ H Q := by
  obtain ⟨F, ρ, R, h⟩ := of_tEv h
  refine ev_bind R h fun d k v F1 H1 _ e1 rd1 _ R1 h1 => ?_
  refine ev_bind R1 h1 fun d2 k2 y F2 H2 _ e2 rd2 _ R2 h2 => ?_
  replace h2 : Res c W σ ρ F2 H2 Q (match dGet d2 d with
    | some r => shr (.bl (!r.isSome))
    | none => .no) := h2
  cases q : dGet d2 d with
  | none => rw [q] at h2; exact h2.elim
  | some r =>
    rw [q] at h2
    obtain ⟨a, o, e, g1, g2⟩ := dget_some (σ := σ) (ρ := ρ) (Q := Q) R2.sub (rd1.ext e2) rd2 q
    refine ⟨a, o, e, g1, ?_⟩
    rw [g2]
    exact h2.bl R2.sub
theorem g_inD (x : XB X c) (ha : PE X a (tEv c L W f)) (hb : PE X b (tEv c L W g)) (hm : behindInMarks .In b = false := by rfl) : PE X (.Compare a [.In] [b] pos) (tEv c L W (eBin oInD f g)) := pe_ev (pe_cmp (pc_din x.u1 ha hb) hm) fun σ H Q h => rd_inD h
theorem t_niD (x : XB X c) (ha : PE X a (tEv c L W f)) (hb : PE X b (tEv c L W g)) (hm : behindInMarks .NotIn b = false := by rfl) : PT X (.Compare a [.NotIn] [b] pos) (tTv c L W (tBl (eBin oNiD f g))) := pgt_of_bool (pt_cmp (pc_dnotin x.u1 ha hb) hm) fun σ H Q h => rd_niD h
end
end G
namespace G
open PySem PySem.Spec L2
def unX : Slot → Slot
  | .me _ _ => .un
  | .xc => .un
  | s => s
def clr (i : Nat) (s : Slot) (ρ : Sl) : Sl := (ρ.map unX).set i s
def fOut (i : Nat) : Fl → Fl
  | .nx ρ => .nx (clr i .un ρ)
  | .bk ρ => .bk (clr i .un ρ)
  | .ct ρ => .ct (clr i .un ρ)
  | .rt d k ρ => .rt d k (clr i .un ρ)
  | _ => .no
/-- try: u, except C as x_i: su; hit: is it of the class C? -/
def sTry (i : Nat) (hit : Nat → Option Bool) (u : SS) (su : Nat → List D → SS) : SS := fun ρ => match u ρ with
  | .ex n fs ρ' => match hit n with
    | some true => fOut i (su n fs (clr i .xc ρ'))
    | some false => .ex n fs ρ'
    | none => .no
  | o => o
def eIsE (hit : Nat → Option Bool) (i n : Nat) : ES := fun ρ => match ρ[i]? with
  | some .xc => match hit n with
    | some b => .ok (.bl b, .sh)
    | none => .no
  | _ => .no
end G
namespace G
open PySem PySem.Spec L2 L2H
def eCallX (R : Nat → Out (D × Bool)) (i n : Nat) : ES := fun ρ => match ρ[i]? with
  | some .xc => match R n with
    | .ok (d, b) => .ok (d, if b = true then .fr else .sh)
    | _ => .no
  | _ => .no
def suN (s : Nat → SS) : Nat → List D → SS := fun k fs => match fs with
  | [] => s k
  | _ => sNo
end G
namespace G
open PySem PySem.Spec L2 He PyProof.Rows
def oexB (K : PySem.W.Frag) (C : Addr) : Bool := match K.lookup C with
  | some ⟨.type "type", _, .cls cd, sl⟩ => (match cd.mro, sl.toList with
    | .ref C2 :: tl, [_, _, _, _, some (.builtin nw), _] => decide (C2 = C) && (decide (nw = "ValueError.__new__") && (cd.hasDict && (!cd.hasDel && PySem.HandSPX.refsVE tl)))
    | _, _ => false)
  | _ => false
inductive Fx where
  | exC (x : Str)
  | isT (x : Str) (T : String) (b : Bool)
  | isO (x y : Str) (b : Bool)
  | oex (x : Str)
def Fx.ok (K : PySem.W.Frag) : Fx → Bool
  | .exC x => eqO (PySem.W.findIn K (.ref (ga K x)) "__getattribute__") (some (some (.builtin "BaseException.__getattribute__"))) && (eqO (PySem.W.findIn K (.ref (ga K x)) "__getattr__") (some none) && (decide (PySem.W.subIn K (.ref (ga K x)) (.type "BaseException") = some true) &&
    (PySem.W.hasDictIn K (ga K x) && (eqO (PySem.W.findIn K (.ref (ga K x)) "__class__") (some (some (.builtin "object.__class__"))) && (eqO (PySem.W.specialIn K (.builtin "object.__class__") "__get__") (some (some (.builtin "getset_descriptor.__get__"))) &&
    (decide (PySem.W.takesIn K (.builtin "object.__class__") = some true) && decide (PySem.W.mroIn K (ga K x) (.type "object") = some true)))))))
  | .isT x T b => decide (PySem.W.kitOne K (.ref (ga K x)) (.type T) = some b)
  | .isO x y b => decide (PySem.W.kitOne K (.ref (ga K x)) (.ref (ga K y)) = some b)
  | .oex x => oexB K (ga K x) && (eqO (PySem.W.findIn K (.ref (ga K x)) "__setattr__") (some (some (.builtin "object.__setattr__"))) && (decide (PySem.W.subIn K (.ref (ga K x)) (.type "BaseException") = some true) && (decide (PySem.W.typeIn K (.ref (ga K x)) = some (.type "type")) && PySem.W.keepIn K (.ref (ga K x)))))
abbrev AlX : Type := AlD × Bool
def obsX (fa : List Fa) (fn : List DefD) (xs : List Fx) (K : PySem.W.Frag) : AlX := (obsD fa fn K, xs.all fun f => f.ok K)
def valX (fn : List DefD) : AlX := (valD fn, true)
def SaysX (fa : List Fa) (fn : List DefD) (xs : List Fx) (K : PySem.W.Frag) : Prop := obsX fa fn xs K = valX fn
end G
namespace G
open PySem PySem.Spec L2 He PyProof.Rows
section
variable {fa : List Fa} {fn : List DefD} {xs : List Fx} {K : PySem.W.Frag}
theorem SaysX.d (c : SaysX fa fn xs K) : SaysD fa fn K := congrArg (fun z : AlX => z.1) c
theorem SaysX.fact (c : SaysX fa fn xs K) (i : Nat) {f : Fa} (h : fa[i]? = some f := by rfl) : f.ok K = true := c.d.fact i h
theorem SaysX.def_ (c : SaysX fa fn xs K) (i : Nat) {d : DefD} (h : fn[i]? = some d := by rfl) : ∃ fd, FunD K d.name d.qual d.params d.body d.scope (d.dvs K) (d.kws K) (fAd K d.at_) fd := c.d.def_ i h
end
end G
namespace GD
open PySem L2 G
def S__law_draws_b1 : SS := sSeq (sOwL 2 kAp (eBin oMod (eVar 5) (eC (.int 1000003)))) (G.sAsg false 5 (eBin oDiv (eVar 5) (eC (.int 1000003))))
def T__law_draws_b2 : TSm := G.tAnd (tBl (eBin oGt (eVar 5) (eC (.int 0)))) (tBl (eBin oLt (eBi .len [eVar 2]) (eVar 1)))
def S__law_draws_b3 : SS := sSeq (G.sAsg false 3 (eBin oMod (eBin oAdd (eBin oMul (eVar 3) (eC (.int 31))) (eVar 4)) (eC (.int 2147483647)))) (sSeq (G.sAsg false 5 (eBi .abs [eVar 4])) (sSeq (G.sIf (tBl (eBin oLt (eVar 5) (eBin oPow (eC (.int 10)) (eC (.int 18))))) (sSeq (sOwL 2 kAp (eVar 4)) (G.sAsg false 5 (eC (.int 0)))) (sSkip)) (G.sWhile T__law_draws_b2 S__law_draws_b1)))
def S__law_draws_b4 : SS := sSeq (G.sAsg false 3 (eBin oMod (eBin oAdd (eBin oMul (eVar 3) (eC (.int 48271))) (eC (.int 11))) (eC (.int 2147483647)))) (sOwL 2 kAp (eBin oMod (eBin oMul (eVar 3) (eVar 3)) (eC (.int 999983))))
def T__law_draws_b5 : TSm := tBl (eBin oLt (eBi .len [eVar 2]) (eVar 1))
def S__law_draws : SS := sSeq (G.sAsg true 2 (eLst [])) (sSeq (G.sAsg false 3 (eC (.int 1))) (sSeq (G.sFor (itE true (eVar 0)) (.one 4) S__law_draws_b3) (sSeq (G.sWhile T__law_draws_b5 S__law_draws_b4) (sRet (eVar 2)))))
def R__law_draws : List D → Out (D × Bool) := denF 6 S__law_draws
def S__law_bits_b1 : SS := sSeq (sOwL 2 kAp (eBin oMod (eVar 0) (eC (.int 2)))) (G.sAsg false 0 (eBin oDiv (eVar 0) (eC (.int 2))))
def S__law_bits : SS := sSeq (G.sAsg true 2 (eLst [])) (sSeq (G.sFor (itR1 (eVar 1)) (.one 3) S__law_bits_b1) (sRet (eVar 2)))
def R__law_bits : List D → Out (D × Bool) := denF 4 S__law_bits
def S__law_row : SS := sSeq (G.sAsg false 2 (eBin oAdd (eBin oAdd (eBin oIx (eVar 0) (eC (.int 0))) (eBin oMul (eC (.int 1000003)) (eBin oIx (eVar 0) (eC (.int 1))))) (eBin oMul (eBin oMul (eC (.int 1000003)) (eC (.int 1000003))) (eBin oIx (eVar 0) (eC (.int 2)))))) (sSeq (G.sIf (tBl (eBin oEq (eBin oMod (eBin oIx (eVar 0) (eC (.int 3))) (eC (.int 5))) (eC (.int 3)))) (G.sAsg false 2 (eUn oNeg (eBin oMod (eBin oIx (eVar 0) (eC (.int 0))) (eC (.int 2))))) (sSkip)) (sSeq (G.sAsg false 3 (eFn R__law_bits [eVar 2, eVar 1])) (sSeq (G.sIf (tBl (eBin oEq (eBin oMod (eBin oIx (eVar 0) (eC (.int 3))) (eC (.int 5))) (eC (.int 4)))) (G.sAsg false 3 (eLc (itR1 (eVar 1)) (.one 4) (tYes) (eBin oIx (eVar 3) (eBin oMod (eVar 4) (eBin oAdd (eC (.int 1)) (eBin oMod (eBin oIx (eVar 0) (eC (.int 1))) (eC (.int 4)))))) [4])) (sSkip)) (sRet (eVar 3)))))
def R__law_row : List D → Out (D × Bool) := denF 5 S__law_row
def S__law_plan : SS := sSeq (G.sAsg false 1 (eBin oAdd (eC (.int 1)) (eBin oMod (eBin oIx (eVar 0) (eC (.int 1))) (eBin oIx (eLst [eC (.int 9), eC (.int 9), eC (.int 16), eC (.int 40), eC (.int 6)]) (eBin oMod (eBin oIx (eVar 0) (eC (.int 0))) (eC (.int 5))))))) (sSeq (G.sAsg false 2 (eBin oAdd (eC (.int 1)) (eBin oMod (eBin oIx (eVar 0) (eC (.int 2))) (eBin oIx (eLst [eC (.int 9), eC (.int 16), eC (.int 16), eC (.int 6), eC (.int 40)]) (eBin oMod (eBin oIx (eVar 0) (eC (.int 0))) (eC (.int 5))))))) (sRet (eTup [eBin oMod (eBin oIx (eVar 0) (eC (.int 3))) (eC (.int 2)), eFn R__law_row [eSl (eVar 0) (some (eC (.int 4))) none, eBin oSub (eVar 1) (eC (.int 1))], eFn R__law_row [eSl (eVar 0) (some (eC (.int 8))) none, eBin oSub (eVar 2) (eC (.int 1))]])))
def R__law_plan : List D → Out (D × Bool) := denF 3 S__law_plan
def S_ask_bits_b1 : SS := G.sIf (G.tAnd (tBl (eBin oNe (eVar 1) (eC (.int 0)))) (tBl (eBin oNe (eVar 1) (eC (.int 1))))) (sRaise 2) (sSkip)
def S_ask_bits : SS := G.sFor (itE true (eVar 0)) (.one 1) S_ask_bits_b1
def R_ask_bits : List D → Out (D × Bool) := denF 2 S_ask_bits
def S_Cloth___init__ : SS := sSeq (G.sIf (G.tOr (tBl (eBin oGe (eBi .len [eVar 2]) (eC (.int 40)))) (tBl (eBin oGe (eBi .len [eVar 3]) (eC (.int 40))))) (sRaise 1) (sSkip)) (sSeq (sDrop (eFn R_ask_bits [eBin oAdd (eBin oAdd (eLst [eVar 1]) (eBi .list [eVar 2])) (eBi .list [eVar 3])])) (sSeq (G.sFld (fxOne 20 0) 0 (eVar 1)) (sSeq (G.sFld (fxOne 20 1) 0 (eBi .list [eVar 2])) (G.sFld (fxOne 20 2) 0 (eBi .list [eVar 3])))))
def R_Cloth___init__ : List D → Out (D × Bool) := denI 4 20 3 S_Cloth___init__
def S__law_made : SS := sRet (eFn R_Cloth___init__ [eBin oIx (eVar 0) (eC (.int 0)), eBi .list [eBin oIx (eVar 0) (eC (.int 1))], eBi .list [eBin oIx (eVar 0) (eC (.int 2))]])
def R__law_made : List D → Out (D × Bool) := denF 1 S__law_made
def S_Cloth_bit : SS := sSeq (G.sIf (G.tAnd (tBl (eBin oEq (eVar 1) (eC (.str "col")))) (tBl (eChain oLe oLt (eC (.int 0)) (eVar 2) (eBi .len [eUn (oFld (fxT [(20, 1)])) (eVar 0)])))) (sRet (eBin oIx (eUn (oFld (fxT [(20, 1)])) (eVar 0)) (eVar 2))) (sSkip)) (sSeq (G.sIf (G.tAnd (tBl (eBin oEq (eVar 1) (eC (.str "row")))) (tBl (eChain oLe oLt (eC (.int 0)) (eVar 2) (eBi .len [eUn (oFld (fxT [(20, 2)])) (eVar 0)])))) (sRet (eBin oIx (eUn (oFld (fxT [(20, 2)])) (eVar 0)) (eVar 2))) (sSkip)) (sRaise 4))
def R_Cloth_bit : List D → Out (D × Bool) := denF 3 S_Cloth_bit
def S_Cloth_wide : SS := sRet (eBin oAdd (eBi .len [eUn (oFld (fxT [(20, 1)])) (eVar 0)]) (eC (.int 1)))
def R_Cloth_wide : List D → Out (D × Bool) := denF 1 S_Cloth_wide
def S_Cloth_tall : SS := sRet (eBin oAdd (eBi .len [eUn (oFld (fxT [(20, 2)])) (eVar 0)]) (eC (.int 1)))
def R_Cloth_tall : List D → Out (D × Bool) := denF 1 S_Cloth_tall
def S_Cloth_steps : SS := sSeq (G.sIf (tBl (eBin oEq (eVar 1) (eC (.str "col")))) (sRet (eM [(20, R_Cloth_tall)] (eVar 0) [])) (sSkip)) (sRet (eM [(20, R_Cloth_wide)] (eVar 0) []))
def R_Cloth_steps : List D → Out (D × Bool) := denF 2 S_Cloth_steps
def S_Cloth_stitched : SS := sSeq (G.sAsg false 4 (eM [(20, R_Cloth_bit)] (eVar 0) [eVar 1, eVar 2])) (sSeq (G.sIf (G.tOr (tBl (eBin oLt (eVar 3) (eC (.int 0)))) (tBl (eBin oGe (eVar 3) (eM [(20, R_Cloth_steps)] (eVar 0) [eVar 1])))) (sRaise 5) (sSkip)) (sRet (eBin oEq (eBin oMod (eBin oAdd (eVar 3) (eVar 4)) (eC (.int 2))) (eC (.int 1)))))
def R_Cloth_stitched : List D → Out (D × Bool) := denF 5 S_Cloth_stitched
def S_Cloth_ask_cell : SS := G.sIf (G.tOr (tBl (eBin oLt (eVar 1) (eC (.int 0)))) (G.tOr (tBl (eBin oLt (eVar 2) (eC (.int 0)))) (G.tOr (tBl (eBin oGe (eVar 1) (eM [(20, R_Cloth_wide)] (eVar 0) []))) (tBl (eBin oGe (eVar 2) (eM [(20, R_Cloth_tall)] (eVar 0) [])))))) (sRaise 3) (sSkip)
def R_Cloth_ask_cell : List D → Out (D × Bool) := denF 3 S_Cloth_ask_cell
def S_Cloth_colour : SS := sSeq (sDrop (eM [(20, R_Cloth_ask_cell)] (eVar 0) [eVar 1, eVar 2])) (sRet (eBin oMod (eBin oAdd (eBin oAdd (eBin oAdd (eUn (oFld (fxT [(20, 0)])) (eVar 0)) (eBi .sum [eSl (eUn (oFld (fxT [(20, 1)])) (eVar 0)) none (some (eVar 1))])) (eBi .sum [eSl (eUn (oFld (fxT [(20, 2)])) (eVar 0)) none (some (eVar 2))])) (eBin oMul (eVar 1) (eVar 2))) (eC (.int 2))))
def R_Cloth_colour : List D → Out (D × Bool) := denF 3 S_Cloth_colour
def S__law_same (self : List D → Out (D × Bool)) : SS := sSeq (G.sIf (G.tOr (tBl (eBin oNe (eUn (oIsi "bool") (eVar 0)) (eUn (oIsi "bool") (eVar 1)))) (tBl (eBin oNe (eUn (oIsi "int") (eVar 0)) (eUn (oIsi "int") (eVar 1))))) (sRet (eC (.bl false))) (sSkip)) (sSeq (G.sIf (G.tOr (tBl (eBin oNe (eUn (oIsi "list") (eVar 0)) (eUn (oIsi "list") (eVar 1)))) (tBl (eBin oNe (eUn (oIsi "tuple") (eVar 0)) (eUn (oIsi "tuple") (eVar 1))))) (sRet (eC (.bl false))) (sSkip)) (sSeq (G.sIf (G.tAnd (G.tNot (tTru (eUn (oIsi "list") (eVar 1)))) (G.tNot (tTru (eUn (oIsi "tuple") (eVar 1))))) (sRet (eAnd (eBin oEq (eUn (oIsi "str") (eVar 0)) (eUn (oIsi "str") (eVar 1))) (eBin oEq (eVar 0) (eVar 1)))) (sSkip)) (sRet (eAnd (eBin oEq (eBi .len [eVar 0]) (eBi .len [eVar 1])) (eBi .all [eLc (itZip false (eVar 0) (eVar 1)) (.tup [.one 2, .one 3]) (tYes) (eFn self [eVar 2, eVar 3]) [2, 3]])))))
def RR__law_same : Nat → List D → Out (D × Bool)
  | 0 => fun _ => .no
  | n + 1 => denF 4 (S__law_same (RR__law_same n))
def R__law_same : List D → Out (D × Bool) := RR__law_same 6
def S__law_whole_b1 : SS := G.sIf (G.tNot (tTru (eFn R__law_same [eM [(20, R_Cloth_colour)] (eVar 0) [eVar 3, eVar 2], eBin oIx (eBin oIx (eVar 1) (eVar 2)) (eVar 3)]))) (sRet (eC (.bl false))) (sSkip)
def S__law_whole_b2 : SS := G.sFor (itR1 (eBi .len [eBin oIx (eVar 1) (eC (.int 0))])) (.one 3) S__law_whole_b1
def S__law_whole : SS := sSeq (G.sIf (G.tOr (G.tNot (tTru (eFn R__law_same [eM [(20, R_Cloth_wide)] (eVar 0) [], eBi .len [eBin oIx (eVar 1) (eC (.int 0))]]))) (G.tNot (tTru (eFn R__law_same [eM [(20, R_Cloth_tall)] (eVar 0) [], eBi .len [eVar 1]])))) (sRet (eC (.bl false))) (sSkip)) (sSeq (G.sFor (itR1 (eBi .len [eVar 1])) (.one 2) S__law_whole_b2) (sRet (eC (.bl true))))
def R__law_whole : List D → Out (D × Bool) := denF 4 S__law_whole
end GD
namespace G
open PySem PySem.Spec L2 PySem.W PyProof.Rows
theorem each_of {P : V → Value → Prop} : ∀ {bs : List (V × PyData)} {its : List Value}, Vals (bs.map (·.1)) its → EachIs (fun v (b : V × PyData) => RelV b.1 v ∧ b ∈ bs) its bs := by
  intro bs its h
  have key : ∀ (cs : List (V × PyData)) (its : List Value), (∀ b ∈ cs, b ∈ bs) → Vals (cs.map (·.1)) its → EachIs (fun v (b : V × PyData) => RelV b.1 v ∧ b ∈ bs) its cs := by
    intro cs
    induction cs with
    | nil =>
      intro its _ h
      cases h
      exact .nil
    | cons c cs ih =>
      intro its hm h
      cases h with
      | cons r t => exact .cons ⟨r, hm c List.mem_cons_self⟩ (ih _ (fun b hb => hm b (List.mem_cons_of_mem _ hb)) t)
  exact key bs its (fun b hb => hb) h
theorem vals_each {R : Value → V × PyData → Prop} (hR : ∀ v b, R v b → RelV b.1 v) : ∀ {its : List Value} {bs : List (V × PyData)}, EachIs R its bs → Vals (bs.map (·.1)) its
  | _, _, .nil => .nil
  | _, _, .cons r t => .cons (hR _ _ r) (vals_each hR t)
/-- sorted(xs), xs a list of alike data -/
def rSrtD (K : PySem.W.Frag) : List V → Hp → VK → Prop := fun vs H Q => ∃ (a : Addr) (bs : List (V × PyData)), vs = [.ref a] ∧ SqL K H a (bs.map (·.1)) ∧ (∀ b ∈ bs, Dp K H b.1 b.2) ∧ AllAlike (bs.map (·.2)) ∧ Sortable (bs.map (·.2)) ∧ (∀ b ∈ bs, b.2.depth < 50) ∧
  ∀ p, H p = none → Q (.ref p) (upd H p (.lst ((bs.mergeSort (dataLe false (·.2))).map (·.1))))
theorem call_srtD {X : Cx} (hu : X.A.units + 64 < cLine) : CallR X (.builtin "sorted") (rSrtD X.K) := by
  intro pins s σ H vs us Q I r h
  obtain ⟨a, bs, rfl, hs, hd, hal, hk, hdp, q⟩ := h
  obtain ⟨its, rv, hl, hz⟩ := I.list hs
  obtain ⟨u, rfl, ru⟩ := vals1 r
  obtain rfl : u = Value.ref a := ru
  have e := each_of (P := fun _ _ => True) rv
  have hz' : bs.length ≤ sizeLine := by rwa [List.length_map] at hz
  refine sorted_data (enc := fun b : V × PyData => b.2) (R := fun v b => RelV b.1 v ∧ b ∈ bs) hl.isList e (e.mono fun v b ⟨h1, h2⟩ => Dp.reads I b.2 b.1 v (hd b h2) h1) hal hk hz' (fun b hb => by have := hdp b hb; omega) fun out hlen e' => ?_
  obtain ⟨ep, he'⟩ := PyProof.Rows.sortedAll_at s.heap its out.toArray
  have hlen2 : ((bs.mergeSort (dataLe false (·.2))).map (·.1)).length ≤ sizeLine := by rw [List.length_map, List.length_mergeSort]; exact hz'
  exact ⟨.ref _, upd H (s.heap.objs.size + 1) (.lst ((bs.mergeSort (dataLe false (·.2))).map (·.1))), I.laid (t' := s.toks) (fun _ _ => PyProof.Rows.sortedAll_old) (Nat.le_succ _) ⟨hlen2, out, ep, vals_each (fun _ _ h => h.1) e', by simpa using he'⟩, rfl, q _ (I.hok.fresh (Nat.le_succ _))⟩
/-- min(xs), xs a list of alike data: the first least one -/
def rMnD (K : PySem.W.Frag) : List V → Hp → VK → Prop := fun vs H Q => ∃ (a : Addr) (xs : List V) (p : PyData) (ps : List PyData), vs = [.ref a] ∧ SqL K H a xs ∧ DpAll K H xs (p :: ps) ∧ AlikeAll (p :: ps) ∧ SeqAt.shaped (.list (p :: ps)) = true ∧ PyData.depthAll (p :: ps) < 50 ∧
  ∀ (i : Nat) (x : V), xs[i]? = some x → (p :: ps)[i]? = some (minD p ps) → Q x H
theorem call_mnD {X : Cx} (hc : X.calm = true) (hu : X.A.units + 64 < cLine) : CallR X (.builtin "min") (rMnD X.K) := by
  intro pins s σ H vs us Q I r h
  obtain ⟨a, xs, p, ps, rfl, hs, hd, hal, hsh, hdp, q⟩ := h
  obtain ⟨its, rv, hl, hz⟩ := I.list hs
  obtain ⟨u, rfl, ru⟩ := vals1 r
  obtain rfl : u = Value.ref a := ru
  obtain ⟨as, ra⟩ := Dp.readsAll I (p :: ps) xs its hd rv
  have cl : PyData.canLayAll0 (p :: ps) = true := SeqAt.canLay_of_shaped hsh
  refine min_list_data (I.ok.hd hc) hl.isList (show ReadsAll s.heap its.toArray.toList (p :: ps) as from ra) hal (by omega) fun i v h' tk bs hv rd hk => ?_
  have hv : its[i]? = some v := by simpa using hv
  have hm := SeqAt.readsAll_map (p :: ps) its as cl ra
  have hi : (p :: ps)[i]? = some (SeqAt.readOf s.heap v) := by
    rw [← hm, List.getElem?_map, hv]
    rfl
  have hcl : (SeqAt.readOf s.heap v).canLay0 = true := by
    have : ∀ (qs : List PyData), PyData.canLayAll0 qs = true → ∀ d ∈ qs, d.canLay0 = true := by
      intro qs
      induction qs with
      | nil => intro _ d hd; cases hd
      | cons z zs ih =>
        intro hq d hd
        have hq' : z.canLay0 = true ∧ PyData.canLayAll0 zs = true := by simpa [PyData.canLayAll0] using hq
        rcases List.mem_cons.mp hd with rfl | hd
        · exact hq'.1
        · exact ih hq'.2 d hd
    exact this _ cl _ (List.mem_of_getElem? hi)
  obtain ⟨x, hx, rx⟩ : ∃ x, xs[i]? = some x ∧ RelV x v := by
    clear hi hcl rd ra hm hd hs hl hz r q
    induction rv generalizing i with
    | nil => simp at hv
    | cons r t ih =>
      cases i with
      | zero =>
        simp at hv
        subst hv
        exact ⟨_, rfl, r⟩
      | succ i => exact ih _ (by simpa using hv) (by simpa using hv)
  have hmin : SeqAt.readOf s.heap v = minD p ps := by
    have e1 : SeqAt.readOf h' v = minD p ps := by
      refine SeqAt.readOf_eq ?_ rd
      have : minD p ps ∈ p :: ps := by
        have key : ∀ (ps : List PyData) (p : PyData), minD p ps ∈ p :: ps := by
          intro ps
          induction ps with
          | nil => intro p; exact List.mem_singleton.mpr rfl
          | cons z zs ih =>
            intro p
            have := ih (if dataLt z p then z else p)
            have e : minD p (z :: zs) = minD (if dataLt z p then z else p) zs := rfl
            rw [e]
            rcases List.mem_cons.mp this with h | h
            · rw [h]
              split
              · exact List.mem_cons_of_mem _ List.mem_cons_self
              · exact List.mem_cons_self
            · exact List.mem_cons_of_mem _ (List.mem_cons_of_mem _ h)
        exact key ps p
      have clm : ∀ (qs : List PyData), PyData.canLayAll0 qs = true → ∀ d ∈ qs, d.canLay0 = true := by
        intro qs
        induction qs with
        | nil => intro _ d hd; cases hd
        | cons z zs ih =>
          intro hq d hd
          have hq' : z.canLay0 = true ∧ PyData.canLayAll0 zs = true := by simpa [PyData.canLayAll0] using hq
          rcases List.mem_cons.mp hd with rfl | hd
          · exact hq'.1
          · exact ih hq'.2 d hd
      exact clm _ cl _ this
    have e2 : SeqAt.readOf h' v = SeqAt.readOf s.heap v := by
      have : ∃ bs, Reads s.heap v (SeqAt.readOf s.heap v) bs := by
        obtain ⟨bs, r2, _, _, _⟩ := readsAll_atA (show ReadsAll s.heap its.toArray.toList (p :: ps) as from ra) i v (by simpa using hv)
        have : (p :: ps).getD i .none = SeqAt.readOf s.heap v := by rw [List.getD_eq_getElem?_getD, hi]; rfl
        rw [this] at r2
        exact ⟨bs, r2⟩
      obtain ⟨bs2, r2⟩ := this
      exact SeqAt.readOf_eq hcl (reads_keeps hk r2)
    rw [← e2, e1]
  rw [hmin] at hi
  exact ⟨x, H, I.kept hk, rx, q i x hx hi⟩
end G
namespace G
open PySem PySem.Spec L2 PySem.W PyProof.Rows
def pyOf (d : D) : PyData := (toPy d).getD .none
mutual
def fromPy : PyData → D
  | .none => .non
  | .bool b => .bl b
  | .int i => .int i
  | .str s => .str s
  | .list xs => .lst (fromPys xs)
  | .tuple xs => .tup (fromPys xs)
  | .dict _ => .non
def fromPys : List PyData → List D
  | [] => []
  | x :: xs => fromPy x :: fromPys xs
end
mutual
theorem from_toPy : ∀ {d : D} {p : PyData}, toPy d = some p → fromPy p = d
  | .non, _, h => by cases h; rfl
  | .bl b, _, h => by cases h; rfl
  | .int b, _, h => by cases h; rfl
  | .str b, _, h => by cases h; rfl
  | .lst xs, _, h => by
    unfold toPy at h
    cases q : toPys xs with
    | none => rw [q] at h; cases h
    | some ps =>
      rw [q] at h
      cases h
      show D.lst (fromPys ps) = _
      rw [from_toPys q]
  | .tup xs, _, h => by
    unfold toPy at h
    cases q : toPys xs with
    | none => rw [q] at h; cases h
    | some ps =>
      rw [q] at h
      cases h
      show D.tup (fromPys ps) = _
      rw [from_toPys q]
  | .dK _ _, _, h => by cases h
  | .dT _ _, _, h => by cases h
  | .obj _ _, _, h => by cases h
  | .frl _, _, h => by cases h
  | .hx, _, h => by cases h
theorem from_toPys : ∀ {ds : List D} {ps : List PyData}, toPys ds = some ps → fromPys ps = ds
  | [], _, h => by cases h; rfl
  | d :: ds, _, h => by
    unfold toPys at h
    cases q : toPy d with
    | none => rw [q] at h; cases h
    | some p =>
      rw [q] at h
      cases q2 : toPys ds with
      | none => rw [q2] at h; cases h
      | some ps =>
        rw [q2] at h
        cases h
        show fromPy p :: fromPys ps = _
        rw [from_toPy q, from_toPys q2]
end
theorem toPys_map : ∀ {ds : List D} {ps : List PyData}, toPys ds = some ps → ps = ds.map pyOf ∧ ∀ d ∈ ds, toPy d = some (pyOf d)
  | [], _, h => by cases h; exact ⟨rfl, fun _ h => by cases h⟩
  | d :: ds, _, h => by
    unfold toPys at h
    cases q : toPy d with
    | none => rw [q] at h; cases h
    | some p =>
      rw [q] at h
      cases q2 : toPys ds with
      | none => rw [q2] at h; cases h
      | some ps =>
        rw [q2] at h
        cases h
        obtain ⟨h1, h2⟩ := toPys_map q2
        have e : p = pyOf d := by unfold pyOf; rw [q]; rfl
        refine ⟨by rw [List.map_cons, ← h1, ← e], fun x hx => ?_⟩
        rcases List.mem_cons.mp hx with rfl | hx
        · rw [← e]; exact q
        · exact h2 x hx
def tup1 : PyData → Bool
  | .tuple (_ :: _) => true
  | _ => false
def noTup : PyData → Bool
  | .none => false
  | .tuple _ => false
  | _ => true
/-- what sorted takes: alike data -/
def sortB (ps : List PyData) : Bool := ps.all (fun p => ps.all fun q => alike p q) && (ps.all tup1 || ps.all noTup) && ps.all fun p => decide (p.depth < 50)
theorem sortB_ok {ps : List PyData} (h : sortB ps = true) : AllAlike ps ∧ Sortable ps ∧ ∀ p ∈ ps, p.depth < 50 := by
  obtain ⟨h, h3⟩ := Bool.and_eq_true_iff.mp h
  obtain ⟨h1, h2⟩ := Bool.and_eq_true_iff.mp h
  refine ⟨fun d hd d' hd' => List.all_eq_true.mp (List.all_eq_true.mp h1 d hd) d' hd', ?_, fun p hp => of_decide_eq_true (List.all_eq_true.mp h3 p hp)⟩
  rcases Bool.or_eq_true_iff.mp h2 with h2 | h2
  · refine .inl fun d hd => ?_
    have := List.all_eq_true.mp h2 d hd
    cases d <;> first | cases this | skip
    rename_i xs
    cases xs with
    | nil => cases this
    | cons x r => exact ⟨x, r, rfl⟩
  · refine .inr fun d hd => ?_
    have := List.all_eq_true.mp h2 d hd
    cases d with
    | none => cases this
    | tuple _ => cases this
    | _ => exact ⟨nofun, nofun⟩
def leD (d e : D) : Bool := !dataLt (pyOf e) (pyOf d)
def srtL (ds : List D) : Out (D × Kd) := match toPys ds with
  | some ps => if sortB ps = true then .ok (.lst (ds.mergeSort leD), .fr) else .no
  | none => .no
def oSrt : D → Out (D × Kd)
  | .lst ds => srtL ds
  | _ => .no
theorem repl_zip {θ : Th} {F : Hp} : ∀ {ds : List D} {xs : List V}, RepL θ F ds xs → (xs.zip ds).map (·.1) = xs ∧ (xs.zip ds).map (·.2) = ds ∧ ∀ z ∈ xs.zip ds, Rep θ F z.2 z.1
  | _, _, .nil => ⟨rfl, rfl, fun _ h => by cases h⟩
  | _, _, .cons r t => by
    obtain ⟨h1, h2, h3⟩ := repl_zip t
    refine ⟨by rw [List.zip_cons_cons, List.map_cons, h1], by rw [List.zip_cons_cons, List.map_cons, h2], fun z hz => ?_⟩
    rw [List.zip_cons_cons] at hz
    rcases List.mem_cons.mp hz with rfl | hz
    · exact r
    · exact h3 z hz
theorem repl_of {θ : Th} {F : Hp} : ∀ {zs : List (V × D)}, (∀ z ∈ zs, Rep θ F z.2 z.1) → RepL θ F (zs.map (·.2)) (zs.map (·.1))
  | [], _ => .nil
  | z :: zs, h => .cons (h z List.mem_cons_self) (repl_of fun w hw => h w (List.mem_cons_of_mem _ hw))
section
variable {X : Cx} {c : Cn} {L : List Addr} {W : WX} {f g h : ES} {a b e d tg iter : Expr} {pos p : Pos}
theorem g_srt (x : XB X c) (hm : X.mg "sorted" = none) (ha : PE X e (tEv c L W f)) (hg : Gl X "sorted" := by rfl) (hs : starEach [e] X.env = (false, eval e X.env) :: starEach [] X.env := by rfl) : PE X (.Call (.Name "sorted" p) [e] [] pos) (tEv c L W (eUn oSrt f)) := by
  refine pe_ev (pe_callB (call_srtD x.hu) hg hm (by decide +kernel) (pa_cons ha pa_nil hs) (by decide) (by decide) hs (by rfl)) fun σ H Q h => ?_
  obtain ⟨F, ρ, R, h⟩ := of_tEv h
  refine ev_bind R h fun d k v F1 H1 ef e1 rd so R1 h1 => ?_
  clear ef h so
  cases d <;> first | exact (show False from h1).elim | skip
  rename_i ds
  obtain ⟨q, xs, rfl, hq, r⟩ := rd.lst R1.sub
  replace h1 : Res c W σ ρ F1 H1 Q (srtL ds) := h1
  unfold srtL at h1
  cases tp : toPys ds with
  | none => rw [tp] at h1; exact h1.elim
  | some ps =>
    rw [tp] at h1
    obtain ⟨sb, h1⟩ := Res.ite h1
    obtain ⟨hal, hk, hdp⟩ := sortB_ok sb
    obtain ⟨ep, hpy⟩ := toPys_map tp
    obtain ⟨z1, z2, z3⟩ := repl_zip r
    let zs := xs.zip ds
    let bs : List (V × PyData) := zs.map fun z => (z.1, pyOf z.2)
    have b1 : bs.map (·.1) = xs := by rw [List.map_map]; exact z1
    have b2 : bs.map (·.2) = ps := by
      rw [List.map_map, ep]
      show zs.map (pyOf ∘ (·.2)) = _
      rw [← List.map_map]
      exact congrArg _ z2
    have hzd : ∀ z ∈ zs, z.2 ∈ ds := fun z hz => by
      have := List.mem_map_of_mem (f := fun z : V × D => z.2) hz
      rw [z2] at this
      exact this
    refine ⟨q, bs, rfl, by rw [b1, x.K]; exact .inl (.inl hq), fun b hb => ?_, by rw [b2]; exact hal, by rw [b2]; exact hk, fun b hb => ?_, fun p hp => ?_⟩
    · obtain ⟨z, hz, rfl⟩ := List.mem_map.mp hb
      rw [x.K]
      exact rep_py R1.sub (z3 z hz) (hpy _ (hzd z hz))
    · exact hdp _ (by rw [← b2]; exact List.mem_map_of_mem (f := fun z : V × PyData => z.2) hb)
    · have m1 : (zs.mergeSort fun z w => leD z.2 w.2).map (fun z => (z.1, pyOf z.2)) = bs.mergeSort (dataLe false (·.2)) := List.map_mergeSort (f := fun z : V × D => (z.1, pyOf z.2)) fun a _ b _ => rfl
      have m2 : (zs.mergeSort fun z w => leD z.2 w.2).map (·.2) = ds.mergeSort leD := by
        rw [List.map_mergeSort (f := fun z : V × D => z.2) (s := leD) fun a _ b _ => rfl]
        exact congrArg (fun l => l.mergeSort leD) z2
      have m3 : (bs.mergeSort (dataLe false (·.2))).map (·.1) = (zs.mergeSort fun z w => leD z.2 w.2).map (·.1) := by
        rw [← m1, List.map_map]
        rfl
      rw [m3]
      have rl := repl_of (θ := c.θ) (F := F1) (zs := zs.mergeSort fun z w => leD z.2 w.2) fun z hz => z3 z (List.mem_mergeSort.mp hz)
      rw [m2] at rl
      exact h1.lay R1.sub (.lst rl) hp
def notNon : PyData → Bool
  | .none => false
  | _ => true
def minB (ps : List PyData) : Bool := ps.all (fun p => ps.all fun q => alike p q) && ps.all notNon && SeqAt.shaped (.list ps) && decide (PyData.depthAll ps < 50)
def oMin : D → Out (D × Kd)
  | .lst ds => match intsOf ds with
    | some ns => if ns ≠ [] then shr (.int (minI ns)) else .no
    | none => match toPys ds with
      | some (p :: ps) => if minB (p :: ps) = true then shr (fromPy (minD p ps)) else .no
      | _ => .no
  | _ => .no
theorem g_min (x : XC X c) (hm : X.mg "min" = none) (ha : PE X e (tEv c L W f)) (hg : Gl X "min" := by rfl) (hs : starEach [e] X.env = (false, eval e X.env) :: starEach [] X.env := by rfl) : PE X (.Call (.Name "min" p) [e] [] pos) (tEv c L W (eUn oMin f)) := by
  have cr : CallR X (.builtin "min") (fun vs H Q => rMin X.K vs H Q ∨ rMnD X.K vs H Q) := fun pins s σ H vs us Q I r h => h.elim (fun h => cr_min x.calm pins s σ H vs us Q I r h) fun h => call_mnD x.calm x.hu pins s σ H vs us Q I r h
  refine pe_ev (pe_callB cr hg hm (by decide +kernel) (pa_cons ha pa_nil hs) (by decide) (by decide) hs (by rfl)) fun σ H Q h => ?_
  obtain ⟨F, ρ, R, h⟩ := of_tEv h
  refine ev_bind R h fun d k v F1 H1 ef e1 rd so R1 h1 => ?_
  clear ef h so
  cases d <;> first | exact (show False from h1).elim | skip
  rename_i ds
  obtain ⟨q, xs, rfl, hq, r⟩ := rd.lst R1.sub
  replace h1 : Res c W σ ρ F1 H1 Q (match intsOf ds with
    | some ns => if ns ≠ [] then shr (.int (minI ns)) else .no
    | none => match toPys ds with
      | some (p :: ps) => if minB (p :: ps) = true then shr (fromPy (minD p ps)) else .no
      | _ => .no) := h1
  cases io : intsOf ds with
  | some ns =>
    rw [io] at h1
    cases intsOf_eq io
    replace h1 : Res c W σ ρ F1 H1 Q (if ns ≠ [] then shr (.int (minI ns)) else .no) := h1
    obtain ⟨ne, h2⟩ := Res.ite h1
    cases r.ints
    refine .inl ⟨q, ns, rfl, by rw [x.K]; exact .inl (.inl hq), List.length_pos_iff.mpr ne, fun m m1 m2 => ?_⟩
    have : m = minI ns := by
      clear h1 h2 io hq r
      have key : ∀ ns : List Int, ns ≠ [] → minI ns ∈ ns ∧ ∀ y ∈ ns, minI ns ≤ y := by
        intro ns
        induction ns with
        | nil => intro h; exact absurd rfl h
        | cons a t ih =>
          intro _
          cases t with
          | nil => exact ⟨List.mem_singleton.mpr rfl, fun y hy => by rw [List.mem_singleton.mp hy]; exact Int.le_refl _⟩
          | cons b t =>
            obtain ⟨i1, i2⟩ := ih (by simp)
            show min a (minI (b :: t)) ∈ _ ∧ ∀ y ∈ _, min a (minI (b :: t)) ≤ y
            refine ⟨?_, fun y hy => ?_⟩
            · by_cases q : a ≤ minI (b :: t)
              · rw [Int.min_eq_left q]; exact List.mem_cons_self
              · rw [Int.min_eq_right (by omega)]; exact List.mem_cons_of_mem _ i1
            · rcases List.mem_cons.mp hy with rfl | hy
              · exact Int.min_le_left _ _
              · exact Int.le_trans (Int.min_le_right _ _) (i2 y hy)
      obtain ⟨k1, k2⟩ := key ns ne
      exact Int.le_antisymm (m2 _ k1) (k2 _ m1)
    rw [this]
    exact h2.int R1.sub
  | none =>
    rw [io] at h1
    cases tp : toPys ds with
    | none => rw [tp] at h1; exact h1.elim
    | some ps =>
      cases ps with
      | nil => rw [tp] at h1; exact h1.elim
      | cons p ps =>
        rw [tp] at h1
        obtain ⟨mb, h1⟩ := Res.ite h1
        obtain ⟨mb, b4⟩ := Bool.and_eq_true_iff.mp mb
        obtain ⟨mb, b3⟩ := Bool.and_eq_true_iff.mp mb
        obtain ⟨b1, b2⟩ := Bool.and_eq_true_iff.mp mb
        refine .inr ⟨q, xs, p, ps, rfl, by rw [x.K]; exact .inl (.inl hq), by rw [x.K]; exact repl_py R1.sub r tp, ⟨fun y hy z hz => List.all_eq_true.mp (List.all_eq_true.mp b1 y hy) z hz, fun y hy z => ?_⟩, b3, of_decide_eq_true b4, fun i v hv hi => ?_⟩
        · have := List.all_eq_true.mp b2 y hy
          subst z
          exact absurd this (by decide)
        · obtain ⟨ep, hpy⟩ := toPys_map tp
          rw [ep, List.getElem?_map] at hi
          cases hd : ds[i]? with
          | none => rw [hd] at hi; cases hi
          | some dd =>
            rw [hd] at hi
            have e1 : pyOf dd = minD p ps := Option.some.inj hi
            obtain ⟨v', hv', rv'⟩ := r.get hd
            rw [hv] at hv'
            cases hv'
            have e2 := from_toPy (hpy dd (List.mem_of_getElem? hd))
            rw [e1] at e2
            rw [e2] at h1
            exact h1.sh R1.sub rv'
end
end G
namespace G
open PySem PySem.Spec L2 PySem.W PyProof.Rows
section
variable {X : Cx} {c : Cn} {L : List Addr} {W : WX} {f g h : ES} {a b e d tg iter : Expr} {pos p : Pos}
theorem t_notN {j : Nat} {pos' : Pos} (ha : PE X a (tEv c L W f)) : PT X (.Compare a [.IsNot] [.Constant .none j pos'] pos) (tTv c L W (tBl (eUn (fun d => shr (.bl (!isNon d))) f))) := by
  refine pgt_of_bool (pt_cmp (pc_notN ha) rfl) fun σ H Q h => ?_
  obtain ⟨F, ρ, R, h⟩ := of_tEv h
  refine ev_bind R h fun d k x F1 H1 _ e1 rd1 _ R1 h1 => ?_
  have e : decide (x = V.non) = isNon d := by
    rcases rd1 with r | ⟨_, _, rfl, _, r⟩ <;> cases r <;> rfl
  rw [e]
  exact h1.bl R1.sub
def idxOf (ps : List PyData) (p : PyData) : Nat → Option Nat
  | n => match ps with
    | [] => none
    | z :: zs => if PyData.eqv z p = true then some n else idxOf zs p (n + 1)
/-- a list's method of one argument that changes nothing -/
def eLm (op : List D → D → Out (D × Kd)) (f g : ES) : ES := fun ρ => (f ρ).bind fun x => match x.1 with
  | .lst ds => (g ρ).bind fun y => op ds y.1
  | _ => .no
def oIdx (ds : List D) (e : D) : Out (D × Kd) := match toPys ds, toPy e with
  | some ps, some p => if (SeqAt.shaped (.list ps) && SeqAt.shaped p) = true then (match idxOf ps p 0 with
    | some j => shr (.int (j : Nat))
    | none => .no) else .no
  | _, _ => .no
theorem idxOf_ok : ∀ {ps : List PyData} {p : PyData} {n j : Nat}, idxOf ps p n = some j → ∃ i z, j = n + i ∧ ps[i]? = some z ∧ PyData.eqv z p = true ∧ ∀ (m : Nat) (z' : PyData), m < i → ps[m]? = some z' → PyData.eqv z' p = false
  | [], _, _, _, h => by cases h
  | z :: zs, p, n, j, h => by
    replace h : (if PyData.eqv z p = true then some n else idxOf zs p (n + 1)) = some j := h
    by_cases q : PyData.eqv z p = true
    · rw [if_pos q] at h
      cases h
      exact ⟨0, z, rfl, rfl, q, fun m _ hm => absurd hm (Nat.not_lt_zero _)⟩
    · rw [if_neg q] at h
      obtain ⟨i, z1, e1, e2, e3, e4⟩ := idxOf_ok h
      refine ⟨i + 1, z1, by omega, by simpa using e2, e3, fun m z' hm hz => ?_⟩
      cases m with
      | zero =>
        simp at hz
        subst hz
        exact Bool.eq_false_iff.mpr q
      | succ m => exact e4 m z' (by omega) (by simpa using hz)
theorem g_idx {apos cpos : Pos} (x : XB X c) (ha : PE X a (tEv c L W f)) (hb : PE X b (tEv c L W g))
    (hbase : attributeBase a "index" X.env (eval a X.env) = eval a X.env := by rfl)
    (hfew : ((backTo cpos (starEach [b] X.env)).all (fun x => !x.1) && (backToKw cpos (keywordEach [] X.env)).all (fun x => x.1.isSome)
      && decide ([b].length + ([] : List Keyword).length + (if ([] : List Keyword).isEmpty then 0 else 1) < 30)) = true := by rfl)
    (hline : (apos.endLine == cpos.line) = true := by rfl) (hst : starEach [b] X.env = (false, eval b X.env) :: starEach [] X.env := by rfl) : PE X (.Call (.Attribute a "index" apos) [b] [] cpos) (tEv c L W (eLm oIdx f g)) := by
  refine pe_ev (pe_bm PySem.F.plainAttrs_list PySem.F.slot_list_index PySem.F.type_list_index (mt_indexD (by have := x.hu2; omega)) ha (pa_cons hb pa_nil hst) hbase hfew hline hst rfl) fun σ H Q h => ?_
  obtain ⟨F, ρ, R, h⟩ := of_tEv h
  refine ev_bind R h fun d k v F1 H1 ef e1 rd1 so R1 h1 => ?_
  clear ef h so
  cases d <;> first | exact (show False from h1).elim | skip
  rename_i ds
  obtain ⟨q, xs, rfl, hq, r⟩ := rd1.lst R1.sub
  refine ⟨.inl ⟨rfl, xs, by rw [x.K]; exact .inl (.inl hq)⟩, ?_⟩
  replace h1 : Res c W σ ρ F1 H1 Q ((g ρ).bind fun y => oIdx ds y.1) := h1
  refine ev_bind R1 h1 fun d2 k2 y F2 H2 _ e2 rd2 _ R2 h2 => ?_
  replace h2 : Res c W σ ρ F2 H2 Q (match toPys ds, toPy d2 with
    | some ps, some p => if (SeqAt.shaped (.list ps) && SeqAt.shaped p) = true then (match idxOf ps p 0 with
      | some j => shr (.int (j : Nat))
      | none => .no) else .no
    | _, _ => .no) := h2
  cases q1 : toPys ds with
  | none => rw [q1] at h2; exact h2.elim
  | some ps =>
    cases q2 : toPy d2 with
    | none => rw [q1, q2] at h2; exact h2.elim
    | some p =>
      rw [q1, q2] at h2
      obtain ⟨sh, h2⟩ := Res.ite h2
      obtain ⟨s1, s2⟩ := Bool.and_eq_true_iff.mp sh
      cases q3 : idxOf ps p 0 with
      | none => rw [q3] at h2; exact h2.elim
      | some j =>
        rw [q3] at h2
        obtain ⟨i, z, z1, z2, z3, z4⟩ := idxOf_ok q3
        rw [Nat.zero_add] at z1
        subst z1
        refine ⟨q, y, p, ps, j, z, rfl, rfl, ?_, ?_, s1, s2, z2, z3, z4, h2.int R2.sub⟩
        · rw [x.K]
          exact .lst (.inl (.inl (e2.hh _ _ hq))) (repl_py R2.sub (r.mono e2.ff) q1)
        · rw [x.K]
          exact rd_py R2.sub rd2 q2
end
end G
namespace GD
open PySem L2 G
def S_along_row : SS := sSeq (G.sIf (G.tOr (tBl (eBin oEq (eVar 2) (eC (.int 0)))) (tBl (eBin oEq (eVar 2) (eM [(20, R_Cloth_tall)] (eVar 0) [])))) (sRet (eLst [])) (sSkip)) (sSeq (G.sIf (G.tAnd (tBl (eBin oLt (eVar 1) (eM [(20, R_Cloth_wide)] (eVar 0) []))) (tTru (eM [(20, R_Cloth_stitched)] (eVar 0) [eC (.str "row"), eBin oSub (eVar 2) (eC (.int 1)), eVar 1]))) (sRet (eLst [eTup [eBin oAdd (eVar 1) (eC (.int 1)), eVar 2]])) (sSkip)) (sSeq (G.sIf (G.tAnd (tBl (eBin oGt (eVar 1) (eC (.int 0)))) (tTru (eM [(20, R_Cloth_stitched)] (eVar 0) [eC (.str "row"), eBin oSub (eVar 2) (eC (.int 1)), eBin oSub (eVar 1) (eC (.int 1))]))) (sRet (eLst [eTup [eBin oSub (eVar 1) (eC (.int 1)), eVar 2]])) (sSkip)) (sRet (eLst []))))
def R_along_row : List D → Out (D × Bool) := denF 3 S_along_row
def S_along_column : SS := sSeq (G.sIf (G.tOr (tBl (eBin oEq (eVar 1) (eC (.int 0)))) (tBl (eBin oEq (eVar 1) (eM [(20, R_Cloth_wide)] (eVar 0) [])))) (sRet (eLst [])) (sSkip)) (sSeq (G.sIf (G.tAnd (tBl (eBin oLt (eVar 2) (eM [(20, R_Cloth_tall)] (eVar 0) []))) (tTru (eM [(20, R_Cloth_stitched)] (eVar 0) [eC (.str "col"), eBin oSub (eVar 1) (eC (.int 1)), eVar 2]))) (sRet (eLst [eTup [eVar 1, eBin oAdd (eVar 2) (eC (.int 1))]])) (sSkip)) (sSeq (G.sIf (G.tAnd (tBl (eBin oGt (eVar 2) (eC (.int 0)))) (tTru (eM [(20, R_Cloth_stitched)] (eVar 0) [eC (.str "col"), eBin oSub (eVar 1) (eC (.int 1)), eBin oSub (eVar 2) (eC (.int 1))]))) (sRet (eLst [eTup [eVar 1, eBin oSub (eVar 2) (eC (.int 1))]])) (sSkip)) (sRet (eLst []))))
def R_along_column : List D → Out (D × Bool) := denF 3 S_along_column
def S_joined : SS := sSeq (G.sTg (.tup [.one 2, .one 3]) (eVar 1)) (sSeq (G.sIf (G.tOr (tBl (eBin oLt (eVar 2) (eC (.int 0)))) (G.tOr (tBl (eBin oLt (eVar 3) (eC (.int 0)))) (G.tOr (tBl (eBin oGt (eVar 2) (eM [(20, R_Cloth_wide)] (eVar 0) []))) (tBl (eBin oGt (eVar 3) (eM [(20, R_Cloth_tall)] (eVar 0) [])))))) (sRaise 6) (sSkip)) (sRet (eUn oSrt (eBin oAdd (eFn R_along_row [eVar 0, eVar 2, eVar 3]) (eFn R_along_column [eVar 0, eVar 2, eVar 3])))))
def R_joined : List D → Out (D × Bool) := denF 4 S_joined
def S_followed_b1 : SS := sSeq (sOwL 3 kAp (eVar 5)) (sSeq (G.sAsg false 6 (eLc (itE false (eFn R_joined [eVar 0, eVar 5])) (.one 7) (tBl (eBin oNe (eVar 7) (eVar 4))) (eVar 7) [7])) (sSeq (G.sAsg false 4 (eVar 5)) (sSeq (G.sAsg false 5 (eC .non)) (G.sIf (tBl (eBin oNe (eVar 6) (eLst []))) (G.sAsg false 5 (eBin oIx (eVar 6) (eC (.int 0)))) (sSkip)))))
def T_followed_b2 : TSm := G.tAnd (tBl (eUn (fun d => shr (.bl (!isNon d))) (eVar 5))) (tBl (eBin oNe (eVar 5) (eVar 1)))
def S_followed : SS := sSeq (G.sAsg true 3 (eLst [eVar 1])) (sSeq (G.sAsg false 4 (eVar 1)) (sSeq (G.sAsg false 5 (eVar 2)) (sSeq (G.sWhile T_followed_b2 S_followed_b1) (sSeq (sFrz 3) (sRet (eTup [eBin oEq (eVar 5) (eVar 1), eVar 3]))))))
def R_followed : List D → Out (D × Bool) := denF 8 S_followed
def S_from_least : SS := sSeq (G.sAsg false 1 (eLm oIdx (eVar 0) (eUn oMin (eVar 0)))) (sSeq (G.sAsg false 2 (eBin oAdd (eSl (eVar 0) (some (eVar 1)) none) (eSl (eVar 0) none (some (eVar 1))))) (sSeq (G.sIf (tBl (eBin oNe (eBin oIx (eBin oIx (eVar 2) (eC (.int 1))) (eC (.int 1))) (eBin oIx (eBin oIx (eVar 2) (eC (.int 0))) (eC (.int 1))))) (sRet (eBin oAdd (eSl (eVar 2) none (some (eC (.int 1)))) (eUn oRev (eSl (eVar 2) (some (eC (.int 1))) none)))) (sSkip)) (sRet (eVar 2))))
def R_from_least : List D → Out (D × Bool) := denF 3 S_from_least
def S_seam : SS := sSeq (G.sAsg false 2 (eFn R_joined [eVar 0, eVar 1])) (sSeq (G.sIf (tBl (eBin oEq (eVar 2) (eLst []))) (sRet (eC .non)) (sSkip)) (sSeq (G.sTg (.tup [.one 3, .one 4]) (eFn R_followed [eVar 0, eVar 1, eBin oIx (eVar 2) (eC (.int 0))])) (sSeq (G.sIf (tTru (eVar 3)) (sRet (eTup [eC (.bl true), eFn R_from_least [eVar 4]])) (sSkip)) (sSeq (G.sIf (tBl (eBin oEq (eBi .len [eVar 2]) (eC (.int 2)))) (G.sAsg false 4 (eBin oAdd (eUn oRev (eVar 4)) (eSl (eBin oIx (eFn R_followed [eVar 0, eVar 1, eBin oIx (eVar 2) (eC (.int 1))]) (eC (.int 1))) (some (eC (.int 1))) none))) (sSkip)) (sSeq (G.sIf (tBl (eBin oLt (eBin oIx (eVar 4) (eUn oNeg (eC (.int 1)))) (eBin oIx (eVar 4) (eC (.int 0))))) (G.sAsg false 4 (eUn oRev (eVar 4))) (sSkip)) (sRet (eTup [eC (.bl false), eVar 4])))))))
def R_seam : List D → Out (D × Bool) := denF 5 S_seam
end GD
namespace G
open PySem PySem.Spec L2
section
variable {θ : Th} {F0 B F F' H H' : Hp} {L : List Addr} {σ : L2.St} {ρ : Sl} {i : Nat} {k : Sh} {d : D} {v : V} {a : Addr} {o : HO} {Z : Nat → List Addr} {S : List Addr}
theorem set_some {x z : Slot} {j : Nat} (h : (ρ.set i x)[j]? = some z) : (j = i ∧ z = x) ∨ (j ≠ i ∧ ρ[j]? = some z) := by
  by_cases q : i = j
  · subst q
    by_cases l : i < ρ.length
    · rw [List.getElem?_set_self l] at h
      exact .inl ⟨rfl, (Option.some.inj h).symm⟩
    · rw [List.getElem?_eq_none (by simpa using l)] at h
      cases h
  · rw [List.getElem?_set_ne q] at h
    exact .inr ⟨fun e => q e.symm, h⟩
def bare : Slot → Bool
  | .un => true
  | .pv _ _ => true
  | _ => false
theorem Owner.set_bare {x : Slot} {j : Nat} (hx : bare x = true) (h : Owner (ρ.set i x) j) : j ≠ i ∧ Owner ρ j := by
  rcases h with ⟨d, h⟩ | ⟨k, ds, h⟩
  · rcases set_some h with ⟨_, z⟩ | ⟨q, z⟩
    · subst z; cases hx
    · exact ⟨q, .inl ⟨d, z⟩⟩
  · rcases set_some h with ⟨_, z⟩ | ⟨q, z⟩
    · subst z; cases hx
    · exact ⟨q, .inr ⟨k, ds, z⟩⟩
/-- a slot of which nothing is known, or that has an own tree -/
theorem Rel.reslot {x : Slot} {w : Option V} (R : Rel θ F0 B L F H σ ρ) (hx : bare x = true) (hp : ∃ Z, PvAll θ B F H (σ.set i w) (ρ.set i x) Z) : Rel θ F0 B L F H (σ.set i w) (ρ.set i x) := by
  have ne : ∀ {j : Nat}, j ≠ i → (σ.set i w)[j]? = σ[j]? := fun {j} h => List.getElem?_set_ne fun e => h e.symm
  refine ⟨R.sub, R.kp, R.f0, R.fn, by simpa using R.len, fun j e h => ?_, fun j e h => ?_, fun j e h => ?_, fun j l e e' b hn h1 h2 h3 => ?_, fun j l ds h => ?_, fun j h => ?_, hp⟩
  · rcases set_some h with ⟨_, z⟩ | ⟨q, z⟩
    · subst z; cases hx
    · rw [ne q]; exact R.va j e z
  · rcases set_some h with ⟨_, z⟩ | ⟨q, z⟩
    · subst z; cases hx
    · rw [ne q]; exact R.ow j e z
  · rcases set_some h with ⟨_, z⟩ | ⟨q, z⟩
    · subst z; cases hx
    · exact R.fu j e z
  · rcases set_some h1 with ⟨_, z⟩ | ⟨q1, z1⟩
    · subst z; cases hx
    rcases set_some h2 with ⟨_, z⟩ | ⟨q2, z2⟩
    · subst z; cases hx
    rw [ne q1] at h3
    rw [ne q2]
    exact R.dj j l e e' b hn z1 z2 h3
  · rcases set_some h with ⟨_, z⟩ | ⟨q, z⟩
    · subst z; cases hx
    · obtain ⟨⟨b, o, g1, g2, g3, g4, g5, g6, g7⟩, g8⟩ := R.me j l ds z
      refine ⟨⟨b, o, by rw [ne q]; exact g1, g2, g3, g4, g5, g6, fun m e hm => ?_⟩, fun m k' ds' hm hz => ?_⟩
      · rcases set_some hm with ⟨_, z⟩ | ⟨q2, z⟩
        · subst z; cases hx
        · rw [ne q2]; exact g7 m e z
      · rcases set_some hz with ⟨_, z⟩ | ⟨q2, z⟩
        · subst z; cases hx
        · exact g8 m k' ds' hm z
  · rcases set_some h with ⟨_, z⟩ | ⟨q, z⟩
    · subst z; cases hx
    · rw [ne q]; exact R.xc j z
theorem PvAll.drop {w : Option V} (hZ : PvAll θ B F H σ ρ Z) : PvAll θ B F H (σ.set i w) (ρ.set i .un) Z :=
  hZ.step (.refl _) (fun _ _ h => h) (fun j k d h => by
    rcases set_some h with ⟨_, z⟩ | ⟨q, z⟩
    · cases z
    · exact ⟨z, List.getElem?_set_ne (Ne.symm q), fun b hb => ⟨rfl, ((hZ j k d z).2.2.1 b hb).1⟩⟩) fun j k d l b h ho hs => by
    rcases set_some h with ⟨_, z⟩ | ⟨q, z⟩
    · cases z
    · obtain ⟨q2, ho⟩ := ho.set_bare rfl
      rw [List.getElem?_set_ne (Ne.symm q2)] at hs
      exact (hZ j k d z).2.2.2.1 l b ho hs
theorem set_same {w : Option V} (h : σ[i]? = some w) : σ.set i w = σ := List.ext_getElem? fun j => by
  by_cases q : i = j
  · subst q
    rw [List.getElem?_set_self (List.getElem?_eq_some_iff.mp h).1, h]
  · rw [List.getElem?_set_ne q]
/-- an object that no slot owns changes -/
theorem Rel.poke (R : Rel θ F0 B L F H σ ρ) (nF : F a = none) (nB : B a = none) (no : ∀ j : Nat, Owner ρ j → σ[j]? ≠ some (some (.ref a))) (hp : ∃ Z, PvAll θ B F (upd H a o) σ ρ Z) : Rel θ F0 B L F (upd H a o) σ ρ := by
  have keep : ∀ {b : Addr} {u : HO}, F b = some u → b ≠ a := fun h z => by
    subst z
    rw [nF] at h
    cases h
  have keepB : ∀ {b : Addr} {u : HO}, B b = some u → b ≠ a := fun h z => by
    subst z
    rw [nB] at h
    cases h
  refine ⟨fun b u h => by rw [upd_ne (keep h)]; exact R.sub b u h, fun b u h => by rw [upd_ne (keepB h)]; exact R.kp b u h, R.f0, R.fn, R.len, R.va, fun j e h => ?_, R.fu, R.dj, fun j l ds h => ?_, R.xc, hp⟩
  · obtain ⟨b, o2, g1, g2, g3⟩ := R.ow j e h
    exact ⟨b, o2, g1, by rw [upd_ne fun z => by subst z; exact no j (.inl ⟨e, h⟩) g1]; exact g2, g3⟩
  · obtain ⟨⟨b, o2, g1, g2, g3⟩, g8⟩ := R.me j l ds h
    exact ⟨⟨b, o2, g1, by rw [upd_ne fun z => by subst z; exact no j (.inr ⟨l, ds, h⟩) g1]; exact g2, g3⟩, g8⟩
/-- an object of slot i's tree changes; the tree is then another one -/
theorem PvAll.upd {k' : Sh} {d' : D} {S' : List Addr} (hZ : PvAll θ B F H σ ρ Z) (hi : ρ[i]? = some (.pv k d)) (hs : σ[i]? = some (some v)) (ha : a ∈ Z i) (T : Tr θ B F (upd H a o) k' d' v S') (nd : S'.Nodup)
    (hS : ∀ b ∈ S', b ∈ Z i ∨ (F b = none ∧ B b = none ∧ (∀ j : Nat, Owner ρ j → σ[j]? ≠ some (some (.ref b))) ∧ ∀ (j : Nat) (k : Sh) (d : D), j ≠ i → ρ[j]? = some (.pv k d) → b ∉ Z j)) : ∃ Z', PvAll θ B F (upd H a o) σ (ρ.set i (.pv k' d')) Z' := by
  refine ⟨fun j => if j = i then S' else Z j, fun j l e h => ?_⟩
  have own : ∀ {m : Nat}, Owner (ρ.set i (.pv k' d')) m → Owner ρ m := fun h => (h.set_bare rfl).2
  rcases set_some h with ⟨rfl, z⟩ | ⟨q, z⟩
  · cases z
    dsimp only
    rw [if_pos rfl]
    obtain ⟨_, _, f, ow, pw⟩ := hZ j k d hi
    refine ⟨⟨v, hs, T⟩, nd, fun b hb => ?_, fun m b ho hm hb => ?_, fun m k2 d2 hm hp => ?_⟩
    · rcases hS b hb with g | ⟨g1, g2, _⟩
      · exact f b g
      · exact ⟨g1, g2⟩
    · rcases hS b hb with g | ⟨_, _, g3, _⟩
      · exact ow m b (own ho) hm g
      · exact g3 m (own ho) hm
    · rcases set_some hp with ⟨z, _⟩ | ⟨_, z⟩
      · exact absurd z hm
      · rw [if_neg hm]
        intro b hb hb2
        rcases hS b hb2 with g | ⟨_, _, _, g4⟩
        · exact pw m k2 d2 hm z b hb g
        · exact g4 m k2 d2 hm z hb
  · dsimp only
    rw [if_neg q]
    obtain ⟨⟨w, g1, t⟩, g2, f, ow, pw⟩ := hZ j l e z
    obtain ⟨⟨_, _, ti⟩, _, _, _, pwi⟩ := hZ i k d hi
    obtain ⟨oa, hoa, nta⟩ := ti.some a ha
    have ne : ∀ b ∈ Z j, b ≠ a := fun b hb z2 => by
      subst z2
      exact pwi j l e q z b hb ha
    refine ⟨⟨w, g1, t.keep (.refl _) (fun b xs hx => ?_) fun b hb => upd_ne (ne b hb)⟩, g2, f, fun m b ho hm => ow m b (own ho) hm, fun m k2 d2 hm hp => ?_⟩
    · rw [upd_ne fun z2 => ?_]
      · exact hx
      · subst z2
        rw [hoa] at hx
        cases hx
        exact nta _ rfl
    · rcases set_some hp with ⟨rfl, z2⟩ | ⟨q2, z2⟩
      · rw [if_pos rfl]
        intro b hb hb2
        rcases hS b hb with g | ⟨_, _, _, g4⟩
        · exact pw m k d hm hi b g hb2
        · exact g4 j l e q z hb2
      · rw [if_neg q2]
        exact pw m k2 d2 hm z2
/-- .. the whole step -/
theorem Rel.pvMut {k' : Sh} {d' : D} {S' : List Addr} (R : Rel θ F0 B L F H σ ρ) (hZ : PvAll θ B F H σ ρ Z) (hi : ρ[i]? = some (.pv k d)) (hs : σ[i]? = some (some v)) (ha : a ∈ Z i) (T : Tr θ B F (upd H a o) k' d' v S') (nd : S'.Nodup)
    (hS : ∀ b ∈ S', b ∈ Z i ∨ (F b = none ∧ B b = none ∧ (∀ j : Nat, Owner ρ j → σ[j]? ≠ some (some (.ref b))) ∧ ∀ (j : Nat) (k : Sh) (d : D), j ≠ i → ρ[j]? = some (.pv k d) → b ∉ Z j)) : Rel θ F0 B L F (upd H a o) σ (ρ.set i (.pv k' d')) := by
  obtain ⟨⟨_, _, ti⟩, _, f, ow, _⟩ := hZ i k d hi
  have R1 : Rel θ F0 B L F H σ (ρ.set i .un) := by
    have := R.reslot (i := i) (x := .un) (w := some v) rfl ⟨Z, by rw [set_same hs]; exact set_same hs ▸ hZ.drop (i := i) (w := some v)⟩
    rwa [set_same hs] at this
  have un : ∀ {j : Nat}, Owner (ρ.set i .un) j → Owner ρ j := fun h => (h.set_bare rfl).2
  have fin := PvAll.upd hZ hi hs ha T nd hS
  have R2 : Rel θ F0 B L F (upd H a o) σ (ρ.set i .un) := R1.poke (f a ha).1 (f a ha).2 (fun j ho hj => ow j a (un ho) hj ha) (by
    obtain ⟨Z', h'⟩ := fin
    have h2 := h'.drop (i := i) (w := some v)
    rw [set_same hs, List.set_set] at h2
    exact ⟨Z', h2⟩)
  have R3 := R2.reslot (i := i) (x := .pv k' d') (w := some v) rfl (by rw [set_same hs, List.set_set]; exact fin)
  rwa [set_same hs, List.set_set] at R3
/-- a slot takes a new tree -/
theorem Rel.setPv (R : Rel θ F0 B L F H σ ρ) (e : Ext F H F' H') (t : Tr θ B F' H' k d v S) (nd : S.Nodup) (fr : ∀ b ∈ S, H b = none ∧ F' b = none) : Rel θ F0 B L F' H' (σ.set i (some v)) (ρ.set i (.pv k d)) := by
  obtain ⟨Z, h0⟩ := R.pv
  have hZ := h0.ext e
  have R1 := R.ext e
  refine R1.reslot rfl ⟨fun j => if j = i then S else Z j, fun j l e2 h => ?_⟩
  have nb : ∀ b ∈ S, B b = none := fun b hb => by
    cases q : B b with
    | none => rfl
    | some u => rcases R.kp b u q with y | ⟨_, _, _, y⟩ <;> (rw [(fr b hb).1] at y; cases y)
  have old : ∀ {j : Nat} {l : Sh} {e2 : D}, ρ[j]? = some (.pv l e2) → ∀ b ∈ Z j, b ∉ S := fun {j l e2} hp b hb hb2 => by
    obtain ⟨⟨w, _, t⟩, _⟩ := h0 j l e2 hp
    obtain ⟨u, hu, _⟩ := t.some b hb
    rw [(fr b hb2).1] at hu
    cases hu
  have ownO : ∀ {j : Nat} {b : Addr}, Owner ρ j → σ[j]? = some (some (.ref b)) → b ∉ S := fun {j b} ho hs hb => by
    have : ∃ u, H b = some u := by
      rcases ho with ⟨e2, he⟩ | ⟨l, ds, he⟩
      · obtain ⟨b2, u, g1, g2, _⟩ := R.ow j e2 he
        rw [hs] at g1
        cases g1
        exact ⟨u, g2⟩
      · obtain ⟨⟨b2, u, g1, g2, _⟩, _⟩ := R.me j l ds he
        rw [hs] at g1
        cases g1
        exact ⟨u, g2⟩
    obtain ⟨u, hu⟩ := this
    rw [(fr b hb).1] at hu
    cases hu
  rcases set_some h with ⟨rfl, z⟩ | ⟨q, z⟩
  · cases z
    dsimp only
    rw [if_pos rfl]
    have hi : j < σ.length := by
      have := (List.getElem?_eq_some_iff.mp h).1
      rw [List.length_set] at this
      rw [R.len]
      exact this
    refine ⟨⟨v, List.getElem?_set_self hi, t⟩, nd, fun b hb => ⟨(fr b hb).2, nb b hb⟩, fun m b ho hs => ?_, fun m k2 d2 hm hp => ?_⟩
    · obtain ⟨q2, ho⟩ := ho.set_bare rfl
      rw [List.getElem?_set_ne (Ne.symm q2)] at hs
      exact ownO ho hs
    · rcases set_some hp with ⟨z, _⟩ | ⟨_, z⟩
      · exact absurd z hm
      · rw [if_neg hm]
        exact old z
  · dsimp only
    rw [if_neg q]
    obtain ⟨⟨w, g1, t1⟩, g2, f, ow, pw⟩ := hZ j l e2 z
    refine ⟨⟨w, by rw [List.getElem?_set_ne (Ne.symm q)]; exact g1, t1⟩, g2, f, fun m b ho hs => ?_, fun m k2 d2 hm hp => ?_⟩
    · obtain ⟨q2, ho⟩ := ho.set_bare rfl
      rw [List.getElem?_set_ne (Ne.symm q2)] at hs
      exact ow m b ho hs
    · rcases set_some hp with ⟨rfl, z2⟩ | ⟨q2, z2⟩
      · rw [if_pos rfl]
        exact fun b hb hb2 => old z b hb2 hb
      · rw [if_neg q2]
        exact pw m k2 d2 hm z2
def sh1 : Sh := .nd fun _ => .lf
def sh2 : Sh := .nd fun _ => sh1
theorem TrL.append {k : Nat → Sh} : ∀ {n : Nat} {ds es : List D} {xs ys : List V} {S T : List Addr}, TrL θ B F H k n ds xs S → TrL θ B F H k (n + ds.length) es ys T → TrL θ B F H k n (ds ++ es) (xs ++ ys) (S ++ T)
  | n, _, es, _, ys, _, T, .nil, t => by simpa using t
  | n, _, es, _, ys, _, T, .cons (ds := ds) h r, t => by
    rw [List.cons_append, List.cons_append, List.append_assoc]
    refine .cons h (TrL.append r ?_)
    rw [List.length_cons] at t
    rw [show n + 1 + ds.length = n + (ds.length + 1) by omega]
    exact t
end
end G
namespace G
open PySem PySem.Spec L2
/-- a slot's own is no more its own -/
def sFrzA (i : Nat) : SS := fun ρ => match ρ[i]? with
  | some (.ow d) => .nx (ρ.set i (.va d))
  | some (.pv _ d) => .nx (ρ.set i (.va d))
  | _ => .nx ρ
/-- what may be read out of a tree that stays own -/
def outOk (r : D) (k : Kd) : Bool := flat r || (match k with
  | .fr => newD r
  | _ => false)
def eBor (i : Nat) (f : ES) : ES := fun ρ => match ρ[i]? with
  | some (.pv _ d) => (match f (ρ.set i (.va d)) with
    | .ok (r, k) => if outOk r k = true ∧ k.solid = true then .ok (r, k) else .no
    | .ex n fs => if fs = [] then .ex n [] else .no
    | .no => .no)
  | _ => f ρ
def tBor (i : Nat) (t : TSm) : TSm := fun ρ => match ρ[i]? with
  | some (.pv _ d) => (match t (ρ.set i (.va d)) with
    | .ok b => .ok b
    | .ex n fs => if fs = [] then .ex n [] else .no
    | .no => .no)
  | _ => t ρ
end G
namespace G
open PySem PySem.Spec L2
end G
namespace G
open PySem PySem.Spec L2
section
variable {θ : Th} {B F H : Hp}
/-- an item of a tree; how the tree goes on where the item's objects change -/
theorem trl_item : ∀ {k : Nat → Sh} {n j : Nat} {ds : List D} {d : D} {vs : List V} {S : List Addr}, TrL θ B F H k n ds vs S → S.Nodup → ds[j]? = some d → ∃ v Sj, vs[j]? = some v ∧ Tr θ B F H (k (n + j)) d v Sj ∧ Sj.Nodup ∧ (∀ x ∈ Sj, x ∈ S) ∧
    ∀ (b : Addr) (o : HO) (d' : D), b ∈ Sj → (∀ xs, H b ≠ some (.tup xs)) → Tr θ B F (upd H b o) (k (n + j)) d' v Sj → TrL θ B F (upd H b o) k n (ds.set j d') vs S
  | _, _, _, _, _, _, _, .nil, _, h => by simp at h
  | k, n, 0, _, d, _, _, .cons (S1 := S1) (S2 := S2) (ds := ds) (v := v) h t, nd, hd => by
    simp at hd
    subst hd
    obtain ⟨n1, n2, dj⟩ := List.nodup_append.mp nd
    refine ⟨v, S1, rfl, h, n1, fun x hx => List.mem_append_left _ hx, fun b o d' hb nt T => ?_⟩
    rw [List.set_cons_zero]
    refine .cons T (t.keep (.refl _) (fun b2 xs h2 => ?_) fun b2 hb2 => upd_ne fun z => dj b hb b2 hb2 z.symm)
    rw [upd_ne fun z => ?_]
    · exact h2
    · subst z
      exact nt _ h2
  | k, n, j + 1, _, d, _, _, .cons (S1 := S1) (S2 := S2) (ds := ds) (v := v0) (d := d0) h t, nd, hd => by
    obtain ⟨n1, n2, dj⟩ := List.nodup_append.mp nd
    obtain ⟨v, Sj, g1, g2, g3, g4, g5⟩ := trl_item (j := j) t n2 (by simpa using hd)
    rw [show n + 1 + j = n + (j + 1) by omega] at g2 g5
    refine ⟨v, Sj, by simpa using g1, g2, g3, fun x hx => List.mem_append_right _ (g4 x hx), fun b o d' hb nt T => ?_⟩
    rw [List.set_cons_succ]
    refine .cons (h.keep (.refl _) (fun b2 xs h2 => ?_) fun b2 hb2 => upd_ne fun z => dj b2 hb2 b (g4 b hb) z) (g5 b o d' hb nt T)
    rw [upd_ne fun z => ?_]
    · exact h2
    · subst z
      exact nt _ h2
/-- .. comes at the end -/
theorem trl_snoc {k : Nat → Sh} {n : Nat} {ds : List D} {d : D} {v : V} {vs : List V} {S : List Addr} (t : TrL θ B F H k n ds vs S) (hk : k (n + ds.length) = .lf) (r : Rep θ F d v) : TrL θ B F H k n (ds ++ [d]) (vs ++ [v]) S := by
  have := TrL.append t (.cons (S1 := []) (S2 := []) (show Tr θ B F H (k (n + ds.length)) d v [] by rw [hk]; exact .lf r) .nil)
  simpa using this
end
/-- the list at place i of a tree -/
def row2 : Sh → List D → D → Option ((Nat → Sh) × Nat × List D)
  | .nd k1, ds, .int n => match ixN ds.length n with
    | some p => match k1 p, ds[p]? with
      | .nd k2, some (.lst es) => some (k2, p, es)
      | _, _ => none
    | none => none
  | _, _, _ => none
def set2 (k : Nat → Sh) (es : List D) (j v : D) : Option (List D) := match j with
  | .int m => match ixN es.length m with
    | some q => match k q with
      | .lf => some (es.set q v)
      | _ => none
    | none => none
  | _ => none
def app2 (k : Nat → Sh) (es : List D) (v : D) : Option (List D) := match k es.length with
  | .lf => if es.length < SZ then some (es ++ [v]) else none
  | _ => none
/-- x[fi][fj] = fv -/
def sPut2 (i : Nat) (fi fj fv : ES) : SS := fun ρ => match ρ[i]? with
  | some (.pv k (.lst ds)) => sWith (fv ρ) ρ fun v => if v.2.solid then sWith (fi ρ) ρ fun a => (match row2 k ds a.1 with
    | some (k2, p, es) => sWith (fj ρ) ρ fun b => (match set2 k2 es b.1 v.1 with
      | some es' => .nx (ρ.set i (.pv k (.lst (ds.set p (.lst es')))))
      | none => .no)
    | none => .no) else .no
  | _ => .no
end G
namespace G
open PySem PySem.Spec L2
def okK (d : D) : Kd → Bool
  | .fr => true
  | .sh => flat d
  | _ => false
def okP (xs : List (D × Kd)) : Bool := xs.all fun x => okK x.1 x.2
def sSetLstP (i : Nat) (fs : List ES) : SS := fun ρ => sWith (eArgs fs ρ) ρ fun xs => if okP xs = true ∧ xs.length ≤ SZ then .nx (ρ.set i (.pv sh2 (.lst (xs.map (·.1))))) else .no
/-- x.append(fv), fv a fresh list -/
def sAppP (i : Nat) (f : ES) : SS := fun ρ => match ρ[i]? with
  | some (.pv (.nd k) (.lst ds)) => sWith (f ρ) ρ fun v => (match v with
    | (.lst es, .fr) => (match k ds.length with
      | .nd _ => if es.all flat = true ∧ ds.length < SZ then .nx (ρ.set i (.pv (.nd k) (.lst (ds ++ [.lst es])))) else .no
      | _ => .no)
    | _ => .no)
  | _ => .no
/-- o.append(e), o.clear() of a fresh list that nobody keeps -/
def sAppF (f g : ES) : SS := fun ρ => sWith (f ρ) ρ fun x => (match x with
  | (.lst ds, .fr) => sWith (g ρ) ρ fun _ => if ds.length < SZ then .nx ρ else .no
  | _ => .no)
def sClrF (f : ES) : SS := fun ρ => sWith (f ρ) ρ fun x => (match x with
  | (.lst _, .fr) => .nx ρ
  | _ => .no)
end G
namespace GD
open PySem L2 G
end GD
namespace GD
open PySem L2 G
end GD
namespace G
open PySem PySem.Spec L2
/-- x = a new tree -/
def sAsgT (i : Nat) (f : ES) : SS := fun ρ => sWith (f ρ) ρ fun x => match x.2 with
  | .tr n => if i < ρ.length then .nx (ρ.set i (.pv (shT n x.1) x.1)) else .no
  | _ => .no
section
variable {X : Cx} {c : Cn} {L : List Addr} {W : WX} {f g h : ES} {a b e o ix jx tg iter elt : Expr} {pos p p2 : Pos} {F F1 H H1 : Hp} {σ : L2.St} {ρ : Sl} {En : Ends} {s : IS} {t : Tg} {tst : TSm} {vs : List Nat}
theorem app2_inv {k : Nat → Sh} {es es' : List D} {v : D} (h : app2 k es v = some es') : k es.length = .lf ∧ es.length < SZ ∧ es' = es ++ [v] := by
  unfold app2 at h
  split at h
  · rename_i h1
    split at h
    · rename_i h2
      cases h
      exact ⟨h1, h2, rfl⟩
    · cases h
  · cases h
theorem gs_setT {i : Nat} {x : Str} {pos' : Pos} (hN : X.N.Nodup) (ha : PE X e (tEv c L W f)) (hx : Loc X.env.scope x) (hf : X.fn x = true ∨ X.env.scope.names.lookup x = some .local := by exact Or.inl rfl) (hi : X.N[i]? = some x := by rfl) (hs : swapsWith e (some (.Name x pos')) pos.line X.env = pure false := by rfl) :
    PS X (.Assign [.Name x pos'] e pos) (tSv c L W (sAsgT i f)) := by
  refine ps_ev (ps_set hN hi hx ha hs hf) fun E σ H h => ?_
  obtain ⟨F, ρ, R, h⟩ := h
  refine sv_with R h fun d kd x F1 H1 ef e1 hv R1 h1 => ?_
  cases kd with
  | tr n =>
    obtain ⟨lt, h1⟩ := ResS.ite (show ResS c L W F1 E (if i < ρ.length then .nx (ρ.set i (.pv (shT n d) d)) else .no) from h1)
    obtain ⟨S, t, nd, fr⟩ := (show TrV c.θ F1 H H1 n d x from hv)
    exact h1 _ F1 H1 (.refl _) (R.setPv e1 (t.base fun _ z => R.noneB z) nd fr)
  | sh => exact h1.elim
  | fr => exact h1.elim
  | «at» j => exact h1.elim
end
end G
namespace G
open PySem PySem.Spec L2
def ResTr (θ : Th) (n : Nat) (F H : Hp) (Q : VK) (E : XK) : Out D → Prop
  | .ok d => ∀ v F' H', Ext F H F' H' → TrV θ F' H H' n d v → Q v H'
  | .ex k fs => ∀ cls dd F' H', Ext F H F' H' → ExV θ k fs cls dd F' H' → E cls dd H'
  | .no => False
/-- a def whose value on ds is the new tree S ds -/
def spP (θ : Th) (m n : Nat) (S : List D → Out D) : Sp := fun vs H Q E => vs.length = m ∧ ∃ F ds, Sub F H ∧ RepL θ F ds vs ∧ ResTr θ n F H Q E (S ds)
def denP (N n : Nat) (u : SS) (ds : List D) : Out D := match u (slots N ds) with
  | .nx _ => .ok .non
  | .rt d .sh _ => if flat d = true then .ok d else .no
  | .rt d (.tr k) _ => if k = n then .ok d else .no
  | .ex k fs _ => .ex k fs
  | _ => .no
section
variable {θ : Th} {F H F' H' B : Hp}
theorem TrV.ofFlat {n : Nat} {d : D} {v : V} (h : G.flat d = true) (r : Rep θ F' d v) : TrV θ F' H H' n d v := by
  cases n with
  | zero => exact ⟨[], by show Tr θ H F' H' (shD d) d v []; rw [shD_flat h]; exact .lf r, List.nodup_nil, fun _ h => by cases h⟩
  | succ n => exact ⟨[], .fl h r, List.nodup_nil, fun _ h => by cases h⟩
theorem body_ofP {N : List Str} {m n : Nat} {u : SS} {vs : List V} {Q : VK} {E : XK} (h : spP θ m n (denP N.length n u) vs H Q E) : ∃ F, tSv ⟨θ, F, H⟩ [] (fun cls d _ H => E cls d H) u (EnF Q) (L2.start N vs) H := by
  obtain ⟨hl, F, ds, s, r, hf⟩ := h
  refine ⟨F, F, _, start_rel s r, ?_⟩
  unfold denP at hf
  cases q : u (slots N.length ds) with
  | nx ρ' =>
    rw [q] at hf
    exact fun σ' F' H' e R => hf .non F' H' ⟨R.sub, e, R.same0, R.fn⟩ (.ofFlat rfl .non)
  | bk ρ' => rw [q] at hf; exact hf.elim
  | ct ρ' => rw [q] at hf; exact hf.elim
  | rt d k ρ1 =>
    rw [q] at hf
    cases k with
    | sh =>
      replace hf : ResTr θ n F H Q E (if G.flat d = true then .ok d else .no) := hf
      by_cases z : G.flat d = true
      · rw [if_pos z] at hf
        exact fun v σ' F' H' e R hv => hf v F' H' ⟨R.sub, e, R.same0, R.fn⟩ (.ofFlat z hv)
      · rw [if_neg z] at hf
        exact hf.elim
    | fr => exact hf.elim
    | «at» i => exact hf.elim
    | tr k =>
      replace hf : ResTr θ n F H Q E (if k = n then .ok d else .no) := hf
      by_cases z : k = n
      · subst z
        rw [if_pos rfl] at hf
        exact fun v σ' F' H' e R hv => hf v F' H' ⟨R.sub, e, R.same0, R.fn⟩ hv
      · rw [if_neg z] at hf
        exact hf.elim
  | ex n fs ρ' =>
    rw [q] at hf
    exact fun cls dd σ' F' H' e R hv => hf cls dd F' H' ⟨R.sub, e, R.same0, R.fn⟩ hv
  | no => rw [q] at hf; exact hf.elim
end
section
variable {P : Program} {w : World} {K : PySem.W.Frag} {mg : Str → Option Value} {base : Heap} {x qual : Str} {params : Arguments} {body : List Stmt} {scope : Scope} {f : Addr} {fd : FuncData} {θ : Th}
theorem fnP_ok {N ps : List Str} {k m n : Nat} {u : SS} (F : FunD K x qual params body scope [] [] f fd) (S : FnScope N ps scope) (hm : m = ps.length)
    (hb : ∀ (cdv : Value) (A : Around) (outer : List Env) (s : Shared) (H : Hp) (E : XK) (F0 B : Hp) (L : List Addr), BodyOk (BX P w K mg base N qual scope f cdv A outer s H E) (fun cls d _ H => E cls d H) k → PSs (BX P w K mg base N qual scope f cdv A outer s H E) body (tSv ⟨θ, F0, B⟩ L (fun cls d _ H => E cls d H) u)) :
    FnOk P w K mg base (L2N.CX P w) (k + 1) f fd ps (spP θ m n (denP N.length n u)) := by
  refine F.ok S (fun vs H Q E h => by rw [h.1, hm]) fun cdv A outer s H vs Q E hr h => ?_
  obtain ⟨F0, h⟩ := body_ofP h
  exact ⟨_, hb cdv A outer s H E F0 H [] ⟨L2N.takes_of rfl rfl rfl rfl, passes_of rfl, hr⟩, h⟩
end
mutual
/-- flat values, and lists and tuples of them -/
def dataD : D → Bool
  | .non => true
  | .bl _ => true
  | .int _ => true
  | .str _ => true
  | .lst ds => dataL ds
  | .tup ds => dataL ds
  | _ => false
def dataL : List D → Bool
  | [] => true
  | d :: ds => dataD d && dataL ds
end
section
variable {θ : Th} {F H F' H' B : Hp}
mutual
theorem Rep.inj : ∀ {d e : D} {v : V}, dataD d = true → dataD e = true → Rep θ F d v → Rep θ F e v → d = e
  | _, _, _, _, _, .non, g => by cases g; rfl
  | _, _, _, _, _, .bl _, g => by cases g; rfl
  | _, _, _, _, _, .int _, g => by cases g; rfl
  | _, _, _, _, _, .str _, g => by cases g; rfl
  | _, _, _, hd, he, .lst h r, g => by
    cases g with
    | lst h2 r2 =>
      rw [h] at h2
      cases h2
      rw [RepL.inj hd he r r2]
    | tup h2 r2 => rw [h] at h2; cases h2
    | dK _ _ _ => cases he
    | dT _ _ _ => cases he
    | obj _ _ _ => cases he
    | frl _ => cases he
    | hx => cases he
  | _, _, _, hd, he, .tup h r, g => by
    cases g with
    | tup h2 r2 =>
      rw [h] at h2
      cases h2
      rw [RepL.inj hd he r r2]
    | lst h2 r2 => rw [h] at h2; cases h2
    | dK _ _ _ => cases he
    | dT _ _ _ => cases he
    | obj _ _ _ => cases he
    | frl _ => cases he
    | hx => cases he
  | _, _, _, hd, _, .dK _ _ _, _ => by cases hd
  | _, _, _, hd, _, .dT _ _ _, _ => by cases hd
  | _, _, _, hd, _, .obj _ _ _, _ => by cases hd
  | _, _, _, hd, _, .frl _, _ => by cases hd
  | _, _, _, hd, _, .hx, _ => by cases hd
theorem RepL.inj : ∀ {ds es : List D} {vs : List V}, dataL ds = true → dataL es = true → RepL θ F ds vs → RepL θ F es vs → ds = es
  | _, _, _, _, _, .nil, g => by cases g; rfl
  | _, _, _, hd, he, .cons h t, g => by
    cases g with
    | cons h2 t2 =>
      obtain ⟨a1, a2⟩ := Bool.and_eq_true_iff.mp hd
      obtain ⟨b1, b2⟩ := Bool.and_eq_true_iff.mp he
      rw [Rep.inj a1 b1 h h2, RepL.inj a2 b2 t t2]
end
/-- lists at their places -/
inductive All2 (θ : Th) (F : Hp) : List Addr → List D → Prop
  | nil : All2 θ F [] []
  | cons {b : Addr} {e : D} {S : List Addr} {T : List D} : Rep θ F e (.ref b) → All2 θ F S T → All2 θ F (b :: S) (e :: T)
theorem All2.append {S S' : List Addr} {T T' : List D} (h : All2 θ F S T) (h' : All2 θ F S' T') : All2 θ F (S ++ S') (T ++ T') := by
  induction h with
  | nil => exact h'
  | cons r _ ih => exact .cons r ih
theorem All2.mem {S : List Addr} {T : List D} (h : All2 θ F S T) {b : Addr} (hb : b ∈ S) : ∃ e ∈ T, Rep θ F e (.ref b) := by
  induction h with
  | nil => cases hb
  | cons r _ ih =>
    rcases List.mem_cons.mp hb with rfl | hb
    · exact ⟨_, List.mem_cons_self, r⟩
    · obtain ⟨e, he, r⟩ := ih hb
      exact ⟨e, List.mem_cons_of_mem _ he, r⟩
theorem All2.nodup {S : List Addr} {T : List D} (h : All2 θ F S T) (nd : T.Nodup) (hd : ∀ e ∈ T, dataD e = true) : S.Nodup := by
  induction h with
  | nil => exact List.nodup_nil
  | cons r t ih =>
    obtain ⟨n1, n2⟩ := List.nodup_cons.mp nd
    refine List.nodup_cons.mpr ⟨fun hb => ?_, ih n2 fun e he => hd e (List.mem_cons_of_mem _ he)⟩
    obtain ⟨e, he, r2⟩ := t.mem hb
    have := Rep.inj (hd _ List.mem_cons_self) (hd e (List.mem_cons_of_mem _ he)) r r2
    subst this
    exact n1 he
end
def eFnT (n : Nat) (R : List D → Out D) (fs : List ES) : ES := fun ρ => (eArgs fs ρ).bind fun xs => if allSolid xs = true then (match R (xs.map (·.1)) with
  | .ok d => .ok (d, .tr n)
  | .ex c gs => .ex c gs
  | .no => .no) else .no
structure CallT (X : Cx) (θ : Th) (k : Nat) (fa : Addr) (m n : Nat) (R : List D → Out D) : Prop where
  ok : ∃ fd ps, FnOk X.prog X.w X.K X.mg X.base (L2N.CX X.prog X.w) k fa fd ps (spP θ m n R) ∧ Binds X.K fd ps [] ∧ PySem.W.keepIn X.K (.ref fa) = true
def FineT (P : Program) (w : World) (K : PySem.W.Frag) (mg : Str → Option Value) (base : Heap) (θ : Th) (k : Nat) (d : He.DefD) (m n : Nat) (R : List D → Out D) : Prop :=
  ∃ fd ps, FnOk P w K mg base (L2N.CX P w) k (He.fAd K d.at_) fd ps (spP θ m n R) ∧ Binds K fd ps [] ∧ PySem.W.keepIn K (.ref (He.fAd K d.at_)) = true
theorem FineT.call {X : Cx} {θ : Th} {k m n : Nat} {dd : He.DefD} {R : List D → Out D} (F : FineT X.prog X.w X.K X.mg X.base θ k dd m n R) : CallT X θ k (He.fAd X.K dd.at_) m n R := ⟨F⟩
section
variable {X : Cx} {c : Cn} {L : List Addr} {W : WX} {f g h : ES} {a b e o : Expr} {pos apos : Pos} {es : List Expr} {fs : List ES} {x : Str} {p : Pos}
theorem g_callT {n : Nat} {R : List D → Out D} {k k' m : Nat} {fa : Addr} {x : Str} {es : List Expr} {fs : List ES} (F : CallT X c.θ k fa m n R) (hr : Room k' X.A) (hk : k ≤ k') (tk : L2N.Takes X W) (hm : X.mg x = some (.ref fa)) (ha : PA X (e :: es) (tAv c L W fs)) (hl : fs.length = m := by rfl) (hg : Gl X x := by rfl)
    (hdb : (x == ("__debug__" : Str)) = false := by rfl) (he : starEach (e :: es) X.env = (false, eval e X.env) :: starEach es X.env := by rfl) (hpl : (backTo pos (starEach es X.env)).any (·.1) = false := by rfl) : PE X (.Call (.Name x p) (e :: es) [] pos) (tEv c L W (eFnT n R fs)) := by
  obtain ⟨fd, ps, F, hb, hkp⟩ := F.ok
  refine pe_ev (pe_callS (E := WE W) F (hr.mono hk) hg hm hkp hb (fun σ => L2N.passAt tk σ) ha hdb he hpl) fun σ H Q h => ?_
  obtain ⟨F, ρ, R0, h⟩ := of_tEv h
  refine av_bind R0 h fun xs vs F1 H1 ef e1 ar R1 h1 => ?_
  obtain ⟨so, h1⟩ := Res.ite h1
  have r := ar.solid so
  refine ⟨by rw [r.length, List.length_map, ← hl]; exact eArgs_length ef, F1, _, R1.sub, r, ?_⟩
  cases hR : R (xs.map (·.1)) with
  | no => rw [hR] at h1; exact h1.elim
  | ex k gs => rw [hR] at h1; exact h1
  | ok d => rw [hR] at h1; exact h1
end
end G
namespace GD
open PySem L2 G
end GD
namespace G
open PySem PySem.Spec L2
end G
namespace GD
open PySem L2 G
end GD
namespace G
open PySem PySem.Spec L2 PySem.W PyProof.Rows
/-- z[1][0] is the pair p -/
def FstK (K : PySem.W.Frag) (H : Hp) (v : V) (q : Int × Int) : Prop := ∃ (t : Addr) (b : V) (l : Addr) (r : List V) (a : Addr), v = .ref t ∧ SqT K H t [b, .ref l] ∧ SqL K H l (.ref a :: r) ∧ SqT K H a [.int q.1, .int q.2]
abbrev ky2 (q : Int × Int) : PyData := .tuple [.int q.1, .int q.2]
section
variable {P : Program} {w : World} {K : PySem.W.Frag} {nm qual y : Str} {params : Arguments} {scope : Scope} {fa : Addr} {fd : FuncData} {p1 p2 p3 p4 p5 p6 : Pos} {j1 j2 : Nat}
abbrev keyBody (y : Str) (p1 p2 p3 p4 p5 p6 : Pos) (j1 j2 : Nat) : List Stmt := [.Return (some (.Subscript (.Subscript (.Name y p1) (.Constant (.int 1) j1 p2) p3) (.Constant (.int 0) j2 p4) p5)) p6]
theorem key_run (F : FunD K nm qual params (keyBody y p1 p2 p3 p4 p5 p6 j1 j2) scope [] [] fa fd) (S : FnScope [y] [y] scope) (hy : scope.names.lookup y = some .local) (hdb : (y == ("__debug__" : Str)) = false)
    (hb : ∀ (kV doc pm : Value) (an : Option Addr) (cdv ct : Value) (us : List Value), us.length = 1 → bindArgs (PySem.W.fnOf nm qual params (keyBody y p1 p2 p3 p4 p5 p6 j1 j2) scope .none kV doc pm an cdv ct) ⟨us, []⟩ = pure ([y].zip us))
    {A : Around} {s : Shared} (hroom : A.depth < recursionLimit) (KX : K.In s.heap) (lim : s.heap.NoLimit) {t l : Addr} {b x : Value} {its : List Value} (ht : IsTup s.heap t #[b, .ref l]) (hl : s.heap.IsList l its.toArray) (hx : its[0]? = some x) :
    wpAny (model P w) A (call (.ref fa) [.ref t]) (fun u s' => u = x ∧ ∃ h' tk, s' = { s with heap := h', toks := tk } ∧ ∀ b o, s.heap.get? b = some o → h'.get? b = some o) (fun _ _ => False) s := by
  obtain ⟨oc, od, dV, kV, doc, pm, an, cdv, ct, osl, rfl, lk, hcd, hD, _⟩ := F.ex
  rcases hD with ⟨_, rfl⟩ | ⟨e, _⟩
  rotate_left
  · exact absurd rfl e
  refine wpAny_call ?_
  refine codeAny_call_cells hroom (KX _ _ lk) rfl lim (PySem.W.codeRec_of KX hcd) rfl (hb _ _ _ _ _ _ [.ref t] rfl) rfl (fun z hz => ?_) (fun s₁ ic => ?_) S.co S.gen S.kind
  · obtain rfl := List.mem_singleton.mp (show z ∈ [(y, Value.ref t)] from hz)
    exact .inl hy
  · obtain ⟨h₁, tk₁, rfl⟩ := ic.toInCall.same
    have kp : ∀ b o, s.heap.get? b = some o → h₁.get? b = some o := ic.toInCall.keep
    refine wpAny_execs_cons (wpAny_Return_some ?_)
    have hk2 : (callEnvC (PySem.W.fnOf nm qual params (keyBody y p1 p2 p3 p4 p5 p6 j1 j2) scope .none kV doc pm an cdv ct) s.heap.objs.size fa).kindOf y = some .local := hy
    refine Subscript_ (Subscript_ (NameLC ic S.kind hk2 (v := .ref t) ?_ ?_ hdb))
    · show bindL _ [(y, Value.ref t)] _ y = _
      unfold bindL
      rw [if_pos hk2]
      unfold bindL
      simp
    · refine wpAny_Constant_int ?_
      refine subscriptTail_builtinR (x := .ref l) (IsTup.typeIs (s := { s with heap := h₁, toks := tk₁ + 1 }) (ht.keeps kp)) slot_tuple_getitem.lookup
        (getItem_tuple (j := 1) (s := { s with heap := h₁, toks := tk₁ + 1 }) (Q := fun r s' => r = .ref l ∧ _) (ht.keeps kp) (by decide) (by decide) (by rfl) (by rfl) ⟨rfl, ?_⟩) rfl
      refine wpAny_Constant_int ?_
      obtain ⟨ol, hol, c1, n1, d1⟩ := id hl
      refine item_listR (s := { s with heap := h₁, toks := tk₁ + 1 + 1 }) (items := its.toArray) ⟨ol, kp _ _ hol, c1, n1, d1⟩ (by decide) (by decide) (by simpa using hx) ?_ rfl
      exact ⟨rfl, h₁, _, rfl, kp⟩
end
theorem each_fst {P : V → Value → Prop} : ∀ {bs : List (V × (Int × Int))} {its : List Value}, Vals (bs.map (·.1)) its → EachIs (fun v (b : V × (Int × Int)) => RelV b.1 v ∧ b ∈ bs) its bs := by
  intro bs its h
  have key : ∀ (cs : List (V × (Int × Int))) (its : List Value), (∀ b ∈ cs, b ∈ bs) → Vals (cs.map (·.1)) its → EachIs (fun v (b : V × (Int × Int)) => RelV b.1 v ∧ b ∈ bs) its cs := by
    intro cs
    induction cs with
    | nil =>
      intro its _ h
      cases h
      exact .nil
    | cons c cs ih =>
      intro its hm h
      cases h with
      | cons r t => exact .cons ⟨r, hm c List.mem_cons_self⟩ (ih _ (fun b hb => hm b (List.mem_cons_of_mem _ hb)) t)
  exact key bs its (fun b hb => hb) h
theorem vals_fst {R : Value → V × (Int × Int) → Prop} (hR : ∀ v b, R v b → RelV b.1 v) : ∀ {its : List Value} {bs : List (V × (Int × Int))}, EachIs R its bs → Vals (bs.map (·.1)) its
  | _, _, .nil => .nil
  | _, _, .cons r t => .cons (hR _ _ r) (vals_fst hR t)
def rSrtK (K : PySem.W.Frag) (fa : Addr) : List V → List V → Hp → VK → Prop := fun vs zs H Q => ∃ (a : Addr) (bs : List (V × (Int × Int))), vs = [.ref a] ∧ zs = [.ref fa] ∧ SqL K H a (bs.map (·.1)) ∧ (∀ b ∈ bs, FstK K H b.1 b.2) ∧
  ∀ p, H p = none → Q (.ref p) (upd H p (.lst ((bs.mergeSort (dataLe false fun b => ky2 b.2)).map (·.1))))
section
variable {X : Cx} {nm qual y : Str} {params : Arguments} {scope : Scope} {fa : Addr} {fd : FuncData} {p1 p2 p3 p4 p5 p6 : Pos} {j1 j2 : Nat}
theorem call_srtK (F : FunD X.K nm qual params (keyBody y p1 p2 p3 p4 p5 p6 j1 j2) scope [] [] fa fd) (S : FnScope [y] [y] scope) (hy : scope.names.lookup y = some .local) (hdb : (y == ("__debug__" : Str)) = false)
    (hb : ∀ (kV doc pm : Value) (an : Option Addr) (cdv ct : Value) (us : List Value), us.length = 1 → bindArgs (PySem.W.fnOf nm qual params (keyBody y p1 p2 p3 p4 p5 p6 j1 j2) scope .none kV doc pm an cdv ct) ⟨us, []⟩ = pure ([y].zip us))
    (hroom : X.A.depth < recursionLimit) (hu : X.A.units + 64 < cLine) : CallRK X (.builtin "sorted") [Str.ofString "key"] (rSrtK X.K fa) := by
  intro pins s σ H vs zs us ws Q I r rz h
  obtain ⟨a, bs, rfl, rfl, hs, hf, q⟩ := h
  obtain ⟨its, rv, hl, hz⟩ := I.list hs
  obtain ⟨u, rfl, ru⟩ := vals1 r
  obtain rfl : u = Value.ref a := ru
  obtain ⟨u, rfl, ru⟩ := vals1 rz
  obtain rfl : u = Value.ref fa := ru
  have e := each_fst (P := fun _ _ => True) rv
  have hz' : bs.length ≤ sizeLine := by rwa [List.length_map] at hz
  have lim : s.heap.NoLimit := I.ok.mod.nolimit.keeps I.bk
  have fr : ∀ {v : Value} {b : V × (Int × Int)}, RelV b.1 v → FstK X.K H b.1 b.2 → ∃ (t l : Addr) (bb x : Value) (its : List Value), v = .ref t ∧ IsTup s.heap t #[bb, .ref l] ∧ s.heap.IsList l its.toArray ∧ its[0]? = some x ∧ Reads s.heap x (ky2 b.2) [] := by
    intro v b rv hf
    obtain ⟨t, bb, l, r, ap, e, h1, h2, h3⟩ := hf
    rw [e] at rv
    obtain rfl : v = Value.ref t := rv
    obtain ⟨i1, r1, t1, _⟩ := I.tuple h1
    obtain ⟨i2, r2, t2, _⟩ := I.list h2
    obtain ⟨i3, r3, t3, _⟩ := I.tuple h3
    cases r1 with
    | cons q1 r1 =>
    cases r1 with
    | cons q2 r1 =>
    cases r1
    cases r2 with
    | cons q3 r2 =>
    cases r3 with
    | cons q4 r3 =>
    cases r3 with
    | cons q5 r3 =>
    cases r3
    rename_i u1 u2 u3 us3 u4 u5
    obtain rfl : u2 = Value.ref l := q2
    obtain rfl : u3 = Value.ref ap := q3
    obtain ⟨k4, rfl⟩ := q4
    obtain ⟨k5, rfl⟩ := q5
    obtain ⟨o3, ho3, c3, n3, d3⟩ := t3
    exact ⟨t, l, u1, .ref ap, _, rfl, t1, t2.isList, rfl, Reads.tuple ho3 c3 d3 (.cons (.int _ _) (.cons (.int _ _) .nil))⟩
  refine sorted_key_data (b := false) (fun b : V × (Int × Int) => ky2 b.2) hl.isList e (AllAlike.of fun _ _ => by simp [alike, alikeAll]) (Sortable.tuples fun _ => ⟨_, _, rfl⟩) hz' (fun b _ => ?_) (ksk_s1 _ _) (fun _ => ksk_l1 _ _) (fun _ => ksk_t1 _ _)
    (fun v b ⟨rv, hm⟩ hb' h tk kp => ?_) fun out c h' tk kp hn hD ho eo => ?_
  · have hd : (ky2 b.2).depth = 1 := by simp [PyData.depth, PyData.depthAll]
    omega
  · obtain ⟨t, l, bb, x, its', rfl, g1, ⟨ol, hol, c1, n1, d1⟩, g3, g4⟩ := fr rv (hf b hm)
    refine wpAny_mono (key_run (P := X.prog) (w := X.w) F S hy hdb hb (A := X.A.in1.in1) (s := { s with heap := h, toks := tk }) hroom (I.kIn.keeps kp) (lim.keeps kp) (g1.keeps kp) ⟨ol, kp _ _ hol, c1, n1, d1⟩ g3) (fun u s' hh => ?_) fun _ _ z => z
    obtain ⟨rfl, h2, tk2, rfl, kp2⟩ := hh
    exact ⟨h2, tk2, rfl, kp2, PyProof.Rows.Reads.keeps kp2 (PyProof.Rows.Reads.keeps kp g4)⟩
  · have hlen2 : ((bs.mergeSort (dataLe false fun b => ky2 b.2)).map (·.1)).length ≤ sizeLine := by rw [List.length_map, List.length_mergeSort]; exact hz'
    exact ⟨.ref _, upd H (s.heap.objs.size + 1) (.lst ((bs.mergeSort (dataLe false fun b => ky2 b.2)).map (·.1))), I.laid (t' := tk) kp (Nat.le_succ _) ⟨hlen2, out, c, vals_fst (fun _ _ h => h.1) eo, hD⟩, rfl, q _ (I.hok.fresh (Nat.le_succ _))⟩
end
def keyI : D → Option (Int × Int)
  | .tup [_, .lst (.tup [.int a, .int b] :: _)] => some (a, b)
  | _ => none
def keyOfD (d : D) : Int × Int := (keyI d).getD (0, 0)
def leK (d e : D) : Bool := !dataLt (ky2 (keyOfD e)) (ky2 (keyOfD d))
def oSrtK : D → Out (D × Kd)
  | .lst ds => if (ds.all fun d => (keyI d).isSome) = true then .ok (.lst (ds.mergeSort leK), .fr) else .no
  | _ => .no
theorem fst_rep {θ : Th} {F H : Hp} (s : Sub F H) {d : D} {v : V} {q : Int × Int} (r : Rep θ F d v) (h : keyI d = some q) : FstK θ.K H v q := by
  unfold keyI at h
  split at h
  rotate_left
  · cases h
  rename_i d0 a b rest
  cases h
  obtain ⟨t, vs, rfl, ht, rt, _⟩ := (show Rd1 θ F H _ v from .inl r).tup s
  cases rt with
  | cons q1 rt =>
  cases rt with
  | cons q2 rt =>
  cases rt
  obtain ⟨l, ls, rfl, hl, rl⟩ := (show Rd1 θ F H _ _ from .inl q2).lst s
  cases rl with
  | cons q3 rl =>
  obtain ⟨p, ps, rfl, hp, rp, _⟩ := (show Rd1 θ F H _ _ from .inl q3).tup s
  cases rp with
  | cons q4 rp =>
  cases rp with
  | cons q5 rp =>
  cases rp
  cases q4
  cases q5
  exact ⟨t, _, l, _, p, rfl, .inl (.inl ht), .inl (.inl hl), .inl (.inl hp)⟩
section
variable {X : Cx} {c : Cn} {L : List Addr} {W : WX} {f g h : ES} {a b e d tg iter : Expr} {pos p pk pk2 : Pos} {nm qual y fn : Str} {params : Arguments} {scope : Scope} {fa : Addr} {p1 p2 p3 p4 p5 p6 : Pos} {j1 j2 : Nat}
theorem g_srtK (x : XB X c) (F : ∃ fd, FunD X.K nm qual params (keyBody y p1 p2 p3 p4 p5 p6 j1 j2) scope [] [] fa fd) (S : FnScope [y] [y] scope) (hy : scope.names.lookup y = some .local) (hdb : (y == ("__debug__" : Str)) = false)
    (hb : ∀ (kV doc pm : Value) (an : Option Addr) (cdv ct : Value) (us : List Value), us.length = 1 → bindArgs (PySem.W.fnOf nm qual params (keyBody y p1 p2 p3 p4 p5 p6 j1 j2) scope .none kV doc pm an cdv ct) ⟨us, []⟩ = pure ([y].zip us))
    (hroom : X.A.depth < recursionLimit) (hm : X.mg "sorted" = none) (hfm : X.mg fn = some (.ref fa)) (ha : PE X e (tEv c L W f)) (hg : Gl X "sorted" := by rfl) (hgf : Gl X fn := by rfl) (hfd : (fn == ("__debug__" : Str)) = false := by rfl)
    (hs : starEach [e] X.env = (false, eval e X.env) :: starEach [] X.env := by rfl) (he : backTo pos (starEach [e] X.env) = (false, eval e X.env) :: backTo pos (starEach [] X.env) := by rfl) (hpl : (backTo pos (starEach [e] X.env)).any (·.1) = false := by rfl) :
    PE X (.Call (.Name "sorted" p) [e] [{ arg := some "key", value := .Name fn pk, pos := pk2 }] pos) (tEv c L W (eUn oSrtK f)) := by
  obtain ⟨fd, F⟩ := F
  have pk' : PK X [{ arg := some "key", value := .Name fn pk, pos := pk2 }] _ := pk_cons (pe_glob (v := .ref fa) (u := .ref fa) hgf hfm rfl hfd) pk_nil
  refine pe_ev (pe_callBK (call_srtK F S hy hdb hb hroom x.hu) hg hm (by decide +kernel) (pa_cons ha pa_nil hs) pk' (by decide) (by decide) he hpl (by rfl) (by rfl) (by rfl)) fun σ H Q h => ?_
  obtain ⟨F, ρ, R, h⟩ := of_tEv h
  refine ev_bind R h fun d k v F1 H1 ef e1 rd so R1 h1 => ?_
  clear ef h so
  cases d <;> first | exact (show False from h1).elim | skip
  rename_i ds
  obtain ⟨q, xs, rfl, hq, r⟩ := rd.lst R1.sub
  replace h1 : Res c W σ ρ F1 H1 Q (if (ds.all fun d => (keyI d).isSome) = true then .ok (.lst (ds.mergeSort leK), .fr) else .no) := h1
  obtain ⟨al, h1⟩ := Res.ite h1
  obtain ⟨z1, z2, z3⟩ := repl_zip r
  let zs := xs.zip ds
  let bs : List (V × (Int × Int)) := zs.map fun z => (z.1, keyOfD z.2)
  have b1 : bs.map (·.1) = xs := by rw [List.map_map]; exact z1
  have hzd : ∀ z ∈ zs, z.2 ∈ ds := fun z hz => by
    have := List.mem_map_of_mem (f := fun z : V × D => z.2) hz
    rw [z2] at this
    exact this
  refine ⟨q, bs, rfl, rfl, by rw [b1, x.K]; exact .inl (.inl hq), fun b hb => ?_, fun p hp => ?_⟩
  · obtain ⟨z, hz, rfl⟩ := List.mem_map.mp hb
    rw [x.K]
    have hk := List.all_eq_true.mp al z.2 (hzd z hz)
    cases q2 : keyI z.2 with
    | none => rw [q2] at hk; cases hk
    | some kk =>
      have : keyOfD z.2 = kk := by unfold keyOfD; rw [q2]; rfl
      dsimp only
      rw [this]
      exact fst_rep R1.sub (z3 z hz) q2
  · have m1 : (zs.mergeSort fun z w => leK z.2 w.2).map (fun z => (z.1, keyOfD z.2)) = bs.mergeSort (dataLe false fun b => ky2 b.2) := List.map_mergeSort (f := fun z : V × D => (z.1, keyOfD z.2)) fun a _ b _ => rfl
    have m2 : (zs.mergeSort fun z w => leK z.2 w.2).map (·.2) = ds.mergeSort leK := by
      rw [List.map_mergeSort (f := fun z : V × D => z.2) (s := leK) fun a _ b _ => rfl]
      exact congrArg (fun l => l.mergeSort leK) z2
    have m3 : (bs.mergeSort (dataLe false fun b => ky2 b.2)).map (·.1) = (zs.mergeSort fun z w => leK z.2 w.2).map (·.1) := by
      rw [← m1, List.map_map]
      rfl
    rw [m3]
    have rl := repl_of (θ := c.θ) (F := F1) (zs := zs.mergeSort fun z w => leK z.2 w.2) fun z hz => z3 z (List.mem_mergeSort.mp hz)
    rw [m2] at rl
    exact h1.lay R1.sub (.lst rl) hp
end
end G
namespace GD
open PySem L2 G
def S_seams_b1 : SS := sPut 1 (eVar 6) (eC (.bl true))
def S_seams_b2 : SS := G.sIf (tBl (eBin oNiD (eTup [eVar 3, eVar 4]) (eVar 1))) (sSeq (G.sAsg false 5 (eFn R_seam [eVar 0, eTup [eVar 3, eVar 4]])) (G.sIf (tBl (eUn (fun d => shr (.bl (!isNon d))) (eVar 5))) (sSeq (sOwL 2 kAp (eVar 5)) (G.sFor (itE true (eBin oIx (eVar 5) (eC (.int 1)))) (.one 6) S_seams_b1)) (sSkip))) (sSkip)
def S_seams_b3 : SS := G.sFor (itR1 (eBin oAdd (eM [(20, R_Cloth_tall)] (eVar 0) []) (eC (.int 1)))) (.one 4) S_seams_b2
def S_seams : SS := sSeq (G.sAsg true 1 (eDT)) (sSeq (G.sAsg true 2 (eLst [])) (sSeq (G.sFor (itR1 (eBin oAdd (eM [(20, R_Cloth_wide)] (eVar 0) []) (eC (.int 1)))) (.one 3) S_seams_b3) (sRet (eUn oSrtK (eVar 2)))))
def R_seams : List D → Out (D × Bool) := denF 7 S_seams
def S_rounds : SS := sRet (eLc (itE false (eFn R_seams [eVar 0])) (.tup [.one 1, .one 2]) (tTru (eVar 1)) (eVar 2) [1, 2])
def R_rounds : List D → Out (D × Bool) := denF 3 S_rounds
def S_box : SS := sSeq (G.sAsg false 1 (eLc (itE false (eVar 0)) (.tup [.one 3, .one 4]) (tYes) (eVar 3) [3, 4])) (sSeq (G.sAsg false 2 (eLc (itE false (eVar 0)) (.tup [.one 3, .one 4]) (tYes) (eVar 4) [3, 4])) (sRet (eTup [eUn oMin (eVar 1), eUn oMin (eVar 2), eBi .max1 [eVar 1], eBi .max1 [eVar 2]])))
def R_box : List D → Out (D × Bool) := denF 5 S_box
end GD
namespace G
open PySem PySem.Spec L2 PySem.W PyProof.Rows
def oBk0 : D → Out (D × Kd)
  | .lst xs => .ok (.lst xs.tail.reverse, .fr)
  | _ => .no
end G
namespace G
open PySem PySem.Spec L2 PySem.W PyProof.Rows
abbrev TMm := Sl → Out (Bool × Sl)
def ResM (c : Cn) (L : List Addr) (W : WX) (σ : L2.St) (F H : Hp) (Q : Bool → Hp → Prop) : Out (Bool × Sl) → Prop
  | .ok (b, ρ') => ∀ F' H', Same F F' → Rel c.θ c.F0 c.B L F' H' σ ρ' → Q b H'
  | .ex n fs => ∀ cls dd F' H', Ext F H F' H' → ExV c.θ n fs cls dd F' H' → W cls dd σ H'
  | .no => False
/-- d.setdefault(k, v) as a value; keys of both kinds -/
def SdR (H : Hp) (a : Addr) (y z : V) (Q : VK) : Prop :=
  (∃ kvs k, H a = some (.dK kvs) ∧ y = kV k ∧ kvs.length < sizeLine ∧ (∀ v, valV kvs k = some v → Q v H) ∧ (valV kvs k = none → Q z (upd H a (.dK (putK kvs k z))))) ∨
  ∃ kvs k b, H a = some (.dT kvs) ∧ y = .ref b ∧ H b = some (.tup (k.map kV)) ∧ kvs.length < sizeLine ∧ (∀ v, valV kvs k = some v → Q v H) ∧ (valV kvs k = none → Q z (upd H a (.dT (putK kvs k z))))
def tSd2 (td ty tx : TE) : TE := fun σ H Q => td σ H fun x H1 => ∃ a, x = .ref a ∧ IsD H1 a ∧ ty σ H1 fun y H2 => tx σ H2 fun z H3 => SdR H3 a y z Q
section
variable {X : Cx} {pins : List (Addr × Obj)} {σ : L2.St} {H : Hp} {s : Shared} {a : Addr} {u r : Value} {y z : V} {A : Around} {E : Value → Shared → Prop}
theorem sd_run {Q : VK} {P : Value → Shared → Prop} (hu : A.units + 1 < cLine) (I : Inv X pins σ H s) (g : SdR H a y z Q) (ry : RelV y u) (rz : RelV z r) (h : ∀ v w H' s', Inv X pins σ H' s' → RelV v w → Q v H' → P w s') :
    wpAny (model X.prog X.w) A (call (.builtin "dict.setdefault") [.ref a, u, r]) P E s := by
  rcases g with ⟨kvs, k, e, ey, l, h1, h2⟩ | ⟨kvs, k, b, e, ey, eb, l, h1, h2⟩
  · subst ey
    exact d_setd I e ry rz l (fun v hv w' s4 I4 rw' => h v w' _ _ I4 rw' (h1 v hv)) fun hn w' s4 I4 rw' => h z w' _ _ I4 rw' (h2 hn)
  · subst ey
    cases (show u = Value.ref b from ry)
    obtain ⟨zz, hd, xs, rel, dd⟩ := dt_of I.hok e
    have hz : xs.length ≤ sizeLine := by rw [← Paired.length rel]; exact zz
    have hl : (putK kvs k z).length ≤ sizeLine := by have := length_putK kvs k z; omega
    refine call_setdefault_heap (hsz := hz) (tupleKind_room_in1 hu) (key_of I.hok eb) hd dd (fun p hp => ?_) fun hn h' dd' hs => ?_
    · have q := rel.val k
      rw [hp] at q
      cases q0 : valV kvs k with
      | none => rw [q0] at q; exact (show False from q).elim
      | some v0 =>
        rw [q0] at q
        exact h v0 _ _ _ (I.tok _) q (h1 v0 q0)
    · have q := rel.val k
      rw [hn] at q
      cases q0 : valV kvs k with
      | some v0 => rw [q0] at q; exact (show False from q).elim
      | none =>
        obtain ⟨qo, es, ep, hq, g2, g3, g4, _, g5⟩ := dd'
        refine h z r (upd H a (.dT (putK kvs k z))) _ (d_write (ob := .dT (putK kvs k z)) I (by rw [e]; exact True.intro) hs ⟨qo, hq⟩ ⟨hl, hd, _, (rel.put k eb rz).keeps fun c ys ec => ?_, qo, es, ep, hq, g2, g3, g4, g5⟩) rz (h2 q0)
        rw [upd_ne (ne_of ec e (fun z => nomatch z))]
        exact ec
end
section
variable {X : Cx} {o e f : Expr} {td ty tx : TE} {apos cpos : Pos}
theorem pe_sd2 (hu : X.A.units + 1 < cLine) (ho : PE X o td) (he : PE X e ty) (hf : PE X f tx) (m : M2 X o "setdefault" apos e f cpos) : PE X (.Call (.Attribute o "setdefault" apos) [e, f] [] cpos) (tSd2 td ty tx) := by
  refine ⟨fun pins s σ H Q I h => ?_⟩
  refine wpAny_Call_method m.base m.few m.line PySem.F.plainAttrs_dict PySem.F.slot_dict_setdefault PySem.F.type_dict_setdefault (thn (ho.run pins s σ H _ I h) fun u s1 ⟨x, H1, I1, rx, a, ex, d, q1⟩ => ?_)
  subst ex
  obtain rfl : u = Value.ref a := rx
  obtain ⟨t1, t2, _⟩ := isD_at I1 d
  refine ⟨t1, t2, ?_⟩
  rw [m.trees]
  refine Calls.callWith_builtin rfl (Calls.evalArgs_plain (Calls.spliced_cons (thn (he.run pins s1 σ H1 _ I1 q1) fun iv s2 ⟨y, H2, I2, ry, q2⟩ =>
    Calls.spliced_cons (thn (hf.run pins s2 σ H2 _ I2 q2) fun fv s3 ⟨z, H3, I3, rz, q3⟩ => Calls.spliced_nil ?_))))
  exact sd_run hu I3 q3 ry rz fun v w H' s' I' r' q' => ⟨v, H', I', r', q'⟩
end
section
variable {X : Cx} {c : Cn} {L : List Addr} {W : WX} {f g h : ES} {a b e ke ve d tg iter : Expr} {pos p : Pos} {s : IS} {t : TSm} {m : TMm} {F F1 H H1 : Hp} {σ : L2.St} {ρ : Sl} {Q : Bool → Hp → Prop}
theorem ResM.mono {o : Out (Bool × Sl)} (h : ResM c L W σ F H Q o) (e : Ext F H F1 H1) : ResM c L W σ F1 H1 Q o := by
  cases o with
  | ok x => exact fun F' H' e' => h F' H' (e.ff.trans e')
  | ex n fs => exact fun cls dd F' H' e' hv => h cls dd F' H' (e.trans e') hv
  | no => exact h
end
end G
namespace GD
open PySem L2 G
end GD
namespace G
open PySem PySem.Spec L2
end G
namespace G
open PySem PySem.Spec L2
end G
namespace GD
open PySem L2 G
end GD
namespace G
open PySem PySem.Spec L2 PySem.W PyProof.Rows
def keyD1 : Key → D
  | .inl i => .int i
  | .inr x => .str x
end G
namespace GD
open PySem L2 G
end GD
namespace GD
open PySem L2 G
end GD
namespace G
open PySem PySem.Spec L2 PySem.W PyProof.Rows
def posK {κ : Type} [DecidableEq κ] (x : κ) : List κ → Option Nat
  | [] => none
  | k :: ks => if k = x then some 0 else (posK x ks).map (· + 1)
theorem posK_lt {κ : Type} [DecidableEq κ] {x : κ} : ∀ {ks : List κ} {p : Nat}, posK x ks = some p → p < ks.length
  | [], _, h => by cases h
  | k :: ks, p, h => by
    unfold posK at h
    by_cases q : k = x
    · rw [if_pos q] at h
      cases h
      exact Nat.zero_lt_succ _
    · rw [if_neg q] at h
      cases z : posK x ks with
      | none => rw [z] at h; cases h
      | some r =>
        rw [z] at h
        cases h
        have := posK_lt z
        simpa using this
theorem posK_val {κ : Type} [DecidableEq κ] {x : κ} : ∀ {ks : List κ} {xs : List V}, ks.length = xs.length → valV (ks.zip xs) x = (posK x ks).bind (xs[·]?)
  | [], [], _ => rfl
  | [], _ :: _, h => by cases h
  | _ :: _, [], h => by cases h
  | k :: ks, v :: xs, h => by
    rw [List.zip_cons_cons]
    unfold posK
    by_cases q : k = x
    · rw [if_pos q, valV_pos q]
      rfl
    · rw [if_neg q, valV_neg q, posK_val (by simpa using h)]
      cases posK x ks <;> rfl
/-- the list at a key, or a new one -/
def sdP {κ : Type} [DecidableEq κ] (k1 : Nat → Sh) (x : κ) (ks : List κ) (ds : List D) : Option ((Nat → Sh) × Nat × List D × List κ × List D) := match posK x ks with
  | some p => (match k1 p, ds[p]? with
    | .nd k2, some (.lst es) => some (k2, p, es, ks, ds)
    | _, _ => none)
  | none => (match k1 ds.length with
    | .nd k2 => some (k2, ds.length, [], ks ++ [x], ds ++ [.lst []])
    | _ => none)
def sSdApp (i : Nat) (fk g : ES) : SS := fun ρ => match ρ[i]? with
  | some (.pv (.nd k1) (.dK ks ds)) => sWith (fk ρ) ρ fun kk => (match keyOf kk.1 with
    | some x => if ks.length < SZ then (match sdP k1 x ks ds with
      | some (k2, p, es, ks', ds') => sWith (g (ρ.set i (.pv (.nd k1) (.dK ks' ds')))) (ρ.set i (.pv (.nd k1) (.dK ks' ds'))) fun v => if v.2.solid = true then (match app2 k2 es v.1 with
        | some es' => .nx ((ρ.set i (.pv (.nd k1) (.dK ks' ds'))).set i (.pv (.nd k1) (.dK ks' (ds'.set p (.lst es')))))
        | none => .no) else .no
      | none => .no) else .no
    | none => .no)
  | some (.pv (.nd k1) (.dT ks ds)) => sWith (fk ρ) ρ fun kk => (match tkeyOf kk.1 with
    | some x => if ks.length < SZ then (match sdP k1 x ks ds with
      | some (k2, p, es, ks', ds') => sWith (g (ρ.set i (.pv (.nd k1) (.dT ks' ds')))) (ρ.set i (.pv (.nd k1) (.dT ks' ds'))) fun v => if v.2.solid = true then (match app2 k2 es v.1 with
        | some es' => .nx ((ρ.set i (.pv (.nd k1) (.dT ks' ds'))).set i (.pv (.nd k1) (.dT ks' (ds'.set p (.lst es')))))
        | none => .no) else .no
      | none => .no) else .no
    | none => .no)
  | _ => .no
section
variable {X : Cx} {c : Cn} {L : List Addr} {W : WX} {f g h : ES} {a b e o ke ve ix jx tg iter : Expr} {pos p p2 : Pos} {F F1 H H1 : Hp} {σ : L2.St} {ρ : Sl} {En : Ends}
/-- a list within a dict that is a tree -/
theorem row_dK {i : Nat} {k1 k2 : Nat → Sh} {ks : List Key} {ds es : List D} {p : Nat} (R : Rel c.θ c.F0 c.B L F H σ ρ) (hi : ρ[i]? = some (.pv (.nd k1) (.dK ks ds))) (h2 : k1 p = .nd k2) (h3 : ds[p]? = some (.lst es)) :
    ∃ (a : Addr) (xs : List V) (b : Addr) (ys : List V) (S2 : List Addr), σ[i]? = some (some (.ref a)) ∧ H a = some (.dK (ks.zip xs)) ∧ ks.length = xs.length ∧ xs[p]? = some (.ref b) ∧ H b = some (.lst ys) ∧ TrL c.θ c.B F H k2 0 es ys S2 ∧ b ∉ S2 ∧
      ∀ (es' : List D) (ys' : List V), (∀ H', (∀ b xs, H b = some (.tup xs) → H' b = some (.tup xs)) → (∀ b ∈ S2, H' b = H b) → TrL c.θ c.B F H' k2 0 es' ys' S2) → Rel c.θ c.F0 c.B L F (upd H b (.lst ys')) σ (ρ.set i (.pv (.nd k1) (.dK ks (ds.set p (.lst es'))))) := by
  obtain ⟨Z, hZ⟩ := R.pv
  obtain ⟨⟨v, hs, t⟩, nd, f, ow, pw⟩ := hZ i _ _ hi
  generalize hz : Z i = S at t nd
  cases t with
  | fl z _ => cases z
  | @dK _ a _ xs _ S1 ha l tl =>
    obtain ⟨nda, nd1⟩ := List.nodup_cons.mp nd
    obtain ⟨v2, Sj, g1, g2, g3, g4, g5⟩ := trl_item tl nd1 h3
    rw [Nat.zero_add, h2] at g2 g5
    cases g2 with
    | fl z _ => cases z
    | @lst _ b ys _ S2 hb tb =>
      have lx := tl.length
      obtain ⟨nb2, _⟩ := List.nodup_cons.mp g3
      have bS1 : b ∈ S1 := g4 b List.mem_cons_self
      have ne : a ≠ b := fun z => nda (z ▸ bS1)
      have nt : ∀ xs, H b ≠ some (.tup xs) := fun xs z => by rw [hb] at z; cases z
      refine ⟨a, xs, b, ys, S2, hs, ha, by rw [l, lx], g1, hb, tb, nb2, fun es' ys' hT => ?_⟩
      have T2 : Tr c.θ c.B F (upd H b (.lst ys')) (.nd k2) (.lst es') (.ref b) (b :: S2) := by
        refine .lst upd_same (hT _ (fun b2 xs2 z => ?_) fun b2 hb2 => upd_ne fun z => nb2 (z ▸ hb2))
        rw [upd_ne fun z2 => ?_]
        · exact z
        · subst z2
          exact absurd z (nt _)
      have T1 : Tr c.θ c.B F (upd H b (.lst ys')) (.nd k1) (.dK ks (ds.set p (.lst es'))) (.ref a) (a :: S1) :=
        .dK (by rw [upd_ne ne]; exact ha) (by rw [List.length_set]; exact l) (g5 b _ _ List.mem_cons_self nt T2)
      exact R.pvMut hZ hi hs (by rw [hz]; exact List.mem_cons_of_mem _ bS1) T1 nd fun x hx => .inl (by rw [hz]; exact hx)
/-- a new list under a new key -/
theorem new_dK {i : Nat} {k1 k2 : Nat → Sh} {ks : List Key} {ds : List D} {x : Key} {z : Addr} (R : Rel c.θ c.F0 c.B L F H σ ρ) (hi : ρ[i]? = some (.pv (.nd k1) (.dK ks ds))) (e : Ext F H F1 H1) (n : H z = none) (hz1 : H1 z = some (.lst [])) (fz : F1 z = none) (hk : k1 ds.length = .nd k2) (px : posK x ks = none) :
    ∃ (a : Addr) (xs : List V), σ[i]? = some (some (.ref a)) ∧ H1 a = some (.dK (ks.zip xs)) ∧ ks.length = xs.length ∧ Rel c.θ c.F0 c.B L F1 (upd H1 a (.dK (putK (ks.zip xs) x (.ref z)))) σ (ρ.set i (.pv (.nd k1) (.dK (ks ++ [x]) (ds ++ [.lst []])))) := by
  obtain ⟨Z, hZ0⟩ := R.pv
  have hZ := hZ0.ext e
  have R1 := R.ext e
  obtain ⟨⟨v0, hs0, t0⟩, _⟩ := hZ0 i _ _ hi
  obtain ⟨⟨v, hs, t⟩, nd, f, ow, pw⟩ := hZ i _ _ hi
  have zO : z ∉ Z i := fun m => by
    obtain ⟨u, hu, _⟩ := t0.some z m
    rw [n] at hu
    cases hu
  generalize hz : Z i = S at t nd
  cases t with
  | fl z _ => cases z
  | @dK _ a _ xs _ S1 ha l tl =>
    have lx := tl.length
    have ll : ks.length = xs.length := by rw [l, lx]
    obtain ⟨nda, nd1⟩ := List.nodup_cons.mp nd
    have vn : valV (ks.zip xs) x = none := by rw [posK_val ll, px]; rfl
    have pk : putK (ks.zip xs) x (.ref z) = (ks ++ [x]).zip (xs ++ [.ref z]) := by
      rw [putK_new _ vn, List.zip_append ll]
      rfl
    have az : a ≠ z := fun e2 => zO (by rw [hz, ← e2]; exact List.mem_cons_self)
    have zS1 : z ∉ S1 := fun m => zO (by rw [hz]; exact List.mem_cons_of_mem _ m)
    have aS1 : a ∉ S1 := nda
    have nta : ∀ ys, H1 a ≠ some (.tup ys) := fun ys q => by rw [ha] at q; cases q
    have tl2 : TrL c.θ c.B F1 (upd H1 a (.dK (putK (ks.zip xs) x (.ref z)))) k1 0 ds xs S1 := tl.keep (.refl _) (fun b ys q => by
      rw [upd_ne fun z2 => ?_]
      · exact q
      · subst z2
        exact nta _ q) fun b hb => upd_ne fun z2 => aS1 (z2 ▸ hb)
    have tz : Tr c.θ c.B F1 (upd H1 a (.dK (putK (ks.zip xs) x (.ref z)))) (k1 (0 + ds.length)) (.lst []) (.ref z) [z] := by
      rw [Nat.zero_add, hk]
      exact .lst (by rw [upd_ne (Ne.symm az)]; exact hz1) .nil
    have T : Tr c.θ c.B F1 (upd H1 a (.dK (putK (ks.zip xs) x (.ref z)))) (.nd k1) (.dK (ks ++ [x]) (ds ++ [.lst []])) (.ref a) (a :: (S1 ++ ([z] ++ []))) :=
      .dK (by rw [upd_same, pk]) (by simp [l]) (TrL.append tl2 (.cons tz .nil))
    refine ⟨a, xs, hs, ha, ll, R1.pvMut hZ hi hs (by rw [hz]; exact List.mem_cons_self) T ?_ fun b hb => ?_⟩
    · rw [List.append_nil]
      refine List.nodup_cons.mpr ⟨fun m => ?_, List.nodup_append.mpr ⟨nd1, by simp, fun p hp q hq e2 => ?_⟩⟩
      · rcases List.mem_append.mp m with m | m
        · exact aS1 m
        · exact az (List.mem_singleton.mp m)
      · rw [List.mem_singleton.mp hq] at e2
        exact zS1 (e2 ▸ hp)
    · rw [List.append_nil] at hb
      rcases List.mem_cons.mp hb with rfl | hb
      · exact .inl (by rw [hz]; exact List.mem_cons_self)
      · rcases List.mem_append.mp hb with hb | hb
        · exact .inl (by rw [hz]; exact List.mem_cons_of_mem _ hb)
        · rw [List.mem_singleton.mp hb]
          refine .inr ⟨fz, ?_, fun j ho hj => ?_, fun j k d hj hp m => ?_⟩
          · cases q : c.B z with
            | none => rfl
            | some u => rcases R.kp z u q with y | ⟨_, _, _, y⟩ <;> (rw [n] at y; cases y)
          · rcases ho with ⟨e2, he⟩ | ⟨l, ds, he⟩
            · obtain ⟨b2, u, g1, g2, _⟩ := R.ow j e2 he
              rw [hj] at g1
              cases g1
              rw [n] at g2
              cases g2
            · obtain ⟨⟨b2, u, g1, g2, _⟩, _⟩ := R.me j l ds he
              rw [hj] at g1
              cases g1
              rw [n] at g2
              cases g2
          · obtain ⟨⟨_, _, t2⟩, _⟩ := hZ0 j k d hp
            obtain ⟨u, hu, _⟩ := t2.some z m
            rw [n] at hu
            cases hu
/-- a list within a dict that is a tree -/
theorem row_dT {i : Nat} {k1 k2 : Nat → Sh} {ks : List (List Key)} {ds es : List D} {p : Nat} (R : Rel c.θ c.F0 c.B L F H σ ρ) (hi : ρ[i]? = some (.pv (.nd k1) (.dT ks ds))) (h2 : k1 p = .nd k2) (h3 : ds[p]? = some (.lst es)) :
    ∃ (a : Addr) (xs : List V) (b : Addr) (ys : List V) (S2 : List Addr), σ[i]? = some (some (.ref a)) ∧ H a = some (.dT (ks.zip xs)) ∧ ks.length = xs.length ∧ xs[p]? = some (.ref b) ∧ H b = some (.lst ys) ∧ TrL c.θ c.B F H k2 0 es ys S2 ∧ b ∉ S2 ∧
      ∀ (es' : List D) (ys' : List V), (∀ H', (∀ b xs, H b = some (.tup xs) → H' b = some (.tup xs)) → (∀ b ∈ S2, H' b = H b) → TrL c.θ c.B F H' k2 0 es' ys' S2) → Rel c.θ c.F0 c.B L F (upd H b (.lst ys')) σ (ρ.set i (.pv (.nd k1) (.dT ks (ds.set p (.lst es'))))) := by
  obtain ⟨Z, hZ⟩ := R.pv
  obtain ⟨⟨v, hs, t⟩, nd, f, ow, pw⟩ := hZ i _ _ hi
  generalize hz : Z i = S at t nd
  cases t with
  | fl z _ => cases z
  | @dT _ a _ xs _ S1 ha l tl =>
    obtain ⟨nda, nd1⟩ := List.nodup_cons.mp nd
    obtain ⟨v2, Sj, g1, g2, g3, g4, g5⟩ := trl_item tl nd1 h3
    rw [Nat.zero_add, h2] at g2 g5
    cases g2 with
    | fl z _ => cases z
    | @lst _ b ys _ S2 hb tb =>
      have lx := tl.length
      obtain ⟨nb2, _⟩ := List.nodup_cons.mp g3
      have bS1 : b ∈ S1 := g4 b List.mem_cons_self
      have ne : a ≠ b := fun z => nda (z ▸ bS1)
      have nt : ∀ xs, H b ≠ some (.tup xs) := fun xs z => by rw [hb] at z; cases z
      refine ⟨a, xs, b, ys, S2, hs, ha, by rw [l, lx], g1, hb, tb, nb2, fun es' ys' hT => ?_⟩
      have T2 : Tr c.θ c.B F (upd H b (.lst ys')) (.nd k2) (.lst es') (.ref b) (b :: S2) := by
        refine .lst upd_same (hT _ (fun b2 xs2 z => ?_) fun b2 hb2 => upd_ne fun z => nb2 (z ▸ hb2))
        rw [upd_ne fun z2 => ?_]
        · exact z
        · subst z2
          exact absurd z (nt _)
      have T1 : Tr c.θ c.B F (upd H b (.lst ys')) (.nd k1) (.dT ks (ds.set p (.lst es'))) (.ref a) (a :: S1) :=
        .dT (by rw [upd_ne ne]; exact ha) (by rw [List.length_set]; exact l) (g5 b _ _ List.mem_cons_self nt T2)
      exact R.pvMut hZ hi hs (by rw [hz]; exact List.mem_cons_of_mem _ bS1) T1 nd fun x hx => .inl (by rw [hz]; exact hx)
/-- a new list under a new key -/
theorem new_dT {i : Nat} {k1 k2 : Nat → Sh} {ks : List (List Key)} {ds : List D} {x : (List Key)} {z : Addr} (R : Rel c.θ c.F0 c.B L F H σ ρ) (hi : ρ[i]? = some (.pv (.nd k1) (.dT ks ds))) (e : Ext F H F1 H1) (n : H z = none) (hz1 : H1 z = some (.lst [])) (fz : F1 z = none) (hk : k1 ds.length = .nd k2) (px : posK x ks = none) :
    ∃ (a : Addr) (xs : List V), σ[i]? = some (some (.ref a)) ∧ H1 a = some (.dT (ks.zip xs)) ∧ ks.length = xs.length ∧ Rel c.θ c.F0 c.B L F1 (upd H1 a (.dT (putK (ks.zip xs) x (.ref z)))) σ (ρ.set i (.pv (.nd k1) (.dT (ks ++ [x]) (ds ++ [.lst []])))) := by
  obtain ⟨Z, hZ0⟩ := R.pv
  have hZ := hZ0.ext e
  have R1 := R.ext e
  obtain ⟨⟨v0, hs0, t0⟩, _⟩ := hZ0 i _ _ hi
  obtain ⟨⟨v, hs, t⟩, nd, f, ow, pw⟩ := hZ i _ _ hi
  have zO : z ∉ Z i := fun m => by
    obtain ⟨u, hu, _⟩ := t0.some z m
    rw [n] at hu
    cases hu
  generalize hz : Z i = S at t nd
  cases t with
  | fl z _ => cases z
  | @dT _ a _ xs _ S1 ha l tl =>
    have lx := tl.length
    have ll : ks.length = xs.length := by rw [l, lx]
    obtain ⟨nda, nd1⟩ := List.nodup_cons.mp nd
    have vn : valV (ks.zip xs) x = none := by rw [posK_val ll, px]; rfl
    have pk : putK (ks.zip xs) x (.ref z) = (ks ++ [x]).zip (xs ++ [.ref z]) := by
      rw [putK_new _ vn, List.zip_append ll]
      rfl
    have az : a ≠ z := fun e2 => zO (by rw [hz, ← e2]; exact List.mem_cons_self)
    have zS1 : z ∉ S1 := fun m => zO (by rw [hz]; exact List.mem_cons_of_mem _ m)
    have aS1 : a ∉ S1 := nda
    have nta : ∀ ys, H1 a ≠ some (.tup ys) := fun ys q => by rw [ha] at q; cases q
    have tl2 : TrL c.θ c.B F1 (upd H1 a (.dT (putK (ks.zip xs) x (.ref z)))) k1 0 ds xs S1 := tl.keep (.refl _) (fun b ys q => by
      rw [upd_ne fun z2 => ?_]
      · exact q
      · subst z2
        exact nta _ q) fun b hb => upd_ne fun z2 => aS1 (z2 ▸ hb)
    have tz : Tr c.θ c.B F1 (upd H1 a (.dT (putK (ks.zip xs) x (.ref z)))) (k1 (0 + ds.length)) (.lst []) (.ref z) [z] := by
      rw [Nat.zero_add, hk]
      exact .lst (by rw [upd_ne (Ne.symm az)]; exact hz1) .nil
    have T : Tr c.θ c.B F1 (upd H1 a (.dT (putK (ks.zip xs) x (.ref z)))) (.nd k1) (.dT (ks ++ [x]) (ds ++ [.lst []])) (.ref a) (a :: (S1 ++ ([z] ++ []))) :=
      .dT (by rw [upd_same, pk]) (by simp [l]) (TrL.append tl2 (.cons tz .nil))
    refine ⟨a, xs, hs, ha, ll, R1.pvMut hZ hi hs (by rw [hz]; exact List.mem_cons_self) T ?_ fun b hb => ?_⟩
    · rw [List.append_nil]
      refine List.nodup_cons.mpr ⟨fun m => ?_, List.nodup_append.mpr ⟨nd1, by simp, fun p hp q hq e2 => ?_⟩⟩
      · rcases List.mem_append.mp m with m | m
        · exact aS1 m
        · exact az (List.mem_singleton.mp m)
      · rw [List.mem_singleton.mp hq] at e2
        exact zS1 (e2 ▸ hp)
    · rw [List.append_nil] at hb
      rcases List.mem_cons.mp hb with rfl | hb
      · exact .inl (by rw [hz]; exact List.mem_cons_self)
      · rcases List.mem_append.mp hb with hb | hb
        · exact .inl (by rw [hz]; exact List.mem_cons_of_mem _ hb)
        · rw [List.mem_singleton.mp hb]
          refine .inr ⟨fz, ?_, fun j ho hj => ?_, fun j k d hj hp m => ?_⟩
          · cases q : c.B z with
            | none => rfl
            | some u => rcases R.kp z u q with y | ⟨_, _, _, y⟩ <;> (rw [n] at y; cases y)
          · rcases ho with ⟨e2, he⟩ | ⟨l, ds, he⟩
            · obtain ⟨b2, u, g1, g2, _⟩ := R.ow j e2 he
              rw [hj] at g1
              cases g1
              rw [n] at g2
              cases g2
            · obtain ⟨⟨b2, u, g1, g2, _⟩, _⟩ := R.me j l ds he
              rw [hj] at g1
              cases g1
              rw [n] at g2
              cases g2
          · obtain ⟨⟨_, _, t2⟩, _⟩ := hZ0 j k d hp
            obtain ⟨u, hu, _⟩ := t2.some z m
            rw [n] at hu
            cases hu
theorem app_dK {i : Nat} {k1 k2 : Nat → Sh} {ks : List Key} {ds es : List D} {pp : Nat} {wv : V} (K : X.K = c.θ.K) (R : Rel c.θ c.F0 c.B L F H σ ρ) (hi : ρ[i]? = some (.pv (.nd k1) (.dK ks ds))) (h2 : k1 pp = .nd k2) (h3 : ds[pp]? = some (.lst es)) (hw : ∀ a xs, σ[i]? = some (some (.ref a)) → H a = some (.dK (ks.zip xs)) → ks.length = xs.length → xs[pp]? = some wv)
    (h : ResS c L W F En (sWith (g ρ) ρ fun v => if v.2.solid = true then (match app2 k2 es v.1 with
      | some es' => .nx (ρ.set i (.pv (.nd k1) (.dK ks (ds.set pp (.lst es')))))
      | none => .no) else .no)) : ∃ bb ys, wv = .ref bb ∧ H bb = some (.lst ys) ∧ ∀ Q : V → Hp → Prop, (∀ v H' bb' ys', wv = .ref bb' → H' bb' = some (.lst ys') → ys'.length < sizeLine → En.nx σ (upd H' bb' (.lst (ys' ++ [v]))) → Q v H') → tEv c L W g σ H Q := by
  obtain ⟨aa, xs, bb, ys, S2, z1, z2, zl, z4, z5, z6, z7, z8⟩ := row_dK R hi h2 h3
  have e1 := hw aa xs z1 z2 zl
  rw [z4] at e1
  cases e1
  refine ⟨bb, ys, rfl, z5, fun Q hQ => ?_⟩
  refine sv_with R h fun d kd v F5 H5 ef5 e5 hv5 R5 h5 => ?_
  clear ef5 h
  replace h5 : ResS c L W F5 En (if kd.solid = true then (match app2 k2 es d with
    | some es' => .nx (ρ.set i (.pv (.nd k1) (.dK ks (ds.set pp (.lst es')))))
    | none => .no) else .no) := h5
  obtain ⟨so, h5⟩ := ResS.ite h5
  obtain ⟨F6, e6, s6, rp⟩ := Val.sol R e5 hv5 so
  have R6 := R.ext e6
  have h6 := ResS.mono h5 s6
  clear h5
  cases ap2 : app2 k2 es d with
  | none => rw [ap2] at h6; exact h6.elim
  | some es' =>
    rw [ap2] at h6
    obtain ⟨q1, q2, rfl⟩ := app2_inv ap2
    obtain ⟨aa', xs', bb', ys', S2', y1, y2, yl, y4, y5, y6, y7, y8⟩ := row_dK R6 hi h2 h3
    rw [z1] at y1
    cases y1
    rw [e6.hh _ _ z2] at y2
    injection y2 with y2
    injection y2 with y2
    have ex := zip_inj zl yl y2
    subst ex
    rw [z4] at y4
    cases y4
    refine hQ _ _ bb ys' rfl y5 (by rw [y6.length]; exact Nat.lt_of_lt_of_le q2 SZ_le) ?_
    exact h6 σ F6 _ (.refl _) (y8 _ _ fun H' t1 t2 => trl_snoc (y6.keep (.refl _) t1 t2) (by rw [Nat.zero_add]; exact q1) rp)
theorem app_dT {i : Nat} {k1 k2 : Nat → Sh} {ks : List (List Key)} {ds es : List D} {pp : Nat} {wv : V} (K : X.K = c.θ.K) (R : Rel c.θ c.F0 c.B L F H σ ρ) (hi : ρ[i]? = some (.pv (.nd k1) (.dT ks ds))) (h2 : k1 pp = .nd k2) (h3 : ds[pp]? = some (.lst es)) (hw : ∀ a xs, σ[i]? = some (some (.ref a)) → H a = some (.dT (ks.zip xs)) → ks.length = xs.length → xs[pp]? = some wv)
    (h : ResS c L W F En (sWith (g ρ) ρ fun v => if v.2.solid = true then (match app2 k2 es v.1 with
      | some es' => .nx (ρ.set i (.pv (.nd k1) (.dT ks (ds.set pp (.lst es')))))
      | none => .no) else .no)) : ∃ bb ys, wv = .ref bb ∧ H bb = some (.lst ys) ∧ ∀ Q : V → Hp → Prop, (∀ v H' bb' ys', wv = .ref bb' → H' bb' = some (.lst ys') → ys'.length < sizeLine → En.nx σ (upd H' bb' (.lst (ys' ++ [v]))) → Q v H') → tEv c L W g σ H Q := by
  obtain ⟨aa, xs, bb, ys, S2, z1, z2, zl, z4, z5, z6, z7, z8⟩ := row_dT R hi h2 h3
  have e1 := hw aa xs z1 z2 zl
  rw [z4] at e1
  cases e1
  refine ⟨bb, ys, rfl, z5, fun Q hQ => ?_⟩
  refine sv_with R h fun d kd v F5 H5 ef5 e5 hv5 R5 h5 => ?_
  clear ef5 h
  replace h5 : ResS c L W F5 En (if kd.solid = true then (match app2 k2 es d with
    | some es' => .nx (ρ.set i (.pv (.nd k1) (.dT ks (ds.set pp (.lst es')))))
    | none => .no) else .no) := h5
  obtain ⟨so, h5⟩ := ResS.ite h5
  obtain ⟨F6, e6, s6, rp⟩ := Val.sol R e5 hv5 so
  have R6 := R.ext e6
  have h6 := ResS.mono h5 s6
  clear h5
  cases ap2 : app2 k2 es d with
  | none => rw [ap2] at h6; exact h6.elim
  | some es' =>
    rw [ap2] at h6
    obtain ⟨q1, q2, rfl⟩ := app2_inv ap2
    obtain ⟨aa', xs', bb', ys', S2', y1, y2, yl, y4, y5, y6, y7, y8⟩ := row_dT R6 hi h2 h3
    rw [z1] at y1
    cases y1
    rw [e6.hh _ _ z2] at y2
    injection y2 with y2
    injection y2 with y2
    have ex := zip_inj zl yl y2
    subst ex
    rw [z4] at y4
    cases y4
    refine hQ _ _ bb ys' rfl y5 (by rw [y6.length]; exact Nat.lt_of_lt_of_le q2 SZ_le) ?_
    exact h6 σ F6 _ (.refl _) (y8 _ _ fun H' t1 t2 => trl_snoc (y6.keep (.refl _) t1 t2) (by rw [Nat.zero_add]; exact q1) rp)
theorem gs_sdApp {i : Nat} {x : Str} {apos cpos apos2 cpos2 : Pos} (xb : XB X c) (K : X.K = c.θ.K) (hk : PE X ke (tEv c L W f)) (hv : PE X ve (tEv c L W (eLst []))) (ha : PE X e (tEv c L W g)) (M : M2 X (.Name x p) "setdefault" apos ke ve cpos)
    (hx : Loc X.env.scope x) (hf : X.fn x = true ∨ X.env.scope.names.lookup x = some .local := by exact Or.inl rfl) (hi : X.N[i]? = some x := by rfl) (hd : (x == ("__debug__" : Str)) = false := by decide) (hcd : (x == ("__classdict__" : Str)) = false := by decide)
    (hs : swapsWith (.Call (.Attribute (.Call (.Attribute (.Name x p) "setdefault" apos) [ke, ve] [] cpos) "append" apos2) [e] [] cpos2) none pos.line X.env = pure false := by rfl)
    (hbase : attributeBase (.Call (.Attribute (.Name x p) "setdefault" apos) [ke, ve] [] cpos) "append" X.env (eval (.Call (.Attribute (.Name x p) "setdefault" apos) [ke, ve] [] cpos) X.env) = eval (.Call (.Attribute (.Name x p) "setdefault" apos) [ke, ve] [] cpos) X.env := by rfl)
    (hfew : ((backTo cpos2 (starEach [e] X.env)).all (fun x => !x.1) && (backToKw cpos2 (keywordEach [] X.env)).all (fun x => x.1.isSome)
      && decide ([e].length + ([] : List Keyword).length + (if ([] : List Keyword).isEmpty then 0 else 1) < 30)) = true := by rfl)
    (hline : (apos2.endLine == cpos2.line) = true := by rfl) (hst : starEach [e] X.env = (false, eval e X.env) :: starEach [] X.env := by rfl) : PS X (.Expr (.Call (.Attribute (.Call (.Attribute (.Name x p) "setdefault" apos) [ke, ve] [] cpos) "append" apos2) [e] [] cpos2) pos) (tSv c L W (sSdApp i f g)) := by
  refine ps_ev (ps_expr (pe_bm PySem.F.plainAttrs_list PySem.F.slot_list_append PySem.F.type_list_append mt_append (pe_sd2 xb.u1 (pe_var hi (vis_of hx) hd hcd) hk hv M) (pa_cons ha pa_nil hst) hbase hfew hline hst rfl) hs) fun E σ H hh => ?_
  obtain ⟨F, ρ, R, hh⟩ := hh
  unfold sSdApp at hh
  cases q : ρ[i]? with
  | none => rw [q] at hh; exact hh.elim
  | some sl =>
    rw [q] at hh
    cases sl with
    | pv sh d0 =>
      cases sh with
      | lf => cases d0 <;> exact (show False from hh).elim
      | ln k1 => cases d0 <;> exact (show False from hh).elim
      | l2 k1 => cases d0 <;> exact (show False from hh).elim
      | nd k1 =>
        cases d0 <;> first | exact (show False from hh).elim | skip
        · rename_i ks ds
          replace hh : ResS c L W F E (sWith (f ρ) ρ fun kk => (match keyOf kk.1 with
            | some x => if ks.length < SZ then (match sdP k1 x ks ds with
              | some (k2, p, es, ks', ds') => sWith (g (ρ.set i (.pv (.nd k1) (.dK ks' ds')))) (ρ.set i (.pv (.nd k1) (.dK ks' ds'))) fun v => if v.2.solid = true then (match app2 k2 es v.1 with
                | some es' => .nx ((ρ.set i (.pv (.nd k1) (.dK ks' ds'))).set i (.pv (.nd k1) (.dK ks' (ds'.set p (.lst es')))))
                | none => .no) else .no
              | none => .no) else .no
            | none => .no)) := hh
          have sv : ∃ a xs, σ[i]? = some (some (.ref a)) ∧ H a = some (.dK (ks.zip xs)) ∧ ks.length = xs.length := by
            obtain ⟨Z, hZ⟩ := R.pv
            obtain ⟨⟨w, hw, t⟩, _⟩ := hZ i _ _ q
            generalize Z i = S at t
            cases t with
            | fl z _ => cases z
            | @dK _ a _ xs _ S1 ha l tl => exact ⟨a, xs, hw, ha, by rw [l, tl.length]⟩
          obtain ⟨aa, xs, hw, ha0, lx⟩ := sv
          refine ⟨.ref aa, hw, aa, rfl, .inl ⟨_, .inl ha0⟩, ?_⟩
          refine sv_with R hh fun dk kk vk F1 H1 ef e1 hv1 R1 h1 => ?_
          clear ef hh
          obtain ⟨F2, e2, s2, rdk, _⟩ := Val.use R e1 hv1
          have R2 := R.ext e2
          have h2 := ResS.mono h1 s2
          clear h1
          replace h2 : ResS c L W F2 E (match keyOf dk with
            | some x => if ks.length < SZ then (match sdP k1 x ks ds with
              | some (k2, p, es, ks', ds') => sWith (g (ρ.set i (.pv (.nd k1) (.dK ks' ds')))) (ρ.set i (.pv (.nd k1) (.dK ks' ds'))) fun v => if v.2.solid = true then (match app2 k2 es v.1 with
                | some es' => .nx ((ρ.set i (.pv (.nd k1) (.dK ks' ds'))).set i (.pv (.nd k1) (.dK ks' (ds'.set p (.lst es')))))
                | none => .no) else .no
              | none => .no) else .no
            | none => .no) := h2
          cases qk : keyOf dk with
          | none => rw [qk] at h2; exact h2.elim
          | some x =>
            rw [qk] at h2
            obtain ⟨sz, h2⟩ := ResS.ite h2
            refine ⟨F2, ρ, R2, ?_⟩
            have el : eLst [] ρ = .ok (.lst [], .fr) := rfl
            rw [el]
            intro vz F3 H3 e3 hv3
            obtain ⟨_, z, oz, rfl, z1, z2, z3, z4, _⟩ := hv3
            have ez : oz = .lst [] := by
              cases z4 with
              | lst r => cases r; rfl
            subst ez
            have R3 := R2.ext e3
            have hs : ρ.set i (.pv (.nd k1) (.dK ks ds)) = ρ := List.ext_getElem? fun j => by
              by_cases qq : i = j
              · subst qq
                rw [List.getElem?_set_self (List.getElem?_eq_some_iff.mp q).1, q]
              · rw [List.getElem?_set_ne qq]
            have ha3 : H3 aa = some (.dK (ks.zip xs)) := e3.hh _ _ (e2.hh _ _ ha0)
            have lz : (ks.zip xs).length < sizeLine := Nat.lt_of_le_of_lt (by rw [List.length_zip]; exact Nat.min_le_left _ _) (Nat.lt_of_lt_of_le sz SZ_le)
            have h3 := ResS.mono h2 e3.ff
            clear h2
            have ile : i < ρ.length := (List.getElem?_eq_some_iff.mp q).1
            have ek := keyOf_v qk rdk
            refine .inl ⟨ks.zip xs, x, ha3, ek, lz, ?_, ?_⟩
            · intro v hv'
              rw [posK_val lx] at hv'
              unfold sdP at h3
              cases px : posK x ks with
              | none => rw [px] at hv'; cases hv'
              | some pp =>
                rw [px] at hv' h3
                have hv' : xs[pp]? = some v := hv'
                dsimp only at h3
                cases k1p : k1 pp with
                | lf => rw [k1p] at h3; exact (show False from h3).elim
                | ln _ => rw [k1p] at h3; exact (show False from h3).elim
                | l2 _ => rw [k1p] at h3; exact (show False from h3).elim
                | nd k2 =>
                  rw [k1p] at h3
                  cases dp : ds[pp]? with
                  | none => rw [dp] at h3; exact (show False from h3).elim
                  | some dd =>
                    rw [dp] at h3
                    cases dd <;> first | exact (show False from h3).elim | skip
                    rename_i es
                    dsimp only at h3
                    rw [hs] at h3
                    obtain ⟨bb, ys, rfl, y2, y3⟩ := app_dK (g := g) K R3 q k1p dp (fun a2 xs2 g1 g2 g3 => by
                      rw [hw] at g1
                      cases g1
                      rw [ha3] at g2
                      injection g2 with g2
                      injection g2 with g2
                      rw [← zip_inj lx g3 g2]
                      exact hv') h3
                    refine ⟨.inl ⟨rfl, ys, by rw [K]; exact .inl (.inl y2)⟩, ?_⟩
                    exact y3 _ fun v H' bb' ys' g1 g2 g3 g4 => ⟨bb', ys', v, g1, rfl, g2, g3, g4⟩
            · intro hn
              rw [posK_val lx] at hn
              unfold sdP at h3
              cases px : posK x ks with
              | some pp =>
                rw [px] at hn
                have := posK_lt px
                have hn : xs[pp]? = none := hn
                rw [List.getElem?_eq_none_iff] at hn
                omega
              | none =>
                rw [px] at h3
                dsimp only at h3
                cases k1p : k1 ds.length with
                | lf => rw [k1p] at h3; exact (show False from h3).elim
                | ln _ => rw [k1p] at h3; exact (show False from h3).elim
                | l2 _ => rw [k1p] at h3; exact (show False from h3).elim
                | nd k2 =>
                  rw [k1p] at h3
                  dsimp only at h3
                  obtain ⟨a2, xs2, g1, g2, g3, R4⟩ := new_dK R2 q e3 z1 z2 z3 k1p px
                  rw [hw] at g1
                  cases g1
                  rw [ha3] at g2
                  injection g2 with g2
                  injection g2 with g2
                  have ex := zip_inj lx g3 g2
                  subst ex
                  have ll : ks.length = ds.length := by
                    obtain ⟨Z, hZ⟩ := R.pv
                    obtain ⟨⟨w, _, t⟩, _⟩ := hZ i _ _ q
                    generalize Z i = S at t
                    cases t with
                    | fl z _ => cases z
                    | dK _ l _ => exact l
                  obtain ⟨bb, ys, eb, y2, y3⟩ := app_dK (wv := .ref z) (g := g) K R4 (List.getElem?_set_self ile) k1p (by simp) (fun a2 xs2 g1 g2 g3 => by
                    rw [hw] at g1
                    cases g1
                    rw [upd_same] at g2
                    injection g2 with g2
                    injection g2 with g2
                    have pk : putK (ks.zip xs) x (.ref z) = (ks ++ [x]).zip (xs ++ [.ref z]) := by
                      rw [putK_new _ (by rw [posK_val lx, px]; rfl), List.zip_append lx]
                      rfl
                    rw [pk] at g2
                    rw [← zip_inj (by simp [lx]) g3 g2, ← ll, lx]
                    simp) h3
                  cases eb
                  refine ⟨.inl ⟨rfl, ys, by rw [K]; exact .inl (.inl y2)⟩, ?_⟩
                  exact y3 _ fun v H' bb' ys' g1 g2 g3 g4 => ⟨bb', ys', v, g1, rfl, g2, g3, g4⟩
        · rename_i ks ds
          replace hh : ResS c L W F E (sWith (f ρ) ρ fun kk => (match tkeyOf kk.1 with
            | some x => if ks.length < SZ then (match sdP k1 x ks ds with
              | some (k2, p, es, ks', ds') => sWith (g (ρ.set i (.pv (.nd k1) (.dT ks' ds')))) (ρ.set i (.pv (.nd k1) (.dT ks' ds'))) fun v => if v.2.solid = true then (match app2 k2 es v.1 with
                | some es' => .nx ((ρ.set i (.pv (.nd k1) (.dT ks' ds'))).set i (.pv (.nd k1) (.dT ks' (ds'.set p (.lst es')))))
                | none => .no) else .no
              | none => .no) else .no
            | none => .no)) := hh
          have sv : ∃ a xs, σ[i]? = some (some (.ref a)) ∧ H a = some (.dT (ks.zip xs)) ∧ ks.length = xs.length := by
            obtain ⟨Z, hZ⟩ := R.pv
            obtain ⟨⟨w, hw, t⟩, _⟩ := hZ i _ _ q
            generalize Z i = S at t
            cases t with
            | fl z _ => cases z
            | @dT _ a _ xs _ S1 ha l tl => exact ⟨a, xs, hw, ha, by rw [l, tl.length]⟩
          obtain ⟨aa, xs, hw, ha0, lx⟩ := sv
          refine ⟨.ref aa, hw, aa, rfl, .inr ⟨_, .inl ha0⟩, ?_⟩
          refine sv_with R hh fun dk kk vk F1 H1 ef e1 hv1 R1 h1 => ?_
          clear ef hh
          obtain ⟨F2, e2, s2, rdk, _⟩ := Val.use R e1 hv1
          have R2 := R.ext e2
          have h2 := ResS.mono h1 s2
          clear h1
          replace h2 : ResS c L W F2 E (match tkeyOf dk with
            | some x => if ks.length < SZ then (match sdP k1 x ks ds with
              | some (k2, p, es, ks', ds') => sWith (g (ρ.set i (.pv (.nd k1) (.dT ks' ds')))) (ρ.set i (.pv (.nd k1) (.dT ks' ds'))) fun v => if v.2.solid = true then (match app2 k2 es v.1 with
                | some es' => .nx ((ρ.set i (.pv (.nd k1) (.dT ks' ds'))).set i (.pv (.nd k1) (.dT ks' (ds'.set p (.lst es')))))
                | none => .no) else .no
              | none => .no) else .no
            | none => .no) := h2
          cases qk : tkeyOf dk with
          | none => rw [qk] at h2; exact h2.elim
          | some x =>
            rw [qk] at h2
            obtain ⟨sz, h2⟩ := ResS.ite h2
            refine ⟨F2, ρ, R2, ?_⟩
            have el : eLst [] ρ = .ok (.lst [], .fr) := rfl
            rw [el]
            intro vz F3 H3 e3 hv3
            obtain ⟨_, z, oz, rfl, z1, z2, z3, z4, _⟩ := hv3
            have ez : oz = .lst [] := by
              cases z4 with
              | lst r => cases r; rfl
            subst ez
            have R3 := R2.ext e3
            have hs : ρ.set i (.pv (.nd k1) (.dT ks ds)) = ρ := List.ext_getElem? fun j => by
              by_cases qq : i = j
              · subst qq
                rw [List.getElem?_set_self (List.getElem?_eq_some_iff.mp q).1, q]
              · rw [List.getElem?_set_ne qq]
            have ha3 : H3 aa = some (.dT (ks.zip xs)) := e3.hh _ _ (e2.hh _ _ ha0)
            have lz : (ks.zip xs).length < sizeLine := Nat.lt_of_le_of_lt (by rw [List.length_zip]; exact Nat.min_le_left _ _) (Nat.lt_of_lt_of_le sz SZ_le)
            have h3 := ResS.mono h2 e3.ff
            clear h2
            have ile : i < ρ.length := (List.getElem?_eq_some_iff.mp q).1
            obtain ⟨kb, ek, hkb⟩ := tkeyOf_v R2.sub qk rdk
            refine .inr ⟨ks.zip xs, x, kb, ha3, ek, e3.hh _ _ hkb, lz, ?_, ?_⟩
            · intro v hv'
              rw [posK_val lx] at hv'
              unfold sdP at h3
              cases px : posK x ks with
              | none => rw [px] at hv'; cases hv'
              | some pp =>
                rw [px] at hv' h3
                have hv' : xs[pp]? = some v := hv'
                dsimp only at h3
                cases k1p : k1 pp with
                | lf => rw [k1p] at h3; exact (show False from h3).elim
                | ln _ => rw [k1p] at h3; exact (show False from h3).elim
                | l2 _ => rw [k1p] at h3; exact (show False from h3).elim
                | nd k2 =>
                  rw [k1p] at h3
                  cases dp : ds[pp]? with
                  | none => rw [dp] at h3; exact (show False from h3).elim
                  | some dd =>
                    rw [dp] at h3
                    cases dd <;> first | exact (show False from h3).elim | skip
                    rename_i es
                    dsimp only at h3
                    rw [hs] at h3
                    obtain ⟨bb, ys, rfl, y2, y3⟩ := app_dT (g := g) K R3 q k1p dp (fun a2 xs2 g1 g2 g3 => by
                      rw [hw] at g1
                      cases g1
                      rw [ha3] at g2
                      injection g2 with g2
                      injection g2 with g2
                      rw [← zip_inj lx g3 g2]
                      exact hv') h3
                    refine ⟨.inl ⟨rfl, ys, by rw [K]; exact .inl (.inl y2)⟩, ?_⟩
                    exact y3 _ fun v H' bb' ys' g1 g2 g3 g4 => ⟨bb', ys', v, g1, rfl, g2, g3, g4⟩
            · intro hn
              rw [posK_val lx] at hn
              unfold sdP at h3
              cases px : posK x ks with
              | some pp =>
                rw [px] at hn
                have := posK_lt px
                have hn : xs[pp]? = none := hn
                rw [List.getElem?_eq_none_iff] at hn
                omega
              | none =>
                rw [px] at h3
                dsimp only at h3
                cases k1p : k1 ds.length with
                | lf => rw [k1p] at h3; exact (show False from h3).elim
                | ln _ => rw [k1p] at h3; exact (show False from h3).elim
                | l2 _ => rw [k1p] at h3; exact (show False from h3).elim
                | nd k2 =>
                  rw [k1p] at h3
                  dsimp only at h3
                  obtain ⟨a2, xs2, g1, g2, g3, R4⟩ := new_dT R2 q e3 z1 z2 z3 k1p px
                  rw [hw] at g1
                  cases g1
                  rw [ha3] at g2
                  injection g2 with g2
                  injection g2 with g2
                  have ex := zip_inj lx g3 g2
                  subst ex
                  have ll : ks.length = ds.length := by
                    obtain ⟨Z, hZ⟩ := R.pv
                    obtain ⟨⟨w, _, t⟩, _⟩ := hZ i _ _ q
                    generalize Z i = S at t
                    cases t with
                    | fl z _ => cases z
                    | dT _ l _ => exact l
                  obtain ⟨bb, ys, eb, y2, y3⟩ := app_dT (wv := .ref z) (g := g) K R4 (List.getElem?_set_self ile) k1p (by simp) (fun a2 xs2 g1 g2 g3 => by
                    rw [hw] at g1
                    cases g1
                    rw [upd_same] at g2
                    injection g2 with g2
                    injection g2 with g2
                    have pk : putK (ks.zip xs) x (.ref z) = (ks ++ [x]).zip (xs ++ [.ref z]) := by
                      rw [putK_new _ (by rw [posK_val lx, px]; rfl), List.zip_append lx]
                      rfl
                    rw [pk] at g2
                    rw [← zip_inj (by simp [lx]) g3 g2, ← ll, lx]
                    simp) h3
                  cases eb
                  refine ⟨.inl ⟨rfl, ys, by rw [K]; exact .inl (.inl y2)⟩, ?_⟩
                  exact y3 _ fun v H' bb' ys' g1 g2 g3 g4 => ⟨bb', ys', v, g1, rfl, g2, g3, g4⟩
    | un => exact hh.elim
    | va d => exact hh.elim
    | ow d => exact hh.elim
    | me n ds => exact hh.elim
    | xc => exact hh.elim
end
end G
namespace G
open PySem PySem.Spec L2
/-- the own tree of slot i is told -/
noncomputable def sRetT (i n : Nat) : SS := fun ρ => match ρ[i]? with
  | some (.pv k d) => @ite _ (k = shT n d) (Classical.propDecidable _) (.rt d (.tr n) ρ) .no
  | _ => .no
section
variable {X : Cx} {c : Cn} {L : List Addr} {W : WX} {f g h : ES} {a b e tg iter : Expr} {pos p : Pos} {F F1 H H1 : Hp} {σ : L2.St} {ρ : Sl} {st : Bool}
theorem gs_retT {i n : Nat} {x : Str} (hx : Loc X.env.scope x) (hi : X.N[i]? = some x := by rfl) (hd : (x == ("__debug__" : Str)) = false := by decide) (hcd : (x == ("__classdict__" : Str)) = false := by decide) : PS X (.Return (some (.Name x p)) pos) (tSv c L W (sRetT i n)) := by
  refine ps_ev (ps_ret (pe_var hi (vis_of hx) hd hcd)) fun E σ H h => ?_
  obtain ⟨F, ρ, R, h⟩ := h
  unfold sRetT at h
  cases q : ρ[i]? with
  | none => rw [q] at h; exact h.elim
  | some sl =>
    rw [q] at h
    cases sl with
    | pv k d =>
      replace h : ResS c L W F E (@ite _ (k = shT n d) (Classical.propDecidable _) (Fl.rt d (.tr n) ρ) .no) := h
      by_cases z : k = shT n d
      · rw [if_pos z] at h
        subst z
        obtain ⟨Z, hZ⟩ := R.pv
        obtain ⟨⟨v, hv, t⟩, nd, f, _⟩ := hZ i _ _ q
        exact ⟨v, hv, h v σ F H (.refl _) R ⟨Z i, t, nd, fun b hb => ⟨(f b hb).2, (f b hb).1⟩⟩⟩
      · rw [if_neg z] at h
        exact h.elim
    | un => exact h.elim
    | va d => exact h.elim
    | ow d => exact h.elim
    | me n ds => exact h.elim
    | xc => exact h.elim
def newE : D → Kd → Bool
  | .dK ks ds, .fr => ks.isEmpty && ds.isEmpty
  | .dT ks ds, .fr => ks.isEmpty && ds.isEmpty
  | _, _ => false
def eNewT (n : Nat) (f : ES) : ES := fun ρ => (f ρ).bind fun x => if newE x.1 x.2 = true then .ok (x.1, .tr (n + 1)) else .no
theorem pg_newT (n : Nat) (ha : PE X e (tEv c L W f)) : PE X e (tEv c L W (eNewT n f)) := by
  refine pe_ev ha fun σ H Q h => ?_
  obtain ⟨F, ρ, R, h⟩ := of_tEv h
  refine ⟨F, ρ, R, ?_⟩
  unfold eNewT at h
  cases hf : f ρ with
  | no => rw [hf] at h; exact h
  | ex n fs => rw [hf] at h; exact h
  | ok x =>
    obtain ⟨d, k⟩ := x
    rw [hf] at h
    replace h : Res c W σ ρ F H Q (if newE d k = true then .ok (d, .tr (n + 1)) else .no) := h
    obtain ⟨ne, h⟩ := Res.ite h
    intro v F' H' e hv
    refine h _ F' H' e ?_
    cases k <;> cases d <;> first | (cases ne; done) | skip
    · obtain ⟨_, a, o, rfl, h1, h2, h3, h4, _⟩ := hv
      cases h4 with
      | @dK ks xs ds l rl =>
        obtain ⟨e1, e2⟩ := Bool.and_eq_true_iff.mp ne
        rw [List.isEmpty_iff] at e1 e2
        subst e1 e2
        cases rl
        exact ⟨[a], .dK (ks := []) (xs := []) h2 rfl .nil, by simp, fun b hb => by rw [List.mem_singleton.mp hb]; exact ⟨h1, h3⟩⟩
    · obtain ⟨_, a, o, rfl, h1, h2, h3, h4, _⟩ := hv
      cases h4 with
      | @dT ks xs ds l rl =>
        obtain ⟨e1, e2⟩ := Bool.and_eq_true_iff.mp ne
        rw [List.isEmpty_iff] at e1 e2
        subst e1 e2
        cases rl
        exact ⟨[a], .dT (ks := []) (xs := []) h2 rfl .nil, by simp, fun b hb => by rw [List.mem_singleton.mp hb]; exact ⟨h1, h3⟩⟩
def tLk (td : TE) : TE := fun σ H Q => td σ H fun x H1 => ∃ d u, x = .ref d ∧ H1 d = some u ∧ Mut (some u) ∧ ∀ od, Q x (upd H1 d (.frz od u))
theorem pe_lk {td : TE} (h : PE X e td) : PE X e (tLk td) := ⟨fun pins s σ H Q I hw => thn (h.run pins s σ H _ I hw) fun u s1 ⟨x, H1, I1, rx, d, o, ex, hd, mu, q⟩ => by
  obtain ⟨od, I2⟩ := I1.lock hd mu
  exact ⟨x, _, I2, rx, q od⟩⟩
def itmD (ks : List Key) (ds : List D) : List D := (ks.zip ds).map fun z => .tup [keyD1 z.1, z.2]
def itItT (f : ES) : IS := fun ρ => (f ρ).bind fun x => match x.1, x.2 with
  | .dK ks ds, .tr (_ + 1) => .ok (itmD ks ds)
  | _, _ => .no
theorem key_rep {θ : Th} {F : Hp} (k : Key) : Rep θ F (keyD1 k) (kV k) := by
  cases k with
  | inl i => exact .int i
  | inr s => exact .str s
theorem zip_two {α : Type} {θ : Th} {F : Hp} : ∀ {ks : List α} {ds : List D} {xs : List V} {i : Nat} {k : α} {v : V}, RepL θ F ds xs → (ks.zip xs)[i]? = some (k, v) → ∃ d, (ks.zip ds)[i]? = some (k, d) ∧ Rep θ F d v
  | [], _, _, i, k, v, _, h => by simp at h
  | _ :: _, _, _, i, k, v, .nil, h => by simp at h
  | k0 :: ks, _, _, 0, k, v, .cons r t, h => by
    simp at h
    obtain ⟨rfl, rfl⟩ := h
    exact ⟨_, rfl, r⟩
  | k0 :: ks, _, _, i + 1, k, v, .cons r t, h => by
    rw [List.zip_cons_cons, List.getElem?_cons_succ] at h
    obtain ⟨d, h1, h2⟩ := zip_two t h
    exact ⟨d, by rw [List.zip_cons_cons, List.getElem?_cons_succ]; exact h1, h2⟩
theorem gi_itT {elts : List Expr} {kk : Nat} {tpos apos cpos : Pos} (ha : PE X e (tEv c L W f)) (hbase : attributeBase e "items" X.env (eval e X.env) = eval e X.env := by rfl) (hline : (apos.endLine == cpos.line) = true := by rfl) :
    PI X (.Tuple elts kk tpos) (.Call (.Attribute e "items" apos) [] [] cpos) (tIv c L W st (itItT f)) := by
  refine pi_ev (pi_items (pe_lk ha) hbase hline) fun σ H R h => ?_
  obtain ⟨F, ρ, Rl, h⟩ := h
  refine ⟨F, ρ, Rl, ?_⟩
  unfold itItT at h
  cases hf : f ρ with
  | no => rw [hf] at h; exact h
  | ex n fs => rw [hf] at h; exact h
  | ok x =>
    obtain ⟨d, k⟩ := x
    rw [hf] at h
    cases d <;> cases k <;> first | exact (show False from h).elim | skip
    rename_i ks ds n
    cases n with
    | zero => exact (show False from h).elim
    | succ n =>
      replace h : ResI c W σ st F H R (.ok (itmD ks ds)) := h
      intro v F' H' e hv
      obtain ⟨S, t, nd, fr⟩ := hv
      cases t with
      | fl z _ => cases z
      | @dK _ a _ xs _ S1 ha l tl =>
        obtain ⟨nda, nd1⟩ := List.nodup_cons.mp nd
        obtain ⟨nHa, nFa⟩ := fr a List.mem_cons_self
        refine ⟨a, _, rfl, ha, trivial, fun od => ?_⟩
        obtain ⟨N, hN, rep⟩ := frz_trl tl
        have aN : a ∉ N := fun m => by
          rcases hN a m with z | ⟨_, ys, z⟩
          · exact nda z
          · rw [ha] at z; cases z
        have F2a : addN F' H' N a = none := by
          unfold addN
          rw [nFa]
          dsimp only
          rw [if_neg aN]
        let F3 : Hp := upd (addN F' H' N) a (.frz od (.dK (ks.zip xs)))
        have s3 : Same F' F3 := fun b u hb => by
          have nb : b ≠ a := fun z => by rw [z, nFa] at hb; cases hb
          show upd _ _ _ b = _
          rw [upd_ne nb]
          exact addN_same b u hb
        have rl : RepL c.θ F3 ds xs := rep F3 s3 fun b hb u hu => by
          have nb : b ≠ a := fun z => aN (z ▸ hb)
          show upd _ _ _ b = _
          rw [upd_ne nb]
          refine addN_at e.sub hb hu fun o w z => ?_
          subst z
          rcases hN b hb with g | ⟨_, ys, g⟩
          · exact tl.nofrz b g o w hu
          · rw [hu] at g; cases g
        have ext : Ext F H F3 (upd H' a (.frz od (.dK (ks.zip xs)))) := by
          refine ⟨fun b u hb => ?_, e.ff.trans s3, fun b u hb => ?_, fun b u hb => ?_⟩
          · by_cases z : b = a
            · subst z
              replace hb : upd _ b _ b = some u := hb
              rw [upd_same] at hb
              cases hb
              exact .inl upd_same
            · replace hb : upd _ a _ b = some u := hb
              rw [upd_ne z] at hb
              rw [upd_ne z]
              rcases addN_some hb with y | ⟨_, _, y⟩
              · exact e.sub b u y
              · exact .inl y
          · rw [upd_ne fun z => by rw [z, nHa] at hb; cases hb]
            exact e.hh b u hb
          · by_cases z : b = a
            · subst z
              exact .inr (.inl nHa)
            · replace hb : upd _ a _ b = some u := hb
              rw [upd_ne z] at hb
              rcases addN_some hb with y | ⟨_, y, hy⟩
              · exact e.nw b u y
              · rcases hN b y with g | ⟨_, ys, g⟩
                · exact .inr (.inl (fr b (List.mem_cons_of_mem _ g)).1)
                · rw [g] at hy
                  exact .inr (.inr ⟨ys, (Option.some.inj hy).symm⟩)
        have at_ : ∀ {F2 H2 : Hp}, Same F3 F2 → Sub F2 H2 → H2 a = some (.frz od (.dK (ks.zip xs))) := fun {F2 H2} h1 h2 => by
          rcases h2 a _ (h1 a _ upd_same) with z | ⟨z, _⟩
          · exact z
          · exact z.elim
        have ll : (itmD ks ds).length = (ks.zip xs).length := by
          unfold itmD
          rw [List.length_map, List.length_zip, List.length_zip, rl.length]
        refine ⟨a, od, ks.zip xs, rfl, upd_same, h _ F3 _ ext ⟨fun F2 H2 i d h1 h2 _ hd => ?_, fun F2 H2 h1 h2 _ => ⟨at_ h1 h2, by rw [ll]; exact Nat.le_refl _⟩⟩⟩
        have lt := (List.getElem?_eq_some_iff.mp hd).1
        rw [ll] at lt
        refine ⟨⟨at_ h1 h2, lt⟩, fun y H3 hy => ?_⟩
        obtain ⟨T, k, v, hkv, rfl, nT, rfl⟩ := hy
        obtain ⟨d2, g1, g2⟩ := zip_two rl hkv
        unfold itmD at hd
        rw [List.getElem?_map, g1] at hd
        cases hd
        exact new_tup h2 nT (.cons (key_rep k) (.cons (g2.mono h1) .nil))
def rngC (i j c : Int) : List D := (List.range (Builtin.Range.rangeSize i j c).toNat).map fun k => .int (i + (k : Nat) * c)
def itR3 (fa fb fc : ES) : IS := fun ρ => (fa ρ).bind fun x => (fb ρ).bind fun y => (fc ρ).bind fun z => match x.1, y.1, z.1 with
  | .int i, .int j, .int c => if (in62 i && in62 j) = true ∧ 0 < c ∧ c < 1000 then .ok (rngC i j c) else .no
  | _, _, _ => .no
theorem small_stp {a b c : Int} (ha : -(2 ^ 62) ≤ a) (ha' : a < 2 ^ 62) (hb : -(2 ^ 62) ≤ b) (hb' : b < 2 ^ 62) (h0 : 0 < c) (h1 : c < 1000) : Builtin.Range.small a b c = true ∧ 0 ≤ Builtin.Range.rangeSize a b c := by
  have e : Builtin.Range.rangeSize a b c = if a < b then (b - a - 1) / c + 1 else 0 := by
    unfold Builtin.Range.rangeSize
    rw [if_pos (by omega)]
  have q : a < b → 0 ≤ (b - a - 1) / c ∧ (b - a - 1) / c ≤ b - a - 1 := fun h => ⟨Int.ediv_nonneg (by omega) (by omega), Int.ediv_le_self _ (by omega)⟩
  refine ⟨?_, ?_⟩
  · unfold Builtin.Range.small
    rw [e]
    simp only [Builtin.Range.rangeFitsLong, Bool.and_eq_true, Bool.or_eq_true, decide_eq_true_eq, beq_iff_eq, show c > 0 by omega, if_true]
    generalize (b - a - 1) / c = r at *
    split
    · rename_i z
      have := q z
      omega
    · omega
  · rw [e]
    generalize (b - a - 1) / c = r at *
    split
    · rename_i z
      have := q z
      omega
    · omega
theorem gi_r3 (hg : Gl X "range") (hm : X.mg "range" = none) {d : Expr} (ha : PE X a (tEv c L W f)) (hb : PE X b (tEv c L W g)) (hc : PE X d (tEv c L W h)) (hs : starEach [a, b, d] X.env = (false, eval a X.env) :: starEach [b, d] X.env) (hs2 : starEach [b, d] X.env = (false, eval b X.env) :: starEach [d] X.env) (hs3 : starEach [d] X.env = (false, eval d X.env) :: starEach [] X.env) (hpl : (backTo pos (starEach [b, d] X.env)).any (·.1) = false) : PI X tg (.Call (.Name "range" p) [a, b, d] [] pos) (tIv c L W st (itR3 f g h)) := by
  refine pi_ev (pi_range3 hg hm (pa_cons ha (pa_cons hb (pa_cons hc pa_nil hs3) hs2) hs) hs hpl) fun σ H R h => ?_
  obtain ⟨F, ρ, Rl, h⟩ := h
  refine iv_bind Rl h fun d1 k1 x F1 H1 ef1 e1 rd1 so1 R1 h1 => ?_
  refine iv_bind R1 h1 fun d2 k2 y F2 H2 ef2 e2 rd2 so2 R2 h2 => ?_
  refine iv_bind R2 h2 fun d3 k3 z F3 H3 ef3 e3 rd3 so3 R3 h3 => ?_
  clear ef1 ef2 ef3 so1 so2 so3 h h1 h2
  cases d1 <;> cases d2 <;> cases d3 <;> first | exact (show False from h3).elim | skip
  rename_i i j cc
  cases rd1.int; cases rd2.int; cases rd3.int
  replace h3 : ResI c W σ st F3 H3 R (if (in62 i && in62 j) = true ∧ 0 < cc ∧ cc < 1000 then .ok (rngC i j cc) else .no) := h3
  by_cases q : (in62 i && in62 j) = true ∧ 0 < cc ∧ cc < 1000
  · rw [if_pos q] at h3
    obtain ⟨q, c0, c1⟩ := q
    obtain ⟨q1, q2⟩ := Bool.and_eq_true_iff.mp q
    obtain ⟨z1, z2⟩ := in62_ok q1
    obtain ⟨z3, z4⟩ := in62_ok q2
    obtain ⟨sm, nn⟩ := small_stp z1 z2 z3 z4 c0 c1
    refine ⟨i, j, cc, (Builtin.Range.rangeSize i j cc).toNat, rfl, ⟨by omega, by omega, sm, (Int.toNat_of_nonneg nn).symm⟩, h3 _ F3 H3 (Ext.refl R3.sub) ⟨fun F2 H2 n d h1 h2 _ hd => ?_, fun F2 H2 h1 h2 _ => ?_⟩⟩
    · unfold rngC at hd
      rw [List.getElem?_map] at hd
      have hi' : n < (Builtin.Range.rangeSize i j cc).toNat := by
        cases q : (List.range (Builtin.Range.rangeSize i j cc).toNat)[n]? with
        | none => rw [q] at hd; cases hd
        | some w =>
          have := (List.getElem?_eq_some_iff.mp q).1
          simpa using this
      rw [List.getElem?_range hi'] at hd
      cases hd
      refine ⟨hi', fun y H' hy => ?_⟩
      obtain ⟨rfl, rfl⟩ := hy
      exact ⟨F2, Ext.refl h2, .int _⟩
    · show _ ≤ _
      unfold rngC
      simp
  · rw [if_neg q] at h3; exact h3.elim
theorem i_r3 (hm : X.mg "range" = none) {d : Expr} (ha : PE X a (tEv c L W f)) (hb : PE X b (tEv c L W g)) (hc : PE X d (tEv c L W h)) (hg : Gl X "range" := by rfl) (hs : starEach [a, b, d] X.env = (false, eval a X.env) :: starEach [b, d] X.env := by rfl) (hs2 : starEach [b, d] X.env = (false, eval b X.env) :: starEach [d] X.env := by rfl) (hs3 : starEach [d] X.env = (false, eval d X.env) :: starEach [] X.env := by rfl) (hpl : (backTo pos (starEach [b, d] X.env)).any (·.1) = false := by rfl) : PI X tg (.Call (.Name "range" p) [a, b, d] [] pos) (tIv c L W st (itR3 f g h)) := gi_r3 hg hm ha hb hc hs hs2 hs3 hpl
end
end G
namespace GD
open PySem L2 G
noncomputable def S__law_patch_b1 : SS := G.sIf (tBl (eBin oEq (eBin oIx (eBin oIx (eVar 0) (eVar 6)) (eC (.int 0))) (eBin oIx (eBin oIx (eVar 0) (eBin oSub (eVar 6) (eC (.int 1)))) (eC (.int 0))))) (sPut 5 (eTup [eBin oIx (eBin oIx (eVar 0) (eVar 6)) (eC (.int 0)), eBi .min2 [eBin oIx (eBin oIx (eVar 0) (eVar 6)) (eC (.int 1)), eBin oIx (eBin oIx (eVar 0) (eBin oSub (eVar 6) (eC (.int 1)))) (eC (.int 1))]]) (eC (.bl true))) (sSkip)
noncomputable def S__law_patch_b2 : SS := sSeq (G.sAsg false 9 (eBin oNe (eVar 9) (eBin oInD (eTup [eVar 10, eVar 8]) (eVar 5)))) (G.sIf (tTru (eVar 9)) (sOwL 7 kAp (eTup [eVar 10, eVar 8])) (sSkip))
noncomputable def S__law_patch_b3 : SS := sSeq (G.sAsg false 9 (eC (.bl false))) (G.sFor (itR2 (eVar 1) (eVar 2)) (.one 10) S__law_patch_b2)
noncomputable def S__law_patch : SS := sSeq (G.sAsg false 1 (eUn oMin (eLc (itE false (eVar 0)) (.tup [.one 10, .one 8]) (tYes) (eVar 10) [10, 8]))) (sSeq (G.sAsg false 2 (eBi .max1 [eLc (itE false (eVar 0)) (.tup [.one 10, .one 8]) (tYes) (eVar 10) [10, 8]])) (sSeq (G.sAsg false 3 (eUn oMin (eLc (itE false (eVar 0)) (.tup [.one 10, .one 8]) (tYes) (eVar 8) [10, 8]))) (sSeq (G.sAsg false 4 (eBi .max1 [eLc (itE false (eVar 0)) (.tup [.one 10, .one 8]) (tYes) (eVar 8) [10, 8]])) (sSeq (G.sAsg true 5 (eDT)) (sSeq (G.sFor (itR1 (eBi .len [eVar 0])) (.one 6) S__law_patch_b1) (sSeq (G.sAsg true 7 (eLst [])) (sSeq (G.sFor (itR2 (eVar 3) (eVar 4)) (.one 8) S__law_patch_b3) (sRet (eUn oSrt (eVar 7))))))))))
noncomputable def R__law_patch : List D → Out (D × Bool) := denF 11 S__law_patch
noncomputable def S_upright_steps_b1 : SS := sSeq (G.sAsg false 5 (eBin oIx (eVar 0) (eBin oSub (eVar 2) (eC (.int 1))))) (G.sIf (tBl (eBin oEq (eBin oIx (eVar 5) (eC (.int 0))) (eVar 3))) (sSdApp 1 (eBi .min2 [eVar 4, eBin oIx (eVar 5) (eC (.int 1))]) (eVar 3)) (sSkip))
noncomputable def S_upright_steps : SS := sSeq (sAsgT 1 (eNewT 1 (eDK))) (sSeq (G.sFor (itEnum true (eVar 0)) (.tup [.one 2, .tup [.one 3, .one 4]]) S_upright_steps_b1) (sRetT 1 2))
noncomputable def Q_upright_steps : List D → Out D := denP 6 2 S_upright_steps
noncomputable def S_inside_b1 : SS := sOwL 1 kAp (eTup [eVar 5, eVar 2])
noncomputable def S_inside_b2 : SS := G.sFor (itR2 (eBin oIx (eVar 3) (eVar 4)) (eBin oIx (eVar 3) (eBin oAdd (eVar 4) (eC (.int 1))))) (.one 5) S_inside_b1
noncomputable def S_inside_b3 : SS := sSeq (G.sAsg false 3 (eUn oSrt (eVar 3))) (G.sFor (itR3 (eC (.int 0)) (eBi .len [eVar 3]) (eC (.int 2))) (.one 4) S_inside_b2)
noncomputable def S_inside : SS := sSeq (G.sAsg true 1 (eLst [])) (sSeq (G.sFor (itItT (eFnT 2 Q_upright_steps [eVar 0])) (.tup [.one 2, .one 3]) S_inside_b3) (sRet (eUn oSrt (eVar 1))))
noncomputable def R_inside : List D → Out (D × Bool) := denF 6 S_inside
noncomputable def S_area : SS := sRet (eBi .len [eFn R_inside [eVar 0]])
noncomputable def R_area : List D → Out (D × Bool) := denF 1 S_area
noncomputable def S_law_k14_b1 : SS := sSeq (G.sAsg false 4 (eFn R_area [eVar 3])) (sSeq (G.sTg (.tup [.one 5, .one 6, .one 7, .one 8]) (eFn R_box [eVar 3])) (sSeq (G.sIf (G.tOr (tBl (eBin oNe (eVar 4) (eBi .len [eFn R__law_patch [eVar 3]]))) (tBl (eBin oNe (eBin oMod (eVar 4) (eC (.int 4))) (eC (.int 1))))) (sRet (eC (.bl false))) (sSkip)) (G.sIf (G.tOr (tBl (eBin oNe (eBin oMod (eBin oSub (eVar 7) (eVar 5)) (eC (.int 2))) (eC (.int 1)))) (tBl (eBin oNe (eBin oMod (eBin oSub (eVar 8) (eVar 6)) (eC (.int 2))) (eC (.int 1))))) (sRet (eC (.bl false))) (sSkip))))
noncomputable def S_law_k14_t4 : SS := sRet (eC (.bl true))
noncomputable def S_law_k14_t3 : SS := sSeq (G.sFor (itE true (eFn R_rounds [eFn R__law_made [eVar 2]])) (.one 3) S_law_k14_b1) S_law_k14_t4
noncomputable def S_law_k14_t2 : SS := sSeq (G.sIf (tBl (eBin oEq (eBin oMod (eBin oIx (eVar 1) (eC (.int 12))) (eC (.int 4))) (eC (.int 1)))) (G.sAsg false 2 (eTup [eBin oMod (eBin oIx (eVar 1) (eC (.int 3))) (eC (.int 2)), eFn R__law_row [eSl (eVar 1) (some (eC (.int 4))) none, eC (.int 23)], eFn R__law_row [eSl (eVar 1) (some (eC (.int 8))) none, eC (.int 23)]])) (sSkip)) S_law_k14_t3
noncomputable def S_law_k14_t1 : SS := sSeq (G.sAsg false 2 (eFn R__law_plan [eVar 1])) S_law_k14_t2
noncomputable def S_law_k14 : SS := sSeq (G.sAsg false 1 (eFn R__law_draws [eVar 0, eC (.int 13)])) S_law_k14_t1
noncomputable def R_law_k14 : List D → Out (D × Bool) := denF 9 S_law_k14
end GD
namespace G
open PySem PySem.Spec PySem.Calls PyProof.Rows PySem.W
end G
namespace G
open PySem PySem.Spec L2 PyProof.Rows
/-- the fields of an exception, in the frozen part -/
def Flds (θ : Th) (F : Hp) (n : Nat) (fs : List D) (dd : Option Addr) : Prop := match fs with
  | [] => dd = none
  | _ => ∃ dx xs, dd = some dx ∧ F dx = some (.xd ((θ.fld n).zip xs)) ∧ (θ.fld n).length = fs.length ∧ RepL θ F fs xs
theorem Flds.mono {θ : Th} {F F' : Hp} {n : Nat} {fs : List D} {dd : Option Addr} (h : Flds θ F n fs dd) (e : Same F F') : Flds θ F' n fs dd := by
  cases fs with
  | nil => exact h
  | cons g gs =>
    obtain ⟨dx, xs, h1, h2, h3, h4⟩ := h
    exact ⟨dx, xs, h1, e _ _ h2, h3, h4.mono e⟩
end G
namespace G
open PySem PySem.Spec L2 PyProof.Rows
end G
namespace G
open PySem PySem.Spec L2 PyProof.Rows
end G
namespace G
open PySem PySem.Spec L2 PyProof.Rows
/-- the ends of a suite: behind each of them but a return the name is gone -/
def gone (i : Nat) (D : Ends) : Ends := { nx := fun σ H => D.nx (σ.set i none) H, rt := D.rt, bk := fun σ H => D.bk (σ.set i none) H, ct := fun σ H => D.ct (σ.set i none) H }
abbrev Su := Addr → Value → Option Addr → TS
inductive Cls (X : Cx) (n : Str) : List ExceptHandler → List (Value × Su) → Prop
  | nil : Cls X n [] []
  | cons {x : Str} {C : Value} {su : Su} {b₀ : Stmt} {suite : List Stmt} {np p : Pos} {hs : List ExceptHandler} {l : List (Value × Su)} : Names X x C →
      (∀ (a : Addr) (oe : Obj) (cls : Value) (d : Option Addr) (pn : List (Addr × Obj)), L2N.Zn cls d oe → (∃ vs, oe.data = .fields vs) → PSs (X.suite a ((a, oe) :: pn)) (b₀ :: suite) (su a cls d)) →
      Cls X n hs l → Cls X n (.ExceptHandler (some (.Name x np)) (some n) (b₀ :: suite) p :: hs) ((C, su) :: l)
end G
namespace GD
open PySem L2 G
end GD
namespace G
open PySem PySem.Spec L2
def NoLn : Sh → Prop
  | .lf => True
  | .nd k => ∀ i, NoLn (k i)
  | .ln _ => False
  | .l2 _ => False
/-- which fields of a class's instances are own nodes -/
def shO : Nat → Nat → Sh
  | 22 => fun i => if i = 2 then .nd fun _ => .lf else .lf
  | 23 => fun i => if i = 0 then .lf else .nd fun _ => .lf
  | _ => fun _ => .lf
section
variable {θ : Th} {B F H : Hp} {x : Option Addr}
mutual
/-- the heap at the entry does not matter to a tree -/
theorem Tr.bs {B' : Hp} : ∀ {k : Sh} {d : D} {v : V} {S : List Addr}, Tr θ B F H k d v S → Tr θ B' F H k d v S
  | _, _, _, _, .lf r => .lf r
  | _, _, _, _, .fl h r => .fl h r
  | _, _, _, _, .lst h t => .lst h (TrL.bs t)
  | _, _, _, _, .tup h hb t => .tup h hb (TrL.bs t)
  | _, _, _, _, .dK h l t => .dK h l (TrL.bs t)
  | _, _, _, _, .dT h l t => .dT h l (TrL.bs t)
  | _, _, _, _, .obj h l t => .obj h l (TrL.bs t)
  | _, _, _, _, .fll h r => .fll h r
  | _, _, _, _, .f2l h r => .f2l h r
  | _, _, _, _, .ln h t => .ln h (Tr.bs t)
  | _, _, _, _, .l2 h t => .l2 h (Tr.bs t)
theorem TrL.bs {B' : Hp} : ∀ {k : Nat → Sh} {n : Nat} {ds : List D} {vs : List V} {S : List Addr}, TrL θ B F H k n ds vs S → TrL θ B' F H k n ds vs S
  | _, _, _, _, _, .nil => .nil
  | _, _, _, _, _, .cons h t => .cons (Tr.bs h) (TrL.bs t)
end
end
open Classical in
noncomputable def ownS (ρ : Sl) (i : Nat) : Option (Bool × Nat × List D) := match ρ[i]? with
  | some (.pv k (.obj c ds)) => if k = .nd (shO c) then some (false, c, ds) else if k = .ln (shO c) then some (true, c, ds) else none
  | _ => none
def ownW (b : Bool) (c : Nat) (ds : List D) : Slot := .pv (if b then .ln (shO c) else .nd (shO c)) (.obj c ds)
inductive Lo where
  | ok (r : D) (ds : List D) | ex (n : Nat) (fs : List D) (ds : List D) | no
structure ExtL (S : List Addr) (F H F' H' : Hp) : Prop where
  sub : Sub F' H'
  ff : Same F F'
  hh : ∀ a u, H a = some u → a ∉ S → H' a = some u
  nw : ∀ a u, F' a = some u → F a = some u ∨ H a = none ∨ a ∈ S ∨ ∃ xs, u = .tup xs
end G
namespace G
open PySem PySem.Spec L2
end G
namespace G
open PySem PySem.Spec L2
inductive Om (α : Type) where
  | ok (a : α) (ρ : Sl) | ex (n : Nat) (fs : List D) (ρ : Sl) | no
def Om.bind {α β : Type} : Om α → (α → Sl → Om β) → Om β
  | .ok a ρ, f => f a ρ
  | .ex n fs ρ, _ => .ex n fs ρ
  | .no, _ => .no
@[simp] theorem om_ok {α β : Type} (a : α) (ρ : Sl) (f : α → Sl → Om β) : (Om.ok a ρ).bind f = f a ρ := rfl
@[simp] theorem om_ex {α β : Type} (n : Nat) (fs : List D) (ρ : Sl) (f : α → Sl → Om β) : (Om.ex n fs ρ : Om α).bind f = .ex n fs ρ := rfl
@[simp] theorem om_no {α β : Type} (f : α → Sl → Om β) : (Om.no : Om α).bind f = .no := rfl
abbrev EM := Sl → Om D
/-- x.m(..), f(x, ..): x the own instance of slot i, of class c, is lent -/
noncomputable def emCall (c : Nat) (R : List D → List D → Lo) (i : Nat) (fs : List ES) : EM := fun ρ => match ownS ρ i with
  | some (b, c', ds) => if c' = c then (match eArgs fs ρ with
    | .ok xs => if allSolid xs = true then (match R ds (xs.map (·.1)) with
      | .ok r ds' => .ok r (ρ.set i (ownW b c ds'))
      | .ex n gs ds' => .ex n gs (ρ.set i (ownW b c ds'))
      | .no => .no) else .no
    | .ex n gs => .ex n gs ρ
    | .no => .no) else .no
  | none => .no
def ResE (c : Cn) (L : List Addr) (W : WX) (σ : L2.St) (F : Hp) (Q : VK) : Om D → Prop
  | .ok d ρ' => ∀ v F' H', Same F F' → Rel c.θ c.F0 c.B L F' H' σ ρ' → Rep c.θ F' d v → Q v H'
  | .ex n fs ρ' => ∀ cls dd F' H', Same F F' → Rel c.θ c.F0 c.B L F' H' σ ρ' → ExV c.θ n fs cls dd F' H' → W cls dd σ H'
  | .no => False
def ResEs (c : Cn) (L : List Addr) (W : WX) (σ : L2.St) (F : Hp) (Q : List V → Hp → Prop) : Om (List D) → Prop
  | .ok ds ρ' => ∀ vs F' H', Same F F' → Rel c.θ c.F0 c.B L F' H' σ ρ' → RepL c.θ F' ds vs → Q vs H'
  | .ex n fs ρ' => ∀ cls dd F' H', Same F F' → Rel c.θ c.F0 c.B L F' H' σ ρ' → ExV c.θ n fs cls dd F' H' → W cls dd σ H'
  | .no => False
section
variable {X : Cx} {c : Cn} {L : List Addr} {W : WX} {f g h : ES} {m m1 m2 : EM} {ms : List EM} {a b e d o : Expr} {es : List Expr} {fs : List ES} {pos p apos : Pos} {F F1 H H1 : Hp} {σ : L2.St} {ρ : Sl} {Q : VK} {R : List D → List D → Lo} {cn i k : Nat} {x : Str} {fa : Addr} {fd : FuncData} {ps : List Str}
theorem ResE.mono {o : Om D} (h : ResE c L W σ F Q o) (e : Same F F1) : ResE c L W σ F1 Q o := by
  cases o with
  | ok d ρ' => exact fun v F' H' s => h v F' H' (e.trans s)
  | ex n fs ρ' => exact fun cls dd F' H' s => h cls dd F' H' (e.trans s)
  | no => exact h
theorem ResEs.mono {Q : List V → Hp → Prop} {o : Om (List D)} (h : ResEs c L W σ F Q o) (e : Same F F1) : ResEs c L W σ F1 Q o := by
  cases o with
  | ok d ρ' => exact fun v F' H' s => h v F' H' (e.trans s)
  | ex n fs ρ' => exact fun cls dd F' H' s => h cls dd F' H' (e.trans s)
  | no => exact h
end
end G
namespace G
open PySem PySem.Spec L2
/-- a changing expression, then a statement's end -/
def smWith (o : Om D) (k : D → Sl → Fl) : Fl := match o with
  | .ok d ρ => k d ρ
  | .ex n fs ρ => .ex n fs ρ
  | .no => .no
def smDrop (m : EM) : SS := fun ρ => smWith (m ρ) fun _ ρ1 => .nx ρ1
end G
namespace G
open PySem PySem.Spec L2
end G
namespace G
open PySem PySem.Spec L2
end G
namespace G
open PySem PySem.Spec L2
end G
namespace G
open PySem PySem.Spec L2
end G
namespace G
open PySem PySem.Spec L2
end G
namespace G
open PySem PySem.Spec L2
end G
namespace G
open PySem PySem.Spec L2 PySem.W PyProof.Rows
end G
namespace G
open PySem PySem.Spec L2
end G
namespace G
open PySem PySem.Spec L2
end G
namespace GD
open PySem L2 G
noncomputable def S__law_small : SS := sSeq (G.sAsg false 1 (eBin oAdd (eC (.int 1)) (eBin oMod (eBin oIx (eVar 0) (eC (.int 1))) (eBin oIx (eLst [eC (.int 5), eC (.int 9), eC (.int 16), eC (.int 40), eC (.int 5)]) (eBin oMod (eBin oIx (eVar 0) (eC (.int 0))) (eC (.int 5))))))) (sSeq (G.sAsg false 2 (eBin oAdd (eC (.int 1)) (eBin oMod (eBin oIx (eVar 0) (eC (.int 2))) (eBin oIx (eLst [eC (.int 5), eC (.int 9), eC (.int 12), eC (.int 5), eC (.int 40)]) (eBin oMod (eBin oIx (eVar 0) (eC (.int 0))) (eC (.int 5))))))) (sRet (eTup [eBin oMod (eBin oIx (eVar 0) (eC (.int 3))) (eC (.int 2)), eFn R__law_row [eSl (eVar 0) (some (eC (.int 4))) none, eBin oSub (eVar 1) (eC (.int 1))], eFn R__law_row [eSl (eVar 0) (some (eC (.int 8))) none, eBin oSub (eVar 2) (eC (.int 1))]])))
noncomputable def R__law_small : List D → Out (D × Bool) := denF 3 S__law_small
end GD
namespace G
open PySem PySem.Spec L2
end G
namespace GD
open PySem L2 G
end GD
namespace G
open PySem PySem.Spec L2
end G
namespace G
open PySem PySem.Spec L2 PyProof.Rows
/-- F' has the tuples of F -/
def SameT (F F' : Hp) : Prop := ∀ b xs, F b = some (.tup xs) → F' b = some (.tup xs)
def OnlyT (F : Hp) : Prop := ∀ b u, F b = some u → ∃ xs, u = .tup xs
theorem OnlyT.same {F F' : Hp} (h : OnlyT F) (s : SameT F F') : Same F F' := fun b u hu => by
  obtain ⟨xs, rfl⟩ := h b u hu
  exact s b xs hu
section
variable {θ : Th} {B F F' H H' : Hp}
theorem RepL.fl : ∀ {ds : List D} {vs : List V}, ds.all flat = true → RepL θ F ds vs → RepL θ F' ds vs
  | _, _, _, .nil => .nil
  | _, _, h, .cons r t => by
    rw [List.all_cons, Bool.and_eq_true] at h
    exact .cons (r.flat h.1) (RepL.fl h.2 t)
end
section
variable {θ : Th} {F H F' H' : Hp} {S : List Addr} {a : Addr} {c : Nat} {Q : VK} {E : XK}
theorem ExV.mono {n : Nat} {fs : List D} {cls : Value} {dd : Option Addr} {F2 : Hp} (h : ExV θ n fs cls dd F' H') (e : Same F' F2) : ExV θ n fs cls dd F2 H' := by
  obtain ⟨h1, h2⟩ := h
  refine ⟨h1, ?_⟩
  cases fs with
  | nil => exact h2
  | cons f fs =>
    obtain ⟨dx, xs, e1, e2, e3, e4⟩ := h2
    exact ⟨dx, xs, e1, e _ _ e2, e3, e4.mono e⟩
end
end G
namespace G
open PySem PySem.Spec L2 PyProof.Rows
section
variable {θ : Th} {F0 B F H : Hp} {σ : L2.St} {c : Nat} {ds rs : List D} {fact : D} {a r l p : Addr} {ys : List V} {z : V} {w : Str}
theorem four {α : Type} {σ : List α} (h : σ.length = 4) : ∃ x y u v, σ = [x, y, u, v] := by
  match σ, h with
  | [x, y, u, v], _ => exact ⟨x, y, u, v, rfl⟩
end
end G
namespace G
open PySem PySem.Spec L2 PyProof.Rows
end G
namespace G
open PySem PySem.Spec L2 PyProof.Rows
end G
namespace G
open PySem PySem.Spec L2 PyProof.Rows
end G
namespace GD
open PySem L2 G
end GD
namespace G
open PySem PySem.Spec L2
end G
namespace G
open PySem PySem.Spec L2 PySem.W PyProof.Rows
end G
namespace GD
open PySem L2 G
end GD
namespace G
open PySem PySem.Spec L2
end G
namespace G
open PySem PySem.Spec L2
end G
namespace G
open PySem PySem.Spec L2
end G
namespace G
open PySem PySem.Spec L2
end G
namespace GD
open PySem L2 G
end GD
namespace GD
open PySem L2 G
end GD
namespace G
open PySem PySem.Spec L2
end G
namespace G
open PySem PySem.Spec L2
end G
namespace G
open PySem PySem.Spec L2
end G
namespace PySem.SeqAt
open AutoSeq1 (wpAny_loadPart')
open MeetsSeq MeetsSeq2 MeetsSeq3 SeqRoads2
end PySem.SeqAt
namespace G
open PySem PySem.Spec L2 PySem.W PyProof.Rows
end G
namespace G
open PySem PySem.Spec L2
end G
namespace G
open PySem PySem.Spec L2
end G
namespace GD
open PySem L2 G
end GD
namespace G
open PySem PySem.Spec L2
section
variable {θ : Th} {F0 B F F' H H' : Hp} {L : List Addr} {σ : L2.St} {ρ : Sl} {i : Nat} {Z : Nat → List Addr} {S S2 : List Addr}
theorem ExtL.mono (x : ExtL S F H F' H') (h : ∀ b ∈ S, b ∈ S2) : ExtL S2 F H F' H' := ⟨x.sub, x.ff, fun a u g n => x.hh a u g fun z => n (h a z), fun a u g => by
  rcases x.nw a u g with z | z | z | z
  · exact .inl z
  · exact .inr (.inl z)
  · exact .inr (.inr (.inl (h a z)))
  · exact .inr (.inr (.inr z))⟩
end
end G
namespace GD
open PySem L2 G
end GD
namespace G
open PySem PySem.Spec L2
end G
namespace GD
open PySem L2 G
end GD
namespace G
open PySem PySem.Spec L2
end G
namespace G
open PySem PySem.Spec L2 PyProof.Rows
def strsOf : List D → Option (List Str)
  | [] => some []
  | .str s :: r => (strsOf r).map (s :: ·)
  | _ :: _ => none
@[simp] theorem strsOf_map : ∀ ys : List Str, strsOf (ys.map D.str) = some ys
  | [] => rfl
  | y :: ys => by simp [strsOf, strsOf_map ys]
end G
namespace GD
open PySem L2 G
end GD
namespace G
open PySem PySem.Spec L2
end G
namespace G
open PySem PySem.Spec L2
end G
namespace G
open PySem PySem.Spec L2
end G
namespace GD
open PySem L2 G
end GD
namespace G
open PySem PySem.Spec L2
end G
namespace G
open PySem PySem.Spec L2
end G
namespace G
open PySem PySem.Spec L2 L2H PyProof.Rows
end G
namespace G
open PySem PySem.Spec L2 PyProof.Rows
end G
namespace G
open PySem PySem.Spec L2
end G
namespace G
open PySem PySem.Spec L2
end G
namespace G
open PySem PySem.Spec L2
end G
namespace G
open PySem PySem.Spec L2 PyProof.Rows
end G
namespace GD
open PySem L2 G
end GD
namespace G
open PySem PySem.Spec L2 L2H PyProof.Rows
end G
namespace GD
open PySem L2 G
end GD
namespace G
open PySem PySem.Spec L2 L2H PyProof.Rows
end G
namespace GD
open PySem L2 G
end GD
namespace G
open PySem PySem.Spec L2
end G
namespace GD
open PySem L2 G
end GD
namespace G
open PySem PySem.Spec L2
end G
namespace G
open PySem PySem.Spec L2
/-- nothing pinned, nothing that is being made or handled -/
def PlainS (ρ : Sl) : Prop := ∀ k : Nat, ρ[k]? ≠ some .xc ∧ (∀ m es, ρ[k]? ≠ some (.me m es)) ∧ ∀ sh d, ρ[k]? = some (.pv sh d) → NoLn sh
section
variable {θ : Th} {F0 B B' F H H0 : Hp} {L : List Addr} {σ : L2.St} {ρ : Sl} {i j : Nat} {x : Option Addr} {l : Addr} {hid : List Addr}
theorem PlainS.own {k : Nat} (p : PlainS ρ) (h : Owner ρ k) : ∃ d, ρ[k]? = some (.ow d) := by
  rcases h with h | ⟨m, es, h⟩
  · exact h
  · exact absurd h ((p k).2.1 m es)
end
end G
namespace G
open PySem PySem.Spec L2 PyProof.Rows
end G
namespace G
open PySem PySem.Spec L2
end G
namespace GD
open PySem L2 G
end GD
namespace G
open PySem PySem.Spec L2 PyProof.Rows
end G
namespace G
open PySem PySem.Spec L2 PyProof.Rows
end G
namespace GD
open PySem L2 G
end GD
namespace G
open PySem PySem.Spec L2
end G
namespace G
open PySem PySem.Spec L2
end G
namespace G
open PySem PySem.Spec L2
end G
namespace GD
open PySem L2 G
end GD
namespace G
open PySem PySem.Spec L2
end G
namespace L2
open PySem PySem.Spec PyProof.Rows
end L2
namespace G
open PySem PySem.Spec L2 PySem.W PyProof.Rows
end G
namespace G
open PySem PySem.Spec L2
end G
namespace GD
open PySem L2 G
end GD
namespace TM
open PySem PySem.Spec PyProof.Rows L2
theorem five_mod4 (e : Nat) : 5 ^ e % 4 = 1 := by
  induction e with
  | zero => rfl
  | succ e ih => rw [Nat.pow_succ]; omega
theorem five_odd (e : Nat) : 5 ^ (2 * e) % 8 = 1 := by
  induction e with
  | zero => rfl
  | succ e ih => rw [show 2 * (e + 1) = 2 * e + 1 + 1 by omega, Nat.pow_succ, Nat.pow_succ]; omega
theorem odd_cop (k q : Nat) (h : q % 2 = 1) : Nat.Coprime (2 ^ k) q := by
  refine Nat.Coprime.pow_left k ?_
  unfold Nat.Coprime
  have h1 := Nat.gcd_dvd_left 2 q
  have h2 := Nat.gcd_dvd_right 2 q
  have le := Nat.le_of_dvd (by omega) h1
  generalize Nat.gcd 2 q = g at *
  have : g ≠ 0 := fun e => by subst e; obtain ⟨c, hc⟩ := h1; omega
  have : g ≠ 2 := fun e => by subst e; obtain ⟨c, hc⟩ := h2; omega
  omega
theorem five_pow : ∀ (k d : Nat), 2 ^ (k + 2) ∣ 5 ^ d - 1 → 2 ^ k ∣ d
  | 0, d, _ => ⟨d, by omega⟩
  | k + 1, d, h => by
    have pd : 0 < 5 ^ d := Nat.pow_pos (by decide)
    have e8 : 8 ∣ 5 ^ d - 1 := Nat.dvd_trans ⟨2 ^ k, by rw [show k + 1 + 2 = k + 3 by omega, Nat.pow_add]; omega⟩ h
    obtain ⟨e, he⟩ : ∃ e, d = 2 * e ∨ d = 2 * e + 1 := ⟨d / 2, by omega⟩
    rcases he with rfl | rfl
    · have m4 := five_mod4 e
      have pe : 0 < 5 ^ e := Nat.pow_pos (by decide)
      obtain ⟨q, hq⟩ : ∃ q, 5 ^ e + 1 = 2 * q := ⟨(5 ^ e + 1) / 2, by omega⟩
      have oq : q % 2 = 1 := by omega
      have fac : 5 ^ (2 * e) - 1 = (5 ^ e - 1) * (2 * q) := by
        rw [← hq, Nat.two_mul, Nat.pow_add]
        obtain ⟨x, hx⟩ : ∃ x, 5 ^ e = x + 1 := ⟨5 ^ e - 1, by omega⟩
        rw [hx]
        have : (x + 1) * (x + 1) = x * x + 2 * x + 1 := by
          rw [Nat.add_mul, Nat.mul_add]
          omega
        rw [this]
        show x * x + 2 * x + 1 - 1 = x * (x + 1 + 1)
        rw [Nat.mul_add, Nat.mul_add]
        omega
      rw [fac] at h
      have h2 : 2 ^ (k + 2) ∣ (5 ^ e - 1) * q := by
        obtain ⟨c, hc⟩ := h
        refine ⟨c, ?_⟩
        rw [show k + 1 + 2 = (k + 2) + 1 by omega, Nat.pow_succ] at hc
        have a : (5 ^ e - 1) * (2 * q) = 2 * ((5 ^ e - 1) * q) := by rw [Nat.mul_left_comm]
        have b : 2 ^ (k + 2) * 2 * c = 2 * (2 ^ (k + 2) * c) := by rw [Nat.mul_comm (2 ^ (k + 2)) 2, Nat.mul_assoc]
        omega
      obtain ⟨c, hc⟩ := five_pow k e ((odd_cop (k + 2) q oq).dvd_of_dvd_mul_right h2)
      exact ⟨c, by rw [hc, Nat.pow_succ, Nat.mul_comm (2 ^ k) 2, Nat.mul_assoc]⟩
    · exfalso
      have := five_odd e
      rw [Nat.pow_succ] at e8 pd
      obtain ⟨c, hc⟩ := e8
      omega
/-- masks: one less than a power of two -/
def Mk (m : Nat) : Prop := ∃ k, 3 ≤ k ∧ k ≤ 13 ∧ m + 1 = 2 ^ k
theorem lcg_form (m i : Nat) : ∀ k, (4 * lcgI m i k + 1) % (4 * (m + 1)) = (5 ^ k * (4 * i + 1)) % (4 * (m + 1))
  | 0 => by show (4 * i + 1) % _ = (1 * (4 * i + 1)) % _; rw [Nat.one_mul]
  | k + 1 => by
    have ih := lcg_form m i k
    show (4 * ((lcgI m i k * 5 + 1) % (m + 1)) + 1) % (4 * (m + 1)) = _
    rw [Nat.pow_succ, Nat.mul_comm (5 ^ k) 5, Nat.mul_assoc, Nat.mul_mod 5, ← ih, ← Nat.mul_mod]
    have e : (4 * ((lcgI m i k * 5 + 1) % (m + 1))) = (4 * (lcgI m i k * 5 + 1)) % (4 * (m + 1)) := (Nat.mul_mod_mul_left 4 _ _).symm
    rw [e, Nat.mod_add_mod]
    congr 1
    omega
theorem lcg_inj {m i a b : Nat} (hm : Mk m) (hab : a < b) (hb : b ≤ m) : lcgI m i a ≠ lcgI m i b := fun e => by
  obtain ⟨k, h3, h13, em⟩ := hm
  have f1 := lcg_form m i a
  have f2 := lcg_form m i b
  rw [e, f2] at f1
  have pb : 5 ^ b = 5 ^ a * 5 ^ (b - a) := by rw [← Nat.pow_add]; congr 1; omega
  have e4 : 4 * (m + 1) = 2 ^ (k + 2) := by rw [em, Nat.pow_add]; omega
  rw [e4] at f1
  have pp : 0 < 5 ^ (b - a) := Nat.pow_pos (by decide)
  have dv : 2 ^ (k + 2) ∣ 5 ^ b * (4 * i + 1) - 5 ^ a * (4 * i + 1) := Nat.dvd_of_mod_eq_zero (Nat.sub_mod_eq_zero_of_mod_eq f1)
  have fac : 5 ^ b * (4 * i + 1) - 5 ^ a * (4 * i + 1) = (5 ^ (b - a) - 1) * (5 ^ a * (4 * i + 1)) := by
    rw [Nat.sub_mul, Nat.one_mul, pb, ← Nat.mul_assoc, Nat.mul_comm (5 ^ a) (5 ^ (b - a))]
  rw [fac] at dv
  have od : (5 ^ a * (4 * i + 1)) % 2 = 1 := by
    have h1 := five_mod4 a
    rw [Nat.mul_mod, show 5 ^ a % 2 = 1 by omega, show (4 * i + 1) % 2 = 1 by omega]
  obtain ⟨c, hc⟩ := five_pow k (b - a) ((odd_cop (k + 2) _ od).dvd_of_dvd_mul_right dv)
  have : c ≠ 0 := fun z => by subst z; omega
  have : 2 ^ k ≤ 2 ^ k * c := Nat.le_mul_of_pos_right _ (by omega)
  omega
theorem lcgI_le {m i : Nat} (hi : i ≤ m) : ∀ k, lcgI m i k ≤ m
  | 0 => hi
  | k + 1 => Nat.le_of_lt_succ (Nat.mod_lt _ (Nat.succ_pos _))
/-- from anywhere each slot is met within a round -/
theorem round_all {m : Nat} (hm : Mk m) {i j : Nat} (hi : i ≤ m) (hj : j ≤ m) : ∃ k, k ≤ m ∧ lcgI m i k = j := by
  refine Classical.byContradiction fun n => ?_
  have nd : ((List.range (m + 1)).map (lcgI m i)).Nodup := by
    refine List.pairwise_map.mpr ?_
    have : (List.range (m + 1)).Pairwise (fun a b => a < b) := List.pairwise_lt_range
    refine List.Pairwise.imp_of_mem (fun {a b} ha hb h => ?_) this
    exact lcg_inj hm h (Nat.le_of_lt_succ (List.mem_range.mp hb))
  have le := nat_nodup_len _ ((List.range (m + 1)).erase j) nd fun x hx => by
    obtain ⟨k, hk, rfl⟩ := List.mem_map.mp hx
    refine (List.mem_erase_of_ne fun e => n ⟨k, Nat.le_of_lt_succ (List.mem_range.mp hk), e⟩).mpr (List.mem_range.mpr ?_)
    have := lcgI_le hi k
    omega
  rw [List.length_map, List.length_range, List.length_erase_of_mem (List.mem_range.mpr (by omega)), List.length_range] at le
  omega
theorem run_all {m : Nat} (hm : Mk m) (h : Int) {j : Nat} (hj : j ≤ m) : ∃ n, n ≤ m + 12 ∧ runI m (SetTable.bits h) n = j := by
  obtain ⟨k, hk, e⟩ := round_all hm (runI_le m (SetTable.bits h) 12) hj
  exact ⟨12 + k, by omega, by rw [runI_tail (bits_lt h)]; exact e⟩
theorem way_in {m : Nat} {h : Int} {k : Nat} : way m h k ≤ m := by
  have hi : SetTable.bits h % (m + 1) ≤ m := Nat.le_of_lt_succ (Nat.mod_lt _ (Nat.succ_pos _))
  have r := runEnd_bd hi
  have q := nth_in (m := m) k (runAt m (SetTable.bits h % (m + 1)) (SetTable.bits h)) (by
    show SetTable.bits h % (m + 1) + (SetTable.runEnd m (SetTable.bits h % (m + 1)) - SetTable.bits h % (m + 1)) ≤ m
    omega)
  show (nth m (runAt m (SetTable.bits h % (m + 1)) (SetTable.bits h)) k).j ≤ m
  omega
structure TabD (t : SetTable) (n : Nat) : Prop where
  ris : Ris t.place.toList
  dm : t.dummies = #[]
  sz : t.place.size = n
  mok : Mk t.mask
theorem TabD.put {t : SetTable} {n : Nat} (T : TabD t n) {j : Nat} (hj : j ∉ t.place.toList) :
    (t.put j).2 = SetTable.below t.place j ∧ SetTable.below t.place j ≤ n ∧ TabD (t.put j).1 (n + 1) ∧
    (t.put j).1.mask = t.mask ∧ (t.put j).1.led = t.led ∧ (t.put j).1.plain = t.plain ∧ (t.put j).1.fill = n + 1 := by
  obtain ⟨c1, _, _⟩ := below_cut T.ris j
  have hpl : SetTable.below t.place j ≤ t.place.toList.length := by
    rw [Array.length_toList]
    exact c1
  have hnp : t.place[SetTable.below t.place j]? ≠ some j := fun e => hj (List.mem_of_getElem? (by rw [Array.getElem?_toList]; exact e))
  have hsize : (t.put j).1.place.size = n + 1 := by
    rw [← Array.length_toList, put_place t j, len_ins _ hpl, Array.length_toList, T.sz]
  refine ⟨rfl, by rw [← T.sz]; exact c1, ⟨ris_insert T.ris hnp, put_dm T.dm j, hsize, T.mok⟩, rfl, rfl, rfl, ?_⟩
  show (t.put j).1.place.size + (t.put j).1.dummies.size = n + 1
  rw [hsize, put_dm T.dm j] <;> rfl
theorem free_at {m : Nat} (hm : Mk m) (owner : Array (Option Nat)) (h : Int) {j : Nat} (hj : j ≤ m) (hf : oAt owner j = none) :
    ∃ K, SetTable.layClean.free m owner (SetTable.turns m) (SetTable.bits h % (m + 1)) (SetTable.bits h) = some (way m h K) ∧ oAt owner (way m h K) = none := by
  obtain ⟨n, hn, e⟩ := run_all hm h hj
  have hw : way m h (off m (SetTable.bits h % (m + 1)) (SetTable.bits h) n) = j := by
    show (nth m (runAt m (SetTable.bits h % (m + 1)) (SetTable.bits h)) (off m (SetTable.bits h % (m + 1)) (SetTable.bits h) n)).j = j
    rw [nth_off, itL_run]
    exact e
  obtain ⟨K, k1, k2, k3⟩ := st_least (p := fun k => oAt owner (way m h k) = none) (off m (SetTable.bits h % (m + 1)) (SetTable.bits h) n) (by
    show oAt owner (way m h (off m (SetTable.bits h % (m + 1)) (SetTable.bits h) n)) = none
    rw [hw]
    exact hf)
  refine ⟨K, free_spec m owner (SetTable.turns m) n _ _ K (by unfold SetTable.turns; omega) k1 (fun k hk => ?_) ?_, k2⟩
  · have q := k3 k hk
    cases z : oAt owner (nth m (runAt m (SetTable.bits h % (m + 1)) (SetTable.bits h)) k).j with
    | none => exact absurd z q
    | some _ => rfl
  · have q : oAt owner (nth m (runAt m (SetTable.bits h % (m + 1)) (SetTable.bits h)) K).j = none := k2
    rw [q] <;> rfl
/-- who sits where -/
structure Sits (m n : Nat) (owner : Array (Option Nat)) : Prop where
  sz : owner.size = m + 1
  all : ∀ k, k < n → ∃ j, j ≤ m ∧ oAt owner j = some k
  ps : ∃ ps : List Nat, ps.length = n ∧ ∀ j, j ≤ m → oAt owner j ≠ none → j ∈ ps
theorem Sits.init (m : Nat) : Sits m 0 (Array.replicate (m + 1) none) where
  sz := by simp
  all := fun k hk => absurd hk (Nat.not_lt_zero _)
  ps := ⟨[], rfl, fun j hj e => absurd (oAt_init hj) e⟩
theorem Sits.step {m n : Nat} (hm : Mk m) {owner : Array (Option Nat)} (W : Sits m n owner) (hl : n ≤ m) (h : Int) :
    ∃ j, SetTable.layClean.free m owner (SetTable.turns m) (SetTable.bits h % (m + 1)) (SetTable.bits h) = some j ∧ Sits m (n + 1) (owner.setIfInBounds j (some n)) := by
  obtain ⟨ps, hps, hin⟩ := W.ps
  obtain ⟨j0, h0, hn0⟩ := st_missing ps (m + 1) (by omega)
  have hj0 : oAt owner j0 = none := by
    cases z : oAt owner j0 with
    | none => rfl
    | some k => exact absurd (hin j0 (Nat.le_of_lt_succ h0) (by rw [z]; exact fun e => nomatch e)) hn0
  obtain ⟨K, e1, e2⟩ := free_at hm owner h (Nat.le_of_lt_succ h0) hj0
  have hjs : way m h K < owner.size := by
    rw [W.sz]
    exact Nat.lt_succ_of_le way_in
  have hself := oAt_set_self (some n) hjs
  refine ⟨way m h K, e1, by rw [Array.size_setIfInBounds]; exact W.sz, fun k hk => ?_, ⟨way m h K :: ps, by rw [List.length_cons, hps], fun j hj e => ?_⟩⟩
  · by_cases c : k < n
    · obtain ⟨j, hj, e⟩ := W.all k c
      refine ⟨j, hj, ?_⟩
      rw [oAt_set_ne _ (fun z => by rw [z, e2] at e; cases e)]
      exact e
    · have ek : k = n := by omega
      rw [ek]
      exact ⟨way m h K, way_in, hself⟩
  · by_cases c : j = way m h K
    · rw [c]
      exact List.mem_cons_self
    · rw [oAt_set_ne _ c] at e
      exact List.mem_cons_of_mem _ (hin j hj e)
end TM
namespace TM
open PySem PySem.Spec PyProof.Rows L2
section
variable {P : Program} {w : World} {A : Around} {E : Value → Shared → Prop} {s : Shared}
structure SetD (P : Program) (w : World) (h : Heap) (a : Addr) (L : List (Addr × List Int)) (es : Array (Int × Value)) (ep : Nat) (t : SetTable) : Prop where
  ob : ∃ o, h.get? a = some o ∧ o.ExactSet ∧ o.data = .set es ep t
  rows : es.toList = rowsOf P w L
  tab : TabD t L.length
  tup : ∀ p ∈ L, IsT P w h p.2 p.1
  plain : t.plain = true
  led : w.params.followText "set-order" = true ∨ t.led = true
  room : L.length * 5 < t.mask * 3
  few : L.length ≤ 2000
variable {a : Addr} {L : List (Addr × List Int)} {es : Array (Int × Value)} {ep : Nat} {t : SetTable}
theorem SetD.size (R : SetD P w s.heap a L es ep t) : es.size = L.length := by
  have h := congrArg List.length R.rows
  unfold rowsOf at h
  rw [Array.length_toList, List.length_map] at h
  exact h
end
end TM
namespace TM
open PySem PySem.Spec PyProof.Rows L2
section
variable {P : Program} {w : World} {A : Around} {E : Value → Shared → Prop} {s : Shared}
theorem SetD.keep {h h' : Heap} {a : Addr} {L : List (Addr × List Int)} {es : Array (Int × Value)} {ep : Nat} {t : SetTable} (R : SetD P w h a L es ep t) (ha : ∀ o, h.get? a = some o → h'.get? a = some o) (ht : ∀ p ∈ L, IsT P w h' p.2 p.1) : SetD P w h' a L es ep t := by
  obtain ⟨o, ho, r⟩ := R.ob
  exact ⟨⟨o, ha o ho, r⟩, R.rows, R.tab, ht, R.plain, R.led, R.room, R.few⟩
end
end TM
namespace G
open PySem PySem.Spec L2
end G
namespace GD
open PySem L2 G
end GD
namespace K14
open PySem L2 G GD
def top (i : Nat) : Stmt := PySem.Challenge.pw_sashiko_k14_whole_areas_leave_one.main.body.getD i (.Pass ⟨0, 0, 0, 0⟩)
def mth (i j : Nat) : Stmt := match top i with
  | .ClassDef _ _ _ body _ _ _ _ _ _ _ => body.getD j (.Pass ⟨0, 0, 0, 0⟩)
  | s => s
abbrev st__law_draws : Stmt := top 28
def d__law_draws : He.DefD := ⟨("_law_draws", none), "_law_draws", "_law_draws", defArgs st__law_draws, defBody st__law_draws, defScope st__law_draws, [], []⟩
abbrev N__law_draws : List Str := ["_law_script", "_law_many", "_law_rows", "_law_mix", "_law_cell", "_law_rest"]
theorem sc__law_draws : FnScope N__law_draws ["_law_script", "_law_many"] (defScope st__law_draws) := ⟨rfl, rfl, rfl, by decide +kernel, rfl, by decide +kernel, by decide +kernel⟩
abbrev st__law_bits : Stmt := top 29
def d__law_bits : He.DefD := ⟨("_law_bits", none), "_law_bits", "_law_bits", defArgs st__law_bits, defBody st__law_bits, defScope st__law_bits, [], []⟩
abbrev N__law_bits : List Str := ["_law_number", "_law_many", "_law_row_here", "_law_k"]
theorem sc__law_bits : FnScope N__law_bits ["_law_number", "_law_many"] (defScope st__law_bits) := ⟨rfl, rfl, rfl, by decide +kernel, rfl, by decide +kernel, by decide +kernel⟩
abbrev st__law_row : Stmt := top 30
def d__law_row : He.DefD := ⟨("_law_row", none), "_law_row", "_law_row", defArgs st__law_row, defBody st__law_row, defScope st__law_row, [], []⟩
abbrev N__law_row : List Str := ["_law_some", "_law_many", "_law_raw", "_law_row_here", "_law_k"]
theorem sc__law_row : FnScope N__law_row ["_law_some", "_law_many"] (defScope st__law_row) := ⟨rfl, rfl, rfl, by decide +kernel, rfl, by decide +kernel, by decide +kernel⟩
abbrev st__law_plan : Stmt := top 31
def d__law_plan : He.DefD := ⟨("_law_plan", none), "_law_plan", "_law_plan", defArgs st__law_plan, defBody st__law_plan, defScope st__law_plan, [], []⟩
abbrev N__law_plan : List Str := ["_law_some", "_law_wide", "_law_tall"]
theorem sc__law_plan : FnScope N__law_plan ["_law_some"] (defScope st__law_plan) := ⟨rfl, rfl, rfl, by decide +kernel, rfl, by decide +kernel, by decide +kernel⟩
abbrev st_first_point : Stmt := top 16
def d_first_point : He.DefD := ⟨("first_point", none), "first_point", "first_point", defArgs st_first_point, defBody st_first_point, defScope st_first_point, [], []⟩
abbrev N_first_point : List Str := ["one"]
theorem sc_first_point : FnScope N_first_point ["one"] (defScope st_first_point) := ⟨rfl, rfl, rfl, by decide +kernel, rfl, by decide +kernel, by decide +kernel⟩
abbrev st_Cloth_wide : Stmt := mth 26 4
def d_Cloth_wide : He.DefD := ⟨("Cloth", some "wide"), "wide", "Cloth.wide", defArgs st_Cloth_wide, defBody st_Cloth_wide, defScope st_Cloth_wide, [], []⟩
abbrev N_Cloth_wide : List Str := ["self"]
theorem sc_Cloth_wide : FnScope N_Cloth_wide ["self"] (defScope st_Cloth_wide) := ⟨rfl, rfl, rfl, by decide +kernel, rfl, by decide +kernel, by decide +kernel⟩
abbrev st_Cloth_tall : Stmt := mth 26 5
def d_Cloth_tall : He.DefD := ⟨("Cloth", some "tall"), "tall", "Cloth.tall", defArgs st_Cloth_tall, defBody st_Cloth_tall, defScope st_Cloth_tall, [], []⟩
abbrev N_Cloth_tall : List Str := ["self"]
theorem sc_Cloth_tall : FnScope N_Cloth_tall ["self"] (defScope st_Cloth_tall) := ⟨rfl, rfl, rfl, by decide +kernel, rfl, by decide +kernel, by decide +kernel⟩
abbrev st_Cloth_bit : Stmt := mth 26 6
def d_Cloth_bit : He.DefD := ⟨("Cloth", some "bit"), "bit", "Cloth.bit", defArgs st_Cloth_bit, defBody st_Cloth_bit, defScope st_Cloth_bit, [], []⟩
abbrev N_Cloth_bit : List Str := ["self", "way", "k"]
theorem sc_Cloth_bit : FnScope N_Cloth_bit ["self", "way", "k"] (defScope st_Cloth_bit) := ⟨rfl, rfl, rfl, by decide +kernel, rfl, by decide +kernel, by decide +kernel⟩
abbrev st_Cloth_steps : Stmt := mth 26 7
def d_Cloth_steps : He.DefD := ⟨("Cloth", some "steps"), "steps", "Cloth.steps", defArgs st_Cloth_steps, defBody st_Cloth_steps, defScope st_Cloth_steps, [], []⟩
abbrev N_Cloth_steps : List Str := ["self", "way"]
theorem sc_Cloth_steps : FnScope N_Cloth_steps ["self", "way"] (defScope st_Cloth_steps) := ⟨rfl, rfl, rfl, by decide +kernel, rfl, by decide +kernel, by decide +kernel⟩
abbrev st_Cloth_stitched : Stmt := mth 26 8
def d_Cloth_stitched : He.DefD := ⟨("Cloth", some "stitched"), "stitched", "Cloth.stitched", defArgs st_Cloth_stitched, defBody st_Cloth_stitched, defScope st_Cloth_stitched, [], []⟩
abbrev N_Cloth_stitched : List Str := ["self", "way", "k", "step", "bit"]
theorem sc_Cloth_stitched : FnScope N_Cloth_stitched ["self", "way", "k", "step"] (defScope st_Cloth_stitched) := ⟨rfl, rfl, rfl, by decide +kernel, rfl, by decide +kernel, by decide +kernel⟩
abbrev st_along_row : Stmt := top 9
def d_along_row : He.DefD := ⟨("along_row", none), "along_row", "along_row", defArgs st_along_row, defBody st_along_row, defScope st_along_row, [], []⟩
abbrev N_along_row : List Str := ["cloth", "x", "y"]
theorem sc_along_row : FnScope N_along_row ["cloth", "x", "y"] (defScope st_along_row) := ⟨rfl, rfl, rfl, by decide +kernel, rfl, by decide +kernel, by decide +kernel⟩
abbrev st_along_column : Stmt := top 10
def d_along_column : He.DefD := ⟨("along_column", none), "along_column", "along_column", defArgs st_along_column, defBody st_along_column, defScope st_along_column, [], []⟩
abbrev N_along_column : List Str := ["cloth", "x", "y"]
theorem sc_along_column : FnScope N_along_column ["cloth", "x", "y"] (defScope st_along_column) := ⟨rfl, rfl, rfl, by decide +kernel, rfl, by decide +kernel, by decide +kernel⟩
abbrev st_joined : Stmt := top 11
def d_joined : He.DefD := ⟨("joined", none), "joined", "joined", defArgs st_joined, defBody st_joined, defScope st_joined, [], []⟩
abbrev N_joined : List Str := ["cloth", "point", "x", "y"]
theorem sc_joined : FnScope N_joined ["cloth", "point"] (defScope st_joined) := ⟨rfl, rfl, rfl, by decide +kernel, rfl, by decide +kernel, by decide +kernel⟩
abbrev st_followed : Stmt := top 12
def d_followed : He.DefD := ⟨("followed", none), "followed", "followed", defArgs st_followed, defBody st_followed, defScope st_followed, [], []⟩
abbrev N_followed : List Str := ["cloth", "begin", "second", "line", "last", "here", "ahead", "point"]
theorem sc_followed : FnScope N_followed ["cloth", "begin", "second"] (defScope st_followed) := ⟨rfl, rfl, rfl, by decide +kernel, rfl, by decide +kernel, by decide +kernel⟩
abbrev st_from_least : Stmt := top 13
def d_from_least : He.DefD := ⟨("from_least", none), "from_least", "from_least", defArgs st_from_least, defBody st_from_least, defScope st_from_least, [], []⟩
abbrev N_from_least : List Str := ["line", "at", "turned"]
theorem sc_from_least : FnScope N_from_least ["line"] (defScope st_from_least) := ⟨rfl, rfl, rfl, by decide +kernel, rfl, by decide +kernel, by decide +kernel⟩
abbrev st_seam : Stmt := top 14
def d_seam : He.DefD := ⟨("seam", none), "seam", "seam", defArgs st_seam, defBody st_seam, defScope st_seam, [], []⟩
abbrev N_seam : List Str := ["cloth", "point", "near", "comes_back", "line"]
theorem sc_seam : FnScope N_seam ["cloth", "point"] (defScope st_seam) := ⟨rfl, rfl, rfl, by decide +kernel, rfl, by decide +kernel, by decide +kernel⟩
abbrev st_seams : Stmt := top 15
def d_seams : He.DefD := ⟨("seams", none), "seams", "seams", defArgs st_seams, defBody st_seams, defScope st_seams, [], []⟩
abbrev N_seams : List Str := ["cloth", "seen", "found", "x", "y", "one", "point"]
theorem sc_seams : FnScope N_seams ["cloth"] (defScope st_seams) := ⟨rfl, rfl, rfl, by decide +kernel, rfl, by decide +kernel, by decide +kernel⟩
abbrev st_rounds : Stmt := top 17
def d_rounds : He.DefD := ⟨("rounds", none), "rounds", "rounds", defArgs st_rounds, defBody st_rounds, defScope st_rounds, [], []⟩
abbrev N_rounds : List Str := ["cloth", "comes_back", "line"]
theorem sc_rounds : FnScope N_rounds ["cloth"] (defScope st_rounds) := ⟨rfl, rfl, rfl, by decide +kernel, rfl, by decide +kernel, by decide +kernel⟩
abbrev st_ask_bits : Stmt := top 25
def d_ask_bits : He.DefD := ⟨("ask_bits", none), "ask_bits", "ask_bits", defArgs st_ask_bits, defBody st_ask_bits, defScope st_ask_bits, [], []⟩
abbrev N_ask_bits : List Str := ["bits", "bit"]
theorem sc_ask_bits : FnScope N_ask_bits ["bits"] (defScope st_ask_bits) := ⟨rfl, rfl, rfl, by decide +kernel, rfl, by decide +kernel, by decide +kernel⟩
abbrev st_Cloth___init__ : Stmt := mth 26 0
def d_Cloth___init__ : He.DefD := ⟨("Cloth", some "__init__"), "__init__", "Cloth.__init__", defArgs st_Cloth___init__, defBody st_Cloth___init__, defScope st_Cloth___init__, [], []⟩
abbrev N_Cloth___init__ : List Str := ["self", "shade", "cols", "rows"]
theorem sc_Cloth___init__ : FnScope N_Cloth___init__ ["self", "shade", "cols", "rows"] (defScope st_Cloth___init__) := ⟨rfl, rfl, rfl, by decide +kernel, rfl, by decide +kernel, by decide +kernel⟩
abbrev st__law_made : Stmt := top 32
def d__law_made : He.DefD := ⟨("_law_made", none), "_law_made", "_law_made", defArgs st__law_made, defBody st__law_made, defScope st__law_made, [], []⟩
abbrev N__law_made : List Str := ["_law_plan_here"]
theorem sc__law_made : FnScope N__law_made ["_law_plan_here"] (defScope st__law_made) := ⟨rfl, rfl, rfl, by decide +kernel, rfl, by decide +kernel, by decide +kernel⟩
abbrev st_upright_steps : Stmt := top 20
def d_upright_steps : He.DefD := ⟨("upright_steps", none), "upright_steps", "upright_steps", defArgs st_upright_steps, defBody st_upright_steps, defScope st_upright_steps, [], []⟩
abbrev N_upright_steps : List Str := ["line", "found", "at", "x", "y", "there"]
theorem sc_upright_steps : FnScope N_upright_steps ["line"] (defScope st_upright_steps) := ⟨rfl, rfl, rfl, by decide +kernel, rfl, by decide +kernel, by decide +kernel⟩
abbrev st_inside : Stmt := top 21
def d_inside : He.DefD := ⟨("inside", none), "inside", "inside", defArgs st_inside, defBody st_inside, defScope st_inside, [], []⟩
abbrev N_inside : List Str := ["line", "found", "y", "places", "at", "x"]
theorem sc_inside : FnScope N_inside ["line"] (defScope st_inside) := ⟨rfl, rfl, rfl, by decide +kernel, rfl, by decide +kernel, by decide +kernel⟩
abbrev st_area : Stmt := top 22
def d_area : He.DefD := ⟨("area", none), "area", "area", defArgs st_area, defBody st_area, defScope st_area, [], []⟩
abbrev N_area : List Str := ["line"]
theorem sc_area : FnScope N_area ["line"] (defScope st_area) := ⟨rfl, rfl, rfl, by decide +kernel, rfl, by decide +kernel, by decide +kernel⟩
abbrev st_box : Stmt := top 19
def d_box : He.DefD := ⟨("box", none), "box", "box", defArgs st_box, defBody st_box, defScope st_box, [], []⟩
abbrev N_box : List Str := ["line", "across", "up", "x", "y"]
theorem sc_box : FnScope N_box ["line"] (defScope st_box) := ⟨rfl, rfl, rfl, by decide +kernel, rfl, by decide +kernel, by decide +kernel⟩
abbrev st__law_patch : Stmt := top 33
def d__law_patch : He.DefD := ⟨("_law_patch", none), "_law_patch", "_law_patch", defArgs st__law_patch, defBody st__law_patch, defScope st__law_patch, [], []⟩
abbrev N__law_patch : List Str := ["_law_line", "_law_left", "_law_right", "_law_low", "_law_high", "_law_shuts", "_law_at", "_law_found", "_law_y", "_law_within", "_law_x"]
theorem sc__law_patch : FnScope N__law_patch ["_law_line"] (defScope st__law_patch) := ⟨rfl, rfl, rfl, by decide +kernel, rfl, by decide +kernel, by decide +kernel⟩
abbrev st_law : Stmt := top 34
def d_law : He.DefD := ⟨("law", none), "law", "law", defArgs st_law, defBody st_law, defScope st_law, [], []⟩
abbrev N_law : List Str := ["_law_script", "_law_some", "_law_plan_here", "_law_line", "_law_many", "_law_left", "_law_low", "_law_right", "_law_high"]
theorem sc_law : FnScope N_law ["_law_script"] (defScope st_law) := ⟨rfl, rfl, rfl, by decide +kernel, rfl, by decide +kernel, by decide +kernel⟩
def cname : Nat → Str
  | 0 => "SewError"
  | 1 => "BadSize"
  | 2 => "BadBit"
  | 3 => "NoCell"
  | 4 => "NoLine"
  | 5 => "NoStep"
  | 6 => "NoPoint"
  | 20 => "Cloth"
  | _ => ""
def cflds : Nat → List Str
  | 20 => ["corner", "upright", "level"]
  | _ => []
abbrev th (K : PySem.W.Frag) : Th := ⟨K, none, fun n => He.ga K (cname n), cflds, none⟩
def fn : List He.DefD := [d__law_draws, d__law_bits, d__law_row, d__law_plan, d_first_point, d_Cloth_wide, d_Cloth_tall, d_Cloth_bit, d_Cloth_steps, d_Cloth_stitched, d_along_row, d_along_column, d_joined, d_followed, d_from_least, d_seam, d_seams, d_rounds, d_ask_bits, d_Cloth___init__, d__law_made, d_upright_steps, d_inside, d_area, d_box, d__law_patch, d_law]
def fa : List He.Fa := [.free "abs", .free "len", .free "range", .glo "_law_bits", .glo "_law_row", .cls "Cloth", .noat "Cloth" "upright", .noat "Cloth" "level", .glo "NoLine", .exc "NoLine", .meth "Cloth" "tall", .meth "Cloth" "wide", .meth "Cloth" "bit", .meth "Cloth" "steps", .glo "NoStep", .exc "NoStep", .meth "Cloth" "stitched", .glo "NoPoint", .exc "NoPoint", .glo "along_row", .glo "along_column", .free "sorted", .glo "joined", .free "min", .glo "followed", .glo "from_least", .glo "seam", .glo "first_point", .glo "seams", .glo "BadBit", .exc "BadBit", .int "MOST" 40, .glo "BadSize", .exc "BadSize", .free "list", .glo "ask_bits", .noat "Cloth" "corner", .mkr "Cloth", .glo "Cloth", .free "enumerate", .glo "upright_steps", .glo "inside", .free "max", .glo "_law_draws", .glo "_law_plan", .glo "_law_made", .glo "rounds", .glo "area", .glo "box", .glo "_law_patch", .glo "law"]
section
variable {P : Program} {w : World} {K : PySem.W.Frag} {h base : Heap} {mg : Str → Option Value}
theorem ok__law_draws (KX : K.In h) (G : h.Ns mainGlobals mg) (c : He.SaysD fa fn K) : Fine P w K mg base (th K) 1 d__law_draws 2 R__law_draws := by
  obtain ⟨fd, F⟩ := c.def_ 0 (d := d__law_draws) rfl
  refine ⟨fd, _, fn_ok F sc__law_draws rfl (fun cdv A outer s H E F0 B L b => ?_), F.bindsN (fun _ _ _ _ _ _ us hl => match us, hl with | [_, _], _ => rfl), F.kp⟩
  have x : XC (BX P w K mg base N__law_draws d__law_draws.qual d__law_draws.scope (He.fAd K d__law_draws.at_) cdv A outer s H E) ⟨th K, F0, B⟩ := ⟨⟨rfl, sc__law_draws.nd, u128 b.rm⟩, rfl⟩
  exact gss_cons (gs_set (own := true) (i := 2) x.nd (pg_lst pga_nil) (.inl rfl)) (gss_cons (gs_set (own := false) (i := 3) x.nd (g_int) (.inl rfl)) (gss_cons (gs_for b.po x.calm (i_list (st := true) x.toXB (g_var 0 (.inl rfl))) (t_name x.toXB 4 (.inl rfl) (.inl rfl)) (gss_cons (gs_set (own := false) (i := 3) x.nd (g_bin (ob_mod x.toXB) (g_bin (ob_add x.toXB) (g_bin (ob_mul x.toXB) (g_var 3 (.inl rfl)) (g_int)) (g_var 4 (.inl rfl))) (g_int)) (.inl rfl)) (gss_cons (gs_set (own := false) (i := 5) x.nd (g_bi (bf_abs x.toXB) (He.free_ok KX G (c.fact 0 (f := .free "abs") rfl)) (g_cons (g_var 4 (.inl rfl)) pga_nil)) (.inl rfl)) (gss_cons (gs_if (t_cmp (oc_lt x.toXB) (g_var 5 (.inl rfl)) (g_bin (ob_pow x.toXB) (g_int) (g_int))) (gss_cons (gs_append (i := 2) (g_var 4 (.inl rfl)) (.inl rfl)) (gss_one (gs_set (own := false) (i := 5) x.nd (g_int) (.inl rfl)))) (gss_nil)) (gss_one (gs_while b.po (t_pw (pgw_and (t_cmp (oc_gt x.toXB) (g_var 5 (.inl rfl)) (g_int)) (pw_and1 (t_cmp (oc_lt x.toXB) (g_bi (bf_len x.toXB) (He.free_ok KX G (c.fact 1 (f := .free "len") rfl)) (g_cons (g_var 2 (.inl rfl)) pga_nil)) (g_var 1 (.inl rfl)))))) (gss_cons (gs_append (i := 2) (g_bin (ob_mod x.toXB) (g_var 5 (.inl rfl)) (g_int)) (.inl rfl)) (gss_one (gs_set (own := false) (i := 5) x.nd (g_bin (ob_div x.toXB) (g_var 5 (.inl rfl)) (g_int)) (.inl rfl)))))))))) (gss_cons (gs_while b.po (t_cmp (oc_lt x.toXB) (g_bi (bf_len x.toXB) (He.free_ok KX G (c.fact 1 (f := .free "len") rfl)) (g_cons (g_var 2 (.inl rfl)) pga_nil)) (g_var 1 (.inl rfl))) (gss_cons (gs_set (own := false) (i := 3) x.nd (g_bin (ob_mod x.toXB) (g_bin (ob_add x.toXB) (g_bin (ob_mul x.toXB) (g_var 3 (.inl rfl)) (g_int)) (g_int)) (g_int)) (.inl rfl)) (gss_one (gs_append (i := 2) (g_bin (ob_mod x.toXB) (g_bin (ob_mul x.toXB) (g_var 3 (.inl rfl)) (g_var 3 (.inl rfl))) (g_int)) (.inl rfl))))) (gss_one (gs_ret (g_var 2 (.inl rfl)))))))
theorem ok__law_bits (KX : K.In h) (G : h.Ns mainGlobals mg) (c : He.SaysD fa fn K) : Fine P w K mg base (th K) 1 d__law_bits 2 R__law_bits := by
  obtain ⟨fd, F⟩ := c.def_ 1 (d := d__law_bits) rfl
  refine ⟨fd, _, fn_ok F sc__law_bits rfl (fun cdv A outer s H E F0 B L b => ?_), F.bindsN (fun _ _ _ _ _ _ us hl => match us, hl with | [_, _], _ => rfl), F.kp⟩
  have x : XC (BX P w K mg base N__law_bits d__law_bits.qual d__law_bits.scope (He.fAd K d__law_bits.at_) cdv A outer s H E) ⟨th K, F0, B⟩ := ⟨⟨rfl, sc__law_bits.nd, u128 b.rm⟩, rfl⟩
  exact gss_cons (gs_set (own := true) (i := 2) x.nd (pg_lst pga_nil) (.inl rfl)) (gss_cons (gs_for b.po x.calm (i_r1 (st := true) (He.free_ok KX G (c.fact 2 (f := .free "range") rfl)) (g_var 1 (.inl rfl))) (t_name x.toXB 3 (.inl rfl) (.inl rfl)) (gss_cons (gs_append (i := 2) (g_bin (ob_mod x.toXB) (g_var 0 (.inl rfl)) (g_int)) (.inl rfl)) (gss_one (gs_set (own := false) (i := 0) x.nd (g_bin (ob_div x.toXB) (g_var 0 (.inl rfl)) (g_int)) (.inl rfl))))) (gss_one (gs_ret (g_var 2 (.inl rfl)))))
theorem ok__law_row (KX : K.In h) (G : h.Ns mainGlobals mg) (c : He.SaysD fa fn K) : Fine P w K mg base (th K) 2 d__law_row 2 R__law_row := by
  obtain ⟨fd, F⟩ := c.def_ 2 (d := d__law_row) rfl
  refine ⟨fd, _, fn_ok F sc__law_row rfl (fun cdv A outer s H E F0 B L b => ?_), F.bindsN (fun _ _ _ _ _ _ us hl => match us, hl with | [_, _], _ => rfl), F.kp⟩
  have x : XC (BX P w K mg base N__law_row d__law_row.qual d__law_row.scope (He.fAd K d__law_row.at_) cdv A outer s H E) ⟨th K, F0, B⟩ := ⟨⟨rfl, sc__law_row.nd, u128 b.rm⟩, rfl⟩
  exact gss_cons (gs_set (own := false) (i := 2) x.nd (g_bin (ob_add x.toXB) (g_bin (ob_add x.toXB) (g_ix x.toXB (g_var 0 (.inr (.inl rfl))) (g_int)) (g_bin (ob_mul x.toXB) (g_int) (g_ix x.toXB (g_var 0 (.inr (.inl rfl))) (g_int)))) (g_bin (ob_mul x.toXB) (g_bin (ob_mul x.toXB) (g_int) (g_int)) (g_ix x.toXB (g_var 0 (.inr (.inl rfl))) (g_int)))) (.inl rfl)) (gss_cons (gs_if (t_cmp (oc_eq x.toXB) (g_bin (ob_mod x.toXB) (g_ix x.toXB (g_var 0 (.inr (.inl rfl))) (g_int)) (g_int)) (g_int)) (gss_one (gs_set (own := false) (i := 2) x.nd (pg_neg (g_bin (ob_mod x.toXB) (g_ix x.toXB (g_var 0 (.inr (.inl rfl))) (g_int)) (g_int))) (.inl rfl))) (gss_nil)) (gss_cons (gs_set (own := false) (i := 3) x.nd (g_call (R := R__law_bits) (k := 1) (m := 2) (Fine.call (dd := d__law_bits) (ok__law_bits KX G c)) b.rm (by decide) b.tk (He.glo_ok KX G (c.fact 3 (f := .glo "_law_bits") rfl)) (g_cons (g_var 2 (.inl rfl)) (g_cons (g_var 1 (.inl rfl)) pga_nil))) (.inr rfl)) (gss_cons (gs_if (t_cmp (oc_eq x.toXB) (g_bin (ob_mod x.toXB) (g_ix x.toXB (g_var 0 (.inr (.inl rfl))) (g_int)) (g_int)) (g_int)) (gss_one (gs_set (own := false) (i := 3) x.nd (pg_lc (own := [("_law_k", 4)]) (by decide) x.calm x.nd (i_r1 (st := false) (He.free_ok KX G (c.fact 2 (f := .free "range") rfl)) (g_var 1 (.inl rfl))) (blkOk_by (N := N__law_row) (sc := defScope st__law_row) (by decide +kernel)) (fun _ _ _ _ _ => t_name x.blk.toXB 4 (.inl rfl) (.inr rfl)) (fun _ _ _ _ _ => pgts_nil) (fun _ _ _ _ _ => g_ix x.blk.toXB (g_var 3 (by first | exact .inr (.inl rfl) | exact .inr (.inr rfl))) (g_bin (ob_mod x.blk.toXB) (g_var 4 (.inl rfl)) (g_bin (ob_add x.blk.toXB) (g_int) (g_bin (ob_mod x.blk.toXB) (g_ix x.blk.toXB (g_var 0 (by first | exact .inr (.inl rfl) | exact .inr (.inr rfl))) (g_int)) (g_int))))) (fun _ => rfl)) (.inr rfl))) (gss_nil)) (gss_one (gs_ret (g_var 3 (.inr (.inl rfl))))))))
theorem ok__law_plan (KX : K.In h) (G : h.Ns mainGlobals mg) (c : He.SaysD fa fn K) : Fine P w K mg base (th K) 3 d__law_plan 1 R__law_plan := by
  obtain ⟨fd, F⟩ := c.def_ 3 (d := d__law_plan) rfl
  refine ⟨fd, _, fn_ok F sc__law_plan rfl (fun cdv A outer s H E F0 B L b => ?_), F.bindsN (fun _ _ _ _ _ _ us hl => match us, hl with | [_], _ => rfl), F.kp⟩
  have x : XC (BX P w K mg base N__law_plan d__law_plan.qual d__law_plan.scope (He.fAd K d__law_plan.at_) cdv A outer s H E) ⟨th K, F0, B⟩ := ⟨⟨rfl, sc__law_plan.nd, u128 b.rm⟩, rfl⟩
  exact gss_cons (gs_set (own := false) (i := 1) x.nd (g_bin (ob_add x.toXB) (g_int) (g_bin (ob_mod x.toXB) (g_ix x.toXB (g_var 0 (.inl rfl)) (g_int)) (g_ix x.toXB (pg_lst (g_cons (g_int) (g_cons (g_int) (g_cons (g_int) (g_cons (g_int) (g_cons (g_int) pga_nil)))))) (g_bin (ob_mod x.toXB) (g_ix x.toXB (g_var 0 (.inl rfl)) (g_int)) (g_int))))) (.inl rfl)) (gss_cons (gs_set (own := false) (i := 2) x.nd (g_bin (ob_add x.toXB) (g_int) (g_bin (ob_mod x.toXB) (g_ix x.toXB (g_var 0 (.inl rfl)) (g_int)) (g_ix x.toXB (pg_lst (g_cons (g_int) (g_cons (g_int) (g_cons (g_int) (g_cons (g_int) (g_cons (g_int) pga_nil)))))) (g_bin (ob_mod x.toXB) (g_ix x.toXB (g_var 0 (.inl rfl)) (g_int)) (g_int))))) (.inl rfl)) (gss_one (gs_ret (pg_tup (g_cons (g_bin (ob_mod x.toXB) (g_ix x.toXB (g_var 0 (.inl rfl)) (g_int)) (g_int)) (g_cons (g_call (R := R__law_row) (k := 2) (m := 2) (Fine.call (dd := d__law_row) (ok__law_row KX G c)) b.rm (by decide) b.tk (He.glo_ok KX G (c.fact 4 (f := .glo "_law_row") rfl)) (g_cons (g_sl x.toXB (g_var 0 (.inl rfl)) (pgo_some (g_int)) pgo_none) (g_cons (g_bin (ob_sub x.toXB) (g_var 1 (.inl rfl)) (g_int)) pga_nil))) (g_cons (g_call (R := R__law_row) (k := 2) (m := 2) (Fine.call (dd := d__law_row) (ok__law_row KX G c)) b.rm (by decide) b.tk (He.glo_ok KX G (c.fact 4 (f := .glo "_law_row") rfl)) (g_cons (g_sl x.toXB (g_var 0 (.inl rfl)) (pgo_some (g_int)) pgo_none) (g_cons (g_bin (ob_sub x.toXB) (g_var 2 (.inl rfl)) (g_int)) pga_nil))) pga_nil)))))))
theorem ok_Cloth_wide (KX : K.In h) (G : h.Ns mainGlobals mg) (c : He.SaysD fa fn K) : Fine P w K mg base (th K) 1 d_Cloth_wide 1 R_Cloth_wide := by
  obtain ⟨fd, F⟩ := c.def_ 5 (d := d_Cloth_wide) rfl
  refine ⟨fd, _, fn_ok F sc_Cloth_wide rfl (fun cdv A outer s H E F0 B L b => ?_), F.bindsN (fun _ _ _ _ _ _ us hl => match us, hl with | [_], _ => rfl), F.kp⟩
  have x : XC (BX P w K mg base N_Cloth_wide d_Cloth_wide.qual d_Cloth_wide.scope (He.fAd K d_Cloth_wide.at_) cdv A outer s H E) ⟨th K, F0, B⟩ := ⟨⟨rfl, sc_Cloth_wide.nd, u128 b.rm⟩, rfl⟩
  exact gss_one (gs_ret (g_bin (ob_add x.toXB) (g_bi (bf_len x.toXB) (He.free_ok KX G (c.fact 1 (f := .free "len") rfl)) (g_cons (g_fld x.toXB (fldOk_of (l := [(20, 1)]) ⟨⟨(He.cls_ok (c.fact 5 (f := .cls "Cloth") rfl)), (He.noat_ok (c.fact 6 (f := .noat "Cloth" "upright") rfl)), rfl, (by decide : (cflds 20).Nodup)⟩, trivial⟩) (g_var 0 (.inl rfl))) pga_nil)) (g_int)))
theorem ok_Cloth_tall (KX : K.In h) (G : h.Ns mainGlobals mg) (c : He.SaysD fa fn K) : Fine P w K mg base (th K) 1 d_Cloth_tall 1 R_Cloth_tall := by
  obtain ⟨fd, F⟩ := c.def_ 6 (d := d_Cloth_tall) rfl
  refine ⟨fd, _, fn_ok F sc_Cloth_tall rfl (fun cdv A outer s H E F0 B L b => ?_), F.bindsN (fun _ _ _ _ _ _ us hl => match us, hl with | [_], _ => rfl), F.kp⟩
  have x : XC (BX P w K mg base N_Cloth_tall d_Cloth_tall.qual d_Cloth_tall.scope (He.fAd K d_Cloth_tall.at_) cdv A outer s H E) ⟨th K, F0, B⟩ := ⟨⟨rfl, sc_Cloth_tall.nd, u128 b.rm⟩, rfl⟩
  exact gss_one (gs_ret (g_bin (ob_add x.toXB) (g_bi (bf_len x.toXB) (He.free_ok KX G (c.fact 1 (f := .free "len") rfl)) (g_cons (g_fld x.toXB (fldOk_of (l := [(20, 2)]) ⟨⟨(He.cls_ok (c.fact 5 (f := .cls "Cloth") rfl)), (He.noat_ok (c.fact 7 (f := .noat "Cloth" "level") rfl)), rfl, (by decide : (cflds 20).Nodup)⟩, trivial⟩) (g_var 0 (.inl rfl))) pga_nil)) (g_int)))
theorem ok_Cloth_bit (KX : K.In h) (G : h.Ns mainGlobals mg) (c : He.SaysD fa fn K) : Fine P w K mg base (th K) 1 d_Cloth_bit 3 R_Cloth_bit := by
  obtain ⟨fd, F⟩ := c.def_ 7 (d := d_Cloth_bit) rfl
  refine ⟨fd, _, fn_ok F sc_Cloth_bit rfl (fun cdv A outer s H E F0 B L b => ?_), F.bindsN (fun _ _ _ _ _ _ us hl => match us, hl with | [_, _, _], _ => rfl), F.kp⟩
  have x : XC (BX P w K mg base N_Cloth_bit d_Cloth_bit.qual d_Cloth_bit.scope (He.fAd K d_Cloth_bit.at_) cdv A outer s H E) ⟨th K, F0, B⟩ := ⟨⟨rfl, sc_Cloth_bit.nd, u128 b.rm⟩, rfl⟩
  exact gss_cons (gs_if (t_pw (pgw_and (t_cmp (oc_eq x.toXB) (g_var 1 (.inl rfl)) (g_str)) (pw_and1 (t_chain (oc_le x.toXB) (oc_lt x.toXB) (g_int) (g_var 2 (.inl rfl)) (g_bi (bf_len x.toXB) (He.free_ok KX G (c.fact 1 (f := .free "len") rfl)) (g_cons (g_fld x.toXB (fldOk_of (l := [(20, 1)]) ⟨⟨(He.cls_ok (c.fact 5 (f := .cls "Cloth") rfl)), (He.noat_ok (c.fact 6 (f := .noat "Cloth" "upright") rfl)), rfl, (by decide : (cflds 20).Nodup)⟩, trivial⟩) (g_var 0 (.inl rfl))) pga_nil)))))) (gss_one (gs_ret (g_ix x.toXB (g_fld x.toXB (fldOk_of (l := [(20, 1)]) ⟨⟨(He.cls_ok (c.fact 5 (f := .cls "Cloth") rfl)), (He.noat_ok (c.fact 6 (f := .noat "Cloth" "upright") rfl)), rfl, (by decide : (cflds 20).Nodup)⟩, trivial⟩) (g_var 0 (.inl rfl))) (g_var 2 (.inl rfl))))) (gss_nil)) (gss_cons (gs_if (t_pw (pgw_and (t_cmp (oc_eq x.toXB) (g_var 1 (.inl rfl)) (g_str)) (pw_and1 (t_chain (oc_le x.toXB) (oc_lt x.toXB) (g_int) (g_var 2 (.inl rfl)) (g_bi (bf_len x.toXB) (He.free_ok KX G (c.fact 1 (f := .free "len") rfl)) (g_cons (g_fld x.toXB (fldOk_of (l := [(20, 2)]) ⟨⟨(He.cls_ok (c.fact 5 (f := .cls "Cloth") rfl)), (He.noat_ok (c.fact 7 (f := .noat "Cloth" "level") rfl)), rfl, (by decide : (cflds 20).Nodup)⟩, trivial⟩) (g_var 0 (.inl rfl))) pga_nil)))))) (gss_one (gs_ret (g_ix x.toXB (g_fld x.toXB (fldOk_of (l := [(20, 2)]) ⟨⟨(He.cls_ok (c.fact 5 (f := .cls "Cloth") rfl)), (He.noat_ok (c.fact 7 (f := .noat "Cloth" "level") rfl)), rfl, (by decide : (cflds 20).Nodup)⟩, trivial⟩) (g_var 0 (.inl rfl))) (g_var 2 (.inl rfl))))) (gss_nil)) (gss_one (g_raise x b.tk (He.glo_ok KX G (c.fact 8 (f := .glo "NoLine") rfl)) (He.exc_ok (c.fact 9 (f := .exc "NoLine") rfl)))))
theorem ok_Cloth_steps (KX : K.In h) (G : h.Ns mainGlobals mg) (c : He.SaysD fa fn K) : Fine P w K mg base (th K) 2 d_Cloth_steps 2 R_Cloth_steps := by
  obtain ⟨fd, F⟩ := c.def_ 8 (d := d_Cloth_steps) rfl
  refine ⟨fd, _, fn_ok F sc_Cloth_steps rfl (fun cdv A outer s H E F0 B L b => ?_), F.bindsN (fun _ _ _ _ _ _ us hl => match us, hl with | [_, _], _ => rfl), F.kp⟩
  have x : XC (BX P w K mg base N_Cloth_steps d_Cloth_steps.qual d_Cloth_steps.scope (He.fAd K d_Cloth_steps.at_) cdv A outer s H E) ⟨th K, F0, B⟩ := ⟨⟨rfl, sc_Cloth_steps.nd, u128 b.rm⟩, rfl⟩
  exact gss_cons (gs_if (t_cmp (oc_eq x.toXB) (g_var 1 (.inl rfl)) (g_str)) (gss_one (gs_ret (g_mt0 (l := [(20, R_Cloth_tall)]) b.rm b.tk ⟨⟨_, (by decide), Fine.met (dd := d_Cloth_tall) (k := 1) (ok_Cloth_tall KX G c) (He.cls_ok (c.fact 5 (f := .cls "Cloth") rfl)) (He.meth_ok (c.fact 10 (f := .meth "Cloth" "tall") rfl)) (by decide : ("tall" : Str) ∉ cflds 20)⟩, trivial⟩ (g_var 0 (.inl rfl))))) (gss_nil)) (gss_one (gs_ret (g_mt0 (l := [(20, R_Cloth_wide)]) b.rm b.tk ⟨⟨_, (by decide), Fine.met (dd := d_Cloth_wide) (k := 1) (ok_Cloth_wide KX G c) (He.cls_ok (c.fact 5 (f := .cls "Cloth") rfl)) (He.meth_ok (c.fact 11 (f := .meth "Cloth" "wide") rfl)) (by decide : ("wide" : Str) ∉ cflds 20)⟩, trivial⟩ (g_var 0 (.inl rfl)))))
theorem ok_Cloth_stitched (KX : K.In h) (G : h.Ns mainGlobals mg) (c : He.SaysD fa fn K) : Fine P w K mg base (th K) 3 d_Cloth_stitched 4 R_Cloth_stitched := by
  obtain ⟨fd, F⟩ := c.def_ 9 (d := d_Cloth_stitched) rfl
  refine ⟨fd, _, fn_ok F sc_Cloth_stitched rfl (fun cdv A outer s H E F0 B L b => ?_), F.bindsN (fun _ _ _ _ _ _ us hl => match us, hl with | [_, _, _, _], _ => rfl), F.kp⟩
  have x : XC (BX P w K mg base N_Cloth_stitched d_Cloth_stitched.qual d_Cloth_stitched.scope (He.fAd K d_Cloth_stitched.at_) cdv A outer s H E) ⟨th K, F0, B⟩ := ⟨⟨rfl, sc_Cloth_stitched.nd, u128 b.rm⟩, rfl⟩
  exact gss_cons (gs_set (own := false) (i := 4) x.nd (g_mt (l := [(20, R_Cloth_bit)]) (n := 2) b.rm b.tk ⟨⟨_, (by decide), Fine.met (dd := d_Cloth_bit) (k := 1) (ok_Cloth_bit KX G c) (He.cls_ok (c.fact 5 (f := .cls "Cloth") rfl)) (He.meth_ok (c.fact 12 (f := .meth "Cloth" "bit") rfl)) (by decide : ("bit" : Str) ∉ cflds 20)⟩, trivial⟩ (g_var 0 (.inl rfl)) (g_cons (g_var 1 (.inl rfl)) (g_cons (g_var 2 (.inl rfl)) pga_nil))) (.inl rfl)) (gss_cons (gs_if (t_pw (pgw_or (t_cmp (oc_lt x.toXB) (g_var 3 (.inl rfl)) (g_int)) (pw_or1 (t_cmp (oc_ge x.toXB) (g_var 3 (.inl rfl)) (g_mt (l := [(20, R_Cloth_steps)]) (n := 1) b.rm b.tk ⟨⟨_, (by decide), Fine.met (dd := d_Cloth_steps) (k := 2) (ok_Cloth_steps KX G c) (He.cls_ok (c.fact 5 (f := .cls "Cloth") rfl)) (He.meth_ok (c.fact 13 (f := .meth "Cloth" "steps") rfl)) (by decide : ("steps" : Str) ∉ cflds 20)⟩, trivial⟩ (g_var 0 (.inl rfl)) (g_cons (g_var 1 (.inl rfl)) pga_nil)))))) (gss_one (g_raise x b.tk (He.glo_ok KX G (c.fact 14 (f := .glo "NoStep") rfl)) (He.exc_ok (c.fact 15 (f := .exc "NoStep") rfl)))) (gss_nil)) (gss_one (gs_ret (g_cmp (oc_eq x.toXB) (g_bin (ob_mod x.toXB) (g_bin (ob_add x.toXB) (g_var 3 (.inl rfl)) (g_var 4 (.inl rfl))) (g_int)) (g_int)))))
theorem ok_along_row (KX : K.In h) (G : h.Ns mainGlobals mg) (c : He.SaysD fa fn K) : Fine P w K mg base (th K) 4 d_along_row 3 R_along_row := by
  obtain ⟨fd, F⟩ := c.def_ 10 (d := d_along_row) rfl
  refine ⟨fd, _, fn_ok F sc_along_row rfl (fun cdv A outer s H E F0 B L b => ?_), F.bindsN (fun _ _ _ _ _ _ us hl => match us, hl with | [_, _, _], _ => rfl), F.kp⟩
  have x : XC (BX P w K mg base N_along_row d_along_row.qual d_along_row.scope (He.fAd K d_along_row.at_) cdv A outer s H E) ⟨th K, F0, B⟩ := ⟨⟨rfl, sc_along_row.nd, u128 b.rm⟩, rfl⟩
  exact gss_cons (gs_if (t_pw (pgw_or (t_cmp (oc_eq x.toXB) (g_var 2 (.inl rfl)) (g_int)) (pw_or1 (t_cmp (oc_eq x.toXB) (g_var 2 (.inl rfl)) (g_mt0 (l := [(20, R_Cloth_tall)]) b.rm b.tk ⟨⟨_, (by decide), Fine.met (dd := d_Cloth_tall) (k := 1) (ok_Cloth_tall KX G c) (He.cls_ok (c.fact 5 (f := .cls "Cloth") rfl)) (He.meth_ok (c.fact 10 (f := .meth "Cloth" "tall") rfl)) (by decide : ("tall" : Str) ∉ cflds 20)⟩, trivial⟩ (g_var 0 (.inl rfl))))))) (gss_one (gs_ret (pg_lst pga_nil))) (gss_nil)) (gss_cons (gs_if (t_pw (pgw_and (t_cmp (oc_lt x.toXB) (g_var 1 (.inl rfl)) (g_mt0 (l := [(20, R_Cloth_wide)]) b.rm b.tk ⟨⟨_, (by decide), Fine.met (dd := d_Cloth_wide) (k := 1) (ok_Cloth_wide KX G c) (He.cls_ok (c.fact 5 (f := .cls "Cloth") rfl)) (He.meth_ok (c.fact 11 (f := .meth "Cloth" "wide") rfl)) (by decide : ("wide" : Str) ∉ cflds 20)⟩, trivial⟩ (g_var 0 (.inl rfl)))) (pw_and1 (t_tru x.toXB (g_mt (l := [(20, R_Cloth_stitched)]) (n := 3) b.rm b.tk ⟨⟨_, (by decide), Fine.met (dd := d_Cloth_stitched) (k := 3) (ok_Cloth_stitched KX G c) (He.cls_ok (c.fact 5 (f := .cls "Cloth") rfl)) (He.meth_ok (c.fact 16 (f := .meth "Cloth" "stitched") rfl)) (by decide : ("stitched" : Str) ∉ cflds 20)⟩, trivial⟩ (g_var 0 (.inl rfl)) (g_cons (g_str) (g_cons (g_bin (ob_sub x.toXB) (g_var 2 (.inl rfl)) (g_int)) (g_cons (g_var 1 (.inl rfl)) pga_nil)))))))) (gss_one (gs_ret (pg_lst (g_cons (pg_tup (g_cons (g_bin (ob_add x.toXB) (g_var 1 (.inl rfl)) (g_int)) (g_cons (g_var 2 (.inl rfl)) pga_nil))) pga_nil)))) (gss_nil)) (gss_cons (gs_if (t_pw (pgw_and (t_cmp (oc_gt x.toXB) (g_var 1 (.inl rfl)) (g_int)) (pw_and1 (t_tru x.toXB (g_mt (l := [(20, R_Cloth_stitched)]) (n := 3) b.rm b.tk ⟨⟨_, (by decide), Fine.met (dd := d_Cloth_stitched) (k := 3) (ok_Cloth_stitched KX G c) (He.cls_ok (c.fact 5 (f := .cls "Cloth") rfl)) (He.meth_ok (c.fact 16 (f := .meth "Cloth" "stitched") rfl)) (by decide : ("stitched" : Str) ∉ cflds 20)⟩, trivial⟩ (g_var 0 (.inl rfl)) (g_cons (g_str) (g_cons (g_bin (ob_sub x.toXB) (g_var 2 (.inl rfl)) (g_int)) (g_cons (g_bin (ob_sub x.toXB) (g_var 1 (.inl rfl)) (g_int)) pga_nil)))))))) (gss_one (gs_ret (pg_lst (g_cons (pg_tup (g_cons (g_bin (ob_sub x.toXB) (g_var 1 (.inl rfl)) (g_int)) (g_cons (g_var 2 (.inl rfl)) pga_nil))) pga_nil)))) (gss_nil)) (gss_one (gs_ret (pg_lst pga_nil)))))
theorem ok_along_column (KX : K.In h) (G : h.Ns mainGlobals mg) (c : He.SaysD fa fn K) : Fine P w K mg base (th K) 4 d_along_column 3 R_along_column := by
  obtain ⟨fd, F⟩ := c.def_ 11 (d := d_along_column) rfl
  refine ⟨fd, _, fn_ok F sc_along_column rfl (fun cdv A outer s H E F0 B L b => ?_), F.bindsN (fun _ _ _ _ _ _ us hl => match us, hl with | [_, _, _], _ => rfl), F.kp⟩
  have x : XC (BX P w K mg base N_along_column d_along_column.qual d_along_column.scope (He.fAd K d_along_column.at_) cdv A outer s H E) ⟨th K, F0, B⟩ := ⟨⟨rfl, sc_along_column.nd, u128 b.rm⟩, rfl⟩
  exact gss_cons (gs_if (t_pw (pgw_or (t_cmp (oc_eq x.toXB) (g_var 1 (.inl rfl)) (g_int)) (pw_or1 (t_cmp (oc_eq x.toXB) (g_var 1 (.inl rfl)) (g_mt0 (l := [(20, R_Cloth_wide)]) b.rm b.tk ⟨⟨_, (by decide), Fine.met (dd := d_Cloth_wide) (k := 1) (ok_Cloth_wide KX G c) (He.cls_ok (c.fact 5 (f := .cls "Cloth") rfl)) (He.meth_ok (c.fact 11 (f := .meth "Cloth" "wide") rfl)) (by decide : ("wide" : Str) ∉ cflds 20)⟩, trivial⟩ (g_var 0 (.inl rfl))))))) (gss_one (gs_ret (pg_lst pga_nil))) (gss_nil)) (gss_cons (gs_if (t_pw (pgw_and (t_cmp (oc_lt x.toXB) (g_var 2 (.inl rfl)) (g_mt0 (l := [(20, R_Cloth_tall)]) b.rm b.tk ⟨⟨_, (by decide), Fine.met (dd := d_Cloth_tall) (k := 1) (ok_Cloth_tall KX G c) (He.cls_ok (c.fact 5 (f := .cls "Cloth") rfl)) (He.meth_ok (c.fact 10 (f := .meth "Cloth" "tall") rfl)) (by decide : ("tall" : Str) ∉ cflds 20)⟩, trivial⟩ (g_var 0 (.inl rfl)))) (pw_and1 (t_tru x.toXB (g_mt (l := [(20, R_Cloth_stitched)]) (n := 3) b.rm b.tk ⟨⟨_, (by decide), Fine.met (dd := d_Cloth_stitched) (k := 3) (ok_Cloth_stitched KX G c) (He.cls_ok (c.fact 5 (f := .cls "Cloth") rfl)) (He.meth_ok (c.fact 16 (f := .meth "Cloth" "stitched") rfl)) (by decide : ("stitched" : Str) ∉ cflds 20)⟩, trivial⟩ (g_var 0 (.inl rfl)) (g_cons (g_str) (g_cons (g_bin (ob_sub x.toXB) (g_var 1 (.inl rfl)) (g_int)) (g_cons (g_var 2 (.inl rfl)) pga_nil)))))))) (gss_one (gs_ret (pg_lst (g_cons (pg_tup (g_cons (g_var 1 (.inl rfl)) (g_cons (g_bin (ob_add x.toXB) (g_var 2 (.inl rfl)) (g_int)) pga_nil))) pga_nil)))) (gss_nil)) (gss_cons (gs_if (t_pw (pgw_and (t_cmp (oc_gt x.toXB) (g_var 2 (.inl rfl)) (g_int)) (pw_and1 (t_tru x.toXB (g_mt (l := [(20, R_Cloth_stitched)]) (n := 3) b.rm b.tk ⟨⟨_, (by decide), Fine.met (dd := d_Cloth_stitched) (k := 3) (ok_Cloth_stitched KX G c) (He.cls_ok (c.fact 5 (f := .cls "Cloth") rfl)) (He.meth_ok (c.fact 16 (f := .meth "Cloth" "stitched") rfl)) (by decide : ("stitched" : Str) ∉ cflds 20)⟩, trivial⟩ (g_var 0 (.inl rfl)) (g_cons (g_str) (g_cons (g_bin (ob_sub x.toXB) (g_var 1 (.inl rfl)) (g_int)) (g_cons (g_bin (ob_sub x.toXB) (g_var 2 (.inl rfl)) (g_int)) pga_nil)))))))) (gss_one (gs_ret (pg_lst (g_cons (pg_tup (g_cons (g_var 1 (.inl rfl)) (g_cons (g_bin (ob_sub x.toXB) (g_var 2 (.inl rfl)) (g_int)) pga_nil))) pga_nil)))) (gss_nil)) (gss_one (gs_ret (pg_lst pga_nil)))))
theorem ok_joined (KX : K.In h) (G : h.Ns mainGlobals mg) (c : He.SaysD fa fn K) : Fine P w K mg base (th K) 5 d_joined 2 R_joined := by
  obtain ⟨fd, F⟩ := c.def_ 12 (d := d_joined) rfl
  refine ⟨fd, _, fn_ok F sc_joined rfl (fun cdv A outer s H E F0 B L b => ?_), F.bindsN (fun _ _ _ _ _ _ us hl => match us, hl with | [_, _], _ => rfl), F.kp⟩
  have x : XC (BX P w K mg base N_joined d_joined.qual d_joined.scope (He.fAd K d_joined.at_) cdv A outer s H E) ⟨th K, F0, B⟩ := ⟨⟨rfl, sc_joined.nd, u128 b.rm⟩, rfl⟩
  exact gss_cons (gs_tg (g_var 1 (.inl rfl)) (t_tup x (ts_cons (t_name x.toXB 2 (.inl rfl) (.inl rfl)) (ts_cons (t_name x.toXB 3 (.inl rfl) (.inl rfl)) ggs_nil)))) (gss_cons (gs_if (t_pw (pgw_or (t_cmp (oc_lt x.toXB) (g_var 2 (.inl rfl)) (g_int)) (pgw_or (t_cmp (oc_lt x.toXB) (g_var 3 (.inl rfl)) (g_int)) (pgw_or (t_cmp (oc_gt x.toXB) (g_var 2 (.inl rfl)) (g_mt0 (l := [(20, R_Cloth_wide)]) b.rm b.tk ⟨⟨_, (by decide), Fine.met (dd := d_Cloth_wide) (k := 1) (ok_Cloth_wide KX G c) (He.cls_ok (c.fact 5 (f := .cls "Cloth") rfl)) (He.meth_ok (c.fact 11 (f := .meth "Cloth" "wide") rfl)) (by decide : ("wide" : Str) ∉ cflds 20)⟩, trivial⟩ (g_var 0 (.inl rfl)))) (pw_or1 (t_cmp (oc_gt x.toXB) (g_var 3 (.inl rfl)) (g_mt0 (l := [(20, R_Cloth_tall)]) b.rm b.tk ⟨⟨_, (by decide), Fine.met (dd := d_Cloth_tall) (k := 1) (ok_Cloth_tall KX G c) (He.cls_ok (c.fact 5 (f := .cls "Cloth") rfl)) (He.meth_ok (c.fact 10 (f := .meth "Cloth" "tall") rfl)) (by decide : ("tall" : Str) ∉ cflds 20)⟩, trivial⟩ (g_var 0 (.inl rfl))))))))) (gss_one (g_raise x b.tk (He.glo_ok KX G (c.fact 17 (f := .glo "NoPoint") rfl)) (He.exc_ok (c.fact 18 (f := .exc "NoPoint") rfl)))) (gss_nil)) (gss_one (gs_ret (g_srt x.toXB (He.free_ok KX G (c.fact 21 (f := .free "sorted") rfl)) (g_bin (ob_add x.toXB) (g_call (R := R_along_row) (k := 4) (m := 3) (Fine.call (dd := d_along_row) (ok_along_row KX G c)) b.rm (by decide) b.tk (He.glo_ok KX G (c.fact 19 (f := .glo "along_row") rfl)) (g_cons (g_var 0 (.inl rfl)) (g_cons (g_var 2 (.inl rfl)) (g_cons (g_var 3 (.inl rfl)) pga_nil)))) (g_call (R := R_along_column) (k := 4) (m := 3) (Fine.call (dd := d_along_column) (ok_along_column KX G c)) b.rm (by decide) b.tk (He.glo_ok KX G (c.fact 20 (f := .glo "along_column") rfl)) (g_cons (g_var 0 (.inl rfl)) (g_cons (g_var 2 (.inl rfl)) (g_cons (g_var 3 (.inl rfl)) pga_nil)))))))))
theorem ok_followed (KX : K.In h) (G : h.Ns mainGlobals mg) (c : He.SaysD fa fn K) : Fine P w K mg base (th K) 6 d_followed 3 R_followed := by
  obtain ⟨fd, F⟩ := c.def_ 13 (d := d_followed) rfl
  refine ⟨fd, _, fn_ok F sc_followed rfl (fun cdv A outer s H E F0 B L b => ?_), F.bindsN (fun _ _ _ _ _ _ us hl => match us, hl with | [_, _, _], _ => rfl), F.kp⟩
  have x : XC (BX P w K mg base N_followed d_followed.qual d_followed.scope (He.fAd K d_followed.at_) cdv A outer s H E) ⟨th K, F0, B⟩ := ⟨⟨rfl, sc_followed.nd, u128 b.rm⟩, rfl⟩
  exact gss_cons (gs_set (own := true) (i := 3) x.nd (pg_lst (g_cons (g_var 1 (.inl rfl)) pga_nil)) (.inl rfl)) (gss_cons (gs_set (own := false) (i := 4) x.nd (g_var 1 (.inl rfl)) (.inr rfl)) (gss_cons (gs_set (own := false) (i := 5) x.nd (g_var 2 (.inl rfl)) (.inl rfl)) (gss_cons (gs_while b.po (t_pw (pgw_and (t_notN (g_var 5 (.inl rfl))) (pw_and1 (t_cmp (oc_ne x.toXB) (g_var 5 (.inl rfl)) (g_var 1 (.inl rfl)))))) (gss_cons (gs_append (i := 3) (g_var 5 (.inl rfl)) (.inl rfl)) (gss_cons (gs_setLc (own := false) (i := 6) (ow := [("point", 7)]) (by decide) x.calm x.nd rfl rfl (sw_true rfl rfl rfl (by decide +kernel)) (i_list (st := false) x.toXB (g_call (R := R_joined) (k := 5) (m := 2) (Fine.call (dd := d_joined) (ok_joined KX G c)) b.rm (by decide) b.tk (He.glo_ok KX G (c.fact 22 (f := .glo "joined") rfl)) (g_cons (g_var 0 (.inl rfl)) (g_cons (g_var 5 (.inl rfl)) pga_nil)))) (blkOk_by (N := N_followed) (sc := defScope st_followed) (by decide +kernel)) (fun _ _ _ _ _ => t_name x.blk.toXB 7 (.inl rfl) (.inr rfl)) (fun _ _ _ _ _ => pgts_one (t_cmp (oc_ne x.blk.toXB) (g_var 7 (.inl rfl)) (g_var 4 (by first | exact .inr (.inl rfl) | exact .inr (.inr rfl))))) (fun _ _ _ _ _ => g_var 7 (.inl rfl)) (fun _ => rfl)) (gss_cons (gs_set (own := false) (i := 4) x.nd (g_var 5 (.inl rfl)) (.inr rfl)) (gss_cons (gs_set (own := false) (i := 5) x.nd (g_non) (.inl rfl)) (gss_one (gs_if (t_cmp (oc_ne x.toXB) (g_var 6 (.inl rfl)) (pg_lst pga_nil)) (gss_one (gs_set (own := false) (i := 5) x.nd (g_ix x.toXB (g_var 6 (.inl rfl)) (g_int)) (.inl rfl))) (gss_nil)))))))) (gss_one (gs_frz 3 (gs_ret (pg_tup (g_cons (g_cmp (oc_eq x.toXB) (g_var 5 (.inl rfl)) (g_var 1 (.inl rfl))) (g_cons (g_var 3 (.inl rfl)) pga_nil)))))))))
theorem ok_from_least (KX : K.In h) (G : h.Ns mainGlobals mg) (c : He.SaysD fa fn K) : Fine P w K mg base (th K) 1 d_from_least 1 R_from_least := by
  obtain ⟨fd, F⟩ := c.def_ 14 (d := d_from_least) rfl
  refine ⟨fd, _, fn_ok F sc_from_least rfl (fun cdv A outer s H E F0 B L b => ?_), F.bindsN (fun _ _ _ _ _ _ us hl => match us, hl with | [_], _ => rfl), F.kp⟩
  have x : XC (BX P w K mg base N_from_least d_from_least.qual d_from_least.scope (He.fAd K d_from_least.at_) cdv A outer s H E) ⟨th K, F0, B⟩ := ⟨⟨rfl, sc_from_least.nd, u128 b.rm⟩, rfl⟩
  exact gss_cons (gs_set (own := false) (i := 1) x.nd (g_idx x.toXB (g_var 0 (.inl rfl)) (g_min x (He.free_ok KX G (c.fact 23 (f := .free "min") rfl)) (g_var 0 (.inl rfl)))) (.inl rfl)) (gss_cons (gs_set (own := false) (i := 2) x.nd (g_bin (ob_add x.toXB) (g_sl x.toXB (g_var 0 (.inl rfl)) (pgo_some (g_var 1 (.inl rfl))) pgo_none) (g_sl x.toXB (g_var 0 (.inl rfl)) pgo_none (pgo_some (g_var 1 (.inl rfl))))) (.inl rfl)) (gss_cons (gs_if (t_cmp (oc_ne x.toXB) (g_ix x.toXB (g_ix x.toXB (g_var 2 (.inl rfl)) (g_int)) (g_int)) (g_ix x.toXB (g_ix x.toXB (g_var 2 (.inl rfl)) (g_int)) (g_int))) (gss_one (gs_ret (g_bin (ob_add x.toXB) (g_sl x.toXB (g_var 2 (.inl rfl)) pgo_none (pgo_some (g_int))) (g_rev x.toXB (g_sl x.toXB (g_var 2 (.inl rfl)) (pgo_some (g_int)) pgo_none))))) (gss_nil)) (gss_one (gs_ret (g_var 2 (.inl rfl))))))
theorem ok_seam (KX : K.In h) (G : h.Ns mainGlobals mg) (c : He.SaysD fa fn K) : Fine P w K mg base (th K) 7 d_seam 2 R_seam := by
  obtain ⟨fd, F⟩ := c.def_ 15 (d := d_seam) rfl
  refine ⟨fd, _, fn_ok F sc_seam rfl (fun cdv A outer s H E F0 B L b => ?_), F.bindsN (fun _ _ _ _ _ _ us hl => match us, hl with | [_, _], _ => rfl), F.kp⟩
  have x : XC (BX P w K mg base N_seam d_seam.qual d_seam.scope (He.fAd K d_seam.at_) cdv A outer s H E) ⟨th K, F0, B⟩ := ⟨⟨rfl, sc_seam.nd, u128 b.rm⟩, rfl⟩
  exact gss_cons (gs_set (own := false) (i := 2) x.nd (g_call (R := R_joined) (k := 5) (m := 2) (Fine.call (dd := d_joined) (ok_joined KX G c)) b.rm (by decide) b.tk (He.glo_ok KX G (c.fact 22 (f := .glo "joined") rfl)) (g_cons (g_var 0 (.inl rfl)) (g_cons (g_var 1 (.inl rfl)) pga_nil))) (.inl rfl)) (gss_cons (gs_if (t_cmp (oc_eq x.toXB) (g_var 2 (.inl rfl)) (pg_lst pga_nil)) (gss_one (gs_ret (g_non))) (gss_nil)) (gss_cons (gs_tg (g_call (R := R_followed) (k := 6) (m := 3) (Fine.call (dd := d_followed) (ok_followed KX G c)) b.rm (by decide) b.tk (He.glo_ok KX G (c.fact 24 (f := .glo "followed") rfl)) (g_cons (g_var 0 (.inl rfl)) (g_cons (g_var 1 (.inl rfl)) (g_cons (g_ix x.toXB (g_var 2 (.inl rfl)) (g_int)) pga_nil)))) (t_tup x (ts_cons (t_name x.toXB 3 (.inl rfl) (.inl rfl)) (ts_cons (t_name x.toXB 4 (.inl rfl) (.inl rfl)) ggs_nil)))) (gss_cons (gs_if (t_tru x.toXB (g_var 3 (.inl rfl))) (gss_one (gs_ret (pg_tup (g_cons (g_bl) (g_cons (g_call (R := R_from_least) (k := 1) (m := 1) (Fine.call (dd := d_from_least) (ok_from_least KX G c)) b.rm (by decide) b.tk (He.glo_ok KX G (c.fact 25 (f := .glo "from_least") rfl)) (g_cons (g_var 4 (.inl rfl)) pga_nil)) pga_nil))))) (gss_nil)) (gss_cons (gs_if (t_cmp (oc_eq x.toXB) (g_bi (bf_len x.toXB) (He.free_ok KX G (c.fact 1 (f := .free "len") rfl)) (g_cons (g_var 2 (.inl rfl)) pga_nil)) (g_int)) (gss_one (gs_set (own := false) (i := 4) x.nd (g_bin (ob_add x.toXB) (g_rev x.toXB (g_var 4 (.inl rfl))) (g_sl x.toXB (g_ix x.toXB (g_call (R := R_followed) (k := 6) (m := 3) (Fine.call (dd := d_followed) (ok_followed KX G c)) b.rm (by decide) b.tk (He.glo_ok KX G (c.fact 24 (f := .glo "followed") rfl)) (g_cons (g_var 0 (.inl rfl)) (g_cons (g_var 1 (.inl rfl)) (g_cons (g_ix x.toXB (g_var 2 (.inl rfl)) (g_int)) pga_nil)))) (g_int)) (pgo_some (g_int)) pgo_none)) (.inl rfl))) (gss_nil)) (gss_cons (gs_if (t_cmp (oc_lt x.toXB) (g_ix x.toXB (g_var 4 (.inl rfl)) (pg_neg (g_int))) (g_ix x.toXB (g_var 4 (.inl rfl)) (g_int))) (gss_one (gs_set (own := false) (i := 4) x.nd (g_rev x.toXB (g_var 4 (.inl rfl))) (.inl rfl))) (gss_nil)) (gss_one (gs_ret (pg_tup (g_cons (g_bl) (g_cons (g_var 4 (.inl rfl)) pga_nil))))))))))
theorem ok_seams (KX : K.In h) (G : h.Ns mainGlobals mg) (c : He.SaysD fa fn K) : Fine P w K mg base (th K) 8 d_seams 1 R_seams := by
  obtain ⟨fd, F⟩ := c.def_ 16 (d := d_seams) rfl
  refine ⟨fd, _, fn_ok F sc_seams rfl (fun cdv A outer s H E F0 B L b => ?_), F.bindsN (fun _ _ _ _ _ _ us hl => match us, hl with | [_], _ => rfl), F.kp⟩
  have x : XC (BX P w K mg base N_seams d_seams.qual d_seams.scope (He.fAd K d_seams.at_) cdv A outer s H E) ⟨th K, F0, B⟩ := ⟨⟨rfl, sc_seams.nd, u128 b.rm⟩, rfl⟩
  exact gss_cons (gs_set (own := true) (i := 1) x.nd (g_dT) (.inl rfl)) (gss_cons (gs_set (own := true) (i := 2) x.nd (pg_lst pga_nil) (.inl rfl)) (gss_cons (gs_for b.po x.calm (i_r1 (st := true) (He.free_ok KX G (c.fact 2 (f := .free "range") rfl)) (g_bin (ob_add x.toXB) (g_mt0 (l := [(20, R_Cloth_wide)]) b.rm b.tk ⟨⟨_, (by decide), Fine.met (dd := d_Cloth_wide) (k := 1) (ok_Cloth_wide KX G c) (He.cls_ok (c.fact 5 (f := .cls "Cloth") rfl)) (He.meth_ok (c.fact 11 (f := .meth "Cloth" "wide") rfl)) (by decide : ("wide" : Str) ∉ cflds 20)⟩, trivial⟩ (g_var 0 (.inl rfl))) (g_int))) (t_name x.toXB 3 (.inl rfl) (.inl rfl)) (gss_one (gs_for b.po x.calm (i_r1 (st := true) (He.free_ok KX G (c.fact 2 (f := .free "range") rfl)) (g_bin (ob_add x.toXB) (g_mt0 (l := [(20, R_Cloth_tall)]) b.rm b.tk ⟨⟨_, (by decide), Fine.met (dd := d_Cloth_tall) (k := 1) (ok_Cloth_tall KX G c) (He.cls_ok (c.fact 5 (f := .cls "Cloth") rfl)) (He.meth_ok (c.fact 10 (f := .meth "Cloth" "tall") rfl)) (by decide : ("tall" : Str) ∉ cflds 20)⟩, trivial⟩ (g_var 0 (.inl rfl))) (g_int))) (t_name x.toXB 4 (.inl rfl) (.inl rfl)) (gss_one (gs_if (t_niD x.toXB (pg_tup (g_cons (g_var 3 (.inl rfl)) (g_cons (g_var 4 (.inl rfl)) pga_nil))) (g_var 1 (.inl rfl))) (gss_cons (gs_set (own := false) (i := 5) x.nd (g_call (R := R_seam) (k := 7) (m := 2) (Fine.call (dd := d_seam) (ok_seam KX G c)) b.rm (by decide) b.tk (He.glo_ok KX G (c.fact 26 (f := .glo "seam") rfl)) (g_cons (g_var 0 (.inl rfl)) (g_cons (pg_tup (g_cons (g_var 3 (.inl rfl)) (g_cons (g_var 4 (.inl rfl)) pga_nil))) pga_nil))) (.inl rfl)) (gss_one (gs_if (t_notN (g_var 5 (.inl rfl))) (gss_cons (gs_append (i := 2) (g_var 5 (.inl rfl)) (.inl rfl)) (gss_one (gs_for b.po x.calm (i_list (st := true) x.toXB (g_ix x.toXB (g_var 5 (.inl rfl)) (g_int))) (t_name x.toXB 6 (.inl rfl) (.inl rfl)) (gss_one (gs_put (i := 1) x.u1 (g_var 6 (.inl rfl)) (g_bl) rfl rfl rfl (fun _ => rfl) (.inl rfl)))))) (gss_nil)))) (gss_nil)))))) (gss_one (gs_ret (g_srtK x.toXB (c.def_ 4 (d := d_first_point) rfl) sc_first_point rfl rfl (fun _ _ _ _ _ _ us hl => match us, hl with | [_], _ => rfl) (by have := b.rm.dp; omega) (He.free_ok KX G (c.fact 21 (f := .free "sorted") rfl)) (He.glo_ok KX G (c.fact 27 (f := .glo "first_point") rfl)) (g_var 2 (.inl rfl)))))))
theorem ok_rounds (KX : K.In h) (G : h.Ns mainGlobals mg) (c : He.SaysD fa fn K) : Fine P w K mg base (th K) 9 d_rounds 1 R_rounds := by
  obtain ⟨fd, F⟩ := c.def_ 17 (d := d_rounds) rfl
  refine ⟨fd, _, fn_ok F sc_rounds rfl (fun cdv A outer s H E F0 B L b => ?_), F.bindsN (fun _ _ _ _ _ _ us hl => match us, hl with | [_], _ => rfl), F.kp⟩
  have x : XC (BX P w K mg base N_rounds d_rounds.qual d_rounds.scope (He.fAd K d_rounds.at_) cdv A outer s H E) ⟨th K, F0, B⟩ := ⟨⟨rfl, sc_rounds.nd, u128 b.rm⟩, rfl⟩
  exact gss_one (gs_ret (pg_lc (own := [("comes_back", 1), ("line", 2)]) (by decide) x.calm x.nd (i_list (st := false) x.toXB (g_call (R := R_seams) (k := 8) (m := 1) (Fine.call (dd := d_seams) (ok_seams KX G c)) b.rm (by decide) b.tk (He.glo_ok KX G (c.fact 28 (f := .glo "seams") rfl)) (g_cons (g_var 0 (.inl rfl)) pga_nil))) (blkOk_by (N := N_rounds) (sc := defScope st_rounds) (by decide +kernel)) (fun _ _ _ _ _ => t_tup x.blk (ts_cons (t_name x.blk.toXB 1 (.inl rfl) (.inr rfl)) (ts_cons (t_name x.blk.toXB 2 (.inl rfl) (.inr rfl)) ggs_nil))) (fun _ _ _ _ _ => pgts_one (t_tru x.blk.toXB (g_var 1 (.inl rfl)))) (fun _ _ _ _ _ => g_var 2 (.inl rfl)) (fun _ => rfl)))
theorem ok_ask_bits (KX : K.In h) (G : h.Ns mainGlobals mg) (c : He.SaysD fa fn K) : Fine P w K mg base (th K) 1 d_ask_bits 1 R_ask_bits := by
  obtain ⟨fd, F⟩ := c.def_ 18 (d := d_ask_bits) rfl
  refine ⟨fd, _, fn_ok F sc_ask_bits rfl (fun cdv A outer s H E F0 B L b => ?_), F.bindsN (fun _ _ _ _ _ _ us hl => match us, hl with | [_], _ => rfl), F.kp⟩
  have x : XC (BX P w K mg base N_ask_bits d_ask_bits.qual d_ask_bits.scope (He.fAd K d_ask_bits.at_) cdv A outer s H E) ⟨th K, F0, B⟩ := ⟨⟨rfl, sc_ask_bits.nd, u128 b.rm⟩, rfl⟩
  exact gss_one (gs_for b.po x.calm (i_list (st := true) x.toXB (g_var 0 (.inl rfl))) (t_name x.toXB 1 (.inl rfl) (.inl rfl)) (gss_one (gs_if (t_pw (pgw_and (t_cmp (oc_ne x.toXB) (g_var 1 (.inl rfl)) (g_int)) (pw_and1 (t_cmp (oc_ne x.toXB) (g_var 1 (.inl rfl)) (g_int))))) (gss_one (g_raise x b.tk (He.glo_ok KX G (c.fact 29 (f := .glo "BadBit") rfl)) (He.exc_ok (c.fact 30 (f := .exc "BadBit") rfl)))) (gss_nil))))
theorem ok_Cloth___init__ (KX : K.In h) (G : h.Ns mainGlobals mg) (c : He.SaysD fa fn K) : FineI P w K mg base (th K) 2 20 d_Cloth___init__ 3 R_Cloth___init__ := by
  obtain ⟨fd, F⟩ := c.def_ 19 (d := d_Cloth___init__) rfl
  refine ⟨fd, _, init_ok F sc_Cloth___init__ rfl rfl (fun cdv A outer s H E F0 B L b => ?_), F.bindsN (fun _ _ _ _ _ _ us hl => match us, hl with | [_, _, _, _], _ => rfl)⟩
  have x : XC (BX P w K mg base N_Cloth___init__ d_Cloth___init__.qual d_Cloth___init__.scope (He.fAd K d_Cloth___init__.at_) cdv A outer s H E) ⟨th K, F0, B⟩ := ⟨⟨rfl, sc_Cloth___init__.nd, u128 b.rm⟩, rfl⟩
  exact gss_cons (gs_if (t_pw (pgw_or (t_cmp (oc_ge x.toXB) (g_bi (bf_len x.toXB) (He.free_ok KX G (c.fact 1 (f := .free "len") rfl)) (g_cons (g_var 2 (.inl rfl)) pga_nil)) (g_globI (He.int_ok KX G (c.fact 31 (f := .int "MOST" 40) rfl)))) (pw_or1 (t_cmp (oc_ge x.toXB) (g_bi (bf_len x.toXB) (He.free_ok KX G (c.fact 1 (f := .free "len") rfl)) (g_cons (g_var 3 (.inl rfl)) pga_nil)) (g_globI (He.int_ok KX G (c.fact 31 (f := .int "MOST" 40) rfl))))))) (gss_one (g_raise x b.tk (He.glo_ok KX G (c.fact 32 (f := .glo "BadSize") rfl)) (He.exc_ok (c.fact 33 (f := .exc "BadSize") rfl)))) (gss_nil)) (gss_cons (gs_drop (g_call (R := R_ask_bits) (k := 1) (m := 1) (Fine.call (dd := d_ask_bits) (ok_ask_bits KX G c)) b.rm (by decide) b.tk (He.glo_ok KX G (c.fact 35 (f := .glo "ask_bits") rfl)) (g_cons (g_bin (ob_add x.toXB) (g_bin (ob_add x.toXB) (pg_lst (g_cons (g_var 1 (.inl rfl)) pga_nil)) (g_bi (bf_list x.toXB) (He.free_ok KX G (c.fact 34 (f := .free "list") rfl)) (g_cons (g_var 2 (.inl rfl)) pga_nil))) (g_bi (bf_list x.toXB) (He.free_ok KX G (c.fact 34 (f := .free "list") rfl)) (g_cons (g_var 3 (.inl rfl)) pga_nil))) pga_nil))) (gss_cons (gs_fld (i := 0) (fx := fxOne 20 0) (g_var 1 (.inl rfl)) (fx_of rfl (by decide : ("corner" : Str) ∉ (cflds 20).take 0) (He.cls_ok (c.fact 5 (f := .cls "Cloth") rfl)) (He.noat_ok (c.fact 36 (f := .noat "Cloth" "corner") rfl)) (by decide)) (.inl rfl)) (gss_cons (gs_fld (i := 0) (fx := fxOne 20 1) (g_bi (bf_list x.toXB) (He.free_ok KX G (c.fact 34 (f := .free "list") rfl)) (g_cons (g_var 2 (.inl rfl)) pga_nil)) (fx_of rfl (by decide : ("upright" : Str) ∉ (cflds 20).take 1) (He.cls_ok (c.fact 5 (f := .cls "Cloth") rfl)) (He.noat_ok (c.fact 6 (f := .noat "Cloth" "upright") rfl)) (by decide)) (.inl rfl)) (gss_one (gs_fld (i := 0) (fx := fxOne 20 2) (g_bi (bf_list x.toXB) (He.free_ok KX G (c.fact 34 (f := .free "list") rfl)) (g_cons (g_var 3 (.inl rfl)) pga_nil)) (fx_of rfl (by decide : ("level" : Str) ∉ (cflds 20).take 2) (He.cls_ok (c.fact 5 (f := .cls "Cloth") rfl)) (He.noat_ok (c.fact 7 (f := .noat "Cloth" "level") rfl)) (by decide)) (.inl rfl))))))
theorem ok__law_made (KX : K.In h) (G : h.Ns mainGlobals mg) (c : He.SaysD fa fn K) : Fine P w K mg base (th K) 4 d__law_made 1 R__law_made := by
  obtain ⟨fd, F⟩ := c.def_ 20 (d := d__law_made) rfl
  refine ⟨fd, _, fn_ok F sc__law_made rfl (fun cdv A outer s H E F0 B L b => ?_), F.bindsN (fun _ _ _ _ _ _ us hl => match us, hl with | [_], _ => rfl), F.kp⟩
  have x : XC (BX P w K mg base N__law_made d__law_made.qual d__law_made.scope (He.fAd K d__law_made.at_) cdv A outer s H E) ⟨th K, F0, B⟩ := ⟨⟨rfl, sc__law_made.nd, u128 b.rm⟩, rfl⟩
  exact gss_one (gs_ret (g_make (R := R_Cloth___init__) (k := 2) (m := 3) (cn := 20) (FineI.make (dd := d_Cloth___init__) (ok_Cloth___init__ KX G c) (He.mkr_ok (c.fact 37 (f := .mkr "Cloth") rfl))) b.rm (by decide) b.tk (He.glo_ok KX G (c.fact 38 (f := .glo "Cloth") rfl)) (g_cons (g_ix x.toXB (g_var 0 (.inl rfl)) (g_int)) (g_cons (g_bi (bf_list x.toXB) (He.free_ok KX G (c.fact 34 (f := .free "list") rfl)) (g_cons (g_ix x.toXB (g_var 0 (.inl rfl)) (g_int)) pga_nil)) (g_cons (g_bi (bf_list x.toXB) (He.free_ok KX G (c.fact 34 (f := .free "list") rfl)) (g_cons (g_ix x.toXB (g_var 0 (.inl rfl)) (g_int)) pga_nil)) pga_nil)))))
theorem okP_upright_steps (KX : K.In h) (G : h.Ns mainGlobals mg) (c : He.SaysD fa fn K) : FineT P w K mg base (th K) 1 d_upright_steps 1 2 Q_upright_steps := by
  obtain ⟨fd, F⟩ := c.def_ 21 (d := d_upright_steps) rfl
  refine ⟨fd, _, fnP_ok F sc_upright_steps rfl (fun cdv A outer s H E F0 B L b => ?_), F.bindsN (fun _ _ _ _ _ _ us hl => match us, hl with | [_], _ => rfl), F.kp⟩
  have x : XC (BX P w K mg base N_upright_steps d_upright_steps.qual d_upright_steps.scope (He.fAd K d_upright_steps.at_) cdv A outer s H E) ⟨th K, F0, B⟩ := ⟨⟨rfl, sc_upright_steps.nd, u128 b.rm⟩, rfl⟩
  exact gss_cons (gs_setT (i := 1) x.nd (pg_newT 1 (g_dK)) (.inl rfl)) (gss_cons (gs_for b.po x.calm (i_enum (st := true) x.toXB (He.free_ok KX G (c.fact 39 (f := .free "enumerate") rfl)) (g_var 0 (.inl rfl))) (t_tup x (ts_cons (t_name x.toXB 2 (.inl rfl) (.inl rfl)) (ts_cons (t_tup x (ts_cons (t_name x.toXB 3 (.inl rfl) (.inl rfl)) (ts_cons (t_name x.toXB 4 (.inl rfl) (.inl rfl)) ggs_nil))) ggs_nil))) (gss_cons (gs_set (own := false) (i := 5) x.nd (g_ix x.toXB (g_var 0 (.inl rfl)) (g_bin (ob_sub x.toXB) (g_var 2 (.inl rfl)) (g_int))) (.inl rfl)) (gss_one (gs_if (t_cmp (oc_eq x.toXB) (g_ix x.toXB (g_var 5 (.inl rfl)) (g_int)) (g_var 3 (.inl rfl))) (gss_one (gs_sdApp (i := 1) x.toXB x.toXB.K (g_bi (bf_min2 x) (He.free_ok KX G (c.fact 23 (f := .free "min") rfl)) (g_cons (g_var 4 (.inl rfl)) (g_cons (g_ix x.toXB (g_var 5 (.inl rfl)) (g_int)) pga_nil))) (pg_lst pga_nil) (g_var 3 (.inl rfl)) ⟨rfl, rfl, rfl, rfl⟩ (.inl rfl))) (gss_nil))))) (gss_one (gs_retT (i := 1) (n := 2) (.inl rfl))))
theorem ok_inside (KX : K.In h) (G : h.Ns mainGlobals mg) (c : He.SaysD fa fn K) : Fine P w K mg base (th K) 2 d_inside 1 R_inside := by
  obtain ⟨fd, F⟩ := c.def_ 22 (d := d_inside) rfl
  refine ⟨fd, _, fn_ok F sc_inside rfl (fun cdv A outer s H E F0 B L b => ?_), F.bindsN (fun _ _ _ _ _ _ us hl => match us, hl with | [_], _ => rfl), F.kp⟩
  have x : XC (BX P w K mg base N_inside d_inside.qual d_inside.scope (He.fAd K d_inside.at_) cdv A outer s H E) ⟨th K, F0, B⟩ := ⟨⟨rfl, sc_inside.nd, u128 b.rm⟩, rfl⟩
  exact gss_cons (gs_set (own := true) (i := 1) x.nd (pg_lst pga_nil) (.inl rfl)) (gss_cons (gs_for b.po x.calm (gi_itT (st := true) (g_callT (R := Q_upright_steps) (n := 2) (k := 1) (m := 1) (FineT.call (dd := d_upright_steps) (okP_upright_steps KX G c)) b.rm (by decide) b.tk (He.glo_ok KX G (c.fact 40 (f := .glo "upright_steps") rfl)) (g_cons (g_var 0 (.inl rfl)) pga_nil))) (t_tup x (ts_cons (t_name x.toXB 2 (.inl rfl) (.inl rfl)) (ts_cons (t_name x.toXB 3 (.inl rfl) (.inl rfl)) ggs_nil))) (gss_cons (gs_set (own := false) (i := 3) x.nd (g_srt x.toXB (He.free_ok KX G (c.fact 21 (f := .free "sorted") rfl)) (g_var 3 (.inl rfl))) (.inl rfl)) (gss_one (gs_for b.po x.calm (i_r3 (st := true) (He.free_ok KX G (c.fact 2 (f := .free "range") rfl)) (g_int) (g_bi (bf_len x.toXB) (He.free_ok KX G (c.fact 1 (f := .free "len") rfl)) (g_cons (g_var 3 (.inl rfl)) pga_nil)) (g_int)) (t_name x.toXB 4 (.inl rfl) (.inl rfl)) (gss_one (gs_for b.po x.calm (i_r2 (st := true) (He.free_ok KX G (c.fact 2 (f := .free "range") rfl)) (g_ix x.toXB (g_var 3 (.inl rfl)) (g_var 4 (.inl rfl))) (g_ix x.toXB (g_var 3 (.inl rfl)) (g_bin (ob_add x.toXB) (g_var 4 (.inl rfl)) (g_int)))) (t_name x.toXB 5 (.inl rfl) (.inl rfl)) (gss_one (gs_append (i := 1) (pg_tup (g_cons (g_var 5 (.inl rfl)) (g_cons (g_var 2 (.inl rfl)) pga_nil))) (.inl rfl))))))))) (gss_one (gs_ret (g_srt x.toXB (He.free_ok KX G (c.fact 21 (f := .free "sorted") rfl)) (g_var 1 (.inl rfl))))))
theorem ok_area (KX : K.In h) (G : h.Ns mainGlobals mg) (c : He.SaysD fa fn K) : Fine P w K mg base (th K) 3 d_area 1 R_area := by
  obtain ⟨fd, F⟩ := c.def_ 23 (d := d_area) rfl
  refine ⟨fd, _, fn_ok F sc_area rfl (fun cdv A outer s H E F0 B L b => ?_), F.bindsN (fun _ _ _ _ _ _ us hl => match us, hl with | [_], _ => rfl), F.kp⟩
  have x : XC (BX P w K mg base N_area d_area.qual d_area.scope (He.fAd K d_area.at_) cdv A outer s H E) ⟨th K, F0, B⟩ := ⟨⟨rfl, sc_area.nd, u128 b.rm⟩, rfl⟩
  exact gss_one (gs_ret (g_bi (bf_len x.toXB) (He.free_ok KX G (c.fact 1 (f := .free "len") rfl)) (g_cons (g_call (R := R_inside) (k := 2) (m := 1) (Fine.call (dd := d_inside) (ok_inside KX G c)) b.rm (by decide) b.tk (He.glo_ok KX G (c.fact 41 (f := .glo "inside") rfl)) (g_cons (g_var 0 (.inl rfl)) pga_nil)) pga_nil)))
theorem ok_box (KX : K.In h) (G : h.Ns mainGlobals mg) (c : He.SaysD fa fn K) : Fine P w K mg base (th K) 1 d_box 1 R_box := by
  obtain ⟨fd, F⟩ := c.def_ 24 (d := d_box) rfl
  refine ⟨fd, _, fn_ok F sc_box rfl (fun cdv A outer s H E F0 B L b => ?_), F.bindsN (fun _ _ _ _ _ _ us hl => match us, hl with | [_], _ => rfl), F.kp⟩
  have x : XC (BX P w K mg base N_box d_box.qual d_box.scope (He.fAd K d_box.at_) cdv A outer s H E) ⟨th K, F0, B⟩ := ⟨⟨rfl, sc_box.nd, u128 b.rm⟩, rfl⟩
  exact gss_cons (gs_setLc (own := false) (i := 1) (ow := [("x", 3), ("y", 4)]) (by decide) x.calm x.nd rfl rfl (sw_true rfl rfl rfl (by decide +kernel)) (i_list (st := false) x.toXB (g_var 0 (.inl rfl))) (blkOk_by (N := N_box) (sc := defScope st_box) (by decide +kernel)) (fun _ _ _ _ _ => t_tup x.blk (ts_cons (t_name x.blk.toXB 3 (.inl rfl) (.inr rfl)) (ts_cons (t_name x.blk.toXB 4 (.inl rfl) (.inr rfl)) ggs_nil))) (fun _ _ _ _ _ => pgts_nil) (fun _ _ _ _ _ => g_var 3 (.inl rfl)) (fun _ => rfl)) (gss_cons (gs_setLc (own := false) (i := 2) (ow := [("x", 3), ("y", 4)]) (by decide) x.calm x.nd rfl rfl (sw_true rfl rfl rfl (by decide +kernel)) (i_list (st := false) x.toXB (g_var 0 (.inl rfl))) (blkOk_by (N := N_box) (sc := defScope st_box) (by decide +kernel)) (fun _ _ _ _ _ => t_tup x.blk (ts_cons (t_name x.blk.toXB 3 (.inl rfl) (.inr rfl)) (ts_cons (t_name x.blk.toXB 4 (.inl rfl) (.inr rfl)) ggs_nil))) (fun _ _ _ _ _ => pgts_nil) (fun _ _ _ _ _ => g_var 4 (.inl rfl)) (fun _ => rfl)) (gss_one (gs_ret (pg_tup (g_cons (g_min x (He.free_ok KX G (c.fact 23 (f := .free "min") rfl)) (g_var 1 (.inl rfl))) (g_cons (g_min x (He.free_ok KX G (c.fact 23 (f := .free "min") rfl)) (g_var 2 (.inl rfl))) (g_cons (g_bi (bf_max1 x) (He.free_ok KX G (c.fact 42 (f := .free "max") rfl)) (g_cons (g_var 1 (.inl rfl)) pga_nil)) (g_cons (g_bi (bf_max1 x) (He.free_ok KX G (c.fact 42 (f := .free "max") rfl)) (g_cons (g_var 2 (.inl rfl)) pga_nil)) pga_nil))))))))
theorem ok__law_patch (KX : K.In h) (G : h.Ns mainGlobals mg) (c : He.SaysD fa fn K) : Fine P w K mg base (th K) 1 d__law_patch 1 R__law_patch := by
  obtain ⟨fd, F⟩ := c.def_ 25 (d := d__law_patch) rfl
  refine ⟨fd, _, fn_ok F sc__law_patch rfl (fun cdv A outer s H E F0 B L b => ?_), F.bindsN (fun _ _ _ _ _ _ us hl => match us, hl with | [_], _ => rfl), F.kp⟩
  have x : XC (BX P w K mg base N__law_patch d__law_patch.qual d__law_patch.scope (He.fAd K d__law_patch.at_) cdv A outer s H E) ⟨th K, F0, B⟩ := ⟨⟨rfl, sc__law_patch.nd, u128 b.rm⟩, rfl⟩
  exact gss_cons (gs_set (own := false) (i := 1) x.nd (g_min x (He.free_ok KX G (c.fact 23 (f := .free "min") rfl)) (pg_lc (own := [("_law_x", 10), ("_law_y", 8)]) (by decide) x.calm x.nd (i_list (st := false) x.toXB (g_var 0 (.inl rfl))) (blkOk_by (N := N__law_patch) (sc := defScope st__law_patch) (by decide +kernel)) (fun _ _ _ _ _ => t_tup x.blk (ts_cons (t_name x.blk.toXB 10 (.inl rfl) (.inr rfl)) (ts_cons (t_name x.blk.toXB 8 (.inl rfl) (.inr rfl)) ggs_nil))) (fun _ _ _ _ _ => pgts_nil) (fun _ _ _ _ _ => g_var 10 (.inl rfl)) (fun _ => rfl))) (.inl rfl)) (gss_cons (gs_set (own := false) (i := 2) x.nd (g_bi (bf_max1 x) (He.free_ok KX G (c.fact 42 (f := .free "max") rfl)) (g_cons (pg_lc (own := [("_law_x", 10), ("_law_y", 8)]) (by decide) x.calm x.nd (i_list (st := false) x.toXB (g_var 0 (.inl rfl))) (blkOk_by (N := N__law_patch) (sc := defScope st__law_patch) (by decide +kernel)) (fun _ _ _ _ _ => t_tup x.blk (ts_cons (t_name x.blk.toXB 10 (.inl rfl) (.inr rfl)) (ts_cons (t_name x.blk.toXB 8 (.inl rfl) (.inr rfl)) ggs_nil))) (fun _ _ _ _ _ => pgts_nil) (fun _ _ _ _ _ => g_var 10 (.inl rfl)) (fun _ => rfl)) pga_nil)) (.inl rfl)) (gss_cons (gs_set (own := false) (i := 3) x.nd (g_min x (He.free_ok KX G (c.fact 23 (f := .free "min") rfl)) (pg_lc (own := [("_law_x", 10), ("_law_y", 8)]) (by decide) x.calm x.nd (i_list (st := false) x.toXB (g_var 0 (.inl rfl))) (blkOk_by (N := N__law_patch) (sc := defScope st__law_patch) (by decide +kernel)) (fun _ _ _ _ _ => t_tup x.blk (ts_cons (t_name x.blk.toXB 10 (.inl rfl) (.inr rfl)) (ts_cons (t_name x.blk.toXB 8 (.inl rfl) (.inr rfl)) ggs_nil))) (fun _ _ _ _ _ => pgts_nil) (fun _ _ _ _ _ => g_var 8 (.inl rfl)) (fun _ => rfl))) (.inl rfl)) (gss_cons (gs_set (own := false) (i := 4) x.nd (g_bi (bf_max1 x) (He.free_ok KX G (c.fact 42 (f := .free "max") rfl)) (g_cons (pg_lc (own := [("_law_x", 10), ("_law_y", 8)]) (by decide) x.calm x.nd (i_list (st := false) x.toXB (g_var 0 (.inl rfl))) (blkOk_by (N := N__law_patch) (sc := defScope st__law_patch) (by decide +kernel)) (fun _ _ _ _ _ => t_tup x.blk (ts_cons (t_name x.blk.toXB 10 (.inl rfl) (.inr rfl)) (ts_cons (t_name x.blk.toXB 8 (.inl rfl) (.inr rfl)) ggs_nil))) (fun _ _ _ _ _ => pgts_nil) (fun _ _ _ _ _ => g_var 8 (.inl rfl)) (fun _ => rfl)) pga_nil)) (.inl rfl)) (gss_cons (gs_set (own := true) (i := 5) x.nd (g_dT) (.inl rfl)) (gss_cons (gs_for b.po x.calm (i_r1 (st := true) (He.free_ok KX G (c.fact 2 (f := .free "range") rfl)) (g_bi (bf_len x.toXB) (He.free_ok KX G (c.fact 1 (f := .free "len") rfl)) (g_cons (g_var 0 (.inl rfl)) pga_nil))) (t_name x.toXB 6 (.inl rfl) (.inl rfl)) (gss_one (gs_if (t_cmp (oc_eq x.toXB) (g_ix x.toXB (g_ix x.toXB (g_var 0 (.inl rfl)) (g_var 6 (.inl rfl))) (g_int)) (g_ix x.toXB (g_ix x.toXB (g_var 0 (.inl rfl)) (g_bin (ob_sub x.toXB) (g_var 6 (.inl rfl)) (g_int))) (g_int))) (gss_one (gs_put (i := 5) x.u1 (pg_tup (g_cons (g_ix x.toXB (g_ix x.toXB (g_var 0 (.inl rfl)) (g_var 6 (.inl rfl))) (g_int)) (g_cons (g_bi (bf_min2 x) (He.free_ok KX G (c.fact 23 (f := .free "min") rfl)) (g_cons (g_ix x.toXB (g_ix x.toXB (g_var 0 (.inl rfl)) (g_var 6 (.inl rfl))) (g_int)) (g_cons (g_ix x.toXB (g_ix x.toXB (g_var 0 (.inl rfl)) (g_bin (ob_sub x.toXB) (g_var 6 (.inl rfl)) (g_int))) (g_int)) pga_nil))) pga_nil))) (g_bl) rfl rfl rfl (fun _ => rfl) (.inl rfl))) (gss_nil)))) (gss_cons (gs_set (own := true) (i := 7) x.nd (pg_lst pga_nil) (.inl rfl)) (gss_cons (gs_for b.po x.calm (i_r2 (st := true) (He.free_ok KX G (c.fact 2 (f := .free "range") rfl)) (g_var 3 (.inl rfl)) (g_var 4 (.inl rfl))) (t_name x.toXB 8 (.inl rfl) (.inl rfl)) (gss_cons (gs_set (own := false) (i := 9) x.nd (g_bl) (.inl rfl)) (gss_one (gs_for b.po x.calm (i_r2 (st := true) (He.free_ok KX G (c.fact 2 (f := .free "range") rfl)) (g_var 1 (.inl rfl)) (g_var 2 (.inl rfl))) (t_name x.toXB 10 (.inl rfl) (.inl rfl)) (gss_cons (gs_set (own := false) (i := 9) x.nd (g_cmp (oc_ne x.toXB) (g_var 9 (.inl rfl)) (g_inD x.toXB (pg_tup (g_cons (g_var 10 (.inl rfl)) (g_cons (g_var 8 (.inl rfl)) pga_nil))) (g_var 5 (.inl rfl)))) (.inl rfl)) (gss_one (gs_if (t_tru x.toXB (g_var 9 (.inl rfl))) (gss_one (gs_append (i := 7) (pg_tup (g_cons (g_var 10 (.inl rfl)) (g_cons (g_var 8 (.inl rfl)) pga_nil))) (.inl rfl))) (gss_nil)))))))) (gss_one (gs_ret (g_srt x.toXB (He.free_ok KX G (c.fact 21 (f := .free "sorted") rfl)) (g_var 7 (.inl rfl))))))))))))
theorem ok_law (KX : K.In h) (G : h.Ns mainGlobals mg) (c : He.SaysD fa fn K) {fd : FuncData} (F : FunD K d_law.name d_law.qual d_law.params d_law.body d_law.scope [] [] (He.fAd K d_law.at_) fd) : FnOk P w K mg base (L2N.CX P w) 10 (He.fAd K d_law.at_) fd ["_law_script"] (spOf (th K) 1 R_law_k14) := by
  refine fn_ok F sc_law rfl (fun cdv A outer s H E F0 B L b => ?_)
  have x : XC (BX P w K mg base N_law d_law.qual d_law.scope (He.fAd K d_law.at_) cdv A outer s H E) ⟨th K, F0, B⟩ := ⟨⟨rfl, sc_law.nd, u128 b.rm⟩, rfl⟩
  exact gss_cons (gs_set (own := false) (i := 1) x.nd (g_call (R := R__law_draws) (k := 1) (m := 2) (Fine.call (dd := d__law_draws) (ok__law_draws KX G c)) b.rm (by decide) b.tk (He.glo_ok KX G (c.fact 43 (f := .glo "_law_draws") rfl)) (g_cons (g_var 0 (.inl rfl)) (g_cons (g_int) pga_nil))) (.inl rfl)) (gss_cons (gs_set (own := false) (i := 2) x.nd (g_call (R := R__law_plan) (k := 3) (m := 1) (Fine.call (dd := d__law_plan) (ok__law_plan KX G c)) b.rm (by decide) b.tk (He.glo_ok KX G (c.fact 44 (f := .glo "_law_plan") rfl)) (g_cons (g_var 1 (.inl rfl)) pga_nil)) (.inl rfl)) (gss_cons (gs_if (t_cmp (oc_eq x.toXB) (g_bin (ob_mod x.toXB) (g_ix x.toXB (g_var 1 (.inl rfl)) (g_int)) (g_int)) (g_int)) (gss_one (gs_set (own := false) (i := 2) x.nd (pg_tup (g_cons (g_bin (ob_mod x.toXB) (g_ix x.toXB (g_var 1 (.inl rfl)) (g_int)) (g_int)) (g_cons (g_call (R := R__law_row) (k := 2) (m := 2) (Fine.call (dd := d__law_row) (ok__law_row KX G c)) b.rm (by decide) b.tk (He.glo_ok KX G (c.fact 4 (f := .glo "_law_row") rfl)) (g_cons (g_sl x.toXB (g_var 1 (.inl rfl)) (pgo_some (g_int)) pgo_none) (g_cons (g_int) pga_nil))) (g_cons (g_call (R := R__law_row) (k := 2) (m := 2) (Fine.call (dd := d__law_row) (ok__law_row KX G c)) b.rm (by decide) b.tk (He.glo_ok KX G (c.fact 4 (f := .glo "_law_row") rfl)) (g_cons (g_sl x.toXB (g_var 1 (.inl rfl)) (pgo_some (g_int)) pgo_none) (g_cons (g_int) pga_nil))) pga_nil)))) (.inl rfl))) (gss_nil)) (gss_cons (gs_for b.po x.calm (i_list (st := true) x.toXB (g_call (R := R_rounds) (k := 9) (m := 1) (Fine.call (dd := d_rounds) (ok_rounds KX G c)) b.rm (by decide) b.tk (He.glo_ok KX G (c.fact 46 (f := .glo "rounds") rfl)) (g_cons (g_call (R := R__law_made) (k := 4) (m := 1) (Fine.call (dd := d__law_made) (ok__law_made KX G c)) b.rm (by decide) b.tk (He.glo_ok KX G (c.fact 45 (f := .glo "_law_made") rfl)) (g_cons (g_var 2 (.inl rfl)) pga_nil)) pga_nil))) (t_name x.toXB 3 (.inl rfl) (.inl rfl)) (gss_cons (gs_set (own := false) (i := 4) x.nd (g_call (R := R_area) (k := 3) (m := 1) (Fine.call (dd := d_area) (ok_area KX G c)) b.rm (by decide) b.tk (He.glo_ok KX G (c.fact 47 (f := .glo "area") rfl)) (g_cons (g_var 3 (.inl rfl)) pga_nil)) (.inl rfl)) (gss_cons (gs_tg (g_call (R := R_box) (k := 1) (m := 1) (Fine.call (dd := d_box) (ok_box KX G c)) b.rm (by decide) b.tk (He.glo_ok KX G (c.fact 48 (f := .glo "box") rfl)) (g_cons (g_var 3 (.inl rfl)) pga_nil)) (t_tup x (ts_cons (t_name x.toXB 5 (.inl rfl) (.inl rfl)) (ts_cons (t_name x.toXB 6 (.inl rfl) (.inl rfl)) (ts_cons (t_name x.toXB 7 (.inl rfl) (.inl rfl)) (ts_cons (t_name x.toXB 8 (.inl rfl) (.inl rfl)) ggs_nil)))))) (gss_cons (gs_if (t_pw (pgw_or (t_cmp (oc_ne x.toXB) (g_var 4 (.inl rfl)) (g_bi (bf_len x.toXB) (He.free_ok KX G (c.fact 1 (f := .free "len") rfl)) (g_cons (g_call (R := R__law_patch) (k := 1) (m := 1) (Fine.call (dd := d__law_patch) (ok__law_patch KX G c)) b.rm (by decide) b.tk (He.glo_ok KX G (c.fact 49 (f := .glo "_law_patch") rfl)) (g_cons (g_var 3 (.inl rfl)) pga_nil)) pga_nil))) (pw_or1 (t_cmp (oc_ne x.toXB) (g_bin (ob_mod x.toXB) (g_var 4 (.inl rfl)) (g_int)) (g_int))))) (gss_one (gs_ret (g_bl))) (gss_nil)) (gss_one (gs_if (t_pw (pgw_or (t_cmp (oc_ne x.toXB) (g_bin (ob_mod x.toXB) (g_bin (ob_sub x.toXB) (g_var 7 (.inl rfl)) (g_var 5 (.inl rfl))) (g_int)) (g_int)) (pw_or1 (t_cmp (oc_ne x.toXB) (g_bin (ob_mod x.toXB) (g_bin (ob_sub x.toXB) (g_var 8 (.inl rfl)) (g_var 6 (.inl rfl))) (g_int)) (g_int))))) (gss_one (gs_ret (g_bl))) (gss_nil))))))) (gss_one (gs_ret (g_bl))))))
end
abbrev RR : PySem.W.OpenRow := PySem.W.OpenLaw.row PySem.Challenge.rw_sashiko_k14_whole_areas_leave_one
abbrev hk : PySem.W.Hook := He.hookD 5 fa fn
def ob (s : PySem.W.SharedT) : He.AlD := He.obsDG 5 fa fn (HandSHeadRun.getT s)
theorem ob_eq (s : PySem.W.SharedT) : ob s = hk.obs s.abs := He.obsDG_eq (HandSHeadRun.getT_eq s)
abbrev loose : List Str := "SewError" :: "BadSize" :: "BadBit" :: "NoCell" :: "NoLine" :: "NoStep" :: "NoPoint" :: "along_row" :: "along_column" :: "joined" :: "followed" :: "from_least" :: "seam" :: "seams" :: "first_point" :: "rounds" :: "box" :: "upright_steps" :: "inside" :: "area" :: "MOST" :: "ask_bits" :: "Cloth" :: "_law_draws" :: "_law_bits" :: "_law_row" :: "_law_plan" :: "_law_made" :: "_law_patch" :: []
theorem run (w : World) : HandSHeadRun.RunEq RR (PySem.W.view RR.prog [34]) hk ob 6000 loose w := by
  intro os
  kernel_rfl
theorem pre (hl : ∀ ns : List Int, ns.length ≤ 63 → R_law_k14 [.frl ns] = .ok (.bl true, false)) (w : World) (mg : Str → Option Value) (a : Addr) (h : Heap) (K : PySem.W.Frag) (KX : K.In h) (G : h.Ns mainGlobals mg) (c : He.SaysD fa fn K) (hmg : mg "law" = some (.ref a)) :
    ∃ (fd : FuncData) (sp : Sp), (∀ (s : Shared) (u : Value), BindsTo s fd ⟨[u], []⟩ [("_law_script", u)]) ∧ (∀ (H : Hp) (a : Addr) (ns : List Int), ns.length ≤ 63 → Only H → SqL K H a (ns.map V.int) → sp [.ref a] H (fun v _ => v = .bl true) fun _ _ _ => False) ∧
      ∀ base : Heap, K.In base → base.Ns mainGlobals mg → FnOk (PySem.Challenge.rw_sashiko_k14_whole_areas_leave_one).prog w K mg base (CXW (PySem.Challenge.rw_sashiko_k14_whole_areas_leave_one).prog) 10 a fd ["_law_script"] sp := by
  obtain ⟨fd, F⟩ := c.def_ 26 (d := d_law) rfl
  have e := hmg.symm.trans (He.glo_ok KX G (c.fact 50 (f := .glo "law") rfl))
  cases e
  have b := FunD.bindsA (ps := ["_law_script"]) F fun _ _ _ _ _ _ us hl => match us, hl with | [_], _ => rfl
  exact ⟨fd, spOf (th K) 1 R_law_k14, fun s u => b s [u] rfl, fun H a ns hn _ hS => law_sp (θ := th K) hl H a ns hn hS, fun base _ _ => wcx (ok_law KX G c F)⟩
end K14
namespace Turn
def I (a : Int) : Int := if 1 ≤ a then 1 else 0
/-- a step up from b to b' at a, counted behind a = 1 -/
def W (a b b' : Int) : Int := if 1 ≤ a then I b' - I b else 0
theorem square {a b e1 e2 f1 f2 : Int} (he : (e1 = 0 ∧ (e2 = 1 ∨ e2 = -1)) ∨ (e2 = 0 ∧ (e1 = 1 ∨ e1 = -1))) (hf : (f1 = 0 ∧ (f2 = 1 ∨ f2 = -1)) ∨ (f2 = 0 ∧ (f1 = 1 ∨ f1 = -1)))
    (n1 : ¬ (a = 0 ∧ b = 0)) (n2 : ¬ (a + e1 = 0 ∧ b + e2 = 0)) (n3 : ¬ (a - f1 = 0 ∧ b - f2 = 0)) (n4 : ¬ (a + e1 - f1 = 0 ∧ b + e2 - f2 = 0)) :
    W a b (b + e2) + W (a + e1) (b + e2) (b + e2 - f2) = W a b (b - f2) + W (a - f1) (b - f2) (b + e2 - f2) := by
  rcases he with ⟨rfl, he⟩ | ⟨rfl, he⟩ <;> rcases hf with ⟨rfl, hf⟩ | ⟨rfl, hf⟩
  · unfold W
    simp only [Int.add_zero, Int.sub_zero]
    split <;> omega
  · unfold W
    simp only [Int.add_zero, Int.sub_zero]
    rcases he with rfl | rfl <;> rcases hf with rfl | rfl <;> unfold I <;> split <;> split <;> first | omega | (split <;> split <;> omega)
  · unfold W
    simp only [Int.add_zero, Int.sub_zero]
    rcases he with rfl | rfl <;> rcases hf with rfl | rfl <;> unfold I <;> split <;> split <;> first | omega | (split <;> split <;> omega)
  · unfold W
    simp only [Int.add_zero, Int.sub_zero]
    split <;> split <;> omega
def sm (f : Nat → Int) : Nat → Int
  | 0 => 0
  | n + 1 => sm f n + f n
theorem sm_congr {f g : Nat → Int} : ∀ {n : Nat}, (∀ k, k < n → f k = g k) → sm f n = sm g n
  | 0, _ => rfl
  | n + 1, h => by
    show sm f n + f n = sm g n + g n
    rw [sm_congr fun k hk => h k (by omega), h n (by omega)]
theorem sm_zero {f : Nat → Int} {n : Nat} (h : ∀ k, k < n → f k = 0) : sm f n = 0 := by
  induction n with
  | zero => rfl
  | succ n ih =>
    show sm f n + f n = 0
    rw [ih fun k hk => h k (by omega), h n (by omega)]
    rfl
theorem sm_tel (f : Nat → Int) : ∀ n : Nat, sm (fun k => f (k + 1) - f k) n = f n - f 0
  | 0 => by show (0 : Int) = f 0 - f 0; omega
  | n + 1 => by
    show sm (fun k => f (k + 1) - f k) n + (f (n + 1) - f n) = _
    rw [sm_tel f n]
    omega
theorem sm_add (f g : Nat → Int) : ∀ n : Nat, sm (fun k => f k + g k) n = sm f n + sm g n
  | 0 => rfl
  | n + 1 => by
    show sm (fun k => f k + g k) n + (f n + g n) = (sm f n + f n) + (sm g n + g n)
    rw [sm_add f g n]
    omega
theorem sm_two (f : Nat → Int) : ∀ n : Nat, sm f (2 * n) = sm (fun k => f (2 * k) + f (2 * k + 1)) n
  | 0 => rfl
  | n + 1 => by
    show sm f (2 * n + 2) = sm _ n + (f (2 * n) + f (2 * n + 1))
    rw [← sm_two f n]
    show sm f (2 * n) + f (2 * n) + f (2 * n + 1) = _
    omega
section
variable {X Y : Nat → Int} {M : Nat}
def A (X Y : Nat → Int) (i j : Nat) : Int := W (X j - X i) (Y j - Y i) (Y (j + 1) - Y i)
def B (X Y : Nat → Int) (i j : Nat) : Int := W (X j - X i) (Y j - Y i) (Y j - Y (i + 1))
def psi (X Y : Nat → Int) (i j : Nat) : Int := sm (fun k => A X Y 0 (k + 1)) (j - 1) + sm (fun k => B X Y k j) i
def Unit (X Y : Nat → Int) (i : Nat) : Prop := (X (i + 1) - X i = 0 ∧ (Y (i + 1) - Y i = 1 ∨ Y (i + 1) - Y i = -1)) ∨ (Y (i + 1) - Y i = 0 ∧ (X (i + 1) - X i = 1 ∨ X (i + 1) - X i = -1))
theorem psi_step (st : ∀ i, i < M → Unit X Y i) (inj : ∀ i j, i < j → j ≤ M → ¬ (X j - X i = 0 ∧ Y j - Y i = 0)) : ∀ i j, i < j → j < M → psi X Y i (j + 1) = psi X Y i j + A X Y i j
  | 0, j, hi, hj => by
    unfold psi
    obtain ⟨m, rfl⟩ : ∃ m, j = m + 1 := ⟨j - 1, by omega⟩
    show sm _ (m + 1) + 0 = sm _ m + 0 + _
    show sm _ m + A X Y 0 (m + 1) + 0 = sm _ m + 0 + A X Y 0 (m + 1)
    omega
  | i + 1, j, hi, hj => by
    have ih := psi_step st inj i j (by omega) hj
    have e1 : psi X Y (i + 1) (j + 1) = psi X Y i (j + 1) + B X Y i (j + 1) := by
      unfold psi
      show _ + (sm _ i + B X Y i (j + 1)) = _
      omega
    have e2 : psi X Y (i + 1) j = psi X Y i j + B X Y i j := by
      unfold psi
      show _ + (sm _ i + B X Y i j) = _
      omega
    have sq := square (a := X j - X i) (b := Y j - Y i) (st j (by omega)) (st i (by omega)) (inj i j (by omega) (by omega))
      (fun z => inj i (j + 1) (by omega) (by omega) (by omega)) (fun z => inj (i + 1) j (by omega) (by omega) (by omega)) (fun z => inj (i + 1) (j + 1) (by omega) (by omega) (by omega))
    have a1 : A X Y i j = W (X j - X i) (Y j - Y i) (Y j - Y i + (Y (j + 1) - Y j)) := by unfold A; congr 1; omega
    have a2 : B X Y i (j + 1) = W (X j - X i + (X (j + 1) - X j)) (Y j - Y i + (Y (j + 1) - Y j)) (Y j - Y i + (Y (j + 1) - Y j) - (Y (i + 1) - Y i)) := by unfold B; congr 1 <;> omega
    have a3 : B X Y i j = W (X j - X i) (Y j - Y i) (Y j - Y i - (Y (i + 1) - Y i)) := by unfold B; congr 1; omega
    have a4 : A X Y (i + 1) j = W (X j - X i - (X (i + 1) - X i)) (Y j - Y i - (Y (i + 1) - Y i)) (Y j - Y i + (Y (j + 1) - Y j) - (Y (i + 1) - Y i)) := by unfold A; congr 1 <;> omega
    rw [e1, e2, ih]
    omega
/-- a turn -/
def tn (X Y : Nat → Int) (i : Nat) : Int := A X Y i (i + 1) + B X Y i (i + 2)
theorem psi_tn (st : ∀ i, i < M → Unit X Y i) (inj : ∀ i j, i < j → j ≤ M → ¬ (X j - X i = 0 ∧ Y j - Y i = 0)) : ∀ i, i + 1 ≤ M → psi X Y i (i + 1) = sm (tn X Y) i
  | 0, _ => rfl
  | i + 1, h => by
    have ih := psi_tn st inj i (by omega)
    have s := psi_step st inj i (i + 1) (by omega) (by omega)
    have e1 : psi X Y (i + 1) (i + 2) = psi X Y i (i + 2) + B X Y i (i + 2) := by
      unfold psi
      show _ + (sm _ i + B X Y i (i + 2)) = _
      omega
    show psi X Y (i + 1) (i + 2) = sm (tn X Y) i + tn X Y i
    rw [e1, s, ih]
    unfold tn
    omega
/-- from the least point on, where the first step goes right and the last point stands above the first: the turns add up to one -/
theorem turns (hM : 2 ≤ M) (st : ∀ i, i < M → Unit X Y i) (inj : ∀ i j, i < j → j ≤ M → ¬ (X j - X i = 0 ∧ Y j - Y i = 0)) (least : ∀ i, i ≤ M → X 0 < X i ∨ (X 0 = X i ∧ Y 0 ≤ Y i))
    (f1 : Y 1 = Y 0) (l1 : X M = X 0) (l2 : Y M = Y 0 + 1) : sm (tn X Y) (M - 1) = 1 := by
  have h := psi_tn st inj (M - 1) (by omega)
  rw [← h, show M - 1 + 1 = M by omega]
  unfold psi
  have z : sm (fun k => B X Y k M) (M - 1) = 0 := sm_zero fun k hk => by
    unfold B W
    rw [if_neg]
    have := least k (by omega)
    omega
  rw [z]
  have a : sm (fun k => A X Y 0 (k + 1)) (M - 1) = sm (fun k => I (Y (k + 1 + 1) - Y 0) - I (Y (k + 1) - Y 0)) (M - 1) := sm_congr fun k hk => by
    have l := least (k + 1) (by omega)
    have n := inj 0 (k + 1) (by omega) (by omega)
    have n2 := inj 0 (k + 2) (by omega) (by omega)
    have l2 := least (k + 2) (by omega)
    have u := st (k + 1) (by omega)
    show W (X (k + 1) - X 0) (Y (k + 1) - Y 0) (Y (k + 1 + 1) - Y 0) = _
    unfold W
    split
    · rfl
    · rcases u with ⟨u1, u2⟩ | ⟨u1, u2⟩
      · have : I (Y (k + 1 + 1) - Y 0) = 1 ∧ I (Y (k + 1) - Y 0) = 1 := by
          unfold I
          have e : X (k + 1 + 1) = X (k + 2) := rfl
          have e2 : Y (k + 1 + 1) = Y (k + 2) := rfl
          constructor
          · rw [if_pos (by omega)]
          · rw [if_pos (by omega)]
        omega
      · rw [show Y (k + 1 + 1) = Y (k + 1) by omega]
        omega
  rw [a]
  have t := sm_tel (fun k => I (Y (k + 1) - Y 0)) (M - 1)
  rw [t]
  rw [show M - 1 + 1 = M by omega, l2, show (0 : Nat) + 1 = 1 from rfl, f1]
  unfold I
  rw [if_pos (by omega), if_neg (by omega)]
  rfl
end
def pot (g : Int → Int) (y : Int) : Int := if 0 ≤ y then sm (fun k => g (k : Int)) y.toNat else - sm (fun k => g (-(k : Int) - 1)) (-y).toNat
theorem pot_succ (g : Int → Int) (y : Int) : pot g (y + 1) = pot g y + g y := by
  unfold pot
  by_cases c : 0 ≤ y
  · rw [if_pos (by omega), if_pos c, show (y + 1).toNat = y.toNat + 1 by omega]
    show sm _ y.toNat + g (y.toNat : Int) = _
    rw [show ((y.toNat : Nat) : Int) = y by omega]
  · by_cases c1 : y = -1
    · subst c1
      rw [if_pos (by omega), if_neg (by omega)]
      show (0 : Int) = -(0 + g (-((0 : Nat) : Int) - 1)) + g (-1)
      rw [show (-((0 : Nat) : Int) - 1) = -1 by omega]
      omega
    · rw [if_neg (by omega), if_neg (by omega), show (-y).toNat = (-(y + 1)).toNat + 1 by omega]
      show - sm _ _ = -(sm _ _ + g (-(((-(y + 1)).toNat : Nat) : Int) - 1)) + g y
      rw [show (-(((-(y + 1)).toNat : Nat) : Int) - 1) = y by omega]
      omega
theorem leave {n : Nat} {X Y : Nat → Int} {h : Int → Int} (hn : 2 ≤ n) (hh : ∀ y, h y = 1 ∨ h y = -1)
    (sH : ∀ k, k < n → X (2 * k + 1) = X (2 * k) + h (Y (2 * k)) ∧ Y (2 * k + 1) = Y (2 * k))
    (sV : ∀ k, k < n → X (2 * k + 2) = X (2 * k + 1) ∧ (Y (2 * k + 2) = Y (2 * k + 1) + 1 ∨ Y (2 * k + 2) = Y (2 * k + 1) - 1))
    (cX : X (2 * n) = X 0) (cY : Y (2 * n) = Y 0) (inj : ∀ i j, i < j → j < 2 * n → ¬ (X i = X j ∧ Y i = Y j))
    (least : ∀ i, i < 2 * n → X 0 < X i ∨ (X 0 = X i ∧ Y 0 ≤ Y i)) (f1 : X 1 = X 0 + 1) (l1 : X (2 * n - 1) = X 0) (l2 : Y (2 * n - 1) = Y 0 + 1) : n % 4 = 2 := by
  have hY : ∀ k, k < n → h (Y (2 * k)) = X (2 * k + 1) - X (2 * k) := fun k hk => by have := (sH k hk).1; omega
  have unit : ∀ i, i < 2 * n - 1 → Unit X Y i := fun i hi => by
    rcases (by omega : i = 2 * (i / 2) ∨ i = 2 * (i / 2) + 1) with e | e
    · have a := sH (i / 2) (by omega)
      have b := hh (Y (2 * (i / 2)))
      rw [← e] at a b
      exact .inr ⟨by omega, by omega⟩
    · have a := sV (i / 2) (by omega)
      rw [show 2 * (i / 2) + 2 = i + 1 by omega, ← e] at a
      exact .inl ⟨by omega, by omega⟩
  have f2 : Y 1 = Y 0 := (sH 0 (by omega)).2
  have tu := turns (M := 2 * n - 1) (by omega) unit (fun i j hi hj z => inj i j hi (by omega) ⟨by omega, by omega⟩) (fun i hi => least i (by omega)) f2 l1 l2
  rw [show 2 * n - 1 - 1 = 2 * (n - 1) by omega, sm_two] at tu
  -- the two kinds of steps
  obtain ⟨et, het⟩ : ∃ f : Nat → Int, ∀ k, f k = h (Y (2 * k)) := ⟨_, fun _ => rfl⟩
  obtain ⟨nu, hnu⟩ : ∃ f : Nat → Int, ∀ k, f k = Y (2 * k + 2) - Y (2 * k + 1) := ⟨_, fun _ => rfl⟩
  have e1 : ∀ k, et k = 1 ∨ et k = -1 := fun k => by rw [het]; exact hh _
  have n1 : ∀ k, k < n → nu k = 1 ∨ nu k = -1 := fun k hk => by rw [hnu]; have := (sV k hk).2; omega
  have et' : ∀ k, k < n → et k = X (2 * k + 1) - X (2 * k) := fun k hk => by rw [het]; exact hY k hk
  have t1 : ∀ k, k < n - 1 → 4 * (tn X Y (2 * k) + tn X Y (2 * k + 1)) = (1 + et k) * (1 + nu k) - (1 + nu k) * (1 + et (k + 1)) := fun k hk => by
    have s1 := sH k (by omega)
    have s2 := sV k (by omega)
    have s3 := sH (k + 1) (by omega)
    have E1 := et' k (by omega)
    have E2 := et' (k + 1) (by omega)
    have c1 := e1 k
    have c2 := e1 (k + 1)
    have c3 := n1 k (by omega)
    have c4 := hnu k
    rw [show 2 * (k + 1) + 1 = 2 * k + 3 by omega, show 2 * (k + 1) = 2 * k + 2 by omega] at s3 E2
    unfold tn A B W
    rw [show 2 * k + 1 + 1 = 2 * k + 2 by omega, show 2 * k + 1 + 2 = 2 * k + 3 by omega]
    have d1 : X (2 * k + 1) - X (2 * k) = et k := by omega
    have d2 : Y (2 * k + 1) - Y (2 * k) = 0 := by omega
    have d3 : Y (2 * k + 2) - Y (2 * k) = nu k := by omega
    have d4 : X (2 * k + 2) - X (2 * k) = et k := by omega
    have d5 : Y (2 * k + 2) - Y (2 * k + 1) = nu k := by omega
    have d6 : X (2 * k + 2) - X (2 * k + 1) = 0 := by omega
    have d7 : Y (2 * k + 3) - Y (2 * k + 1) = nu k := by omega
    have d8 : X (2 * k + 3) - X (2 * k + 1) = et (k + 1) := by omega
    have d9 : Y (2 * k + 3) - Y (2 * k + 2) = 0 := by omega
    have d10 : Y (2 * k + 2 + 1) - Y (2 * k + 1) = nu k := by rw [show 2 * k + 2 + 1 = 2 * k + 3 by omega]; exact d7
    have d11 : Y (2 * k + 1 + 1 + 1) - Y (2 * k + 1) = nu k := by rw [show 2 * k + 1 + 1 + 1 = 2 * k + 3 by omega]; exact d7
    simp only [d1, d2, d3, d4, d5, d6, d7, d8, d9, d10, d11]
    unfold I
    rcases c1 with c1 | c1 <;> rcases c2 with c2 | c2 <;> rcases c3 with c3 | c3 <;> rw [c1, c2, c3] <;> decide
  have key : 4 * sm (fun k => tn X Y (2 * k) + tn X Y (2 * k + 1)) (n - 1) = sm (fun k => (1 + et k) * (1 + nu k) - (1 + nu k) * (1 + et (k + 1))) (n - 1) := by
    have : ∀ m, m ≤ n - 1 → 4 * sm (fun k => tn X Y (2 * k) + tn X Y (2 * k + 1)) m = sm (fun k => (1 + et k) * (1 + nu k) - (1 + nu k) * (1 + et (k + 1))) m := by
      intro m
      induction m with
      | zero => intro _; rfl
      | succ m ih =>
        intro hm
        have a := ih (by omega)
        have b := t1 m (by omega)
        show 4 * (sm _ m + (tn X Y (2 * m) + tn X Y (2 * m + 1))) = sm _ m + ((1 + et m) * (1 + nu m) - (1 + nu m) * (1 + et (m + 1)))
        omega
    exact this _ (Nat.le_refl _)
  rw [tu] at key
  -- the sums
  obtain ⟨P, hP⟩ : ∃ f : Nat → Int, ∀ k, f k = et k * nu k := ⟨_, fun _ => rfl⟩
  obtain ⟨Q, hQ⟩ : ∃ f : Nat → Int, ∀ k, f k = nu k * et (k + 1) := ⟨_, fun _ => rfl⟩
  have k2 : ∀ m, sm (fun k => (1 + et k) * (1 + nu k) - (1 + nu k) * (1 + et (k + 1))) m = (et 0 - et m) + (sm P m - sm Q m) := by
    intro m
    induction m with
    | zero => show (0 : Int) = et 0 - et 0 + (0 - 0); omega
    | succ m ih =>
      show sm _ m + ((1 + et m) * (1 + nu m) - (1 + nu m) * (1 + et (m + 1))) = (et 0 - et (m + 1)) + ((sm P m + P m) - (sm Q m + Q m))
      rw [ih, hP, hQ]
      have a : (1 + et m) * (1 + nu m) = 1 + et m + nu m + et m * nu m := by simp only [Int.add_mul, Int.mul_add, Int.one_mul, Int.mul_one]; omega
      have b : (1 + nu m) * (1 + et (m + 1)) = 1 + nu m + et (m + 1) + nu m * et (m + 1) := by simp only [Int.add_mul, Int.mul_add, Int.one_mul, Int.mul_one]; omega
      omega
  rw [k2] at key
  have tel : ∀ m, m ≤ n → sm (fun k => P k + nu k * h (Y (2 * k + 2))) m = pot (fun y => h y + h (y + 1)) (Y (2 * m)) - pot (fun y => h y + h (y + 1)) (Y 0) := by
    intro m
    induction m with
    | zero => intro _; rw [Nat.mul_zero]; show (0 : Int) = _ - _; omega
    | succ m ih =>
      intro hm
      show sm _ m + (P m + nu m * h (Y (2 * m + 2))) = _
      rw [ih (by omega), hP, het]
      have s1 := sH m (by omega)
      have s2 := sV m (by omega)
      have c4 := hnu m
      rw [← s1.2, show 2 * (m + 1) = 2 * m + 2 by omega]
      rcases s2.2 with z | z
      · have q := pot_succ (fun y => h y + h (y + 1)) (Y (2 * m + 1))
        rw [show nu m = 1 by omega, z]
        rw [q]
        have w := hh (Y (2 * m + 1))
        rw [Int.mul_one, Int.one_mul]
        rw [s1.2]
        omega
      · have q := pot_succ (fun y => h y + h (y + 1)) (Y (2 * m + 2))
        rw [show nu m = -1 by omega]
        rw [show Y (2 * m + 2) + 1 = Y (2 * m + 1) by omega] at q
        rw [Int.mul_neg_one, Int.neg_one_mul]
        omega
  have tl := tel n (Nat.le_refl _)
  rw [cY, Int.sub_self] at tl
  obtain ⟨m, hm⟩ : ∃ m, n = m + 1 := ⟨n - 1, by omega⟩
  have last := hnu m
  rw [show 2 * m + 2 = 2 * n by omega, show 2 * m + 1 = 2 * n - 1 by omega, cY, l2] at last
  have lv : nu m = -1 := by omega
  have e0 : et 0 = 1 := by rw [et' 0 (by omega)]; show X 1 - X 0 = 1; omega
  rw [hm] at tl
  have tl : sm (fun k => P k + nu k * h (Y (2 * k + 2))) m + (P m + nu m * h (Y (2 * m + 2))) = 0 := tl
  have same : sm (fun k => P k + nu k * h (Y (2 * k + 2))) m = sm P m + sm Q m := by
    rw [← sm_add]
    refine sm_congr fun k hk => ?_
    rw [hQ, het, show 2 * (k + 1) = 2 * k + 2 by omega]
  rw [same, show 2 * m + 2 = 2 * n by omega, cY, lv, hP, lv, Int.mul_neg_one, Int.neg_one_mul] at tl
  have h0 : h (Y 0) = 1 := by have := het 0; rw [Nat.mul_zero] at this; omega
  rw [h0] at tl
  rw [show n - 1 = m by omega, e0] at key
  -- n and the corners
  have so : sm P n = 2 := by
    rw [hm]
    show sm P m + P m = 2
    rw [hP, lv, Int.mul_neg_one]
    omega
  have se : sm et n = 0 := by
    have : ∀ m, m ≤ n → sm et m = X (2 * m) - X 0 := by
      intro m
      induction m with
      | zero => intro _; rw [Nat.mul_zero]; show (0 : Int) = _; omega
      | succ m ih =>
        intro hm
        show sm et m + et m = _
        rw [ih (by omega), et' m (by omega)]
        have := (sV m (by omega)).1
        rw [show 2 * (m + 1) = 2 * m + 2 by omega]
        omega
    rw [this n (Nat.le_refl _), cX]
    omega
  have sn : sm nu n = 0 := by
    have : ∀ m, m ≤ n → sm nu m = Y (2 * m) - Y 0 := by
      intro m
      induction m with
      | zero => intro _; rw [Nat.mul_zero]; show (0 : Int) = _; omega
      | succ m ih =>
        intro hm
        show sm nu m + nu m = _
        rw [ih (by omega), hnu m]
        have := (sH m (by omega)).2
        rw [show 2 * (m + 1) = 2 * m + 2 by omega]
        omega
    rw [this n (Nat.le_refl _), cY]
    omega
  have four : ∀ m, m ≤ n → ∃ q : Int, (m : Int) + sm et m + sm nu m + sm P m = 4 * q := by
    intro m
    induction m with
    | zero => intro _; exact ⟨0, rfl⟩
    | succ m ih =>
      intro hm
      obtain ⟨q, hq⟩ := ih (by omega)
      have c1 := e1 m
      have c2 := n1 m (by omega)
      have hp := hP m
      show ∃ q : Int, ((m + 1 : Nat) : Int) + (sm et m + et m) + (sm nu m + nu m) + (sm P m + P m) = 4 * q
      rcases c1 with c1 | c1 <;> rcases c2 with c2 | c2 <;> rw [c1, c2] at hp
      · exact ⟨q + 1, by omega⟩
      · exact ⟨q, by omega⟩
      · exact ⟨q, by omega⟩
      · exact ⟨q, by omega⟩
  obtain ⟨q, hq⟩ := four n (Nat.le_refl _)
  rw [so, se, sn] at hq
  omega
end Turn
namespace Orb
variable {α : Type}
def it (f : α → α) : Nat → α → α
  | 0, p => p
  | n + 1, p => f (it f n p)
theorem it_add (f : α → α) (m : Nat) : ∀ (n : Nat) (p : α), it f (n + m) p = it f n (it f m p)
  | 0, p => by rw [Nat.zero_add]; rfl
  | n + 1, p => by
    rw [show n + 1 + m = (n + m) + 1 by omega]
    show f (it f (n + m) p) = f (it f n (it f m p))
    rw [it_add f m n p]
theorem least {P : Nat → Prop} (h : ∃ n, P n) : ∃ n, P n ∧ ∀ m, m < n → ¬ P m := by
  obtain ⟨n, hn⟩ := h
  induction n using Nat.strongRecOn with
  | _ n ih =>
    by_cases q : ∃ m, m < n ∧ P m
    · obtain ⟨m, hm, hp⟩ := q
      exact ih m hm hp
    · exact ⟨n, hn, fun m hm hp => q ⟨m, hm, hp⟩⟩
/-- the pigeons -/
theorem nodup_le [DecidableEq α] : ∀ {l L : List α}, l.Nodup → (∀ x ∈ l, x ∈ L) → l.length ≤ L.length
  | [], _, _, _ => Nat.zero_le _
  | a :: l, L, nd, h => by
    obtain ⟨n1, n2⟩ := List.nodup_cons.mp nd
    have ha := h a List.mem_cons_self
    have := nodup_le (l := l) (L := L.erase a) n2 fun x hx => (List.mem_erase_of_ne (a := x) (b := a) (fun e => by subst e; exact n1 hx)).mpr (h x (List.mem_cons_of_mem _ hx))
    have hp : 0 < L.length := List.length_pos_of_mem ha
    rw [List.length_erase_of_mem ha] at this
    rw [List.length_cons]
    omega
section
variable {f : α → α} {S : α → Prop}
theorem it_in (hS : ∀ p, S p → S (f p)) {p : α} (hp : S p) : ∀ n, S (it f n p)
  | 0 => hp
  | n + 1 => hS _ (it_in hS hp n)
theorem it_inj (hS : ∀ p, S p → S (f p)) (inj : ∀ p q, S p → S q → f p = f q → p = q) : ∀ (n : Nat) {p q : α}, S p → S q → it f n p = it f n q → p = q
  | 0, _, _, _, _, e => e
  | n + 1, p, q, hp, hq, e => it_inj hS inj n hp hq (inj _ _ (it_in hS hp n) (it_in hS hq n) e)
/-- a walk by an injective step within finitely many places comes back -/
theorem back [DecidableEq α] {L : List α} (hS : ∀ p, S p → S (f p)) (inj : ∀ p q, S p → S q → f p = f q → p = q) (hL : ∀ p, S p → p ∈ L) {p : α} (hp : S p) : ∃ n, 1 ≤ n ∧ n ≤ L.length ∧ it f n p = p := by
  by_cases q : ∃ n, 1 ≤ n ∧ n ≤ L.length ∧ it f n p = p
  · exact q
  · exfalso
    have nd : ((List.range (L.length + 1)).map fun i => it f i p).Nodup := by
      refine List.pairwise_map.mpr ?_
      refine List.Pairwise.imp_of_mem (R := fun i j => i < j) (fun {i j} hi hj lt e => ?_) List.pairwise_lt_range
      have hj' := List.mem_range.mp hj
      rw [show j = i + (j - i) by omega, it_add] at e
      have := it_inj hS inj i hp (it_in hS hp _) e
      exact q ⟨j - i, by omega, by omega, this.symm⟩
    have := nodup_le nd (L := L) fun x hx => by
      obtain ⟨i, _, rfl⟩ := List.mem_map.mp hx
      exact hL _ (it_in hS hp i)
    rw [List.length_map, List.length_range] at this
    omega
end
end Orb
namespace Sm
variable {α : Type} [DecidableEq α]
/-- the neighbours but one -/
def ah (N : α → List α) (last here : α) : List α := (N here).filter fun z => decide (z ≠ last)
/-- the walk from b by way of s: two points behind one another -/
def wk (N : α → List α) (b s : α) : Nat → α × α
  | 0 => (b, s)
  | k + 1 => ((wk N b s k).2, (ah N (wk N b s k).1 (wk N b s k).2).headD b)
def at_ (N : α → List α) (b s : α) (k : Nat) : α := (wk N b s k).1
theorem at_0 (N : α → List α) (b s : α) : at_ N b s 0 = b := rfl
theorem at_2 (N : α → List α) (b s : α) (k : Nat) : at_ N b s (k + 2) = (ah N (at_ N b s k) (at_ N b s (k + 1))).headD b := rfl
/-- the walk goes no further behind its place k + 1 -/
def En (N : α → List α) (b s : α) (k : Nat) : Prop := (ah N (at_ N b s k) (at_ N b s (k + 1))).headD b = b
structure Gr (N : α → List α) (S : α → Prop) (L : List α) : Prop where
  sym : ∀ a, S a → ∀ b ∈ N a, S b ∧ a ∈ N b
  irr : ∀ a, S a → a ∉ N a
  two : ∀ a, (N a).length ≤ 2
  nd : ∀ a, S a → (N a).Nodup
  fin : ∀ a, S a → a ∈ L
theorem ah_mem {N : α → List α} {last here z : α} : z ∈ ah N last here ↔ z ∈ N here ∧ z ≠ last := by
  unfold ah
  rw [List.mem_filter, decide_eq_true_iff]
/-- two at most: who is beside two unlike ones is one of them -/
theorem one_of {l : List α} (h2 : l.length ≤ 2) {a b z : α} (ha : a ∈ l) (hb : b ∈ l) (ne : a ≠ b) (hz : z ∈ l) : z = a ∨ z = b := by
  match l, h2 with
  | [], _ => cases ha
  | [x], _ =>
    rw [List.mem_singleton] at ha hb
    exact absurd (ha.trans hb.symm) ne
  | [x, y], _ =>
    simp only [List.mem_cons, List.not_mem_nil, or_false] at ha hb hz
    rcases ha with rfl | rfl <;> rcases hb with rfl | rfl <;> rcases hz with rfl | rfl <;> simp_all
theorem two_len {l : List α} (h2 : l.length ≤ 2) {a b : α} (ha : a ∈ l) (hb : b ∈ l) (ne : a ≠ b) : l.length = 2 := by
  match l, h2 with
  | [], _ => cases ha
  | [x], _ =>
    rw [List.mem_singleton] at ha hb
    exact absurd (ha.trans hb.symm) ne
  | [x, y], _ => rfl
section
variable {N : α → List α} {S : α → Prop} {L : List α} {b s : α}
theorem head_of {l : List α} {b : α} (h : l.headD b ≠ b) : l.headD b ∈ l := by
  cases l with
  | nil => exact absurd rfl h
  | cons x l => exact List.mem_cons_self
/-- what holds as long as the walk has gone on -/
structure Go (N : α → List α) (S : α → Prop) (b s : α) (m : Nat) : Prop where
  ins : ∀ k, k ≤ m + 1 → S (at_ N b s k)
  adj : ∀ k, k ≤ m → at_ N b s (k + 1) ∈ N (at_ N b s k)
  ne2 : ∀ k, k < m → at_ N b s (k + 2) ≠ at_ N b s k
  neb : ∀ k, k < m → at_ N b s (k + 2) ≠ b
theorem go_of (G : Gr N S L) (hb : S b) (hs : s ∈ N b) : ∀ {m : Nat}, (∀ k, k < m → ¬ En N b s k) → Go N S b s m
  | 0, _ => by
    refine ⟨fun k hk => ?_, fun k hk => ?_, fun k hk => ?_, fun k hk => ?_⟩
    · rcases (by omega : k = 0 ∨ k = 1) with rfl | rfl
      · exact hb
      · exact (G.sym b hb s hs).1
    · obtain rfl : k = 0 := by omega
      exact hs
    · omega
    · omega
  | m + 1, h => by
    have ih := go_of G hb hs (m := m) fun k hk => h k (by omega)
    have e := h m (by omega)
    have hm := head_of e
    rw [ah_mem] at hm
    have e2 : at_ N b s (m + 2) = (ah N (at_ N b s m) (at_ N b s (m + 1))).headD b := rfl
    rw [← e2] at hm
    refine ⟨fun k hk => ?_, fun k hk => ?_, fun k hk => ?_, fun k hk => ?_⟩
    · rcases (by omega : k ≤ m + 1 ∨ k = m + 2) with q | rfl
      · exact ih.ins k q
      · exact (G.sym _ (ih.ins (m + 1) (by omega)) _ hm.1).1
    · rcases (by omega : k ≤ m ∨ k = m + 1) with q | rfl
      · exact ih.adj k q
      · exact hm.1
    · rcases (by omega : k < m ∨ k = m) with q | rfl
      · exact ih.ne2 k q
      · exact hm.2
    · rcases (by omega : k < m ∨ k = m) with q | rfl
      · exact ih.neb k q
      · exact e
theorem Go.back {m : Nat} (g : Go N S b s m) (G : Gr N S L) {k : Nat} (h : k ≤ m) : at_ N b s k ∈ N (at_ N b s (k + 1)) := (G.sym _ (g.ins k (by omega)) _ (g.adj k h)).2
/-- within the walk the neighbours are the points ahead and behind -/
theorem Go.inn {m : Nat} (g : Go N S b s m) (G : Gr N S L) {k : Nat} (h : k < m) {z : α} (hz : z ∈ N (at_ N b s (k + 1))) : z = at_ N b s k ∨ z = at_ N b s (k + 2) :=
  one_of (G.two _) (g.back G (by omega)) (g.adj (k + 1) (by omega)) (fun e => g.ne2 k h e.symm) hz
theorem Go.inj {m : Nat} (g : Go N S b s m) (G : Gr N S L) : ∀ {j : Nat}, j ≤ m + 1 → ∀ i, i < j → at_ N b s i ≠ at_ N b s j
  | 0, _, i, h => by omega
  | j + 1, hj, i, h => by
    intro e
    have ih : ∀ {a c : Nat}, a ≤ j → c ≤ j → at_ N b s a = at_ N b s c → a = c := by
      have low : ∀ {c : Nat}, c ≤ j → ∀ i, i < c → at_ N b s i ≠ at_ N b s c := fun {c} hc => by
        have : c ≤ m + 1 := by omega
        exact Go.inj g G this
      intro a c ha hc e
      rcases Nat.lt_trichotomy a c with q | q | q
      · exact absurd e (low hc a q)
      · exact q
      · exact absurd e.symm (low ha c q)
    have aj := g.adj j (by omega)
    by_cases ij : i = j
    · subst ij
      rw [← e] at aj
      exact G.irr _ (g.ins i (by omega)) aj
    by_cases i0 : i = 0
    · subst i0
      cases j with
      | zero => exact ij rfl
      | succ j => exact g.neb j (by omega) e.symm
    · obtain ⟨i, rfl⟩ : ∃ i', i = i' + 1 := ⟨i - 1, by omega⟩
      have bj := g.back G (k := j) (by omega)
      rw [← e] at bj
      rcases g.inn G (k := i) (by omega) bj with z | z
      · have := ih (by omega) (by omega) z
        omega
      · have := ih (by omega) (by omega) z
        have : j = i + 2 := this
        subst this
        exact g.ne2 (i + 1) (by omega) e.symm
theorem Go.nodup {m : Nat} (g : Go N S b s m) (G : Gr N S L) : ((List.range (m + 2)).map (at_ N b s)).Nodup := by
  refine List.pairwise_map.mpr (List.Pairwise.imp_of_mem (R := fun i j => i < j) (fun {i j} hi hj lt e => ?_) List.pairwise_lt_range)
  exact g.inj G (by have := List.mem_range.mp hj; omega) i lt e
/-- the walk ends -/
theorem ends (G : Gr N S L) (hb : S b) (hs : s ∈ N b) : ∃ n, n < L.length ∧ En N b s n ∧ ∀ k, k < n → ¬ En N b s k := by
  have ex : ∃ n, En N b s n := by
    by_cases q : ∃ n, En N b s n
    · exact q
    · exfalso
      have g := go_of G hb hs (m := L.length) fun k _ e => q ⟨k, e⟩
      have := Orb.nodup_le (g.nodup G) (L := L) fun x hx => by
        obtain ⟨i, hi, rfl⟩ := List.mem_map.mp hx
        exact G.fin _ (g.ins i (by have := List.mem_range.mp hi; omega))
      simp at this
      omega
  obtain ⟨n, h1, h2⟩ := Orb.least ex
  refine ⟨n, ?_, h1, h2⟩
  have g := go_of G hb hs (m := n) h2
  have := Orb.nodup_le (g.nodup G) (L := L) fun x hx => by
    obtain ⟨i, hi, rfl⟩ := List.mem_map.mp hx
    exact G.fin _ (g.ins i (by have := List.mem_range.mp hi; omega))
  simp at this
  omega
open Classical in
/-- the place at which it ends -/
noncomputable def end_ (N : α → List α) (b s : α) : Nat := if h : ∃ n, En N b s n ∧ ∀ k, k < n → ¬ En N b s k then Classical.choose h else 0
theorem end_ok (G : Gr N S L) (hb : S b) (hs : s ∈ N b) : En N b s (end_ N b s) ∧ (∀ k, k < end_ N b s → ¬ En N b s k) ∧ end_ N b s < L.length := by
  obtain ⟨n, h0, h1, h2⟩ := ends G hb hs
  have e : ∃ n, En N b s n ∧ ∀ k, k < n → ¬ En N b s k := ⟨n, h1, h2⟩
  have c := Classical.choose_spec e
  have eq : end_ N b s = Classical.choose e := by unfold end_; rw [dif_pos e]
  rw [eq]
  refine ⟨c.1, c.2, ?_⟩
  rcases Nat.lt_trichotomy (Classical.choose e) n with q | q | q
  · omega
  · omega
  · exact absurd h1 (c.2 n q)
/-- the line from b by way of s -/
def line (N : α → List α) (b s : α) (n : Nat) : List α := (List.range (n + 2)).map (at_ N b s)
theorem line_len (n : Nat) : (line N b s n).length = n + 2 := by simp [line]
theorem line_get {n i : Nat} (h : i < n + 2) : (line N b s n)[i]? = some (at_ N b s i) := by
  unfold line
  rw [List.getElem?_map, List.getElem?_range h]
  rfl
/-- whether it comes back -/
def back (N : α → List α) (b s : α) (n : Nat) : Bool := decide (ah N (at_ N b s n) (at_ N b s (n + 1)) ≠ [])
theorem back_iff (G : Gr N S L) (hb : S b) (hs : s ∈ N b) (h : En N b s (end_ N b s)) : back N b s (end_ N b s) = true → b ∈ N (at_ N b s (end_ N b s + 1)) ∧ b ≠ at_ N b s (end_ N b s) := by
  intro q
  unfold back at q
  have q := of_decide_eq_true q
  unfold En at h
  cases e : ah N (at_ N b s (end_ N b s)) (at_ N b s (end_ N b s + 1)) with
  | nil => exact absurd e q
  | cons z r =>
    rw [e] at h
    have h : z = b := h
    subst h
    have := (ah_mem (N := N) (last := at_ N z s (end_ N z s)) (here := at_ N z s (end_ N z s + 1)) (z := z)).mp (by rw [e]; exact List.mem_cons_self)
    exact this
theorem not_back {n : Nat} (h : back N b s n = false) {z : α} (hz : z ∈ N (at_ N b s (n + 1))) : z = at_ N b s n := by
  unfold back at h
  have h : ah N (at_ N b s n) (at_ N b s (n + 1)) = [] := by
    by_cases q : ah N (at_ N b s n) (at_ N b s (n + 1)) = []
    · exact q
    · rw [decide_eq_true q] at h; cases h
  by_cases e : z = at_ N b s n
  · exact e
  · have : z ∈ ah N (at_ N b s n) (at_ N b s (n + 1)) := ah_mem.mpr ⟨hz, e⟩
    rw [h] at this
    cases this
end
structure Seam (N : α → List α) (c : Bool) (l : List α) : Prop where
  nd : l.Nodup
  two : 2 ≤ l.length
  step : ∀ i a b, l[i]? = some a → l[i + 1]? = some b → b ∈ N a ∧ a ∈ N b
  cl : ∀ a ∈ l, ∀ b ∈ N a, b ∈ l
  shut : c = true → 3 ≤ l.length ∧ ∀ a b, l[0]? = some a → l[l.length - 1]? = some b → b ∈ N a ∧ a ∈ N b
  deg : ∀ i a, l[i]? = some a → (N a).length = if c = true ∨ (0 < i ∧ i + 1 < l.length) then 2 else 1
section
variable {N : α → List α} {c : Bool} {l : List α}
theorem rev_get (l : List α) {i : Nat} (h : i < l.length) : l.reverse[i]? = l[l.length - 1 - i]? := List.getElem?_reverse h
theorem Seam.rev (q : Seam N c l) : Seam N c l.reverse := by
  have hl : l.reverse.length = l.length := List.length_reverse
  have lt : ∀ {i : Nat} {a : α}, l.reverse[i]? = some a → i < l.length := fun {i a} h => by
    have := (List.getElem?_eq_some_iff.mp h).1
    omega
  refine ⟨(List.reverse_perm l).nodup_iff.mpr q.nd, by rw [hl]; exact q.two, fun i a b ha hb => ?_, fun a ha b hb => ?_, fun h => ?_, fun i a ha => ?_⟩
  · have h1 := lt ha
    have h2 := lt hb
    rw [rev_get l h1] at ha
    rw [rev_get l h2] at hb
    have e : l.length - 1 - i = (l.length - 1 - (i + 1)) + 1 := by omega
    rw [e] at ha
    have := q.step _ b a hb ha
    exact ⟨this.2, this.1⟩
  · rw [List.mem_reverse] at ha ⊢
    exact q.cl a ha b hb
  · obtain ⟨h3, hh⟩ := q.shut h
    refine ⟨by rw [hl]; exact h3, fun a b ha hb => ?_⟩
    rw [rev_get l (by omega)] at ha
    rw [hl, rev_get l (by omega)] at hb
    have := hh b a (by rwa [show l.length - 1 - (l.length - 1) = 0 by omega] at hb) (by simpa using ha)
    exact ⟨this.2, this.1⟩
  · have h1 := lt ha
    rw [rev_get l h1] at ha
    have := q.deg _ a ha
    rw [this, hl]
    by_cases h : c = true
    · simp [h]
    · by_cases h2 : 0 < i ∧ i + 1 < l.length
      · rw [if_pos (.inr (by omega)), if_pos (.inr h2)]
      · rw [if_neg (fun z => z.elim h (fun z => h2 (by omega))), if_neg (fun z => z.elim h h2)]
theorem Seam.rot {m : List α} (q : Seam N true (l ++ m)) : Seam N true (m ++ l) := by
  by_cases hm : m = []
  · subst hm
    simpa using q
  by_cases hl0 : l = []
  · subst hl0
    simpa using q
  have lm : 0 < m.length := List.length_pos_iff.mpr hm
  have ll : 0 < l.length := List.length_pos_iff.mpr hl0
  have hl : (m ++ l).length = (l ++ m).length := by simp; omega
  have len : (l ++ m).length = l.length + m.length := List.length_append
  obtain ⟨s3, sh⟩ := q.shut rfl
  -- places
  have g1 : ∀ i, i < m.length → (m ++ l)[i]? = (l ++ m)[l.length + i]? := fun i h => by
    rw [List.getElem?_append_left h, List.getElem?_append_right (by omega)]
    congr 1
    omega
  have g2 : ∀ i, i < l.length → (m ++ l)[m.length + i]? = (l ++ m)[i]? := fun i h => by
    rw [List.getElem?_append_right (by omega), List.getElem?_append_left h]
    congr 1
    omega
  have lt : ∀ {i : Nat} {a : α}, (m ++ l)[i]? = some a → i < l.length + m.length := fun {i a} h => by
    have := (List.getElem?_eq_some_iff.mp h).1
    simp at this
    omega
  refine ⟨?_, by rw [hl]; exact q.two, fun i a b ha hb => ?_, fun a ha b hb => ?_, fun h => ?_, fun i a ha => ?_⟩
  · exact (List.perm_append_comm.nodup_iff).mp q.nd
  · have h1 := lt ha
    have h2 := lt hb
    rcases (by omega : i + 1 < m.length ∨ i + 1 = m.length ∨ m.length ≤ i) with c | c | c
    · rw [g1 i (by omega)] at ha
      rw [g1 (i + 1) c] at hb
      exact q.step _ a b ha hb
    · rw [g1 i (by omega)] at ha
      rw [show i + 1 = m.length + 0 by omega, g2 0 ll] at hb
      have := sh b a hb (by rw [len, show l.length + m.length - 1 = l.length + i by omega]; exact ha)
      exact ⟨this.2, this.1⟩
    · obtain ⟨j, rfl⟩ : ∃ j, i = m.length + j := ⟨i - m.length, by omega⟩
      rw [g2 j (by omega)] at ha
      rw [show m.length + j + 1 = m.length + (j + 1) by omega, g2 (j + 1) (by omega)] at hb
      exact q.step _ a b ha hb
  · have e : ∀ z, z ∈ m ++ l ↔ z ∈ l ++ m := fun z => by simp [or_comm]
    rw [e] at ha ⊢
    exact q.cl a ha b hb
  · refine ⟨by rw [hl]; exact s3, fun a b ha hb => ?_⟩
    rw [g1 0 lm] at ha
    rw [hl, len, show l.length + m.length - 1 = m.length + (l.length - 1) by omega, g2 (l.length - 1) (by omega)] at hb
    have := q.step (l.length - 1) b a hb (by rw [show l.length - 1 + 1 = l.length + 0 by omega]; exact ha)
    exact ⟨this.2, this.1⟩
  · have : ∃ j : Nat, (l ++ m)[j]? = some a := by
      have h1 := lt ha
      by_cases c : i < m.length
      · rw [g1 i c] at ha
        exact ⟨_, ha⟩
      · obtain ⟨j, rfl⟩ : ∃ j, i = m.length + j := ⟨i - m.length, by omega⟩
        rw [g2 j (by omega)] at ha
        exact ⟨_, ha⟩
    obtain ⟨j, hj⟩ := this
    have := q.deg j a hj
    simpa using this
end
end Sm
namespace Sm
variable {α : Type} [DecidableEq α]
theorem all_eq {l : List α} (nd : l.Nodup) {a : α} (ha : a ∈ l) (h : ∀ z ∈ l, z = a) : l.length = 1 := by
  match l, nd with
  | [], _ => cases ha
  | [x], _ => rfl
  | x :: y :: r, nd =>
    have h1 := h x List.mem_cons_self
    have h2 := h y (by simp)
    rw [h1, h2] at nd
    exact absurd List.mem_cons_self (List.nodup_cons.mp nd).1
section
variable {N : α → List α} {w : Nat → α} {M : Nat}
theorem map_get {i : Nat} {a : α} (h : ((List.range M).map w)[i]? = some a) : i < M ∧ a = w i := by
  have lt : i < M := by
    have := (List.getElem?_eq_some_iff.mp h).1
    simpa using this
  rw [List.getElem?_map, List.getElem?_range lt] at h
  exact ⟨lt, (Option.some.inj h).symm⟩
theorem map_mem {i : Nat} (h : i < M) : w i ∈ (List.range M).map w := List.mem_map.mpr ⟨i, List.mem_range.mpr h, rfl⟩
theorem inj_nodup (inj : ∀ i j, i < j → j < M → w i ≠ w j) : ((List.range M).map w).Nodup :=
  List.pairwise_map.mpr (List.Pairwise.imp_of_mem (R := fun i j => i < j) (fun {i j} _ hj lt => inj i j lt (List.mem_range.mp hj)) List.pairwise_lt_range)
theorem mk_open (two : ∀ a, (N a).length ≤ 2) (nd : ∀ i, i < M → (N (w i)).Nodup) (hM : 2 ≤ M) (inj : ∀ i j, i < j → j < M → w i ≠ w j) (adj : ∀ i, i + 1 < M → w (i + 1) ∈ N (w i) ∧ w i ∈ N (w (i + 1)))
    (e0 : ∀ z ∈ N (w 0), z = w 1) (e1 : ∀ z ∈ N (w (M - 1)), z = w (M - 2)) : Seam N false ((List.range M).map w) := by
  have hl : ((List.range M).map w).length = M := by simp
  have mid : ∀ i, 0 < i → i + 1 < M → w (i - 1) ∈ N (w i) ∧ w (i + 1) ∈ N (w i) ∧ w (i - 1) ≠ w (i + 1) := fun i h0 h1 => by
    refine ⟨?_, (adj i h1).1, inj _ _ (by omega) h1⟩
    have := (adj (i - 1) (by omega)).2
    rwa [show i - 1 + 1 = i by omega] at this
  refine ⟨inj_nodup inj, by rw [hl]; exact hM, fun i a b ha hb => ?_, fun a ha b hb => ?_, (fun h => Bool.noConfusion h), fun i a ha => ?_⟩
  · obtain ⟨_, rfl⟩ := map_get ha
    obtain ⟨h2, rfl⟩ := map_get hb
    exact adj i h2
  · obtain ⟨i, hi, rfl⟩ := List.mem_map.mp ha
    have hi := List.mem_range.mp hi
    rcases (by omega : i = 0 ∨ i = M - 1 ∨ (0 < i ∧ i + 1 < M)) with rfl | rfl | ⟨h0, h1⟩
    · rw [e0 b hb]; exact map_mem (by omega)
    · rw [e1 b hb]; exact map_mem (by omega)
    · obtain ⟨m1, m2, m3⟩ := mid i h0 h1
      rcases one_of (two _) m1 m2 m3 hb with rfl | rfl
      · exact map_mem (by omega)
      · exact map_mem (by omega)
  · obtain ⟨hi, rfl⟩ := map_get ha
    rw [hl]
    by_cases h : 0 < i ∧ i + 1 < M
    · rw [if_pos (.inr h)]
      obtain ⟨m1, m2, m3⟩ := mid i h.1 h.2
      exact two_len (two _) m1 m2 m3
    · rw [if_neg (fun z => z.elim (fun z => by cases z) h)]
      rcases (by omega : i = 0 ∨ i = M - 1) with rfl | rfl
      · exact all_eq (nd 0 (by omega)) (adj 0 (by omega)).1 e0
      · have := (adj (M - 2) (by omega)).2
        rw [show M - 2 + 1 = M - 1 by omega] at this
        exact all_eq (nd _ (by omega)) this e1
theorem mk_shut (two : ∀ a, (N a).length ≤ 2) (hM : 3 ≤ M) (inj : ∀ i j, i < j → j < M → w i ≠ w j) (adj : ∀ i, i + 1 < M → w (i + 1) ∈ N (w i) ∧ w i ∈ N (w (i + 1)))
    (sh : w (M - 1) ∈ N (w 0) ∧ w 0 ∈ N (w (M - 1))) : Seam N true ((List.range M).map w) := by
  have hl : ((List.range M).map w).length = M := by simp
  have mid : ∀ i, i < M → ∃ j k, j < M ∧ k < M ∧ w j ∈ N (w i) ∧ w k ∈ N (w i) ∧ w j ≠ w k := fun i hi => by
    rcases (by omega : i = 0 ∨ i = M - 1 ∨ (0 < i ∧ i + 1 < M)) with rfl | rfl | ⟨h0, h1⟩
    · exact ⟨1, M - 1, by omega, by omega, (adj 0 (by omega)).1, sh.1, inj _ _ (by omega) (by omega)⟩
    · have := (adj (M - 2) (by omega)).2
      rw [show M - 2 + 1 = M - 1 by omega] at this
      exact ⟨0, M - 2, by omega, by omega, sh.2, this, inj _ _ (by omega) (by omega)⟩
    · have := (adj (i - 1) (by omega)).2
      rw [show i - 1 + 1 = i by omega] at this
      exact ⟨i - 1, i + 1, by omega, h1, this, (adj i h1).1, inj _ _ (by omega) h1⟩
  refine ⟨inj_nodup inj, by rw [hl]; omega, fun i a b ha hb => ?_, fun a ha b hb => ?_, fun h => ?_, fun i a ha => ?_⟩
  · obtain ⟨_, rfl⟩ := map_get ha
    obtain ⟨h2, rfl⟩ := map_get hb
    exact adj i h2
  · obtain ⟨i, hi, rfl⟩ := List.mem_map.mp ha
    obtain ⟨j, k, hj, hk, m1, m2, m3⟩ := mid i (List.mem_range.mp hi)
    rcases one_of (two _) m1 m2 m3 hb with rfl | rfl
    · exact map_mem hj
    · exact map_mem hk
  · refine ⟨by rw [hl]; exact hM, fun a b ha hb => ?_⟩
    rw [hl] at hb
    obtain ⟨_, rfl⟩ := map_get ha
    obtain ⟨_, rfl⟩ := map_get hb
    exact sh
  · obtain ⟨hi, rfl⟩ := map_get ha
    rw [if_pos (.inl rfl)]
    obtain ⟨j, k, hj, hk, m1, m2, m3⟩ := mid i hi
    exact two_len (two _) m1 m2 m3
end
section
variable {N : α → List α} {S : α → Prop} {L : List α} {b s t : α}
theorem go_end (G : Gr N S L) (hb : S b) (hs : s ∈ N b) : Go N S b s (end_ N b s) := go_of G hb hs (end_ok G hb hs).2.1
/-- a walk that comes back -/
theorem seam_back (G : Gr N S L) (hb : S b) (hs : s ∈ N b) (h : back N b s (end_ N b s) = true) : Seam N true (line N b s (end_ N b s)) := by
  have g := go_end G hb hs
  obtain ⟨k1, k2⟩ := back_iff G hb hs (end_ok G hb hs).1 h
  generalize end_ N b s = n at *
  have n1 : 1 ≤ n := by
    rcases Nat.eq_zero_or_pos n with rfl | q
    · exact absurd rfl k2
    · exact q
  refine mk_shut G.two (by omega) (fun i j lt hj => g.inj G (by omega) i lt) (fun i hi => ⟨g.adj i (by omega), g.back G (by omega)⟩) ?_
  rw [show n + 2 - 1 = n + 1 by omega]
  exact ⟨(G.sym _ (g.ins (n + 1) (by omega)) _ k1).2, k1⟩
/-- one that does not, from a point with one neighbour -/
theorem seam_one (G : Gr N S L) (hb : S b) (hs : N b = [s]) (h : back N b s (end_ N b s) = false) : Seam N false (line N b s (end_ N b s)) := by
  have hs' : s ∈ N b := by rw [hs]; simp
  have g := go_end G hb hs'
  have nb := fun z => not_back (N := N) (b := b) (s := s) h (z := z)
  generalize end_ N b s = n at *
  refine mk_open G.two (fun i hi => G.nd _ (g.ins i (by omega))) (by omega) (fun i j lt hj => g.inj G (by omega) i lt) (fun i hi => ⟨g.adj i (by omega), g.back G (by omega)⟩) (fun z hz => ?_) fun z hz => ?_
  · rw [at_0, hs, List.mem_singleton] at hz
    exact hz
  · rw [show n + 2 - 1 = n + 1 by omega] at hz
    exact nb z hz
/-- two walks from a point apart but for it, where the first one does not come back -/
theorem apart (G : Gr N S L) (hb : S b) (hs : s ∈ N b) (ht : t ∈ N b) (ne : s ≠ t) (h : back N b s (end_ N b s) = false) :
    ∀ j, 1 ≤ j → j ≤ end_ N b t + 1 → ∀ i, 1 ≤ i → i ≤ end_ N b s + 1 → at_ N b t j ≠ at_ N b s i := by
  have g := go_end G hb hs
  have g' := go_end G hb ht
  have nb := fun z => not_back (N := N) (b := b) (s := s) h (z := z)
  generalize end_ N b s = n at *
  generalize end_ N b t = m at *
  intro j
  induction j with
  | zero => intro h1; omega
  | succ j ih =>
    intro _ hj i hi hi2 e
    have aj := g'.back G (k := j) (by omega)
    rw [e] at aj
    -- the point behind is one of the first walk's
    have pre : at_ N b t j = at_ N b s (i - 1) ∨ (i ≤ n ∧ at_ N b t j = at_ N b s (i + 1)) := by
      by_cases q : i = n + 1
      · subst q
        exact .inl (nb _ aj)
      · have := g.inn G (k := i - 1) (by omega) (z := at_ N b t j) (by rw [show i - 1 + 1 = i by omega]; exact aj)
        rw [show i - 1 + 2 = i + 1 by omega] at this
        exact this.elim .inl fun z => .inr ⟨by omega, z⟩
    by_cases j0 : j = 0
    · subst j0
      rcases pre with z | ⟨q, z⟩
      · by_cases i1 : i = 1
        · subst i1
          exact ne e.symm
        · exact g.inj G (j := i - 1) (by omega) 0 (by omega) z
      · exact g.inj G (j := i + 1) (by omega) 0 (by omega) z
    · rcases pre with z | ⟨q, z⟩
      · by_cases i1 : i = 1
        · subst i1
          exact g'.inj G (j := j) (by omega) 0 (by omega) z.symm
        · exact ih (by omega) (by omega) (i - 1) (by omega) (by omega) z
      · exact ih (by omega) (by omega) (i + 1) (by omega) (by omega) z
theorem other_open (G : Gr N S L) (hb : S b) (hs : s ∈ N b) (ht : t ∈ N b) (ne : s ≠ t) (h : back N b s (end_ N b s) = false) : back N b t (end_ N b t) = false := by
  cases q : back N b t (end_ N b t) with
  | false => rfl
  | true =>
    exfalso
    obtain ⟨k1, k2⟩ := back_iff G hb ht (end_ok G hb ht).1 q
    have g' := go_end G hb ht
    have k3 := (G.sym _ (g'.ins (end_ N b t + 1) (by omega)) _ k1).2
    rcases one_of (G.two b) hs ht ne k3 with z | z
    · exact apart G hb hs ht ne h (end_ N b t + 1) (by omega) (by omega) 1 (by omega) (by omega) z
    · by_cases m0 : end_ N b t = 0
      · rw [m0] at k2
        exact k2 rfl
      · exact g'.inj G (j := end_ N b t + 1) (by omega) 1 (by omega) z.symm
/-- both ways from a point within an open seam -/
theorem seam_two (G : Gr N S L) (hb : S b) (hs : N b = [s, t]) (h : back N b s (end_ N b s) = false) : Seam N false ((line N b s (end_ N b s)).reverse ++ (line N b t (end_ N b t)).tail) := by
  have hs' : s ∈ N b := by rw [hs]; simp
  have ht' : t ∈ N b := by rw [hs]; simp
  have ne : s ≠ t := by
    have := G.nd b hb
    rw [hs] at this
    intro e
    subst e
    exact absurd List.mem_cons_self (List.nodup_cons.mp this).1
  have g := go_end G hb hs'
  have g' := go_end G hb ht'
  have nb := fun z => not_back (N := N) (b := b) (s := s) h (z := z)
  have nb' := fun z => not_back (N := N) (b := b) (s := t) (other_open G hb hs' ht' ne h) (z := z)
  have ap := apart G hb hs' ht' ne h
  generalize end_ N b s = n at *
  generalize end_ N b t = m at *
  have eq : (line N b s n).reverse ++ (line N b t m).tail = (List.range (n + m + 3)).map fun i => if i ≤ n + 1 then at_ N b s (n + 1 - i) else at_ N b t (i - (n + 1)) := by
    refine List.ext_getElem? fun i => ?_
    by_cases c1 : i < n + 2
    · rw [List.getElem?_append_left (by rw [List.length_reverse, line_len]; exact c1), rev_get _ (by rw [line_len]; exact c1), line_len, line_get (by omega), List.getElem?_map, List.getElem?_range (by omega)]
      show _ = some (if i ≤ n + 1 then _ else _)
      rw [if_pos (by omega), show n + 2 - 1 - i = n + 1 - i by omega]
    · rw [List.getElem?_append_right (by rw [List.length_reverse, line_len]; omega), List.length_reverse, line_len, List.getElem?_tail]
      by_cases c2 : i < n + m + 3
      · rw [line_get (by omega), List.getElem?_map, List.getElem?_range c2]
        show _ = some (if i ≤ n + 1 then _ else _)
        rw [if_neg (by omega), show i - (n + 2) + 1 = i - (n + 1) by omega]
      · rw [List.getElem?_eq_none (by rw [line_len]; omega), List.getElem?_eq_none (by simp; omega)]
  rw [eq]
  have w1 : ∀ i, i ≤ n + 1 → (if i ≤ n + 1 then at_ N b s (n + 1 - i) else at_ N b t (i - (n + 1))) = at_ N b s (n + 1 - i) := fun i hi => if_pos hi
  have w2 : ∀ i, n + 1 ≤ i → (if i ≤ n + 1 then at_ N b s (n + 1 - i) else at_ N b t (i - (n + 1))) = at_ N b t (i - (n + 1)) := fun i hi => by
    by_cases q : i = n + 1
    · subst q
      rw [if_pos (by omega), Nat.sub_self]
      rfl
    · rw [if_neg (by omega)]
  refine mk_open G.two (fun i hi => ?_) (by omega) (fun i j lt hj => ?_) (fun i hi => ?_) (fun z hz => ?_) fun z hz => ?_
  · by_cases c : i ≤ n + 1
    · rw [w1 i c]; exact G.nd _ (g.ins _ (by omega))
    · rw [w2 i (by omega)]; exact G.nd _ (g'.ins _ (by omega))
  · by_cases c : j ≤ n + 1
    · rw [w1 i (by omega), w1 j c]
      exact fun e => g.inj G (j := n + 1 - i) (by omega) (n + 1 - j) (by omega) e.symm
    · by_cases c2 : n + 1 ≤ i
      · rw [w2 i c2, w2 j (by omega)]
        exact g'.inj G (j := j - (n + 1)) (by omega) (i - (n + 1)) (by omega)
      · rw [w1 i (by omega), w2 j (by omega)]
        exact fun e => ap (j - (n + 1)) (by omega) (by omega) (n + 1 - i) (by omega) (by omega) e.symm
  · by_cases c : i + 1 ≤ n + 1
    · rw [w1 i (by omega), w1 (i + 1) c]
      have a1 := g.adj (n - i) (by omega)
      have a2 := g.back G (k := n - i) (by omega)
      rw [show n - i + 1 = n + 1 - i by omega] at a1 a2
      rw [show n + 1 - (i + 1) = n - i by omega]
      exact ⟨a2, a1⟩
    · rw [w2 i (by omega), w2 (i + 1) (by omega)]
      have a1 := g'.adj (i - (n + 1)) (by omega)
      have a2 := g'.back G (k := i - (n + 1)) (by omega)
      rw [show i - (n + 1) + 1 = i + 1 - (n + 1) by omega] at a1 a2
      exact ⟨a1, a2⟩
  · rw [w1 0 (by omega)] at hz
    rw [w1 1 (by omega)]
    exact nb z hz
  · rw [w2 _ (by omega), show n + m + 3 - 1 - (n + 1) = m + 1 by omega] at hz
    rw [w2 _ (by omega), show n + m + 3 - 2 - (n + 1) = m by omega]
    exact nb' z hz
end
end Sm
namespace G
open PySem L2
section
variable {f g h : ES} {t u : TSm} {s : IS} {a b : SS} {ρ : Sl} {i j : Nat} {d e : D} {k : Kd}
@[simp] theorem shr_ap (d : D) : shr d = .ok (d, .sh) := rfl
@[simp] theorem eVar_ap : eVar i ρ = match ρ[i]? with
  | some (.va d) => .ok (d, .sh)
  | some (.ow d) => .ok (d, .at i)
  | _ => .no := rfl
@[simp] theorem eC_ap : eC d ρ = .ok (d, .sh) := rfl
@[simp] theorem eBin_ap (op : D → D → Out (D × Kd)) : eBin op f g ρ = (f ρ).bind fun x => (g ρ).bind fun y => op x.1 y.1 := rfl
@[simp] theorem eUn_ap (op : D → Out (D × Kd)) : eUn op f ρ = (f ρ).bind fun x => op x.1 := rfl
@[simp] theorem eArgs_nil : eArgs [] ρ = .ok [] := rfl
@[simp] theorem eArgs_cons (fs : List ES) : eArgs (f :: fs) ρ = (f ρ).bind fun x => (eArgs fs ρ).bind fun xs => .ok (x :: xs) := rfl
@[simp] theorem eChain_ap (op op' : D → D → Out (D × Kd)) : eChain op op' f g h ρ = (f ρ).bind fun x => (g ρ).bind fun y => (op x.1 y.1).bind fun z => (oBl z.1).bind fun b => if b = true then (h ρ).bind fun w => op' y.1 w.1 else shr (.bl false) := by
  show ((f ρ).bind fun x => (g ρ).bind fun y => (op x.1 y.1).bind fun z => match z.1 with
    | .bl true => (h ρ).bind fun w => op' y.1 w.1
    | .bl false => shr (.bl false)
    | _ => .no) = _
  congr 1
  funext x
  congr 1
  funext y
  congr 1
  funext z
  obtain ⟨d, k⟩ := z
  cases d <;> first | rfl | skip
  rename_i b
  cases b <;> rfl
@[simp] theorem oBl_ap (c : Bool) : oBl (.bl c) = .ok c := rfl
@[simp] theorem eAnd_ap : eAnd f g ρ = (f ρ).bind fun x => (oBl x.1).bind fun b => if b = true then g ρ else shr (.bl false) := rfl
@[simp] theorem eOr_ap : eOr f g ρ = (f ρ).bind fun x => (oBl x.1).bind fun b => if b = true then shr (.bl true) else g ρ := rfl
@[simp] theorem oNot_ap (c : Bool) : oNot (.bl c) = .ok (.bl (!c), .sh) := rfl
@[simp] theorem tBl_ap : tBl f ρ = (f ρ).bind fun x => oBl x.1 := rfl
@[simp] theorem tTru_ap : tTru f ρ = (f ρ).bind fun x => oTru x.1 := rfl
@[simp] theorem tAnd_ap : G.tAnd t u ρ = (t ρ).bind fun b => if b = true then u ρ else .ok false := rfl
@[simp] theorem tOr_ap : G.tOr t u ρ = (t ρ).bind fun b => if b = true then .ok true else u ρ := rfl
@[simp] theorem tNot_ap : G.tNot t ρ = (t ρ).bind fun b => .ok (!b) := rfl
@[simp] theorem eIf_ap : eIf t f g ρ = (t ρ).bind fun b => if b = true then f ρ else g ρ := rfl
@[simp] theorem allSolid_nil : allSolid [] = true := rfl
@[simp] theorem allSolid_cons (x : D × Kd) (xs : List (D × Kd)) : allSolid (x :: xs) = (x.2.solid && allSolid xs) := rfl
@[simp] theorem solid_sh : Kd.solid .sh = true := rfl
@[simp] theorem solid_fr : Kd.solid .fr = true := rfl
@[simp] theorem solid_at : Kd.solid (.at i) = false := rfl
@[simp] theorem eTup_ap (fs : List ES) : eTup fs ρ = (eArgs fs ρ).bind fun xs => if allSolid xs = true ∧ xs.length ≤ SZ then shr (.tup (xs.map (·.1))) else .no := rfl
@[simp] theorem eLst_ap (fs : List ES) : eLst fs ρ = (eArgs fs ρ).bind fun xs => if allSolid xs = true ∧ xs.length ≤ SZ then .ok (.lst (xs.map (·.1)), .fr) else .no := rfl
@[simp] theorem ePart_none : ePart none ρ = .ok none := rfl
@[simp] theorem ePart_some : ePart (some f) ρ = (f ρ).bind fun x => match x.1 with
  | .int i => .ok (some i)
  | _ => .no := rfl
@[simp] theorem eSl_ap (lo hi : Option ES) : eSl f lo hi ρ = (f ρ).bind fun x => (ePart lo ρ).bind fun l => (ePart hi ρ).bind fun h => oSl x.1 l h := rfl
@[simp] theorem eBi_ap (bi : Bi) (fs : List ES) : eBi bi fs ρ = (eArgs fs ρ).bind fun xs => oBi bi (xs.map (·.1)) := rfl
@[simp] theorem eFn_ap (R : List D → Out (D × Bool)) (fs : List ES) : eFn R fs ρ = (eArgs fs ρ).bind fun xs => match R (xs.map (·.1)) with
  | .ok (d, b) => if allSolid xs then .ok (d, if b then .fr else .sh) else if flat d && okArgs xs then shr d else if (b && newD d) && okArgs xs then .ok (d, .fr) else .no
  | .ex c gs => if allSolid xs || (gs.isEmpty && okArgs xs) then .ex c gs else .no
  | .no => .no := rfl
/-- a method of the table's only class -/
@[simp] theorem eM_one (fs : List ES) (c : Nat) (R : List D → Out (D × Bool)) : eM [(c, R)] f fs ρ = match f ρ with
  | .ok (.obj c' ds, k) => if c' = c ∧ k.solid = true then (eArgs fs ρ).bind fun xs => (match R (.obj c' ds :: xs.map (·.1)) with
    | .ok (d, b) => if allSolid xs then .ok (d, if b then .fr else .sh) else if flat d && okArgs xs then shr d else if (b && newD d) && okArgs xs then .ok (d, .fr) else .no
    | .ex c gs => if allSolid xs || (gs.isEmpty && okArgs xs) then .ex c gs else .no
    | .no => .no) else .no
  | _ => .no := by
  unfold eM eMeth
  cases q : f ρ with
  | no => rfl
  | ex n gs => rfl
  | ok z =>
    obtain ⟨d, k⟩ := z
    cases d with
    | obj c' ds =>
      by_cases e : c' = c
      · subst e
        have e1 : mIx [(c', R)] c' = some c' := by unfold mIx; rw [List.lookup_cons_self]
        have e2 : mGam [(c', R)] c' = R := by unfold mGam; rw [List.lookup_cons_self]
        show (match mIx [(c', R)] c' with
          | some n => if k.solid = true then eCall (mGam [(c', R)]) n (eC (.obj c' ds) :: fs) ρ else .no
          | none => .no) = _
        rw [e1]
        show (if k.solid = true then eCall (mGam [(c', R)]) c' (eC (.obj c' ds) :: fs) ρ else .no) = _
        rw [meth_args, e2]
        by_cases s : k.solid = true
        · rw [if_pos s]
          refine Eq.trans ?_ (if_pos (⟨rfl, s⟩ : c' = c' ∧ k.solid = true)).symm
          cases eArgs fs ρ <;> rfl
        · rw [if_neg s]
          exact (if_neg (fun z : c' = c' ∧ k.solid = true => s z.2)).symm
      · have ne : (c' == c) = false := beq_eq_false_iff_ne.mpr e
        have e1 : mIx [(c, R)] c' = none := by
          unfold mIx
          rw [List.lookup_cons, ne]
          rfl
        show (match mIx [(c, R)] c' with
          | some n => if k.solid = true then eCall (mGam [(c, R)]) n (eC (.obj c' ds) :: fs) ρ else .no
          | none => .no) = _
        rw [e1]
        exact (if_neg (fun z : c' = c ∧ k.solid = true => e z.1)).symm
    | _ => rfl
@[simp] theorem sSkip_ap : sSkip ρ = .nx ρ := rfl
theorem sSeq_ap : sSeq a b ρ = match a ρ with
  | .nx ρ' => b ρ'
  | o => o := rfl
@[simp] theorem sIf_ap : G.sIf t a b ρ = match t ρ with
  | .ok c => if c = true then a ρ else b ρ
  | .ex n fs => .ex n fs ρ
  | .no => .no := rfl
@[simp] theorem sWith_ok {α : Type} (x : α) (k : α → Fl) : sWith (.ok x) ρ k = k x := rfl
@[simp] theorem sWith_ex {α : Type} (n : Nat) (fs : List D) (k : α → Fl) : sWith (.ex n fs) ρ k = .ex n fs ρ := rfl
@[simp] theorem sDrop_ap : sDrop f ρ = sWith (f ρ) ρ fun _ => .nx ρ := rfl
@[simp] theorem asg_sh (o : Bool) (x : D) : asg o i (x, .sh) ρ = if i < ρ.length then .nx (ρ.set i (.va x)) else .no := rfl
@[simp] theorem notObj_bl (b : Bool) : notObj (.bl b) = true := rfl
@[simp] theorem notObj_int (b : Int) : notObj (.int b) = true := rfl
@[simp] theorem notObj_str (b : Str) : notObj (.str b) = true := rfl
@[simp] theorem notObj_non : notObj .non = true := rfl
@[simp] theorem notObj_lst (b : List D) : notObj (.lst b) = true := rfl
@[simp] theorem notObj_tup (b : List D) : notObj (.tup b) = true := rfl
@[simp] theorem notObj_dK (a : List Key) (b : List D) : notObj (.dK a b) = true := rfl
@[simp] theorem notObj_dT (a : List (List Key)) (b : List D) : notObj (.dT a b) = true := rfl
@[simp] theorem notObj_obj (a : Nat) (b : List D) : notObj (.obj a b) = false := rfl
@[simp] theorem flat_bl (b : Bool) : flat (.bl b) = true := rfl
@[simp] theorem flat_int (b : Int) : flat (.int b) = true := rfl
@[simp] theorem flat_str (b : Str) : flat (.str b) = true := rfl
@[simp] theorem flat_non : flat .non = true := rfl
@[simp] theorem flat_lst (b : List D) : flat (.lst b) = false := rfl
@[simp] theorem flat_tup (b : List D) : flat (.tup b) = false := rfl
@[simp] theorem newD_obj (c : Nat) (b : List D) : newD (.obj c b) = true := rfl
@[simp] theorem newD_lst (b : List D) : newD (.lst b) = b.all flat := rfl
@[simp] theorem flat_ints (us : List Int) : (us.map D.int).all flat = true := by
  rw [List.all_map]
  exact List.all_eq_true.mpr fun _ _ => rfl
@[simp] theorem clean_int (n : Int) (k : Kd) : clean (.int n) k = true := rfl
@[simp] theorem clean_bl (n : Bool) (k : Kd) : clean (.bl n) k = true := rfl
@[simp] theorem clean_str (n : Str) (k : Kd) : clean (.str n) k = true := rfl
@[simp] theorem clean_non (k : Kd) : clean .non k = true := rfl
@[simp] theorem clean_lst (ds : List D) : clean (.lst ds) .fr = ds.all flat := rfl
@[simp] theorem clean_dK (ks : List Key) (ds : List D) : clean (.dK ks ds) .fr = ds.all flat := rfl
@[simp] theorem clean_dT (ks : List (List Key)) (ds : List D) : clean (.dT ks ds) .fr = ds.all flat := rfl
@[simp] theorem asg_frT (x : D) : asg true i (x, .fr) ρ = if i < ρ.length then (if notObj x = true then .nx (ρ.set i (.ow x)) else .no) else .no := rfl
@[simp] theorem asg_frF (x : D) : asg false i (x, .fr) ρ = if i < ρ.length then .nx (ρ.set i (.va x)) else .no := rfl
@[simp] theorem sAsg_ap (o : Bool) : G.sAsg o i f ρ = sWith (f ρ) ρ fun x => asg o i x ρ := rfl
@[simp] theorem sTg_ap (tg : Tg) : G.sTg tg f ρ = sWith (f ρ) ρ fun x => if x.2.solid then (match tgSet tg x.1 ρ with
  | some ρ' => .nx ρ'
  | none => .no) else .no := rfl
@[simp] theorem sRet_ap : sRet f ρ = sWith (f ρ) ρ fun x => .rt x.1 x.2 ρ := rfl
@[simp] theorem sRetN_ap : sRetN ρ = .rt .non .sh ρ := rfl
@[simp] theorem sRaise_ap (n : Nat) : sRaise n ρ = .ex n [] ρ := rfl
@[simp] theorem sAugI_ap (op : Int → Int → Int) : sAugI op i f ρ = match ρ[i]? with
  | some (.va (.int a)) => sWith (f ρ) ρ fun y => (match y.1 with
    | .int b => .nx (ρ.set i (.va (.int (op a b))))
    | _ => .no)
  | _ => .no := rfl
@[simp] theorem sOwL_ap (k : List D → D → Option (List D)) : sOwL i k f ρ = match ρ[i]? with
  | some (.ow (.lst xs)) => sWith (f ρ) ρ fun y => if y.2.solid then (match k xs y.1 with
    | some ys => .nx (ρ.set i (.ow (.lst ys)))
    | none => .no) else .no
  | _ => .no := rfl
@[simp] theorem sOwL0_ap (k : List D → Option (List D)) : sOwL0 i k ρ = match ρ[i]? with
  | some (.ow (.lst xs)) => (match k xs with
    | some ys => .nx (ρ.set i (.ow (.lst ys)))
    | none => .no)
  | _ => .no := rfl
@[simp] theorem sFrz_ap : sFrz i ρ = match ρ[i]? with
  | some (.ow d) => .nx (ρ.set i (.va d))
  | _ => .nx ρ := rfl
@[simp] theorem sPar_ap (o1 o2 : Bool) : sPar o1 o2 i j f g ρ = sWith (f ρ) ρ fun x => sWith (g ρ) ρ fun y => match asg o1 i x ρ with
  | .nx ρ1 => asg o2 j y ρ1
  | o => o := rfl
@[simp] theorem sPut_ap : sPut i f g ρ = sWith (g ρ) ρ fun v => if v.2.solid then (match ρ[i]? with
  | some (.ow d) => sWith (f ρ) ρ fun k => (match kPut d k.1 v.1 with
    | some d' => .nx (ρ.set i (.ow d'))
    | none => .no)
  | _ => .no) else .no := rfl
@[simp] theorem sFld_ap (fx : Nat → Nat → Bool) : G.sFld fx i f ρ = sWith (f ρ) ρ fun x => if clean x.1 x.2 then (match ρ[i]? with
  | some (.me c ds) => if fx c ds.length then .nx (ρ.set i (.me c (ds ++ [x.1]))) else .no
  | _ => .no) else .no := rfl
theorem sFor_ap (tg : Tg) : G.sFor s tg a ρ = sWith (s ρ) ρ fun ds => forL tg a ds ρ := rfl
@[simp] theorem tgSet_one : tgSet (.one i) d ρ = if i < ρ.length then some (ρ.set i (.va d)) else none := rfl
@[simp] theorem tgSet_tt (ts : List Tg) (ds : List D) : tgSet (.tup ts) (.tup ds) ρ = tgSets ts ds ρ := rfl
@[simp] theorem tgSet_tl (ts : List Tg) (ds : List D) : tgSet (.tup ts) (.lst ds) ρ = tgSets ts ds ρ := rfl
@[simp] theorem tgSets_nil : tgSets [] [] ρ = some ρ := rfl
@[simp] theorem tgSets_cons (tg : Tg) (ts : List Tg) (ds : List D) : tgSets (tg :: ts) (d :: ds) ρ = (tgSet tg d ρ).bind fun ρ' => tgSets ts ds ρ' := rfl
@[simp] theorem oAdd_ii (m n : Int) : oAdd (.int m) (.int n) = .ok (.int (m + n), .sh) := rfl
@[simp] theorem oAdd_ll (xs ys : List D) : oAdd (.lst xs) (.lst ys) = if xs.length + ys.length ≤ SZ then .ok (.lst (xs ++ ys), .fr) else .no := rfl
@[simp] theorem oAdd_tt (xs ys : List D) : oAdd (.tup xs) (.tup ys) = if xs.length + ys.length ≤ SZ then shr (.tup (xs ++ ys)) else .no := rfl
@[simp] theorem oSub_ii (m n : Int) : oSub (.int m) (.int n) = .ok (.int (m - n), .sh) := rfl
theorem oMul_ii (m n : Int) : oMul (.int m) (.int n) = if smallI m || smallI n then .ok (.int (m * n), .sh) else .no := rfl
theorem oMul_l {m n : Int} (h1 : -(2 ^ 64) < m) (h2 : m < 2 ^ 64) : oMul (.int m) (.int n) = .ok (.int (m * n), .sh) := by
  rw [oMul_ii, if_pos]
  rw [show smallI m = true from decide_eq_true ⟨h1, h2⟩, Bool.true_or]
theorem oMul_r {m n : Int} (h1 : -(2 ^ 64) < n) (h2 : n < 2 ^ 64) : oMul (.int m) (.int n) = .ok (.int (m * n), .sh) := by
  rw [oMul_ii, if_pos]
  rw [show smallI n = true from decide_eq_true ⟨h1, h2⟩, Bool.or_true]
@[simp] theorem oMod_ii (m n : Int) : oMod (.int m) (.int n) = if 0 < n then .ok (.int (m % n), .sh) else .no := rfl
@[simp] theorem oDiv_ii (m n : Int) : oDiv (.int m) (.int n) = if 0 < n ∧ n < 1073741824 then .ok (.int (m / n), .sh) else .no := rfl
@[simp] theorem oPow_ii (m n : Int) : oPow (.int m) (.int n) = if 0 ≤ n ∧ n ≤ 1000000 ∧ m.natAbs < 2 ^ 64 then .ok (.int (m ^ n.toNat), .sh) else .no := rfl
@[simp] theorem oNeg_i (m : Int) : oNeg (.int m) = .ok (.int (-m), .sh) := rfl
@[simp] theorem oEq_ii (m n : Int) : oEq (.int m) (.int n) = .ok (.bl (decide (m = n)), .sh) := rfl
@[simp] theorem oEq_ss (m n : Str) : oEq (.str m) (.str n) = .ok (.bl (decide (m = n)), .sh) := rfl
@[simp] theorem oEq_bb (m n : Bool) : oEq (.bl m) (.bl n) = .ok (.bl (decide (m = n)), .sh) := rfl
@[simp] theorem oNe_ii (m n : Int) : oNe (.int m) (.int n) = .ok (.bl (!decide (m = n)), .sh) := rfl
@[simp] theorem oNe_ss (m n : Str) : oNe (.str m) (.str n) = .ok (.bl (!decide (m = n)), .sh) := rfl
@[simp] theorem oNe_bb (m n : Bool) : oNe (.bl m) (.bl n) = .ok (.bl (!decide (m = n)), .sh) := rfl
@[simp] theorem oLt_ii (m n : Int) : oLt (.int m) (.int n) = .ok (.bl (decide (m < n)), .sh) := rfl
@[simp] theorem oLe_ii (m n : Int) : oLe (.int m) (.int n) = .ok (.bl (decide (m ≤ n)), .sh) := rfl
@[simp] theorem oGt_ii (m n : Int) : oGt (.int m) (.int n) = .ok (.bl (decide (n < m)), .sh) := rfl
@[simp] theorem oGe_ii (m n : Int) : oGe (.int m) (.int n) = .ok (.bl (decide (n ≤ m)), .sh) := rfl
@[simp] theorem oTru_bl (c : Bool) : oTru (.bl c) = .ok c := rfl
@[simp] theorem oTru_int (m : Int) : oTru (.int m) = .ok (m != 0) := rfl
@[simp] theorem oTru_lst (xs : List D) : oTru (.lst xs) = .ok (!xs.isEmpty) := rfl
@[simp] theorem oSl_l (xs : List D) (lo hi : Option Int) : oSl (.lst xs) lo hi = .ok (.lst (cutD xs lo hi), .fr) := rfl
@[simp] theorem oSl_t (xs : List D) (lo hi : Option Int) : oSl (.tup xs) lo hi = .ok (.tup (cutD xs lo hi), .sh) := rfl
@[simp] theorem fxT_ap (l : List (Nat × Nat)) (n : Nat) : fxT l n = l.lookup n := rfl
@[simp] theorem oFld_ap (fx : Nat → Option Nat) (c : Nat) (ds : List D) : oFld fx (.obj c ds) = match fx c with
  | some i => (match ds[i]? with
    | some d => .ok (d, .sh)
    | none => .no)
  | none => .no := rfl
@[simp] theorem oBi_lenL (xs : List D) : oBi .len [.lst xs] = .ok (.int xs.length, .sh) := rfl
@[simp] theorem oBi_lenT (xs : List D) : oBi .len [.tup xs] = .ok (.int xs.length, .sh) := rfl
@[simp] theorem oBi_abs (m : Int) : oBi .abs [.int m] = .ok (.int (if m < 0 then -m else m), .sh) := rfl
@[simp] theorem oBi_intI (m : Int) : oBi .int [.int m] = .ok (.int m, .sh) := rfl
@[simp] theorem oBi_intB (m : Bool) : oBi .int [.bl m] = .ok (.int (if m then 1 else 0), .sh) := rfl
@[simp] theorem oBi_listL (xs : List D) : oBi .list [.lst xs] = .ok (.lst xs, .fr) := rfl
@[simp] theorem oBi_listT (xs : List D) : oBi .list [.tup xs] = .ok (.lst xs, .fr) := rfl
@[simp] theorem oBi_max2 (m n : Int) : oBi .max2 [.int m, .int n] = .ok (.int (if n > m then n else m), .sh) := rfl
@[simp] theorem oBi_min2 (m n : Int) : oBi .min2 [.int m, .int n] = .ok (.int (if n < m then n else m), .sh) := rfl
theorem oBi_sum (ns : List Int) : oBi .sum [.lst (ns.map .int)] = .ok (.int ns.sum, .sh) := by
  show (match intsOf (ns.map D.int) with
    | some ns => shr (.int ns.sum)
    | none => .no) = _
  rw [intsOf_map]
  rfl
@[simp] theorem itemsOf_l (xs : List D) : itemsOf (.lst xs) = some xs := rfl
@[simp] theorem itemsOf_t (xs : List D) : itemsOf (.tup xs) = some xs := rfl
@[simp] theorem itemsOf_f (ns : List Int) : itemsOf (.frl ns) = some (ns.map D.int) := rfl
@[simp] theorem itE_ap (st : Bool) : itE st f ρ = (f ρ).bind fun x => if st && !x.2.solid then .no else match itemsOf x.1 with
  | some ds => .ok ds
  | none => .no := rfl
@[simp] theorem itR1_ap : itR1 f ρ = (f ρ).bind fun x => match x.1 with
  | .int j => if in62 j then .ok (rngD 0 j) else .no
  | _ => .no := rfl
@[simp] theorem itR2_ap : itR2 f g ρ = (f ρ).bind fun x => (g ρ).bind fun y => match x.1, y.1 with
  | .int i, .int j => if in62 i && in62 j then .ok (rngD i j) else .no
  | _, _ => .no := rfl
theorem in62_of {m : Int} (h1 : -(2 ^ 62) < m) (h2 : m < 2 ^ 62) : in62 m = true := by
  have e : (2 : Int) ^ 62 = 4611686018427387904 := by decide
  rw [e] at h1 h2
  have h3 : m.natAbs < 4611686018427387904 := by omega
  exact decide_eq_true h3
theorem ixN_ok {n : Nat} {i : Int} (h0 : 0 ≤ i) (h1 : i < n) : ixN n i = some i.toNat := by
  unfold ixN
  rw [if_pos h0, if_pos h1]
theorem ixN_neg {n : Nat} {i : Int} (h0 : i < 0) (h1 : -(n : Int) ≤ i) : ixN n i = some (i + n).toNat := by
  unfold ixN
  rw [if_neg (by omega), if_pos h1]
theorem oIx_l {xs : List D} {i : Int} {d : D} (h0 : 0 ≤ i) (h : xs[i.toNat]? = some d) : oIx (.lst xs) (.int i) = .ok (d, .sh) := by
  have l := (List.getElem?_eq_some_iff.mp h).1
  show (match atI xs i with
    | some d => shr d
    | none => .no) = _
  unfold atI
  rw [ixN_ok h0 (by omega)]
  show (match xs[i.toNat]? with
    | some d => shr d
    | none => .no) = _
  rw [h]
  rfl
/-- the whole numbers of a list -/
def gt (us : List Int) (n : Nat) : Int := us.getD n 0
theorem gt_eq {us : List Int} {n : Nat} (h : n < us.length) : gt us n = us[n] := by
  unfold gt
  rw [List.getD_eq_getElem?_getD, List.getElem?_eq_getElem h]
  rfl
theorem oIx_i {us : List Int} {i : Int} (h0 : 0 ≤ i) (h1 : i < us.length) : oIx (.lst (us.map .int)) (.int i) = .ok (.int (gt us i.toNat), .sh) := by
  refine oIx_l h0 ?_
  have l : i.toNat < us.length := by omega
  rw [List.getElem?_map, List.getElem?_eq_getElem l, gt_eq l]
  rfl
/-- a for whose body goes on: by a word of the turns -/
theorem forL_nx {tg : Tg} {I : Nat → Sl → Prop} : ∀ {ds : List D} {k : Nat} {ρ : Sl}, I k ρ → (∀ (j : Nat) (d : D) (ρ : Sl), ds[j]? = some d → I (k + j) ρ → ∃ ρ1 ρ2, tgSet tg d ρ = some ρ1 ∧ (a ρ1 = .nx ρ2 ∨ a ρ1 = .ct ρ2) ∧ I (k + j + 1) ρ2) →
    ∃ ρ', forL tg a ds ρ = .nx ρ' ∧ I (k + ds.length) ρ'
  | [], k, ρ, h, _ => ⟨ρ, rfl, h⟩
  | d :: ds, k, ρ, h, st => by
    obtain ⟨ρ1, ρ2, e1, e2, e3⟩ := st 0 d ρ rfl h
    obtain ⟨ρ', e4, e5⟩ := forL_nx (I := I) (ds := ds) (k := k + 1) (ρ := ρ2) e3 fun j d' ρ hd hi => by
      have := st (j + 1) d' ρ (by simpa using hd) (by rw [show k + (j + 1) = k + 1 + j from by omega]; exact hi)
      rw [show k + (j + 1) + 1 = k + 1 + j + 1 from by omega] at this
      exact this
    refine ⟨ρ', ?_, by rw [List.length_cons, show k + (ds.length + 1) = k + 1 + ds.length from by omega]; exact e5⟩
    unfold forL
    rw [e1]
    rcases e2 with e2 | e2 <;> (dsimp only; rw [e2]; exact e4)
theorem FU_eq : FU = 1000000000 := by unfold FU; rfl
/-- a while by a measure and a word -/
theorem sWhile_nx {I : Sl → Prop} (μ : Sl → Nat) (st : ∀ ρ, I ρ → (t ρ = .ok false) ∨ (t ρ = .ok true ∧ ∃ ρ2, (a ρ = .nx ρ2 ∨ a ρ = .ct ρ2) ∧ I ρ2 ∧ μ ρ2 < μ ρ)) (h : I ρ) (hm : μ ρ < 1000000000) :
    ∃ ρ', G.sWhile t a ρ = .nx ρ' ∧ I ρ' ∧ t ρ' = .ok false := by
  have key : ∀ (n : Nat) (ρ : Sl), I ρ → μ ρ < n → ∃ ρ', whileL t a n ρ = .nx ρ' ∧ I ρ' ∧ t ρ' = .ok false := by
    intro n
    induction n with
    | zero => intro ρ _ h; omega
    | succ n ih =>
      intro ρ hi hl
      rcases st ρ hi with e | ⟨e, ρ2, e2, i2, l2⟩
      · refine ⟨ρ, ?_, hi, e⟩
        unfold whileL
        rw [e]
      · obtain ⟨ρ', e3, e4⟩ := ih ρ2 i2 (by omega)
        refine ⟨ρ', ?_, e4⟩
        unfold whileL
        rw [e]
        rcases e2 with e2 | e2 <;> (dsimp only; rw [e2]; exact e3)
  unfold G.sWhile
  rw [FU_eq]
  exact key _ ρ h hm
end
end G
namespace GD
open PySem L2 G
theorem kAp_i {us : List Int} {x : Int} (h : us.length < SZ) : kAp (us.map D.int) (.int x) = some ((us ++ [x]).map D.int) := by
  unfold kAp
  rw [List.length_map, if_pos h, List.map_append]
  rfl
theorem draws_while {fr : D} {n : Int} {mix c : Int} {us : List Int} {rest : Int} {B : Nat} (hB : B < 1000000) (hn : n ≤ B) (hl : us.length ≤ B) (hr : 0 ≤ rest) :
    ∃ us' : List Int, ∃ rest' : Int, us'.length ≤ B ∧ G.sWhile T__law_draws_b2 S__law_draws_b1
      [.va fr, .va (.int n), .ow (.lst (us.map .int)), .va (.int mix), .va (.int c), .va (.int rest)] = .nx [.va fr, .va (.int n), .ow (.lst (us'.map .int)), .va (.int mix), .va (.int c), .va (.int rest')] := by
  obtain ⟨ρ', h1, ⟨us', rest', rfl, h2, _⟩, _⟩ := sWhile_nx (I := fun ρ => ∃ us : List Int, ∃ rest : Int, ρ = [.va fr, .va (.int n), .ow (.lst (us.map .int)), .va (.int mix), .va (.int c), .va (.int rest)] ∧ us.length ≤ B ∧ 0 ≤ rest)
    (t := T__law_draws_b2) (a := S__law_draws_b1)
    (μ := fun ρ => match ρ[2]? with
      | some (Slot.ow (.lst xs)) => B - xs.length
      | _ => 0)
    (ρ := [.va fr, .va (.int n), .ow (.lst (us.map .int)), .va (.int mix), .va (.int c), .va (.int rest)]) (fun ρ ⟨us, rest, e, hl, hr⟩ => by
      subst e
      by_cases c1 : 0 < rest
      · by_cases c2 : (us.length : Int) < n
        · right
          have hs : us.length < SZ := by unfold SZ; omega
          refine ⟨by simp [T__law_draws_b2, c1, c2], _, .inl ?_, ⟨us ++ [rest % 1000003], rest / 1000003, rfl, ?_, ?_⟩, ?_⟩
          · simp [S__law_draws_b1, sSeq_ap, kAp_i hs]
          · simp
            omega
          · omega
          · simp
            omega
        · left
          simp [T__law_draws_b2, c1, c2]
      · left
        simp [T__law_draws_b2, c1]) ⟨us, rest, rfl, hl, hr⟩ (by simp; omega)
  exact ⟨us', rest', h2, h1⟩
theorem draws_while2 {fr : D} {n : Int} {mix : Int} {s4 s5 : Slot} {us : List Int} {B : Nat} (hB : B < 1000000) (hn : n ≤ B) (hl : us.length ≤ B) :
    ∃ us' : List Int, ∃ mix' : Int, n ≤ us'.length ∧ us'.length ≤ B ∧ G.sWhile T__law_draws_b5 S__law_draws_b4
      [.va fr, .va (.int n), .ow (.lst (us.map .int)), .va (.int mix), s4, s5] = .nx [.va fr, .va (.int n), .ow (.lst (us'.map .int)), .va (.int mix'), s4, s5] := by
  obtain ⟨ρ', h1, ⟨us', mix', rfl, h2⟩, h3⟩ := sWhile_nx (I := fun ρ => ∃ us : List Int, ∃ mix : Int, ρ = [.va fr, .va (.int n), .ow (.lst (us.map .int)), .va (.int mix), s4, s5] ∧ us.length ≤ B)
    (t := T__law_draws_b5) (a := S__law_draws_b4)
    (μ := fun ρ => match ρ[2]? with
      | some (Slot.ow (.lst xs)) => B - xs.length
      | _ => 0)
    (ρ := [.va fr, .va (.int n), .ow (.lst (us.map .int)), .va (.int mix), s4, s5]) (fun ρ ⟨us, mix, e, hl⟩ => by
      subst e
      by_cases c2 : (us.length : Int) < n
      · right
        have hs : us.length < SZ := by unfold SZ; omega
        have b1 : (mix * 48271 + 11) % 2147483647 < 2 ^ 64 := by omega
        have b2 : -(2 ^ 64) < (mix * 48271 + 11) % 2147483647 := by omega
        refine ⟨by simp [T__law_draws_b5, c2], _, .inl ?_, ⟨us ++ [((mix * 48271 + 11) % 2147483647) * ((mix * 48271 + 11) % 2147483647) % 999983], (mix * 48271 + 11) % 2147483647, rfl, ?_⟩, ?_⟩
        · simp [S__law_draws_b4, sSeq_ap, kAp_i hs, oMul_r, oMul_l b2 b1]
        · simp
          omega
        · simp
          omega
      · left
        simp [T__law_draws_b5, c2]) ⟨us, mix, rfl, hl⟩ (by simp; omega)
  refine ⟨us', mix', ?_, h2, h1⟩
  simp [T__law_draws_b5] at h3
  exact h3
/-- the draws: at least as many whole numbers as are asked for -/
theorem draws {ns : List Int} {n : Int} (hns : ns.length ≤ 63) (h0 : 0 ≤ n) (hn : n ≤ 1000) : ∃ us : List Int, R__law_draws [.frl ns, .int n] = .ok (.lst (us.map .int), true) ∧ n ≤ us.length ∧ us.length ≤ 2000 := by
  obtain ⟨ρ', h1, ⟨us, mix, s4, s5, rfl, hl⟩⟩ := forL_nx (tg := .one 4) (a := S__law_draws_b3)
    (I := fun k ρ => ∃ us : List Int, ∃ mix : Int, ∃ s4 s5 : Slot, ρ = [.va (.frl ns), .va (.int n), .ow (.lst (us.map .int)), .va (.int mix), s4, s5] ∧ us.length ≤ k + n.toNat)
    (ds := ns.map .int) (k := 0) (ρ := [.va (.frl ns), .va (.int n), .ow (.lst (([] : List Int).map .int)), .va (.int 1), .un, .un]) ⟨[], 1, .un, .un, rfl, by simp⟩ (fun j d ρ hd ⟨us, mix, s4, s5, e, hl⟩ => by
      subst e
      obtain ⟨lt, e⟩ := List.getElem?_eq_some_iff.mp hd
      have lt : j < ns.length := by simpa using lt
      rw [List.getElem_map] at e
      subst e
      have hs : us.length < SZ := by unfold SZ; omega
      by_cases c1 : (if ns[j] < 0 then -ns[j] else ns[j]) < 10 ^ 18
      · obtain ⟨us', rest', z1, z2⟩ := draws_while (fr := .frl ns) (n := n) (mix := (mix * 31 + ns[j]) % 2147483647) (c := ns[j]) (us := us ++ [ns[j]]) (rest := 0) (B := j + n.toNat + 1) (by omega) (by omega) (by simp; omega) (by omega)
        refine ⟨[.va (.frl ns), .va (.int n), .ow (.lst (us.map .int)), .va (.int mix), .va (.int ns[j]), s5], _, by simp, .inl ?_, us', (mix * 31 + ns[j]) % 2147483647, .va (.int ns[j]), .va (.int rest'), rfl, by omega⟩
        simp at c1
        simp [S__law_draws_b3, sSeq_ap, oMul_r, c1, kAp_i hs]
        simpa using z2
      · have nn : (0 : Int) ≤ if ns[j] < 0 then -ns[j] else ns[j] := by split <;> omega
        obtain ⟨us', rest', z1, z2⟩ := draws_while (fr := .frl ns) (n := n) (mix := (mix * 31 + ns[j]) % 2147483647) (c := ns[j]) (us := us) (rest := if ns[j] < 0 then -ns[j] else ns[j]) (B := j + n.toNat + 1) (by omega) (by omega) (by omega) nn
        refine ⟨[.va (.frl ns), .va (.int n), .ow (.lst (us.map .int)), .va (.int mix), .va (.int ns[j]), s5], _, by simp, .inl ?_, us', (mix * 31 + ns[j]) % 2147483647, .va (.int ns[j]), .va (.int rest'), rfl, by omega⟩
        simp at c1
        simp [S__law_draws_b3, sSeq_ap, oMul_r, Int.not_lt.mpr c1]
        simpa using z2)
  obtain ⟨us', mix', g1, g2, g3⟩ := draws_while2 (fr := .frl ns) (n := n) (mix := mix) (s4 := s4) (s5 := s5) (us := us) (B := 63 + n.toNat) (by omega) (by omega) (by simp at hl; omega)
  refine ⟨us', ?_, g1, by omega⟩
  simp at h1
  simp [R__law_draws, denF, slots, S__law_draws, sSeq_ap, sFor_ap, h1, g3, SZ]
def Bits (bs : List Int) : Prop := ∀ b ∈ bs, b = 0 ∨ b = 1
theorem mod2 (x : Int) : x % 2 = 0 ∨ x % 2 = 1 := by omega
theorem Bits.append {as bs : List Int} (h : Bits as) (g : Bits bs) : Bits (as ++ bs) := fun b hb => (List.mem_append.mp hb).elim (h b) (g b)
theorem Bits.get {bs : List Int} (h : Bits bs) (i : Nat) : gt bs i = 0 ∨ gt bs i = 1 := by
  unfold gt
  rw [List.getD_eq_getElem?_getD]
  cases q : bs[i]? with
  | none => exact .inl rfl
  | some b => exact h b (List.mem_of_getElem? q)
theorem cutD_from {xs : List D} {k : Int} (h0 : 0 ≤ k) (h1 : k ≤ xs.length) : cutD xs (some k) none = xs.drop k.toNat := by
  obtain ⟨n, rfl⟩ := Int.eq_ofNat_of_zero_le h0
  unfold cutD
  rw [HT.sIx_nat, HT.sIx_none, Int.toNat_natCast, Nat.min_eq_left (by omega)]
  exact List.take_of_length_le (by rw [List.length_drop]; exact Nat.le_refl _)
theorem cutD_to {xs : List D} {k : Int} (h0 : 0 ≤ k) : cutD xs none (some k) = xs.take k.toNat := by
  obtain ⟨n, rfl⟩ := Int.eq_ofNat_of_zero_le h0
  unfold cutD
  rw [HT.sIx_nat, HT.sIx_none, Int.toNat_natCast, List.drop_zero, Nat.sub_zero]
  by_cases q : n ≤ xs.length
  · rw [Nat.min_eq_left q]
  · rw [Nat.min_eq_right (by omega), List.take_length, List.take_of_length_le (by omega)]
theorem rngD_get {n : Int} {j : Nat} {d : D} (h : (rngD 0 n)[j]? = some d) : d = .int j ∧ (j : Int) < n := by
  unfold rngD at h
  rw [List.getElem?_map] at h
  cases q : (List.range (n - 0).toNat)[j]? with
  | none => rw [q] at h; cases h
  | some m =>
    rw [q] at h
    have e := List.getElem?_eq_some_iff.mp q
    obtain ⟨lt, e⟩ := e
    rw [List.getElem_range] at e
    subst e
    simp at lt
    refine ⟨?_, by omega⟩
    simp at h
    exact h.symm
theorem rngD_len (n : Int) : (rngD 0 n).length = n.toNat := by simp [rngD]
theorem bits {num many : Int} (h0 : 0 ≤ many) (h1 : many ≤ 1000) : ∃ bs : List Int, R__law_bits [.int num, .int many] = .ok (.lst (bs.map .int), true) ∧ (bs.length : Int) = many ∧ Bits bs := by
  obtain ⟨ρ', e1, ⟨bs, x, s3, rfl, hl, hb⟩⟩ := forL_nx (tg := .one 3) (a := S__law_bits_b1)
    (I := fun k ρ => ∃ bs : List Int, ∃ x : Int, ∃ s3 : Slot, ρ = [.va (.int x), .va (.int many), .ow (.lst (bs.map .int)), s3] ∧ bs.length = k ∧ Bits bs)
    (ds := rngD 0 many) (k := 0) (ρ := [.va (.int num), .va (.int many), .ow (.lst (([] : List Int).map .int)), .un]) ⟨[], num, .un, rfl, rfl, fun _ h => by cases h⟩ (fun j d ρ hd ⟨bs, x, s3, e, hl, hb⟩ => by
      subst e
      obtain ⟨rfl, lt⟩ := rngD_get hd
      have hs : bs.length < SZ := by unfold SZ; omega
      refine ⟨[.va (.int x), .va (.int many), .ow (.lst (bs.map .int)), .va (.int j)], _, by simp, .inl ?_, bs ++ [x % 2], x / 2, .va (.int j), rfl, by simp [hl], hb.append fun b hb => ?_⟩
      · simp [S__law_bits_b1, sSeq_ap, kAp_i hs]
      · simp at hb
        rw [hb]
        exact mod2 x)
  refine ⟨bs, ?_, by rw [hl, rngD_len]; omega, hb⟩
  simp at e1
  simp [R__law_bits, denF, slots, S__law_bits, sSeq_ap, sFor_ap, in62_of (show -(2 ^ 62) < many by omega) (by omega), e1, SZ]
theorem emod_le_nat (j : Nat) {p : Int} (h : 0 < p) : (j : Int) % p ≤ j := by
  obtain ⟨q, rfl⟩ := Int.eq_ofNat_of_zero_le (Int.le_of_lt h)
  have e : ((j % q : Nat) : Int) = (j : Int) % (q : Int) := by simp
  have := Nat.mod_le j q
  show (j : Int) % (q : Int) ≤ j
  omega
theorem lcA_ok {tg : Tg} {e : ES} {ρ : Sl} {P : Nat → D → Prop} : ∀ {ds acc : List D} {k : Nat}, acc.length + ds.length < SZ → (∀ (j : Nat) (d : D), ds[j]? = some d → ∃ ρ1 y kd, tgSet tg d ρ = some ρ1 ∧ e ρ1 = .ok (y, kd) ∧ kd.solid = true ∧ P (k + j) y) →
    ∃ r : List D, lcA tg tYes e ρ acc ds = .ok (acc ++ r) ∧ r.length = ds.length ∧ ∀ (j : Nat) (y : D), r[j]? = some y → P (k + j) y
  | [], acc, k, _, _ => ⟨[], by simp [lcA], rfl, fun j y h => by simp at h⟩
  | d :: ds, acc, k, hl, h => by
    obtain ⟨ρ1, y, kd, h1, h2, h3, h4⟩ := h 0 d rfl
    obtain ⟨r, g1, g2, g3⟩ := lcA_ok (tg := tg) (e := e) (ρ := ρ) (P := P) (ds := ds) (acc := acc ++ [y]) (k := k + 1) (by simp at hl ⊢; omega) fun j d hd => by
      have := h (j + 1) d (by simpa using hd)
      rwa [show k + (j + 1) = k + 1 + j from by omega] at this
    refine ⟨y :: r, ?_, by simp [g2], fun j z hz => ?_⟩
    · unfold lcA
      rw [h1]
      dsimp only
      show (match (Out.ok true : Out Bool) with
        | .ok true => match e ρ1 with
          | .ok (y, k) => if k.solid && decide (acc.length < SZ) then lcA tg tYes e ρ (acc ++ [y]) ds else .no
          | _ => .no
        | .ok false => lcA tg tYes e ρ acc ds
        | _ => .no) = _
      dsimp only
      rw [h2]
      dsimp only
      rw [h3, decide_eq_true (by simp at hl; omega : acc.length < SZ)]
      simp [g1]
    · cases j with
      | zero =>
        simp at hz
        subst hz
        exact h4
      | succ j =>
        have := g3 j z (by simpa using hz)
        rwa [show k + 1 + j = k + (j + 1) from by omega] at this
/-- whole numbers in order -/
theorem ints_of : ∀ {ds : List D} {P : Int → Prop}, (∀ (j : Nat) (y : D), ds[j]? = some y → ∃ i, y = .int i ∧ P i) → ∃ us : List Int, ds = us.map .int ∧ ∀ u ∈ us, P u
  | [], _, _ => ⟨[], rfl, fun _ h => by cases h⟩
  | d :: ds, P, h => by
    obtain ⟨i, rfl, hi⟩ := h 0 d rfl
    obtain ⟨us, rfl, hu⟩ := ints_of (ds := ds) (P := P) fun j y hy => h (j + 1) y (by simpa using hy)
    exact ⟨i :: us, rfl, fun u hm => (List.mem_cons.mp hm).elim (fun e => e ▸ hi) (hu u)⟩
theorem row {us : List Int} {many : Int} (hu : 4 ≤ us.length) (h0 : 0 ≤ many) (h1 : many ≤ 1000) : ∃ bs : List Int, R__law_row [.lst (us.map .int), .int many] = .ok (.lst (bs.map .int), false) ∧ (bs.length : Int) = many ∧ Bits bs := by
  have i0 := oIx_i (us := us) (i := 0) (by omega) (by omega)
  have i1 := oIx_i (us := us) (i := 1) (by omega) (by omega)
  have i2 := oIx_i (us := us) (i := 2) (by omega) (by omega)
  have i3 := oIx_i (us := us) (i := 3) (by omega) (by omega)
  have in62m := in62_of (show -(2 ^ 62) < many by omega) (by omega)
  have key : ∀ num : Int, ∃ bs : List Int, (match (R__law_bits [.int num, .int many]) with
      | .ok (d, _) => (if gt us 3 % 5 = 4 then (match lcA (.one 4) tYes (eBin oIx (eVar 3) (eBin oMod (eVar 4) (eBin oAdd (eC (.int 1)) (eBin oMod (eBin oIx (eVar 0) (eC (.int 1))) (eC (.int 4)))))) [.va (.lst (us.map .int)), .va (.int many), .va (.int num), .va d, .un] [] (rngD 0 many) with
        | .ok r => r
        | _ => []) else (match d with
        | .lst xs => xs
        | _ => []))
      | _ => []) = bs.map .int ∧ (bs.length : Int) = many ∧ Bits bs ∧ (∃ d, R__law_bits [.int num, .int many] = .ok (.lst d, true) ∧ (gt us 3 % 5 = 4 → lcA (.one 4) tYes (eBin oIx (eVar 3) (eBin oMod (eVar 4) (eBin oAdd (eC (.int 1)) (eBin oMod (eBin oIx (eVar 0) (eC (.int 1))) (eC (.int 4)))))) [.va (.lst (us.map .int)), .va (.int many), .va (.int num), .va (.lst d), .un] [] (rngD 0 many) = .ok (bs.map .int)) ∧ (¬ gt us 3 % 5 = 4 → d = bs.map .int)) := by
    intro num
    obtain ⟨bs, e1, e2, e3⟩ := bits (num := num) h0 h1
    by_cases q : gt us 3 % 5 = 4
    · obtain ⟨r, g1, g2, g3⟩ := lcA_ok (tg := .one 4) (e := eBin oIx (eVar 3) (eBin oMod (eVar 4) (eBin oAdd (eC (.int 1)) (eBin oMod (eBin oIx (eVar 0) (eC (.int 1))) (eC (.int 4)))))) (ρ := [.va (.lst (us.map .int)), .va (.int many), .va (.int num), .va (.lst (bs.map .int)), .un])
        (P := fun _ y => ∃ i, y = .int i ∧ (i = 0 ∨ i = 1)) (ds := rngD 0 many) (acc := []) (k := 0) (by rw [rngD_len]; unfold SZ; simp; omega) (fun j d hd => by
          obtain ⟨rfl, lt⟩ := rngD_get hd
          have p1 : 0 < 1 + gt us 1 % 4 := by omega
          have p2 : 0 ≤ (j : Int) % (1 + gt us 1 % 4) := Int.emod_nonneg _ (by omega)
          have p3 : (j : Int) % (1 + gt us 1 % 4) < bs.length := by
            rw [e2]
            exact Int.lt_of_le_of_lt (emod_le_nat j (by omega)) lt
          have i4 := oIx_i (us := bs) p2 p3
          refine ⟨[.va (.lst (us.map .int)), .va (.int many), .va (.int num), .va (.lst (bs.map .int)), .va (.int j)], .int (gt bs ((j : Int) % (1 + gt us 1 % 4)).toNat), .sh, by simp, ?_, rfl, _, rfl, e3.get _⟩
          simp at i1 i4 p1
          simp [i1, p1, i4])
      obtain ⟨vs, e4, e5⟩ := ints_of g3
      refine ⟨vs, ?_, ?_, e5, bs.map .int, e1, fun _ => ?_, fun z => absurd q z⟩
      · rw [e1]
        dsimp only
        rw [if_pos q, g1]
        simpa using e4
      · have := congrArg List.length e4
        rw [List.length_map, g2, rngD_len] at this
        omega
      · rw [g1, e4]
        rfl
    · refine ⟨bs, ?_, e2, e3, bs.map .int, e1, fun z => absurd z q, fun _ => rfl⟩
      rw [e1]
      dsimp only
      rw [if_neg q]
  by_cases q3 : gt us 3 % 5 = 3
  · obtain ⟨bs, _, h2, h3, d, h4, h5, h6⟩ := key (-(gt us 0 % 2))
    refine ⟨bs, ?_, h2, h3⟩
    have ne : ¬ gt us 3 % 5 = 4 := by omega
    obtain rfl := h6 ne
    simp at i0 i1 i2 i3 h4 q3
    simp [R__law_row, denF, slots, S__law_row, sSeq_ap, i0, i1, i2, i3, oMul_l, oMul_r, q3, h4]
  · obtain ⟨bs, _, h2, h3, d, h4, h5, h6⟩ := key (gt us 0 + 1000003 * gt us 1 + 1000003 * 1000003 * gt us 2)
    refine ⟨bs, ?_, h2, h3⟩
    by_cases q4 : gt us 3 % 5 = 4
    · have h5 := h5 q4
      simp at i0 i1 i2 i3 h4 q4 h5
      simp [R__law_row, denF, slots, S__law_row, sSeq_ap, i0, i1, i2, i3, oMul_l, oMul_r, q4, h4, eLc, wipeS, in62m, h5]
    · obtain rfl := h6 q4
      simp at i0 i1 i2 i3 h4 q3 q4
      simp [R__law_row, denF, slots, S__law_row, sSeq_ap, i0, i1, i2, i3, oMul_l, oMul_r, q3, q4, h4]
end GD
namespace GD
open PySem L2 G
theorem pick5 {a b c d e : Int} {x : Int} {P : Int → Prop} (ha : P a) (hb : P b) (hc : P c) (hd : P d) (he : P e) : ∃ m, oIx (.lst [.int a, .int b, .int c, .int d, .int e]) (.int (x % 5)) = .ok (.int m, .sh) ∧ P m := by
  have h : x % 5 = 0 ∨ x % 5 = 1 ∨ x % 5 = 2 ∨ x % 5 = 3 ∨ x % 5 = 4 := by omega
  rcases h with h | h | h | h | h <;> rw [h]
  · exact ⟨a, rfl, ha⟩
  · exact ⟨b, rfl, hb⟩
  · exact ⟨c, rfl, hc⟩
  · exact ⟨d, rfl, hd⟩
  · exact ⟨e, rfl, he⟩
abbrev dI (us : List Int) : D := .lst (us.map .int)
theorem cut_us {us : List Int} {k : Int} (h0 : 0 ≤ k) (h1 : k ≤ us.length) : cutD (us.map .int) (some k) none = (us.drop k.toNat).map .int := by
  rw [cutD_from h0 (by simpa using h1), List.map_drop]
/-- what a plan is -/
structure Plan (s : Int) (us ls : List Int) : Prop where
  bs : s = 0 ∨ s = 1
  bu : Bits us
  bl : Bits ls
  lu : us.length ≤ 39
  ll : ls.length ≤ 39
theorem plan {us : List Int} (hu : 12 ≤ us.length) : ∃ s : Int, ∃ as bs : List Int, R__law_plan [.lst (us.map .int)] = .ok (.tup [.int s, dI as, dI bs], false) ∧ Plan s as bs := by
  have i0 := oIx_i (us := us) (i := 0) (by omega) (by omega)
  have i1 := oIx_i (us := us) (i := 1) (by omega) (by omega)
  have i2 := oIx_i (us := us) (i := 2) (by omega) (by omega)
  have i3 := oIx_i (us := us) (i := 3) (by omega) (by omega)
  obtain ⟨m1, p1, q1⟩ := pick5 (a := 9) (b := 9) (c := 16) (d := 40) (e := 6) (x := gt us 0) (P := fun m => 1 ≤ m ∧ m ≤ 40) (by omega) (by omega) (by omega) (by omega) (by omega)
  obtain ⟨m2, p2, q2⟩ := pick5 (a := 9) (b := 16) (c := 16) (d := 6) (e := 40) (x := gt us 0) (P := fun m => 1 ≤ m ∧ m ≤ 40) (by omega) (by omega) (by omega) (by omega) (by omega)
  have w1 : 0 ≤ gt us 1 % m1 := Int.emod_nonneg _ (by omega)
  have w2 : gt us 1 % m1 < m1 := Int.emod_lt_of_pos _ (by omega)
  have w3 : 0 ≤ gt us 2 % m2 := Int.emod_nonneg _ (by omega)
  have w4 : gt us 2 % m2 < m2 := Int.emod_lt_of_pos _ (by omega)
  obtain ⟨as, r1, l1, b1⟩ := row (us := us.drop 4) (many := gt us 1 % m1) (by simp; omega) w1 (by omega)
  obtain ⟨bs, r2, l2, b2⟩ := row (us := us.drop 8) (many := gt us 2 % m2) (by simp; omega) w3 (by omega)
  refine ⟨gt us 3 % 2, as, bs, ?_, mod2 _, b1, b2, by omega, by omega⟩
  have c4 := cut_us (us := us) (k := 4) (by omega) (by omega)
  have c8 := cut_us (us := us) (k := 8) (by omega) (by omega)
  have z1 : 0 < m1 := by omega
  have z2 : 0 < m2 := by omega
  have a1 : 1 + gt us 1 % m1 - 1 = gt us 1 % m1 := by omega
  have a2 : 1 + gt us 2 % m2 - 1 = gt us 2 % m2 := by omega
  simp at i0 i1 i2 i3 p1 p2 c4 c8 r1 r2 a1 a2
  simp [R__law_plan, denF, slots, S__law_plan, sSeq_ap, i0, i1, i2, i3, p1, p2, c4, c8, r1, r2, z1, z2, a1, a2, SZ]
abbrev cl (s : Int) (us ls : List Int) : D := .obj 20 [.int s, dI us, dI ls]
theorem ask_bits_ok {bs : List Int} (h : Bits bs) : R_ask_bits [dI bs] = .ok (.non, false) := by
  obtain ⟨ρ', h1, _⟩ := forL_nx (tg := .one 1) (a := S_ask_bits_b1) (I := fun _ ρ => ∃ x, ρ = [.va (dI bs), x]) (ds := bs.map .int) (k := 0) (ρ := [.va (dI bs), .un]) ⟨_, rfl⟩ (fun j d ρ hd ⟨x, e⟩ => by
    subst e
    obtain ⟨lt, e⟩ := List.getElem?_eq_some_iff.mp hd
    have lt : j < bs.length := by simpa using lt
    rw [List.getElem_map] at e
    subst e
    refine ⟨[.va (dI bs), .va (.int bs[j])], [.va (dI bs), .va (.int bs[j])], by simp, .inl ?_, _, rfl⟩
    rcases h bs[j] (List.getElem_mem lt) with z | z <;> simp [S_ask_bits_b1, z])
  simp [R_ask_bits, denF, slots, S_ask_bits, sFor_ap, h1]
theorem init_cl {s : Int} {us ls : List Int} (p : Plan s us ls) : R_Cloth___init__ [.int s, dI us, dI ls] = .ok (cl s us ls, true) := by
  have ab := ask_bits_ok (bs := [s] ++ us ++ ls) (Bits.append (Bits.append (fun b hb => by simp at hb; subst hb; exact p.bs) p.bu) p.bl)
  have n1 : ¬ (40 : Int) ≤ us.length := by have := p.lu; omega
  have n2 : ¬ (40 : Int) ≤ ls.length := by have := p.ll; omega
  have n3 : 1 + us.length ≤ SZ := by have := p.lu; unfold SZ; omega
  have n4 : us.length + 1 + ls.length ≤ SZ := by have := p.ll; have := p.lu; unfold SZ; omega
  simp [dI] at ab n3 n4
  simp [R_Cloth___init__, denI, slots, S_Cloth___init__, sSeq_ap, n1, n2, n3, n4, ab, fxOne, SZ]
theorem made {s : Int} {us ls : List Int} (p : Plan s us ls) : R__law_made [.tup [.int s, dI us, dI ls]] = .ok (cl s us ls, true) := by
  have h := init_cl p
  have e0 : oIx (.tup [.int s, dI us, dI ls]) (.int 0) = .ok (.int s, .sh) := rfl
  have e1 : oIx (.tup [.int s, dI us, dI ls]) (.int 1) = .ok (dI us, .sh) := rfl
  have e2 : oIx (.tup [.int s, dI us, dI ls]) (.int 2) = .ok (dI ls, .sh) := rfl
  simp [R__law_made, denF, slots, S__law_made, e0, e1, e2, h]
theorem wide_cl (s : Int) (us ls : List Int) : R_Cloth_wide [cl s us ls] = .ok (.int (us.length + 1), false) := by
  simp [R_Cloth_wide, denF, slots, S_Cloth_wide]
theorem tall_cl (s : Int) (us ls : List Int) : R_Cloth_tall [cl s us ls] = .ok (.int (ls.length + 1), false) := by
  simp [R_Cloth_tall, denF, slots, S_Cloth_tall]
theorem ask_cell_ok {s : Int} {us ls : List Int} {x y : Int} (h1 : 0 ≤ x) (h2 : x ≤ us.length) (h3 : 0 ≤ y) (h4 : y ≤ ls.length) : R_Cloth_ask_cell [cl s us ls, .int x, .int y] = .ok (.non, false) := by
  have e1 : ¬ x < 0 := by omega
  have e2 : ¬ y < 0 := by omega
  have e3 : ¬ ((us.length : Int) + 1 ≤ x) := by omega
  have e4 : ¬ ((ls.length : Int) + 1 ≤ y) := by omega
  simp [R_Cloth_ask_cell, denF, slots, S_Cloth_ask_cell, wide_cl, tall_cl, e1, e2, e3, e4]
/-- the colour by the plain rule -/
def colour (s : Int) (us ls : List Int) (x y : Int) : Int := (s + (us.take x.toNat).sum + (ls.take y.toNat).sum + x * y) % 2
theorem cut_to {us : List Int} {k : Int} (h0 : 0 ≤ k) : cutD (us.map .int) none (some k) = (us.take k.toNat).map .int := by
  rw [cutD_to h0, List.map_take]
theorem colour_ok {s : Int} {us ls : List Int} {x y : Int} (p : Plan s us ls) (h1 : 0 ≤ x) (h2 : x ≤ us.length) (h3 : 0 ≤ y) (h4 : y ≤ ls.length) : R_Cloth_colour [cl s us ls, .int x, .int y] = .ok (.int (colour s us ls x y), false) := by
  have a := ask_cell_ok (s := s) h1 h2 h3 h4
  have c1 := cut_to (us := us) h1
  have c2 := cut_to (us := ls) h3
  have b1 := oBi_sum (us.take x.toNat)
  have b2 := oBi_sum (ls.take y.toNat)
  have m := oMul_l (m := x) (n := y) (by omega) (by have := p.lu; omega)
  simp at a c1 c2 b1 b2
  simp [R_Cloth_colour, denF, slots, S_Cloth_colour, sSeq_ap, a, c1, c2, b1, b2, m, colour]
theorem bit_col {s : Int} {us ls : List Int} {k : Int} (h1 : 0 ≤ k) (h2 : k < us.length) : R_Cloth_bit [cl s us ls, .str "col", .int k] = .ok (.int (gt us k.toNat), false) := by
  have i := oIx_i h1 h2
  simp [R_Cloth_bit, denF, slots, S_Cloth_bit, sSeq_ap, h1, h2, i]
theorem bit_row {s : Int} {us ls : List Int} {k : Int} (h1 : 0 ≤ k) (h2 : k < ls.length) : R_Cloth_bit [cl s us ls, .str "row", .int k] = .ok (.int (gt ls k.toNat), false) := by
  have i := oIx_i h1 h2
  have ne : ¬ (Str.ofString "row" = Str.ofString "col") := by decide
  simp [R_Cloth_bit, denF, slots, S_Cloth_bit, sSeq_ap, h1, h2, i, ne]
theorem steps_col (s : Int) (us ls : List Int) : R_Cloth_steps [cl s us ls, .str "col"] = .ok (.int (ls.length + 1), false) := by
  simp [R_Cloth_steps, denF, slots, S_Cloth_steps, sSeq_ap, tall_cl, wide_cl]
theorem steps_row (s : Int) (us ls : List Int) : R_Cloth_steps [cl s us ls, .str "row"] = .ok (.int (us.length + 1), false) := by
  have ne : ¬ (Str.ofString "row" = Str.ofString "col") := by decide
  simp [R_Cloth_steps, denF, slots, S_Cloth_steps, sSeq_ap, tall_cl, wide_cl, ne]
theorem stitched_col {s : Int} {us ls : List Int} {k y : Int} (h1 : 0 ≤ k) (h2 : k < us.length) (h3 : 0 ≤ y) (h4 : y ≤ ls.length) : R_Cloth_stitched [cl s us ls, .str "col", .int k, .int y] = .ok (.bl (decide ((y + gt us k.toNat) % 2 = 1)), false) := by
  have b := bit_col (s := s) (ls := ls) h1 h2
  have st := steps_col s us ls
  have e1 : ¬ y < 0 := by omega
  have e2 : ¬ ((ls.length : Int) + 1 ≤ y) := by omega
  simp [R_Cloth_stitched, denF, slots, S_Cloth_stitched, sSeq_ap, b, st, e1, e2]
theorem stitched_row {s : Int} {us ls : List Int} {k x : Int} (h1 : 0 ≤ k) (h2 : k < ls.length) (h3 : 0 ≤ x) (h4 : x ≤ us.length) : R_Cloth_stitched [cl s us ls, .str "row", .int k, .int x] = .ok (.bl (decide ((x + gt ls k.toNat) % 2 = 1)), false) := by
  have b := bit_row (s := s) (us := us) h1 h2
  have st := steps_row s us ls
  have e1 : ¬ x < 0 := by omega
  have e2 : ¬ ((us.length : Int) + 1 ≤ x) := by omega
  simp [R_Cloth_stitched, denF, slots, S_Cloth_stitched, sSeq_ap, b, st, e1, e2]
end GD
namespace GD
open PySem L2 G
/-- a for over range(n) -/
theorem for_rng {i : Nat} {n : Int} {a : SS} {ρ : Sl} (I : Nat → Sl → Prop) (h0 : I 0 ρ) (st : ∀ (j : Nat) (ρ : Sl), (j : Int) < n → I j ρ → i < ρ.length ∧ ∃ ρ2, (a (ρ.set i (.va (.int j))) = .nx ρ2 ∨ a (ρ.set i (.va (.int j))) = .ct ρ2) ∧ I (j + 1) ρ2) :
    ∃ ρ', forL (.one i) a (rngD 0 n) ρ = .nx ρ' ∧ I n.toNat ρ' := by
  obtain ⟨ρ', h1, h2⟩ := forL_nx (tg := .one i) (a := a) (I := I) (ds := rngD 0 n) (k := 0) (ρ := ρ) h0 (fun j d ρ hd hi => by
    rw [Nat.zero_add] at hi ⊢
    obtain ⟨rfl, lt⟩ := rngD_get hd
    obtain ⟨l, ρ2, h1, h2⟩ := st j ρ lt hi
    exact ⟨ρ.set i (.va (.int j)), ρ2, by simp [l], h1, h2⟩)
  rw [Nat.zero_add, rngD_len] at h2
  exact ⟨ρ', h1, h2⟩
/-- values that are like themselves -/
inductive Nice : Nat → D → Prop
  | int (n : Nat) (i : Int) : Nice (n + 1) (.int i)
  | bl (n : Nat) (i : Bool) : Nice (n + 1) (.bl i)
  | str (n : Nat) (i : Str) : Nice (n + 1) (.str i)
  | lst {n : Nat} {xs : List D} : xs.length < SZ → (∀ x ∈ xs, Nice n x) → Nice (n + 1) (.lst xs)
  | tup {n : Nat} {xs : List D} : xs.length < SZ → (∀ x ∈ xs, Nice n x) → Nice (n + 1) (.tup xs)
theorem zip_self : ∀ xs : List D, zipD xs xs = xs.map fun x => .tup [x, x]
  | [] => rfl
  | x :: xs => by
    show D.tup [x, x] :: zipD xs xs = _
    rw [zip_self xs]
    rfl
theorem bools_true : ∀ r : List D, (∀ (j : Nat) (y : D), r[j]? = some y → y = .bl true) → boolsOf r = some (List.replicate r.length true)
  | [], _ => rfl
  | d :: r, h => by
    obtain rfl := h 0 d rfl
    show (boolsOf r).map (true :: ·) = _
    rw [bools_true r fun j y hy => h (j + 1) y (by simpa using hy)]
    rfl
theorem all_true (r : List D) (h : ∀ (j : Nat) (y : D), r[j]? = some y → y = .bl true) : oBi .all [.lst r] = .ok (.bl true, .sh) := by
  show (match boolsOf r with
    | some bs => shr (.bl (bs.all id))
    | none => .no) = _
  rw [bools_true r h]
  simp
theorem same_step {self : List D → Out (D × Bool)} {ρ : Sl} {xs : List D} (hl : xs.length < SZ) (h2 : 3 < ρ.length) (hs : ∀ x ∈ xs, self [x, x] = .ok (.bl true, false)) :
    ∃ r, lcA (.tup [.one 2, .one 3]) tYes (eFn self [eVar 2, eVar 3]) ρ [] (zipD xs xs) = .ok r ∧ ∀ (j : Nat) (y : D), r[j]? = some y → y = .bl true := by
  obtain ⟨r, g1, g2, g3⟩ := lcA_ok (tg := .tup [.one 2, .one 3]) (e := eFn self [eVar 2, eVar 3]) (ρ := ρ) (P := fun _ y => y = .bl true) (ds := zipD xs xs) (acc := []) (k := 0) (by rw [zip_self]; simpa using hl) (fun j d hd => by
    rw [zip_self, List.getElem?_map] at hd
    cases q : xs[j]? with
    | none => rw [q] at hd; cases hd
    | some x =>
      rw [q] at hd
      cases hd
      have hx := hs x (List.mem_of_getElem? q)
      refine ⟨(ρ.set 2 (.va x)).set 3 (.va x), .bl true, .sh, ?_, ?_, rfl, rfl⟩
      · have h3 : 2 < ρ.length := by omega
        simp [h2, h3]
      · have e2 : ((ρ.set 2 (.va x)).set 3 (.va x))[2]? = some (.va x) := by
          rw [List.getElem?_set_ne (by decide), List.getElem?_set_self (by omega)]
        have e3 : ((ρ.set 2 (.va x)).set 3 (.va x))[3]? = some (.va x) := List.getElem?_set_self (by rw [List.length_set]; exact h2)
        simp [eFn_ap, e2, e3, hx])
  exact ⟨r, by simpa using g1, g3⟩
@[simp] theorem oIsi_int (T : String) (i : Int) : oIsi T (.int i) = .ok (.bl (isiT T "int"), .sh) := rfl
@[simp] theorem oIsi_bl (T : String) (i : Bool) : oIsi T (.bl i) = .ok (.bl (isiT T "bool"), .sh) := rfl
@[simp] theorem oIsi_str (T : String) (i : Str) : oIsi T (.str i) = .ok (.bl (isiT T "str"), .sh) := rfl
@[simp] theorem oIsi_lst (T : String) (i : List D) : oIsi T (.lst i) = .ok (.bl (isiT T "list"), .sh) := rfl
@[simp] theorem oIsi_tup (T : String) (i : List D) : oIsi T (.tup i) = .ok (.bl (isiT T "tuple"), .sh) := rfl
@[simp] theorem oIsi_non (T : String) : oIsi T .non = .ok (.bl (isiT T "NoneType"), .sh) := rfl
theorem same_self : ∀ {n : Nat} {d : D}, Nice n d → RR__law_same n [d, d] = .ok (.bl true, false)
  | 0, _, h => by cases h
  | n + 1, _, .int _ i => by simp [RR__law_same, denF, slots, S__law_same, sSeq_ap, isiT]
  | n + 1, _, .bl _ i => by simp [RR__law_same, denF, slots, S__law_same, sSeq_ap, isiT]
  | n + 1, _, .str _ i => by simp [RR__law_same, denF, slots, S__law_same, sSeq_ap, isiT]
  | n + 1, _, .lst (xs := xs) l h => by
    obtain ⟨r, h1, h2⟩ := same_step (self := RR__law_same n) (ρ := [.va (.lst xs), .va (.lst xs), .un, .un]) l (by simp) fun x hx => same_self (h x hx)
    simp [RR__law_same, denF, slots, S__law_same, sSeq_ap, isiT, eLc, wipeS, itZip, h1, all_true r h2]
  | n + 1, _, .tup (xs := xs) l h => by
    obtain ⟨r, h1, h2⟩ := same_step (self := RR__law_same n) (ρ := [.va (.tup xs), .va (.tup xs), .un, .un]) l (by simp) fun x hx => same_self (h x hx)
    simp [RR__law_same, denF, slots, S__law_same, sSeq_ap, isiT, eLc, wipeS, itZip, h1, all_true r h2]
theorem same {d : D} (h : Nice 6 d) : R__law_same [d, d] = .ok (.bl true, false) := same_self h
theorem sum_take {us : List Int} {x : Int} (h0 : 0 ≤ x) (h1 : x < us.length) : (us.take (x + 1).toNat).sum = (us.take x.toNat).sum + gt us x.toNat := by
  obtain ⟨n, rfl⟩ := Int.eq_ofNat_of_zero_le h0
  have l : n < us.length := by omega
  have e : ((n : Int) + 1).toNat = n + 1 := by omega
  rw [e, Int.toNat_natCast, List.take_succ, List.getElem?_eq_getElem l, List.sum_append, gt_eq l]
  simp
abbrev planD (s : Int) (us ls : List Int) : D := .tup [.int s, dI us, dI ls]
end GD
namespace GD
open PySem L2 G
@[simp] theorem get0 {α : Type} (a : α) (l : List α) : (a :: l)[0]? = some a := rfl
/-- numbers of at most eighteen figures -/
def Small (us : List Int) : Prop := ∀ u ∈ us, -1000000000000000000 < u ∧ u < 1000000000000000000
theorem Small.nil : Small [] := fun _ h => by cases h
theorem Small.snoc {us : List Int} {x : Int} (h : Small us) (h1 : -1000000000000000000 < x) (h2 : x < 1000000000000000000) : Small (us ++ [x]) := fun u hu => by
  rcases List.mem_append.mp hu with z | z
  · exact h u z
  · simp at z
    subst z
    exact ⟨h1, h2⟩
end GD
namespace G
open PySem L2
section
variable {f g h : ES} {t u : TSm} {s : IS} {a b : SS} {ρ : Sl} {i j : Nat} {d e : D} {k : Kd}
@[simp] theorem sTry_ap (hit : Nat → Option Bool) (su : Nat → List D → SS) : sTry i hit a su ρ = match a ρ with
  | .ex n fs ρ' => match hit n with
    | some true => fOut i (su n fs (clr i .xc ρ'))
    | some false => .ex n fs ρ'
    | none => .no
  | o => o := rfl
@[simp] theorem fOut_nx : fOut i (.nx ρ) = .nx (clr i .un ρ) := rfl
@[simp] theorem fOut_bk : fOut i (.bk ρ) = .bk (clr i .un ρ) := rfl
@[simp] theorem fOut_ct : fOut i (.ct ρ) = .ct (clr i .un ρ) := rfl
@[simp] theorem fOut_rt : fOut i (.rt d k ρ) = .rt d k (clr i .un ρ) := rfl
@[simp] theorem suN_nil (z : Nat → SS) (n : Nat) : suN z n [] = z n := rfl
@[simp] theorem unX_un : unX .un = .un := rfl
@[simp] theorem unX_va : unX (.va d) = .va d := rfl
@[simp] theorem unX_ow : unX (.ow d) = .ow d := rfl
@[simp] theorem unX_me (c : Nat) (ds : List D) : unX (.me c ds) = .un := rfl
@[simp] theorem unX_xc : unX .xc = .un := rfl
@[simp] theorem clr_ap (z : Slot) : clr i z ρ = (ρ.map unX).set i z := rfl
@[simp] theorem eCallX_ap (R : Nat → Out (D × Bool)) (n : Nat) : eCallX R i n ρ = match ρ[i]? with
  | some .xc => match R n with
    | .ok (d, b) => .ok (d, if b = true then .fr else .sh)
    | _ => .no
  | _ => .no := rfl
@[simp] theorem eIsE_ap (hit : Nat → Option Bool) (n : Nat) : eIsE hit i n ρ = match ρ[i]? with
  | some .xc => match hit n with
    | some b => .ok (.bl b, .sh)
    | none => .no
  | _ => .no := rfl
@[simp] theorem okArgs_nil : okArgs [] = true := rfl
@[simp] theorem okArgs_cons (x : D × Kd) (xs : List (D × Kd)) : okArgs (x :: xs) = ((x.2.solid || notObj x.1) && okArgs xs) := rfl
end
end G
namespace GD
open PySem L2 G
end GD
namespace G
open PySem L2
section
variable {f g h : ES} {t u : TSm} {ρ : Sl} {i j : Nat} {d e : D} {k : Kd} {c : Sh}
@[simp] theorem unX_pv (c : Sh) : unX (.pv c d) = .pv c d := rfl
@[simp] theorem sFrzA_ap : sFrzA i ρ = match ρ[i]? with
  | some (.ow d) => .nx (ρ.set i (.va d))
  | some (.pv _ d) => .nx (ρ.set i (.va d))
  | _ => .nx ρ := rfl
@[simp] theorem outOk_int (n : Int) : outOk (.int n) k = true := rfl
@[simp] theorem outOk_bl (n : Bool) : outOk (.bl n) k = true := rfl
@[simp] theorem outOk_str (n : Str) : outOk (.str n) k = true := rfl
@[simp] theorem outOk_non : outOk .non k = true := rfl
@[simp] theorem outOk_lst (ds : List D) : outOk (.lst ds) .fr = ds.all flat := rfl
@[simp] theorem outOk_obj (c : Nat) (ds : List D) : outOk (.obj c ds) .fr = true := rfl
@[simp] theorem eBor_ap : eBor i f ρ = match ρ[i]? with
  | some (.pv _ d) => (match f (ρ.set i (.va d)) with
    | .ok (r, k) => if outOk r k = true ∧ k.solid = true then .ok (r, k) else .no
    | .ex n fs => if fs = [] then .ex n [] else .no
    | .no => .no)
  | _ => f ρ := rfl
@[simp] theorem tBor_ap : tBor i t ρ = match ρ[i]? with
  | some (.pv _ d) => (match t (ρ.set i (.va d)) with
    | .ok b => .ok b
    | .ex n fs => if fs = [] then .ex n [] else .no
    | .no => .no)
  | _ => t ρ := rfl
@[simp] theorem okP_nil : okP [] = true := rfl
@[simp] theorem okP_cons (x : D × Kd) (xs : List (D × Kd)) : okP (x :: xs) = (okK x.1 x.2 && okP xs) := rfl
@[simp] theorem okK_fr : okK d .fr = true := rfl
@[simp] theorem okK_sh : okK d .sh = flat d := rfl
@[simp] theorem sSetLstP_ap (fs : List ES) : sSetLstP i fs ρ = sWith (eArgs fs ρ) ρ fun xs => if okP xs = true ∧ xs.length ≤ SZ then .nx (ρ.set i (.pv sh2 (.lst (xs.map (·.1))))) else .no := rfl
@[simp] theorem sAppP_ap : sAppP i f ρ = match ρ[i]? with
  | some (.pv (.nd k) (.lst ds)) => sWith (f ρ) ρ fun v => (match v with
    | (.lst es, .fr) => (match k ds.length with
      | .nd _ => if es.all flat = true ∧ ds.length < SZ then .nx (ρ.set i (.pv (.nd k) (.lst (ds ++ [.lst es])))) else .no
      | _ => .no)
    | _ => .no)
  | _ => .no := rfl
@[simp] theorem sAppF_ap : sAppF f g ρ = sWith (f ρ) ρ fun x => (match x with
  | (.lst ds, .fr) => sWith (g ρ) ρ fun _ => if ds.length < SZ then .nx ρ else .no
  | _ => .no) := rfl
@[simp] theorem sClrF_ap : sClrF f ρ = sWith (f ρ) ρ fun x => (match x with
  | (.lst _, .fr) => .nx ρ
  | _ => .no) := rfl
@[simp] theorem sPut2_ap : sPut2 i f g h ρ = match ρ[i]? with
  | some (.pv k (.lst ds)) => sWith (h ρ) ρ fun v => if v.2.solid then sWith (f ρ) ρ fun a => (match row2 k ds a.1 with
    | some (k2, p, es) => sWith (g ρ) ρ fun b => (match set2 k2 es b.1 v.1 with
      | some es' => .nx (ρ.set i (.pv k (.lst (ds.set p (.lst es')))))
      | none => .no)
    | none => .no) else .no
  | _ => .no := rfl
end
end G
namespace GD
open PySem L2 G
end GD
namespace G
open PySem L2 PySem.W
section
variable {f g : ES} {ρ : Sl}
@[simp] theorem eLm_ap (op : List D → D → Out (D × Kd)) : eLm op f g ρ = (f ρ).bind fun x => match x.1 with
  | .lst ds => (g ρ).bind fun y => op ds y.1
  | _ => .no := rfl
end
abbrev Pt : Type := Int × Int
def ptD (p : Pt) : D := .tup [.int p.1, .int p.2]
def leP (p q : Pt) : Bool := decide (p.1 < q.1 ∨ (p.1 = q.1 ∧ p.2 ≤ q.2))
theorem toPy_pt (p : Pt) : toPy (ptD p) = some (.tuple [.int p.1, .int p.2]) := rfl
theorem toPys_pts : ∀ ps : List Pt, toPys (ps.map ptD) = some (ps.map fun p => .tuple [.int p.1, .int p.2])
  | [] => rfl
  | p :: ps => by
    show (toPy (ptD p)).bind (fun z => (toPys (ps.map ptD)).map (z :: ·)) = _
    rw [toPy_pt, toPys_pts ps]
    rfl
theorem sortB_pts (ps : List Pt) : sortB (ps.map fun p : Pt => PyData.tuple [.int p.1, .int p.2]) = true := by
  unfold sortB
  have h1 : ((ps.map fun p : Pt => PyData.tuple [.int p.1, .int p.2]).all fun p => (ps.map fun p : Pt => PyData.tuple [.int p.1, .int p.2]).all fun q => alike p q) = true := by
    rw [List.all_map]
    refine List.all_eq_true.mpr fun p _ => ?_
    show ((ps.map fun p : Pt => PyData.tuple [.int p.1, .int p.2]).all fun q => alike _ q) = true
    rw [List.all_map]
    exact List.all_eq_true.mpr fun q _ => by simp [alike, alikeAll]
  have h2 : (ps.map fun p : Pt => PyData.tuple [.int p.1, .int p.2]).all tup1 = true := by
    rw [List.all_map]
    exact List.all_eq_true.mpr fun q _ => rfl
  have h3 : ((ps.map fun p : Pt => PyData.tuple [.int p.1, .int p.2]).all fun p => decide (p.depth < 50)) = true := by
    rw [List.all_map]
    exact List.all_eq_true.mpr fun q _ => by simp [PyData.depth, PyData.depthAll]
  rw [h1, h2, h3]
  rfl
theorem leD_pt (p q : Pt) : leD (ptD p) (ptD q) = leP p q := by
  unfold leD leP
  show (!dataLt (.tuple [.int q.1, .int q.2]) (.tuple [.int p.1, .int p.2])) = _
  rw [dataLt_ii]
  by_cases h : q.1 < p.1 ∨ (q.1 = p.1 ∧ q.2 < p.2)
  · rw [decide_eq_true h, decide_eq_false (by omega)]
    rfl
  · rw [decide_eq_false h, decide_eq_true (by omega)]
    rfl
def sortP (ps : List Pt) : List Pt := ps.mergeSort leP
theorem oSrt_pts (ps : List Pt) : oSrt (.lst (ps.map ptD)) = .ok (.lst ((sortP ps).map ptD), .fr) := by
  show srtL (ps.map ptD) = _
  unfold srtL
  rw [toPys_pts]
  dsimp only
  rw [if_pos (sortB_pts ps)]
  unfold sortP
  rw [List.map_mergeSort (f := ptD) (s := leD) fun a _ b _ => (leD_pt a b).symm]
theorem sortP_perm (ps : List Pt) : (sortP ps).Perm ps := List.mergeSort_perm ps leP
theorem sortP_len (ps : List Pt) : (sortP ps).length = ps.length := List.length_mergeSort ps
end G
namespace GD
open PySem L2 G
section
variable {s : Int} {us ls : List Int}
/-- the partner along the row, along the column -/
def rx (ls : List Int) (x y : Int) : Int := if (x + gt ls (y - 1).toNat) % 2 = 1 then x + 1 else x - 1
def cy (us : List Int) (x y : Int) : Int := if (y + gt us (x - 1).toNat) % 2 = 1 then y + 1 else y - 1
def rowN (us ls : List Int) (x y : Int) : List Pt := if 0 < y ∧ y < ls.length + 1 ∧ 0 ≤ rx ls x y ∧ rx ls x y ≤ us.length + 1 then [(rx ls x y, y)] else []
def colN (us ls : List Int) (x y : Int) : List Pt := if 0 < x ∧ x < us.length + 1 ∧ 0 ≤ cy us x y ∧ cy us x y ≤ ls.length + 1 then [(x, cy us x y)] else []
def joinL (us ls : List Int) (x y : Int) : List Pt := sortP (rowN us ls x y ++ colN us ls x y)
theorem rowN_len (us ls : List Int) (x y : Int) : (rowN us ls x y).length ≤ 1 := by unfold rowN; split <;> simp
theorem colN_len (us ls : List Int) (x y : Int) : (colN us ls x y).length ≤ 1 := by unfold colN; split <;> simp
theorem joinL_len (us ls : List Int) (x y : Int) : (joinL us ls x y).length ≤ 2 := by
  unfold joinL
  rw [sortP_len, List.length_append]
  have := rowN_len us ls x y
  have := colN_len us ls x y
  omega
theorem along_row {x y : Int} (p : Plan s us ls) (h1 : 0 ≤ x) (h2 : x ≤ us.length + 1) (h3 : 0 ≤ y) (h4 : y ≤ ls.length + 1) : R_along_row [cl s us ls, .int x, .int y] = .ok (.lst ((rowN us ls x y).map ptD), true) := by
  have w := wide_cl s us ls
  have t := tall_cl s us ls
  by_cases a : y = 0
  · subst a
    simp [R_along_row, denF, slots, S_along_row, sSeq_ap, w, t, rowN, SZ]
  by_cases b : y = ls.length + 1
  · subst b
    simp [R_along_row, denF, slots, S_along_row, sSeq_ap, w, t, rowN, SZ]
  have bt := p.bl.get (y - 1).toNat
  have st : ∀ z : Int, 0 ≤ z → z ≤ us.length → R_Cloth_stitched [cl s us ls, .str "row", .int (y - 1), .int z] = .ok (.bl (decide ((z + gt ls (y - 1).toNat) % 2 = 1)), false) := fun z z1 z2 => stitched_row (by omega) (by omega) z1 z2
  by_cases o : (x + gt ls (y - 1).toNat) % 2 = 1
  · have rxe : rx ls x y = x + 1 := by unfold rx; rw [if_pos o]
    by_cases c : x < us.length + 1
    · have st1 := st x h1 (by omega)
      rw [decide_eq_true o] at st1
      have q : 0 < y ∧ y < ls.length + 1 ∧ 0 ≤ x + 1 ∧ x + 1 ≤ us.length + 1 := by omega
      have re : rowN us ls x y = [(x + 1, y)] := by unfold rowN; rw [rxe, if_pos q]
      simp [R_along_row, denF, slots, S_along_row, sSeq_ap, w, t, re, a, b, c, st1, ptD, SZ]
    · have c1 : 0 < x := by omega
      have st2 := st (x - 1) (by omega) (by omega)
      rw [decide_eq_false (by omega)] at st2
      have q : ¬ (0 < y ∧ y < ls.length + 1 ∧ 0 ≤ x + 1 ∧ x + 1 ≤ us.length + 1) := by omega
      have re : rowN us ls x y = [] := by unfold rowN; rw [rxe, if_neg q]
      simp [R_along_row, denF, slots, S_along_row, sSeq_ap, w, t, re, a, b, c, c1, st2, SZ]
  · have rxe : rx ls x y = x - 1 := by unfold rx; rw [if_neg o]
    have o2 : (x - 1 + gt ls (y - 1).toNat) % 2 = 1 := by omega
    by_cases c1 : 0 < x
    · have st2 := st (x - 1) (by omega) (by omega)
      rw [decide_eq_true o2] at st2
      have q : 0 < y ∧ y < ls.length + 1 ∧ 0 ≤ x - 1 ∧ x - 1 ≤ us.length + 1 := by omega
      have re : rowN us ls x y = [(x - 1, y)] := by unfold rowN; rw [rxe, if_pos q]
      by_cases c : x < us.length + 1
      · have st1 := st x h1 (by omega)
        rw [decide_eq_false o] at st1
        simp [R_along_row, denF, slots, S_along_row, sSeq_ap, w, t, re, a, b, c, c1, st1, st2, ptD, SZ]
      · simp [R_along_row, denF, slots, S_along_row, sSeq_ap, w, t, re, a, b, c, c1, st2, ptD, SZ]
    · have c : x < us.length + 1 := by omega
      have st1 := st x h1 (by omega)
      rw [decide_eq_false o] at st1
      have q : ¬ (0 < y ∧ y < ls.length + 1 ∧ 0 ≤ x - 1 ∧ x - 1 ≤ us.length + 1) := by omega
      have re : rowN us ls x y = [] := by unfold rowN; rw [rxe, if_neg q]
      simp [R_along_row, denF, slots, S_along_row, sSeq_ap, w, t, re, a, b, c, c1, st1, ptD, SZ]
theorem along_col {x y : Int} (p : Plan s us ls) (h1 : 0 ≤ x) (h2 : x ≤ us.length + 1) (h3 : 0 ≤ y) (h4 : y ≤ ls.length + 1) : R_along_column [cl s us ls, .int x, .int y] = .ok (.lst ((colN us ls x y).map ptD), true) := by
  have w := wide_cl s us ls
  have t := tall_cl s us ls
  by_cases a : x = 0
  · subst a
    simp [R_along_column, denF, slots, S_along_column, sSeq_ap, w, t, colN, SZ]
  by_cases b : x = us.length + 1
  · subst b
    simp [R_along_column, denF, slots, S_along_column, sSeq_ap, w, t, colN, SZ]
  have bt := p.bu.get (x - 1).toNat
  have st : ∀ z : Int, 0 ≤ z → z ≤ ls.length → R_Cloth_stitched [cl s us ls, .str "col", .int (x - 1), .int z] = .ok (.bl (decide ((z + gt us (x - 1).toNat) % 2 = 1)), false) := fun z z1 z2 => stitched_col (by omega) (by omega) z1 z2
  by_cases o : (y + gt us (x - 1).toNat) % 2 = 1
  · have rxe : cy us x y = y + 1 := by unfold cy; rw [if_pos o]
    by_cases c : y < ls.length + 1
    · have st1 := st y h3 (by omega)
      rw [decide_eq_true o] at st1
      have q : 0 < x ∧ x < us.length + 1 ∧ 0 ≤ y + 1 ∧ y + 1 ≤ ls.length + 1 := by omega
      have re : colN us ls x y = [(x, y + 1)] := by unfold colN; rw [rxe, if_pos q]
      simp [R_along_column, denF, slots, S_along_column, sSeq_ap, w, t, re, a, b, c, st1, ptD, SZ]
    · have c1 : 0 < y := by omega
      have st2 := st (y - 1) (by omega) (by omega)
      rw [decide_eq_false (by omega)] at st2
      have q : ¬ (0 < x ∧ x < us.length + 1 ∧ 0 ≤ y + 1 ∧ y + 1 ≤ ls.length + 1) := by omega
      have re : colN us ls x y = [] := by unfold colN; rw [rxe, if_neg q]
      simp [R_along_column, denF, slots, S_along_column, sSeq_ap, w, t, re, a, b, c, c1, st2, SZ]
  · have rxe : cy us x y = y - 1 := by unfold cy; rw [if_neg o]
    have o2 : (y - 1 + gt us (x - 1).toNat) % 2 = 1 := by omega
    by_cases c1 : 0 < y
    · have st2 := st (y - 1) (by omega) (by omega)
      rw [decide_eq_true o2] at st2
      have q : 0 < x ∧ x < us.length + 1 ∧ 0 ≤ y - 1 ∧ y - 1 ≤ ls.length + 1 := by omega
      have re : colN us ls x y = [(x, y - 1)] := by unfold colN; rw [rxe, if_pos q]
      by_cases c : y < ls.length + 1
      · have st1 := st y h3 (by omega)
        rw [decide_eq_false o] at st1
        simp [R_along_column, denF, slots, S_along_column, sSeq_ap, w, t, re, a, b, c, c1, st1, st2, ptD, SZ]
      · simp [R_along_column, denF, slots, S_along_column, sSeq_ap, w, t, re, a, b, c, c1, st2, ptD, SZ]
    · have c : y < ls.length + 1 := by omega
      have st1 := st y h3 (by omega)
      rw [decide_eq_false o] at st1
      have q : ¬ (0 < x ∧ x < us.length + 1 ∧ 0 ≤ y - 1 ∧ y - 1 ≤ ls.length + 1) := by omega
      have re : colN us ls x y = [] := by unfold colN; rw [rxe, if_neg q]
      simp [R_along_column, denF, slots, S_along_column, sSeq_ap, w, t, re, a, b, c, c1, st1, ptD, SZ]
theorem joined_ok {x y : Int} (p : Plan s us ls) (h1 : 0 ≤ x) (h2 : x ≤ us.length + 1) (h3 : 0 ≤ y) (h4 : y ≤ ls.length + 1) : R_joined [cl s us ls, ptD (x, y)] = .ok (.lst ((joinL us ls x y).map ptD), true) := by
  have w := wide_cl s us ls
  have t := tall_cl s us ls
  have a := along_row p h1 h2 h3 h4
  have b := along_col p h1 h2 h3 h4
  have e1 : ¬ x < 0 := by omega
  have e2 : ¬ y < 0 := by omega
  have e3 : ¬ (us.length : Int) + 1 < x := by omega
  have e4 : ¬ (ls.length : Int) + 1 < y := by omega
  have l1 := rowN_len us ls x y
  have l2 := colN_len us ls x y
  have sz : (rowN us ls x y).length + (colN us ls x y).length ≤ SZ := by unfold SZ; omega
  have so := oSrt_pts (rowN us ls x y ++ colN us ls x y)
  rw [List.map_append] at so
  simp [R_joined, denF, slots, S_joined, sSeq_ap, ptD, w, t, e1, e2, e3, e4, a, b, sz]
  simp [so, joinL, ptD]
end
end GD
namespace GD
open PySem L2 G
/-- a comprehension, item by item -/
theorem lcA_map {tg : Tg} {e : ES} {ρ : Sl} {f : D → D} : ∀ {ds acc : List D}, acc.length + ds.length < SZ → (∀ (j : Nat) (d : D), ds[j]? = some d → ∃ ρ1 kd, tgSet tg d ρ = some ρ1 ∧ e ρ1 = .ok (f d, kd) ∧ kd.solid = true) → lcA tg G.tYes e ρ acc ds = .ok (acc ++ ds.map f)
  | [], acc, _, _ => by simp [lcA]
  | d :: ds, acc, hl, h => by
    obtain ⟨ρ1, kd, h1, h2, h3⟩ := h 0 d rfl
    have := lcA_map (tg := tg) (e := e) (ρ := ρ) (f := f) (ds := ds) (acc := acc ++ [f d]) (by simp at hl ⊢; omega) fun j d hd => h (j + 1) d (by simpa using hd)
    have hl' : acc.length < SZ := by simp at hl; omega
    unfold lcA
    rw [h1]
    simp [G.tYes, h2, h3, hl', this]
theorem lcA_of {tg : Tg} {e : ES} {ρ : Sl} (f : D → D) {ds : List D} (hl : ds.length < SZ) (h : ∀ (j : Nat) (d : D), ds[j]? = some d → ∃ ρ1 kd, tgSet tg d ρ = some ρ1 ∧ e ρ1 = .ok (f d, kd) ∧ kd.solid = true) : lcA tg G.tYes e ρ [] ds = .ok (ds.map f) := by
  simpa using lcA_map (acc := []) (by simpa using hl) h
theorem map_get {α β : Type} {f : α → β} {xs : List α} {j : Nat} {d : β} (h : (xs.map f)[j]? = some d) : ∃ x, xs[j]? = some x ∧ d = f x := by
  rw [List.getElem?_map] at h
  cases q : xs[j]? with
  | none => rw [q] at h; cases h
  | some x =>
    rw [q] at h
    cases h
    exact ⟨x, rfl, rfl⟩
/-- F holds the colours of that cloth -/
structure IsTab (s : Int) (us ls : List Int) (F : List (List Int)) : Prop where
  len : F.length = ls.length + 1
  row : ∀ (y : Nat) (r : List Int), F[y]? = some r → r.length = us.length + 1 ∧ ∀ x : Nat, x ≤ us.length → gt r x = colour s us ls x y
theorem oIx_n {xs : List D} {n : Nat} {d : D} (h : xs[n]? = some d) : oIx (.lst xs) (.int (n : Int)) = .ok (d, .sh) := oIx_l (by omega) (by rw [Int.toNat_natCast]; exact h)
theorem whole {s : Int} {us ls : List Int} {F : List (List Int)} (p : Plan s us ls) (h : IsTab s us ls F) : R__law_whole [cl s us ls, .lst (F.map dI)] = .ok (.bl true, false) := by
  have lu := p.lu
  have ll := p.ll
  have hl := h.len
  have sm : ∀ i : Int, R__law_same [.int i, .int i] = .ok (.bl true, false) := fun i => same (.int _ _)
  obtain ⟨r0, hr0⟩ : ∃ r, F[0]? = some r := ⟨F[0], List.getElem?_eq_getElem (by omega)⟩
  have l0 := (h.row 0 r0 hr0).1
  have f0 : oIx (.lst (F.map dI)) (.int 0) = .ok (dI r0, .sh) := oIx_n (n := 0) (by rw [List.getElem?_map, hr0]; rfl)
  have iu := in62_of (show -(2 ^ 62) < (r0.length : Int) by omega) (by omega)
  have il := in62_of (show -(2 ^ 62) < (F.length : Int) by omega) (by omega)
  obtain ⟨ρ', g1, s2, s3, rfl⟩ := for_rng (i := 2) (n := F.length) (a := S__law_whole_b2) (fun _ ρ => ∃ s2 s3, ρ = [.va (cl s us ls), .va (.lst (F.map dI)), s2, s3]) (ρ := [.va (cl s us ls), .va (.lst (F.map dI)), .un, .un]) ⟨_, _, rfl⟩ (fun y ρ lt ⟨s2, s3, e⟩ => by
    subst e
    refine ⟨by simp, ?_⟩
    obtain ⟨r, hr⟩ : ∃ r, F[y]? = some r := ⟨F[y]'(by omega), List.getElem?_eq_getElem (by omega)⟩
    obtain ⟨lr, cr⟩ := h.row y r hr
    have fy : oIx (.lst (F.map dI)) (.int y) = .ok (dI r, .sh) := oIx_n (by rw [List.getElem?_map, hr]; rfl)
    obtain ⟨ρ', g1, s3', rfl⟩ := for_rng (i := 3) (n := r0.length) (a := S__law_whole_b1) (fun _ ρ => ∃ s3, ρ = [.va (cl s us ls), .va (.lst (F.map dI)), .va (.int y), s3]) (ρ := [.va (cl s us ls), .va (.lst (F.map dI)), .va (.int y), s3]) ⟨_, rfl⟩ (fun x ρ lt' ⟨s3, e⟩ => by
      subst e
      have c := colour_ok (x := x) (y := y) p (by omega) (by omega) (by omega) (by omega)
      have ix := oIx_i (us := r) (i := x) (by omega) (by omega)
      rw [Int.toNat_natCast, cr x (by omega)] at ix
      exact ⟨by simp, _, .inl (by simp [S__law_whole_b1, c, fy, ix, sm]), .va (.int x), rfl⟩)
    exact ⟨_, .inl (by simp [S__law_whole_b2, sFor_ap, f0, iu, g1]), .va (.int y), s3', rfl⟩)
  have w := wide_cl s us ls
  have t := tall_cl s us ls
  have w2 : ((us.length : Int) + 1) = r0.length := by omega
  have t2 : ((ls.length : Int) + 1) = F.length := by omega
  rw [w2] at w
  rw [t2] at t
  simp [R__law_whole, denF, slots, S__law_whole, sSeq_ap, sFor_ap, w, t, f0, sm, il, g1]
theorem range_get {n j i : Nat} (h : (List.range n)[j]? = some i) : i = j ∧ j < n := by
  obtain ⟨l, e⟩ := List.getElem?_eq_some_iff.mp h
  rw [List.getElem_range] at e
  exact ⟨e.symm, by simpa using l⟩
end GD
namespace GD
open PySem L2 G
theorem Bits.take {us : List Int} (h : Bits us) (k : Nat) : Bits (us.take k) := fun b hb => h b (List.mem_of_mem_take hb)
theorem Bits.drop {us : List Int} (h : Bits us) (k : Nat) : Bits (us.drop k) := fun b hb => h b (List.mem_of_mem_drop hb)
end GD
namespace GD
open PySem L2 G
def pyI (us : List Int) : List PyData := us.map PyData.int
theorem toPys_ints : ∀ us : List Int, toPys (us.map D.int) = some (pyI us)
  | [] => rfl
  | u :: us => by
    show (toPy (.int u)).bind (fun p => (toPys (us.map D.int)).map (p :: ·)) = _
    rw [toPys_ints us]
    rfl
end GD
namespace GD
open PySem L2 G
structure Rect (F : List (List Int)) (m n : Nat) : Prop where
  len : F.length = m
  row : ∀ r ∈ F, r.length = n
  bit : ∀ r ∈ F, Bits r
def rowA (F : List (List Int)) (y : Nat) : List Int := F.getD y []
theorem rowA_eq {F : List (List Int)} {y : Nat} (h : y < F.length) : F[y]? = some (rowA F y) := by
  unfold rowA
  rw [List.getD_eq_getElem?_getD, List.getElem?_eq_getElem h]
  rfl
theorem rowA_mem {F : List (List Int)} {y : Nat} (h : y < F.length) : rowA F y ∈ F := List.mem_of_getElem? (rowA_eq h)
/-- a for over range(lo, hi) -/
theorem for_rng2 {i : Nat} {lo hi : Int} {a : SS} {ρ : Sl} (I : Nat → Sl → Prop) (h0 : I 0 ρ) (st : ∀ (j : Nat) (ρ : Sl), lo + (j : Int) < hi → I j ρ → i < ρ.length ∧ ∃ ρ2, (a (ρ.set i (.va (.int (lo + j)))) = .nx ρ2 ∨ a (ρ.set i (.va (.int (lo + j)))) = .ct ρ2) ∧ I (j + 1) ρ2) :
    ∃ ρ', forL (.one i) a (rngD lo hi) ρ = .nx ρ' ∧ I (hi - lo).toNat ρ' := by
  have hl : (rngD lo hi).length = (hi - lo).toNat := by simp [rngD]
  obtain ⟨ρ', h1, h2⟩ := forL_nx (tg := .one i) (a := a) (I := I) (ds := rngD lo hi) (k := 0) (ρ := ρ) h0 (fun j d ρ hd hi' => by
    rw [Nat.zero_add] at hi' ⊢
    have : d = .int (lo + (j : Nat)) ∧ j < (hi - lo).toNat := by
      unfold rngD at hd
      rw [List.getElem?_map] at hd
      cases q : (List.range (hi - lo).toNat)[j]? with
      | none => rw [q] at hd; cases hd
      | some m =>
        rw [q] at hd
        obtain ⟨e, lt⟩ := range_get q
        subst e
        cases hd
        exact ⟨rfl, lt⟩
    obtain ⟨rfl, lt⟩ := this
    obtain ⟨l, ρ2, h1, h2⟩ := st j ρ (by omega) hi'
    exact ⟨ρ.set i (.va (.int (lo + j))), ρ2, by simp [l], h1, h2⟩)
  rw [Nat.zero_add, hl] at h2
  exact ⟨ρ', h1, h2⟩
/-- the four numbers of a block, whether their count is even -/
def evenB (F : List (List Int)) (x y : Nat) : Bool := decide ((gt (rowA F y) x + gt (rowA F y) (x + 1) + gt (rowA F (y + 1)) x + gt (rowA F (y + 1)) (x + 1)) % 2 = 0)
def evRow (F : List (List Int)) (n y : Nat) : List Pt := ((List.range n).filter fun x => evenB F x y).map fun x : Nat => (((x : Nat) : Int), ((y : Nat) : Int))
def evens (F : List (List Int)) (m n : Nat) : List Pt := ((List.range m).map (evRow F n)).flatten
theorem kAp_pt {acc : List Pt} {x y : Int} (h : acc.length < SZ) : kAp (acc.map ptD) (.tup [.int x, .int y]) = some ((acc ++ [(x, y)]).map ptD) := by
  unfold kAp
  rw [List.length_map, if_pos h, List.map_append]
  rfl
end GD
namespace GD
open PySem L2 G
@[simp] theorem flat_obj (c : Nat) (b : List D) : flat (.obj c b) = false := rfl
end GD
namespace GD
open PySem L2 G
section
variable {us ls : List Int}
/-- the step on: to the right, up -/
def onw (us ls : List Int) (x y : Int) : Int × Int := if (x + y) % 2 = 0 then (if (x + gt ls y.toNat) % 2 = 1 then (1, 0) else (-1, 0)) else (if (y + gt us x.toNat) % 2 = 1 then (0, 1) else (0, -1))
def rstep (us ls : List Int) (p : Pt) : Pt := ((p.1 + (onw us ls p.1 p.2).1) % us.length, (p.2 + (onw us ls p.1 p.2).2) % ls.length)
end
end GD
namespace GD
open PySem L2 G
theorem eqD_pt (p q : Pt) : eqD (ptD p) (ptD q) = some (decide (p = q)) := by
  obtain ⟨a, b⟩ := p
  obtain ⟨c, d⟩ := q
  have tp : ∀ r : Pt, toPy (ptD r) = some (.tuple [.int r.1, .int r.2]) := fun _ => rfl
  have sh : ∀ i j : Int, SeqAt.shaped (.tuple [.int i, .int j]) = true := fun _ _ => rfl
  show (match toPy (ptD (a, b)), toPy (ptD (c, d)) with
    | some p, some q => if SeqAt.shaped p && SeqAt.shaped q then some (PyData.eqv p q) else none
    | _, _ => none) = _
  rw [tp, tp]
  simp [sh]
  show PyData.eqvAll [.int a, .int b] [.int c, .int d] = _
  simp [PyData.eqvAll, PyData.eqv]
  rw [Bool.beq_eq_decide_eq a c, Bool.beq_eq_decide_eq b d]
theorem ne_pt (p q : Pt) : oNe (ptD p) (ptD q) = .ok (.bl (!decide (p = q)), .sh) := by
  show obl ((eqD (ptD p) (ptD q)).map (!·)) = _
  rw [eqD_pt]
  rfl
abbrev pyP (ps : List Pt) : List PyData := ps.map fun p => .tuple [.int p.1, .int p.2]
theorem pts_lay : ∀ ps : List Pt, PyData.canLayAll0 (pyP ps) = true
  | [] => rfl
  | p :: ps => by
    have h1 : PyData.canLay0 (.tuple [.int p.1, .int p.2]) = true := rfl
    have := pts_lay ps
    simp [PyData.canLayAll0, h1] at this ⊢
    exact this
theorem pts_depth : ∀ ps : List Pt, PyData.depthAll (pyP ps) ≤ 1
  | [] => by simp [PyData.depthAll]
  | p :: ps => by
    have h1 : PyData.depth (.tuple [.int p.1, .int p.2]) = 1 := rfl
    have := pts_depth ps
    show max (PyData.depth (.tuple [.int p.1, .int p.2])) (PyData.depthAll (pyP ps)) ≤ 1
    rw [h1]
    omega
theorem shaped_pts (ps : List Pt) : SeqAt.shaped (.list (pyP ps)) = true := by
  unfold SeqAt.shaped
  have h1 : PyData.canLay0 (.list (pyP ps)) = true := pts_lay ps
  have h2 := pts_depth ps
  rw [h1]
  show (true && decide (PyData.depthAll (pyP ps) + 1 ≤ 64)) = true
  simp
  omega
theorem eq_nil (ps : List Pt) : oEq (.lst (ps.map ptD)) (.lst []) = .ok (.bl (decide (ps = [])), .sh) := by
  have tp : toPy (.lst (ps.map ptD)) = some (.list (pyP ps)) := by
    show (toPys (ps.map ptD)).map PyData.list = _
    rw [toPys_pts]
    rfl
  have t0 : toPy (.lst []) = some (.list []) := rfl
  have s0 : SeqAt.shaped (.list []) = true := rfl
  show obl (eqD (.lst (ps.map ptD)) (.lst [])) = _
  have e : eqD (.lst (ps.map ptD)) (.lst []) = (match toPy (.lst (ps.map ptD)), toPy (.lst []) with
    | some p, some q => if SeqAt.shaped p && SeqAt.shaped q then some (PyData.eqv p q) else none
    | _, _ => none) := rfl
  rw [e, tp, t0]
  simp [shaped_pts, s0]
  cases ps with
  | nil => rfl
  | cons p ps => rfl
section
variable {us ls : List Int}
theorem flat_len {α β : Type} (f : α → List β) (n : Nat) : ∀ xs : List α, (∀ x ∈ xs, (f x).length = n) → ((xs.map f).flatten).length = xs.length * n
  | [], _ => by simp
  | x :: xs, h => by
    rw [List.map_cons, List.flatten_cons, List.length_append, h x List.mem_cons_self, flat_len f n xs fun y hy => h y (List.mem_cons_of_mem _ hy), List.length_cons, Nat.add_mul]
    omega
end
end GD
namespace GD
open PySem L2 G PySem.W
theorem eqv_nil (ps : List Pt) : eqD (.lst (ps.map ptD)) (.lst []) = some (decide (ps = [])) := by
  have e := eq_nil ps
  unfold oEq at e
  cases q : eqD (.lst (ps.map ptD)) (.lst []) with
  | none => rw [q] at e; cases e
  | some b =>
    rw [q] at e
    simp [obl] at e
    rw [e]
theorem ne_nilP (ps : List Pt) : oNe (.lst (ps.map ptD)) (.lst []) = .ok (.bl (!decide (ps = [])), .sh) := by
  unfold oNe
  rw [eqv_nil]
  rfl
theorem eq_ptP (p q : Pt) : oEq (ptD p) (ptD q) = .ok (.bl (decide (p = q)), .sh) := by
  show obl (eqD (ptD p) (ptD q)) = _
  rw [eqD_pt]
  rfl
theorem eq_nonP (q : Pt) : oEq .non (ptD q) = .ok (.bl false, .sh) := rfl
theorem lc_filter {ρ : Sl} {i j : Nat} {q : Pt} (hi : i < ρ.length) (hj : ρ[j]? = some (.va (ptD q))) (ne : j ≠ i) : ∀ (ps : List Pt) (acc : List Pt), acc.length + ps.length < SZ → lcA (.one i) (tBl (eBin oNe (eVar i) (eVar j))) (eVar i) ρ (acc.map ptD) (ps.map ptD) = .ok ((acc ++ ps.filter fun z => decide (z ≠ q)).map ptD)
  | [], acc, _ => by simp [lcA]
  | p :: ps, acc, hl => by
    have e1 : (ρ.set i (.va (ptD p)))[i]? = some (.va (ptD p)) := List.getElem?_set_self hi
    have e2 : (ρ.set i (.va (ptD p)))[j]? = some (.va (ptD q)) := by rw [List.getElem?_set_ne (fun e => ne e.symm)]; exact hj
    have np := ne_pt p q
    have hl' : acc.length < SZ := by simp at hl; omega
    rw [List.map_cons]
    unfold lcA
    by_cases c : p = q
    · rw [decide_eq_true c] at np
      have ih := lc_filter (ρ := ρ) (i := i) (j := j) (q := q) hi hj ne ps acc (by simp at hl ⊢; omega)
      simp [hi, e1, e2, np]
      rw [ih]
      simp [c]
    · rw [decide_eq_false c] at np
      have ih := lc_filter (ρ := ρ) (i := i) (j := j) (q := q) hi hj ne ps (acc ++ [p]) (by simp at hl ⊢; omega)
      simp [hi, e1, e2, np, hl']
      rw [List.map_append, List.map_cons, List.map_nil] at ih
      rw [ih]
      simp [c]
section
variable {s : Int} {us ls : List Int}
abbrev nb (us ls : List Int) : Pt → List Pt := fun p => joinL us ls p.1 p.2
def InC (us ls : List Int) (p : Pt) : Prop := 0 ≤ p.1 ∧ p.1 ≤ us.length + 1 ∧ 0 ≤ p.2 ∧ p.2 ≤ ls.length + 1
/-- all points -/
def ptsC (us ls : List Int) : List Pt := ((List.range (us.length + 2)).map fun x => (List.range (ls.length + 2)).map fun y => (((x : Nat) : Int), ((y : Nat) : Int))).flatten
theorem ptsC_mem {q : Pt} : q ∈ ptsC us ls ↔ InC us ls q := by
  obtain ⟨x, y⟩ := q
  unfold ptsC InC
  simp only [List.mem_flatten, List.mem_map, List.mem_range]
  constructor
  · rintro ⟨l, ⟨a, ha, rfl⟩, hl⟩
    obtain ⟨b, hb, e⟩ := List.mem_map.mp hl
    have hb := List.mem_range.mp hb
    injection e with e1 e2
    omega
  · rintro ⟨h1, h2, h3, h4⟩
    refine ⟨_, ⟨x.toNat, by omega, rfl⟩, List.mem_map.mpr ⟨y.toNat, List.mem_range.mpr (by omega), ?_⟩⟩
    rw [Int.toNat_of_nonneg h1, Int.toNat_of_nonneg h3]
theorem ptsC_len (us ls : List Int) : (ptsC us ls).length = (us.length + 2) * (ls.length + 2) := by
  unfold ptsC
  rw [flat_len _ (ls.length + 2) _ fun x _ => by simp, List.length_range]
theorem mem_nb {p q : Pt} : q ∈ nb us ls p ↔ q ∈ rowN us ls p.1 p.2 ∨ q ∈ colN us ls p.1 p.2 := by
  unfold nb joinL
  rw [(sortP_perm _).mem_iff, List.mem_append]
theorem mem_row {p q : Pt} : q ∈ rowN us ls p.1 p.2 ↔ (0 < p.2 ∧ p.2 < ls.length + 1 ∧ 0 ≤ rx ls p.1 p.2 ∧ rx ls p.1 p.2 ≤ us.length + 1) ∧ q = (rx ls p.1 p.2, p.2) := by
  unfold rowN
  by_cases c : 0 < p.2 ∧ p.2 < ls.length + 1 ∧ 0 ≤ rx ls p.1 p.2 ∧ rx ls p.1 p.2 ≤ us.length + 1
  · rw [if_pos c, List.mem_singleton]
    exact ⟨fun h => ⟨c, h⟩, fun h => h.2⟩
  · rw [if_neg c]
    exact ⟨fun h => (List.not_mem_nil h).elim, fun h => absurd h.1 c⟩
theorem mem_col {p q : Pt} : q ∈ colN us ls p.1 p.2 ↔ (0 < p.1 ∧ p.1 < us.length + 1 ∧ 0 ≤ cy us p.1 p.2 ∧ cy us p.1 p.2 ≤ ls.length + 1) ∧ q = (p.1, cy us p.1 p.2) := by
  unfold colN
  by_cases c : 0 < p.1 ∧ p.1 < us.length + 1 ∧ 0 ≤ cy us p.1 p.2 ∧ cy us p.1 p.2 ≤ ls.length + 1
  · rw [if_pos c, List.mem_singleton]
    exact ⟨fun h => ⟨c, h⟩, fun h => h.2⟩
  · rw [if_neg c]
    exact ⟨fun h => (List.not_mem_nil h).elim, fun h => absurd h.1 c⟩
theorem rx_rx (x y : Int) : rx ls (rx ls x y) y = x := by
  unfold rx
  by_cases c : (x + gt ls (y - 1).toNat) % 2 = 1
  · rw [if_pos c, if_neg (by omega)]; omega
  · rw [if_neg c, if_pos (by omega)]; omega
theorem cy_cy (x y : Int) : cy us x (cy us x y) = y := by
  unfold cy
  by_cases c : (y + gt us (x - 1).toNat) % 2 = 1
  · rw [if_pos c, if_neg (by omega)]; omega
  · rw [if_neg c, if_pos (by omega)]; omega
theorem rx_ne (x y : Int) : rx ls x y ≠ x := by unfold rx; split <;> omega
theorem cy_ne (x y : Int) : cy us x y ≠ y := by unfold cy; split <;> omega
theorem rowN_sym {p q : Pt} (hp : InC us ls p) (h : q ∈ rowN us ls p.1 p.2) : InC us ls q ∧ p ∈ rowN us ls q.1 q.2 := by
  obtain ⟨c, rfl⟩ := mem_row.mp h
  obtain ⟨h1, h2, h3, h4⟩ := hp
  refine ⟨⟨by dsimp only; omega, by dsimp only; omega, h3, h4⟩, mem_row.mpr ?_⟩
  dsimp only
  rw [rx_rx]
  exact ⟨⟨c.1, c.2.1, h1, h2⟩, rfl⟩
theorem colN_sym {p q : Pt} (hp : InC us ls p) (h : q ∈ colN us ls p.1 p.2) : InC us ls q ∧ p ∈ colN us ls q.1 q.2 := by
  obtain ⟨c, rfl⟩ := mem_col.mp h
  obtain ⟨h1, h2, h3, h4⟩ := hp
  refine ⟨⟨h1, h2, by dsimp only; omega, by dsimp only; omega⟩, mem_col.mpr ?_⟩
  dsimp only
  rw [cy_cy]
  exact ⟨⟨c.1, c.2.1, h3, h4⟩, rfl⟩
theorem gr (us ls : List Int) : Sm.Gr (nb us ls) (InC us ls) (ptsC us ls) := by
  refine ⟨fun a ha b hb => ?_, fun a _ h => ?_, fun a => joinL_len us ls a.1 a.2, fun a _ => ?_, fun a ha => ptsC_mem.mpr ha⟩
  · rcases mem_nb.mp hb with h | h
    · obtain ⟨h1, h2⟩ := rowN_sym ha h
      exact ⟨h1, mem_nb.mpr (.inl h2)⟩
    · obtain ⟨h1, h2⟩ := colN_sym ha h
      exact ⟨h1, mem_nb.mpr (.inr h2)⟩
  · rcases mem_nb.mp h with h | h
    · exact rx_ne (ls := ls) a.1 a.2 (congrArg Prod.fst (mem_row.mp h).2).symm
    · exact cy_ne (us := us) a.1 a.2 (congrArg Prod.snd (mem_col.mp h).2).symm
  · unfold nb joinL
    rw [(sortP_perm _).nodup_iff, List.nodup_append]
    refine ⟨?_, ?_, fun x hx y hy e => ?_⟩
    · unfold rowN; split <;> simp
    · unfold colN; split <;> simp
    · have h1 := (mem_row.mp hx).2
      have h2 := (mem_col.mp hy).2
      rw [h1, h2] at e
      exact rx_ne (ls := ls) a.1 a.2 (congrArg Prod.fst e)
abbrev pre (us ls : List Int) (b z : Pt) (k : Nat) : List Pt := (List.range (k + 1)).map (Sm.at_ (nb us ls) b z)
theorem pre_succ (b z : Pt) (k : Nat) : pre us ls b z (k + 1) = pre us ls b z k ++ [Sm.at_ (nb us ls) b z (k + 1)] := by
  unfold pre
  rw [List.range_succ, List.map_append]
  rfl
theorem pre_len_ (b z : Pt) (k : Nat) : (pre us ls b z k).length = k + 1 := by simp [pre]
def hereD (ps : List Pt) : D := match ps with
  | [] => .non
  | p :: _ => ptD p
abbrev fSt (s : Int) (us ls : List Int) (b z : Pt) (k : Nat) (h : D) (s6 s7 : Slot) : Sl := [.va (cl s us ls), .va (ptD b), .va (ptD z), .ow (.lst ((pre us ls b z k).map ptD)), .va (ptD (Sm.at_ (nb us ls) b z k)), .va h, s6, s7]
theorem fol_turn (p : Plan s us ls) {b z : Pt} {k : Nat} (hi : InC us ls (Sm.at_ (nb us ls) b z (k + 1))) (hk : k < 2000) (s6 s7 : Slot) : ∃ s6' s7', S_followed_b1 (fSt s us ls b z k (ptD (Sm.at_ (nb us ls) b z (k + 1))) s6 s7) = .nx (fSt s us ls b z (k + 1) (hereD (Sm.ah (nb us ls) (Sm.at_ (nb us ls) b z k) (Sm.at_ (nb us ls) b z (k + 1)))) s6' s7') := by
  have hl := pre_len_ (us := us) (ls := ls) b z k
  have ps := pre_succ (us := us) (ls := ls) b z k
  unfold fSt
  rw [ps]
  generalize pre us ls b z k = pk at *
  clear ps
  have jo := joined_ok (s := s) (us := us) (ls := ls) (x := (Sm.at_ (nb us ls) b z (k + 1)).1) (y := (Sm.at_ (nb us ls) b z (k + 1)).2) p hi.1 hi.2.1 hi.2.2.1 hi.2.2.2
  have jl := joinL_len us ls (Sm.at_ (nb us ls) b z (k + 1)).1 (Sm.at_ (nb us ls) b z (k + 1)).2
  have ed : ptD ((Sm.at_ (nb us ls) b z (k + 1)).1, (Sm.at_ (nb us ls) b z (k + 1)).2) = ptD (Sm.at_ (nb us ls) b z (k + 1)) := rfl
  rw [ed] at jo
  have ea : Sm.ah (nb us ls) (Sm.at_ (nb us ls) b z k) (Sm.at_ (nb us ls) b z (k + 1)) = (joinL us ls (Sm.at_ (nb us ls) b z (k + 1)).1 (Sm.at_ (nb us ls) b z (k + 1)).2).filter fun x => decide (x ≠ Sm.at_ (nb us ls) b z k) := rfl
  rw [ea]
  generalize joinL us ls (Sm.at_ (nb us ls) b z (k + 1)).1 (Sm.at_ (nb us ls) b z (k + 1)).2 = js at *
  generalize Sm.at_ (nb us ls) b z (k + 1) = here at *
  generalize Sm.at_ (nb us ls) b z k = last at *
  have ka : kAp (pk.map ptD) (ptD here) = some ((pk ++ [here]).map ptD) := by
    unfold kAp
    rw [List.length_map, if_pos (by rw [hl]; unfold SZ; omega), List.map_append]
    rfl
  have lf := lc_filter (ρ := [.va (cl s us ls), .va (ptD b), .va (ptD z), .ow (.lst ((pk ++ [here]).map ptD)), .va (ptD last), .va (ptD here), s6, .un]) (i := 7) (j := 4) (q := last) (by simp) rfl (by decide) js [] (by unfold SZ; simp; omega)
  rw [List.map_nil, List.nil_append] at lf
  have nn := ne_nilP (js.filter fun x => decide (x ≠ last))
  generalize js.filter (fun x => decide (x ≠ last)) = as at *
  refine ⟨.va (.lst (as.map ptD)), s7, ?_⟩
  cases as with
  | nil =>
    simp only [decide_true, Bool.not_true] at nn
    simp [-List.map_append] at lf
    simp [S_followed_b1, sSeq_ap, ka, jo, eLc, wipeS, lf, SZ, hereD, -List.map_append]
    simp at nn
    simp [nn]
  | cons a as =>
    have i0 : oIx (.lst ((a :: as).map ptD)) (.int 0) = .ok (ptD a, .sh) := oIx_n (n := 0) rfl
    simp only [show ¬ (a :: as = []) by simp, decide_false, Bool.not_false] at nn
    simp [-List.map_append] at lf
    simp [S_followed_b1, sSeq_ap, ka, jo, eLc, wipeS, lf, SZ, hereD, -List.map_append]
    simp at nn i0
    simp [nn, i0]
theorem fol_tst {b z : Pt} {k : Nat} {s6 s7 : Slot} (h : Pt) : T_followed_b2 (fSt s us ls b z k (ptD h) s6 s7) = .ok (!decide (h = b)) := by
  have n := ne_pt h b
  have n1 : G.isNon (ptD h) = false := rfl
  simp [T_followed_b2, n1, n]
theorem fol_tst0 {b z : Pt} {k : Nat} {s6 s7 : Slot} : T_followed_b2 (fSt s us ls b z k .non s6 s7) = .ok false := by
  have n1 : G.isNon .non = true := rfl
  simp [T_followed_b2, n1]
def fmu (n : Nat) (ρ : Sl) : Nat := match ρ[3]? with
  | some (G.Slot.ow (G.D.lst xs)) => n - xs.length
  | _ => 0
theorem fmu_st {n : Nat} {b z : Pt} {k : Nat} {h : D} {s6 s7 : Slot} : fmu n (fSt s us ls b z k h s6 s7) = n - (k + 1) := by
  have e : fmu n (fSt s us ls b z k h s6 s7) = n - ((pre us ls b z k).map ptD).length := rfl
  rw [e, List.length_map, pre_len_]
noncomputable def lineC (us ls : List Int) (b z : Pt) : List Pt := Sm.line (nb us ls) b z (Sm.end_ (nb us ls) b z)
noncomputable def backC (us ls : List Int) (b z : Pt) : Bool := Sm.back (nb us ls) b z (Sm.end_ (nb us ls) b z)
theorem end_lt (p : Plan s us ls) {b z : Pt} (hb : InC us ls b) (hz : z ∈ nb us ls b) : Sm.end_ (nb us ls) b z < 1681 := by
  have h := (Sm.end_ok (gr us ls) hb hz).2.2
  rw [ptsC_len] at h
  have : (us.length + 2) * (ls.length + 2) ≤ 41 * 41 := Nat.mul_le_mul (by have := p.lu; omega) (by have := p.ll; omega)
  omega
theorem followed_ok (p : Plan s us ls) {b z : Pt} (hb : InC us ls b) (hz : z ∈ nb us ls b) : R_followed [cl s us ls, ptD b, ptD z] = .ok (.tup [.bl (backC us ls b z), .lst ((lineC us ls b z).map ptD)], false) := by
  have g := Sm.go_end (gr us ls) hb hz
  obtain ⟨k1, k2, _⟩ := Sm.end_ok (gr us ls) hb hz
  have lt := end_lt p hb hz
  have eb : backC us ls b z = Sm.back (nb us ls) b z (Sm.end_ (nb us ls) b z) := rfl
  have el : lineC us ls b z = pre us ls b z (Sm.end_ (nb us ls) b z + 1) := rfl
  rw [eb, el]
  generalize Sm.end_ (nb us ls) b z = n at *
  -- what stands behind the last turn
  have fin : hereD (Sm.ah (nb us ls) (Sm.at_ (nb us ls) b z n) (Sm.at_ (nb us ls) b z (n + 1))) = if Sm.back (nb us ls) b z n = true then ptD b else .non := by
    unfold Sm.En at k1
    unfold Sm.back
    cases q : Sm.ah (nb us ls) (Sm.at_ (nb us ls) b z n) (Sm.at_ (nb us ls) b z (n + 1)) with
    | nil => simp [hereD]
    | cons a as =>
      rw [q] at k1
      have k1 : a = b := k1
      subst k1
      simp [hereD]
  have mid : ∀ k, k < n → hereD (Sm.ah (nb us ls) (Sm.at_ (nb us ls) b z k) (Sm.at_ (nb us ls) b z (k + 1))) = ptD (Sm.at_ (nb us ls) b z (k + 2)) := fun k hk => by
    have e := k2 k hk
    unfold Sm.En at e
    rw [Sm.at_2]
    cases q : Sm.ah (nb us ls) (Sm.at_ (nb us ls) b z k) (Sm.at_ (nb us ls) b z (k + 1)) with
    | nil => rw [q] at e; exact absurd rfl e
    | cons a as => rfl
  have nb_ : ∀ k, k ≤ n → Sm.at_ (nb us ls) b z (k + 1) ≠ b := fun k hk => by
    cases k with
    | zero => exact fun e => (gr us ls).irr b hb (by have e : z = b := e; rw [e] at hz; exact hz)
    | succ k => exact g.neb k (by omega)
  obtain ⟨ρ', g1, hI, g2⟩ := sWhile_nx (t := T_followed_b2) (a := S_followed_b1) (I := fun ρ => (∃ k s6 s7, k ≤ n ∧ ρ = fSt s us ls b z k (ptD (Sm.at_ (nb us ls) b z (k + 1))) s6 s7) ∨ ∃ s6 s7, ρ = fSt s us ls b z (n + 1) (if Sm.back (nb us ls) b z n = true then ptD b else .non) s6 s7)
    (ρ := fSt s us ls b z 0 (ptD z) .un .un) (fmu (n + 2)) (fun ρ hI => by
      rcases hI with ⟨k, s6, s7, hk, rfl⟩ | ⟨s6, s7, rfl⟩
      · refine .inr ⟨?_, ?_⟩
        · rw [fol_tst, decide_eq_false (nb_ k hk)]
          rfl
        · obtain ⟨s6', s7', t⟩ := fol_turn p (g.ins (k + 1) (by omega)) (by omega) s6 s7
          refine ⟨_, .inl t, ?_, ?_⟩
          · by_cases c : k = n
            · subst c
              rw [fin]
              exact .inr ⟨s6', s7', rfl⟩
            · rw [mid k (by omega)]
              exact .inl ⟨k + 1, s6', s7', by omega, rfl⟩
          · rw [fmu_st, fmu_st]
            omega
      · refine .inl ?_
        by_cases q : Sm.back (nb us ls) b z n = true
        · rw [if_pos q, fol_tst, decide_eq_true rfl]
          rfl
        · rw [if_neg q, fol_tst0]) (.inl ⟨0, .un, .un, Nat.zero_le _, rfl⟩) (by rw [fmu_st]; omega)
  have eI : ∃ s6 s7, ρ' = fSt s us ls b z (n + 1) (if Sm.back (nb us ls) b z n = true then ptD b else .non) s6 s7 := by
    rcases hI with ⟨k, s6, s7, hk, rfl⟩ | h
    · rw [fol_tst, decide_eq_false (nb_ k hk)] at g2
      cases g2
    · exact h
  obtain ⟨s6, s7, rfl⟩ := eI
  have e0 : fSt s us ls b z 0 (ptD z) .un .un = [.va (cl s us ls), .va (ptD b), .va (ptD z), .ow (.lst [ptD b]), .va (ptD b), .va (ptD z), .un, .un] := rfl
  rw [e0] at g1
  have e3 := eq_ptP b b
  rw [decide_eq_true rfl] at e3
  have e4 := eq_nonP b
  have sz1 : 1 ≤ SZ := by decide
  have sz2 : 2 ≤ SZ := by decide
  by_cases q : Sm.back (nb us ls) b z n = true
  · rw [if_pos q] at g1
    rw [q]
    simp [R_followed, denF, slots, S_followed, sSeq_ap, g1, e3, sz1, sz2]
  · rw [if_neg q] at g1
    rw [Bool.eq_false_iff.mpr q]
    simp [R_followed, denF, slots, S_followed, sSeq_ap, g1, e4, sz1, sz2]
end
end GD
namespace GD
open PySem L2 G PySem.W
def ltP (p q : Pt) : Bool := decide (p.1 < q.1 ∨ (p.1 = q.1 ∧ p.2 < q.2))
def minP (p : Pt) (ps : List Pt) : Pt := ps.foldl (fun a y => if ltP y a = true then y else a) p
abbrev pyPt (p : Pt) : PyData := .tuple [.int p.1, .int p.2]
theorem minD_pts (p : Pt) (ps : List Pt) : minD (pyPt p) (ps.map pyPt) = pyPt (minP p ps) := by
  unfold minD minP
  induction ps generalizing p with
  | nil => rfl
  | cons q ps ih =>
    rw [List.map_cons, List.foldl_cons, List.foldl_cons, dataLt_ii, ← ih]
    congr 1
    show (if ltP q p = true then pyPt q else pyPt p) = pyPt (if ltP q p = true then q else p)
    split <;> rfl
theorem minP_mem : ∀ (ps : List Pt) (p : Pt), minP p ps ∈ p :: ps
  | [], p => List.mem_singleton.mpr rfl
  | q :: ps, p => by
    have ih := minP_mem ps (if ltP q p = true then q else p)
    show minP (if ltP q p = true then q else p) ps ∈ _
    rcases List.mem_cons.mp ih with h | h
    · rw [h]
      split <;> simp
    · exact List.mem_cons_of_mem _ (List.mem_cons_of_mem _ h)
theorem ltP_iff {p q : Pt} : ltP p q = true ↔ p.1 < q.1 ∨ (p.1 = q.1 ∧ p.2 < q.2) := by unfold ltP; exact decide_eq_true_iff
theorem ltP_tri (p q : Pt) : ltP p q = true ∨ p = q ∨ ltP q p = true := by
  rw [ltP_iff, ltP_iff]
  rcases Int.lt_trichotomy p.1 q.1 with h | h | h
  · exact .inl (.inl h)
  · rcases Int.lt_trichotomy p.2 q.2 with g | g | g
    · exact .inl (.inr ⟨h, g⟩)
    · exact .inr (.inl (Prod.ext h g))
    · exact .inr (.inr (.inr ⟨h.symm, g⟩))
  · exact .inr (.inr (.inl h))
theorem minP_le : ∀ (ps : List Pt) (p : Pt), ∀ z ∈ p :: ps, ltP z (minP p ps) = false
  | [], p, z, hz => by
    rw [List.mem_singleton.mp hz]
    show ltP p p = false
    rw [Bool.eq_false_iff]
    intro h
    rw [ltP_iff] at h
    omega
  | q :: ps, p, z, hz => by
    have ih := minP_le ps (if ltP q p = true then q else p)
    show ltP z (minP (if ltP q p = true then q else p) ps) = false
    have m0 := ih _ List.mem_cons_self
    generalize minP (if ltP q p = true then q else p) ps = m at *
    rcases List.mem_cons.mp hz with rfl | hz
    · by_cases c : ltP q z = true
      · rw [if_pos c] at m0
        rw [Bool.eq_false_iff] at m0 ⊢
        intro h
        apply m0
        rw [ltP_iff] at *
        omega
      · rw [if_neg c] at m0
        exact m0
    · rcases List.mem_cons.mp hz with rfl | hz
      · by_cases c : ltP z p = true
        · rw [if_pos c] at m0
          exact m0
        · rw [if_neg c] at m0
          rw [Bool.eq_false_iff] at m0 ⊢
          intro h
          apply m0
          rw [ltP_iff] at *
          omega
      · exact ih z (List.mem_cons_of_mem _ hz)
theorem min_pts {p : Pt} {ps : List Pt} : oMin (.lst ((p :: ps).map ptD)) = .ok (ptD (minP p ps), .sh) := by
  have tp : toPys ((p :: ps).map ptD) = some (pyPt p :: ps.map pyPt) := by rw [toPys_pts]; rfl
  have io : intsOf ((p :: ps).map ptD) = none := rfl
  have mb : minB (pyPt p :: ps.map pyPt) = true := by
    have e : (pyPt p :: ps.map pyPt) = (p :: ps).map pyPt := rfl
    rw [e]
    generalize p :: ps = qs
    unfold minB
    have h1 : ((qs.map pyPt).all fun a => (qs.map pyPt).all fun b => alike a b) = true := by
      rw [List.all_map]
      refine List.all_eq_true.mpr fun a _ => ?_
      show ((qs.map pyPt).all fun b => alike (pyPt a) b) = true
      rw [List.all_map]
      exact List.all_eq_true.mpr fun b _ => by simp [alike, alikeAll]
    have h2 : (qs.map pyPt).all notNon = true := by
      rw [List.all_map]
      exact List.all_eq_true.mpr fun b _ => rfl
    have h3 := shaped_pts qs
    have h4 : PyData.depthAll (qs.map pyPt) ≤ 1 := pts_depth qs
    rw [h1, h2, h3, decide_eq_true (by omega)]
    rfl
  show (match intsOf ((p :: ps).map ptD) with
    | some ns => if ns ≠ [] then shr (.int (minI ns)) else .no
    | none => match toPys ((p :: ps).map ptD) with
      | some (p :: ps) => if minB (p :: ps) = true then shr (fromPy (minD p ps)) else .no
      | _ => .no) = _
  rw [io, tp]
  dsimp only
  rw [if_pos mb, minD_pts]
  rfl
/-- the first place of a point -/
def fidx (q : Pt) : List Pt → Nat
  | [] => 0
  | p :: ps => if p = q then 0 else fidx q ps + 1
theorem fidx_lt {q : Pt} : ∀ {ps : List Pt}, q ∈ ps → fidx q ps < ps.length ∧ ps[fidx q ps]? = some q
  | p :: ps, h => by
    unfold fidx
    by_cases c : p = q
    · rw [if_pos c]
      exact ⟨by simp, by simp [c]⟩
    · rw [if_neg c]
      obtain ⟨h1, h2⟩ := fidx_lt (ps := ps) ((List.mem_cons.mp h).resolve_left fun e => c e.symm)
      exact ⟨by simp; exact h1, by simpa using h2⟩
theorem eqv_pt (p q : Pt) : PyData.eqv (pyPt p) (pyPt q) = decide (p = q) := by
  obtain ⟨a, b⟩ := p
  obtain ⟨c, d⟩ := q
  show PyData.eqvAll [.int a, .int b] [.int c, .int d] = _
  simp [PyData.eqvAll, PyData.eqv]
  rw [Bool.beq_eq_decide_eq a c, Bool.beq_eq_decide_eq b d]
theorem idxOf_pts {q : Pt} : ∀ {ps : List Pt} {n : Nat}, q ∈ ps → idxOf (ps.map pyPt) (pyPt q) n = some (n + fidx q ps)
  | p :: ps, n, h => by
    show (if PyData.eqv (pyPt p) (pyPt q) = true then some n else idxOf (ps.map pyPt) (pyPt q) (n + 1)) = _
    rw [eqv_pt]
    unfold fidx
    by_cases c : p = q
    · rw [decide_eq_true c, if_pos rfl, if_pos c]
      rfl
    · rw [decide_eq_false c, if_neg c, if_neg (by simp), idxOf_pts ((List.mem_cons.mp h).resolve_left fun e => c e.symm)]
      congr 1
      omega
theorem idx_pts {q : Pt} {ps : List Pt} (h : q ∈ ps) : oIdx (ps.map ptD) (ptD q) = .ok (.int (fidx q ps : Nat), .sh) := by
  unfold oIdx
  rw [toPys_pts, toPy_pt]
  have h1 := shaped_pts ps
  have h2 : SeqAt.shaped (pyPt q) = true := rfl
  dsimp only
  rw [if_pos (by rw [h1, h2]; rfl)]
  have := idxOf_pts (n := 0) h
  rw [Nat.zero_add] at this
  rw [show (ps.map fun p : Pt => (PyData.tuple [.int p.1, .int p.2])) = ps.map pyPt from rfl, this]
  rfl
def minL : List Pt → Pt
  | [] => (0, 0)
  | p :: ps => minP p ps
theorem minL_mem {l : List Pt} (h : l ≠ []) : minL l ∈ l := by
  cases l with
  | nil => exact absurd rfl h
  | cons p ps => exact minP_mem ps p
theorem minL_le {l : List Pt} : ∀ z ∈ l, ltP z (minL l) = false := by
  cases l with
  | nil => intro z h; cases h
  | cons p ps => exact minP_le ps p
def rotL (l : List Pt) : List Pt := l.drop (fidx (minL l) l) ++ l.take (fidx (minL l) l)
def fromL (l : List Pt) : List Pt := match rotL l with
  | a :: z :: r => if z.2 ≠ a.2 then a :: (z :: r).reverse else a :: z :: r
  | t => t
theorem rotL_cons {l : List Pt} (h : 2 ≤ l.length) : ∃ z r, rotL l = minL l :: z :: r := by
  have ne : l ≠ [] := by intro e; subst e; simp at h
  obtain ⟨h1, h2⟩ := fidx_lt (minL_mem ne)
  have hl : (rotL l).length = l.length := by unfold rotL; simp; omega
  have h0 : (rotL l)[0]? = some (minL l) := by
    unfold rotL
    rw [List.getElem?_append_left (by rw [List.length_drop]; omega), List.getElem?_drop, Nat.add_zero, h2]
  cases q : rotL l with
  | nil => rw [q] at hl; simp at hl; omega
  | cons a t =>
    rw [q] at hl h0
    simp at h0
    subst h0
    cases t with
    | nil => simp at hl; omega
    | cons z r => exact ⟨z, r, rfl⟩
theorem least_ok {l : List Pt} (h2 : 2 ≤ l.length) (h : l.length < 5000) : ∃ fl, R_from_least [.lst (l.map ptD)] = .ok (.lst ((fromL l).map ptD), fl) := by
  have ne : l ≠ [] := by intro e; subst e; simp at h2
  obtain ⟨z, r, hr⟩ := rotL_cons h2
  have mn : oMin (.lst (l.map ptD)) = .ok (ptD (minL l), .sh) := by
    cases l with
    | nil => exact absurd rfl ne
    | cons p ps => exact min_pts
  have ix := idx_pts (minL_mem ne)
  obtain ⟨f1, _⟩ := fidx_lt (minL_mem ne)
  have hl : (rotL l).length = l.length := by unfold rotL; simp; omega
  have c1 : cutD (l.map ptD) (some (fidx (minL l) l : Nat)) none = (l.drop (fidx (minL l) l)).map ptD := by
    rw [cutD_from (by omega) (by simp; omega), Int.toNat_natCast, List.map_drop]
  have c2 : cutD (l.map ptD) none (some (fidx (minL l) l : Nat)) = (l.take (fidx (minL l) l)).map ptD := by
    rw [cutD_to (by omega), Int.toNat_natCast, List.map_take]
  have ap : (l.drop (fidx (minL l) l)).map ptD ++ (l.take (fidx (minL l) l)).map ptD = (rotL l).map ptD := by unfold rotL; rw [List.map_append]
  have sz : ((l.drop (fidx (minL l) l)).map ptD).length + ((l.take (fidx (minL l) l)).map ptD).length ≤ SZ := by
    rw [← List.length_append, ap, List.length_map, hl]
    unfold SZ
    omega
  generalize (l.drop (fidx (minL l) l)).map ptD = A at *
  generalize (l.take (fidx (minL l) l)).map ptD = B at *
  generalize fidx (minL l) l = n at *
  have fe : fromL l = if z.2 ≠ (minL l).2 then minL l :: (z :: r).reverse else minL l :: z :: r := by unfold fromL; rw [hr]
  rw [hr] at ap hl
  rw [fe]
  generalize minL l = m at *
  have i0 : oIx (.lst ((m :: z :: r).map ptD)) (.int 0) = .ok (ptD m, .sh) := oIx_n (n := 0) rfl
  have i1 : oIx (.lst ((m :: z :: r).map ptD)) (.int 1) = .ok (ptD z, .sh) := oIx_n (n := 1) rfl
  have j0 : oIx (ptD m) (.int 1) = .ok (.int m.2, .sh) := rfl
  have j1 : oIx (ptD z) (.int 1) = .ok (.int z.2, .sh) := rfl
  have d1 : cutD ((m :: z :: r).map ptD) none (some 1) = [ptD m] := by rw [cutD_to (by omega)]; rfl
  have d2 : cutD ((m :: z :: r).map ptD) (some 1) none = (z :: r).map ptD := by rw [cutD_from (by omega) (by simp; omega)]; rfl
  have rv : oRev (.lst ((z :: r).map ptD)) = .ok (.lst (((z :: r).reverse).map ptD), .fr) := by rw [List.map_reverse]; rfl
  have ef : [ptD m] ++ ((z :: r).reverse).map ptD = (m :: (z :: r).reverse).map ptD := rfl
  have sz3 : [ptD m].length + (((z :: r).reverse).map ptD).length ≤ SZ := by
    simp at hl
    simp
    unfold SZ
    omega
  generalize eT : (m :: z :: r).map ptD = T at *
  generalize (z :: r).map ptD = Z at *
  have eZ : (((z :: r).reverse).map ptD) = (((z :: r).reverse).map ptD) := rfl
  by_cases c : z.2 = m.2
  · rw [if_neg (fun e => e c)]
    rw [eT]
    refine ⟨false, ?_⟩
    simp [R_from_least, denF, slots, S_from_least, sSeq_ap, mn, ix, c1, c2, ap, sz, i0, i1, j0, j1, c]
  · rw [if_pos c, ← ef]
    generalize ((z :: r).reverse).map ptD = W at *
    refine ⟨true, ?_⟩
    have sz4 : 1 + W.length ≤ SZ := by
      rw [List.length_cons, List.length_nil] at sz3
      omega
    simp [R_from_least, denF, slots, S_from_least, sSeq_ap, mn, ix, c1, c2, ap, sz, i0, i1, j0, j1, c, d1, d2, rv, sz4]
theorem lt_pt (p q : Pt) : oLt (ptD p) (ptD q) = .ok (.bl (ltP p q), .sh) := by
  show shr (.bl (HT.lexLt [p.1, p.2] [q.1, q.2])) = _
  have e : HT.lexLt [p.1, p.2] [q.1, q.2] = ltP p q := by
    rw [HT.lexLt_cons, HT.lexLt_cons, HT.lexLt_nil_nil]
    unfold ltP
    by_cases h : p.1 = q.1
    · by_cases g : p.2 = q.2
      · rw [if_pos h, if_pos g, decide_eq_false (by omega)]
      · rw [if_pos h, if_neg g]
        by_cases g2 : p.2 < q.2
        · rw [decide_eq_true g2, decide_eq_true (by omega)]
        · rw [decide_eq_false g2, decide_eq_false (by omega)]
    · rw [if_neg h]
      by_cases g2 : p.1 < q.1
      · rw [decide_eq_true g2, decide_eq_true (by omega)]
      · rw [decide_eq_false g2, decide_eq_false (by omega)]
  rw [e]
  rfl
theorem oIx_neg1 {xs : List D} {d : D} (h : xs[xs.length - 1]? = some d) : oIx (.lst xs) (.int (-1)) = .ok (d, .sh) := by
  have l := (List.getElem?_eq_some_iff.mp h).1
  show (match atI xs (-1) with
    | some d => shr d
    | none => .no) = _
  unfold atI
  rw [ixN_neg (by decide) (by omega)]
  show (match xs[((-1 : Int) + xs.length).toNat]? with
    | some d => shr d
    | none => .no) = _
  rw [show ((-1 : Int) + xs.length).toNat = xs.length - 1 by omega, h]
  rfl
/-- an open line from its lesser end on -/
def normL (l : List Pt) : List Pt := match l[0]?, l[l.length - 1]? with
  | some a, some b => if ltP b a = true then l.reverse else l
  | _, _ => l
theorem normL_eq {l : List Pt} {a b : Pt} (ha : l[0]? = some a) (hb : l[l.length - 1]? = some b) : normL l = if ltP b a = true then l.reverse else l := by
  unfold normL
  rw [ha, hb]
section
variable {s : Int} {us ls : List Int}
noncomputable def bothC (us ls : List Int) (b z : Pt) (r : List Pt) : List Pt := match r with
  | [] => lineC us ls b z
  | t :: _ => (lineC us ls b z).reverse ++ (lineC us ls b t).tail
/-- the seam through a point -/
noncomputable def seamC (us ls : List Int) (b : Pt) : Option (Bool × List Pt) := match nb us ls b with
  | [] => none
  | z :: r => if backC us ls b z = true then some (true, fromL (lineC us ls b z)) else some (false, normL (bothC us ls b z r))
def seamD : Option (Bool × List Pt) → D
  | none => .non
  | some (c, l) => .tup [.bl c, .lst (l.map ptD)]
theorem lineC_len (p : Plan s us ls) {b z : Pt} (hb : InC us ls b) (hz : z ∈ nb us ls b) : 2 ≤ (lineC us ls b z).length ∧ (lineC us ls b z).length < 1700 := by
  have := end_lt p hb hz
  unfold lineC
  rw [Sm.line_len]
  omega
theorem bothC_ends {b z : Pt} {r : List Pt} {n : Nat} (h : (bothC us ls b z r).length = n) (h2 : 2 ≤ n) : ∃ a c, (bothC us ls b z r)[0]? = some a ∧ (bothC us ls b z r)[(bothC us ls b z r).length - 1]? = some c := by
  exact ⟨_, _, List.getElem?_eq_getElem (by omega), List.getElem?_eq_getElem (by omega)⟩
theorem bothC_len (p : Plan s us ls) {b z : Pt} {r : List Pt} (hb : InC us ls b) (hz : nb us ls b = z :: r) : 2 ≤ (bothC us ls b z r).length ∧ (bothC us ls b z r).length < 3400 := by
  have l1 := lineC_len p hb (z := z) (by rw [hz]; simp)
  cases r with
  | nil => exact ⟨l1.1, by show (lineC us ls b z).length < _; omega⟩
  | cons t r =>
    have l2 := lineC_len p hb (z := t) (by rw [hz]; simp)
    unfold bothC
    dsimp only
    rw [List.length_append, List.length_reverse, List.length_tail]
    omega
theorem seam_ok (p : Plan s us ls) {b : Pt} (hb : InC us ls b) : R_seam [cl s us ls, ptD b] = .ok (seamD (seamC us ls b), false) := by
  have jo := joined_ok (s := s) (us := us) (ls := ls) (x := b.1) (y := b.2) p hb.1 hb.2.1 hb.2.2.1 hb.2.2.2
  have ed : ptD (b.1, b.2) = ptD b := rfl
  rw [ed] at jo
  have enb : joinL us ls b.1 b.2 = nb us ls b := rfl
  rw [enb] at jo
  have jl : (nb us ls b).length ≤ 2 := joinL_len us ls b.1 b.2
  have en := eq_nil (nb us ls b)
  have sz2 : 2 ≤ SZ := by decide
  unfold seamC
  cases q : nb us ls b with
  | nil =>
    rw [q] at jo en
    simp only [decide_true] at en
    simp at en jo
    simp [R_seam, denF, slots, S_seam, sSeq_ap, jo, en, seamD, SZ]
  | cons z r =>
    have hz : z ∈ nb us ls b := by rw [q]; simp
    have fo := followed_ok p hb hz
    obtain ⟨l1, l2⟩ := lineC_len p hb hz
    obtain ⟨b1, b2⟩ := bothC_len p hb q
    rw [q] at jo en
    simp only [show ¬ (z :: r = []) by simp, decide_false] at en
    have i0 : oIx (.lst ((z :: r).map ptD)) (.int 0) = .ok (ptD z, .sh) := oIx_n (n := 0) rfl
    by_cases bk : backC us ls b z = true
    · obtain ⟨fl, le⟩ := least_ok l1 (by omega)
      rw [bk] at fo
      simp at en jo i0
      cases fl <;> simp [R_seam, denF, slots, S_seam, sSeq_ap, jo, en, seamD, bk, i0, fo, le, sz2, SZ]
    · rw [Bool.eq_false_iff.mpr bk] at fo
      obtain ⟨a, c, ha, hc⟩ := bothC_ends (n := (bothC us ls b z r).length) rfl b1
      have ne := normL_eq ha hc
      have k0 : oIx (.lst ((bothC us ls b z r).map ptD)) (.int 0) = .ok (ptD a, .sh) := oIx_n (n := 0) (by rw [List.getElem?_map, ha]; rfl)
      have k1 : oIx (.lst ((bothC us ls b z r).map ptD)) (.int (-1)) = .ok (ptD c, .sh) := oIx_neg1 (by rw [List.length_map, List.getElem?_map, hc]; rfl)
      have lt := lt_pt c a
      have rv : oRev (.lst ((bothC us ls b z r).map ptD)) = .ok (.lst (((bothC us ls b z r).reverse).map ptD), .fr) := by rw [List.map_reverse]; rfl
      have fin : seamD (some (false, normL (bothC us ls b z r))) = .tup [.bl false, .lst ((if ltP c a = true then (bothC us ls b z r).reverse else bothC us ls b z r).map ptD)] := by
        rw [← ne]; rfl
      dsimp only
      rw [if_neg bk, fin]
      cases r with
      | nil =>
        have eb : bothC us ls b z [] = lineC us ls b z := rfl
        rw [eb] at k0 k1 rv ⊢
        clear ne fin ha hc b1 b2 eb
        generalize lineC us ls b z = l at *
        generalize eM : l.map ptD = M at *
        generalize eW : (l.reverse).map ptD = W at *
        simp at en jo i0
        by_cases cl : ltP c a = true
        · rw [cl] at lt
          simp [R_seam, denF, slots, S_seam, sSeq_ap, jo, en, i0, fo, k0, k1, lt, rv, cl, eW, sz2, SZ]
        · rw [Bool.eq_false_iff.mpr cl] at lt
          simp [R_seam, denF, slots, S_seam, sSeq_ap, jo, en, i0, fo, k0, k1, lt, rv, cl, eM, sz2, SZ]
      | cons t r =>
        have hr : r = [] := by
          rw [q] at jl
          have jl : r.length + 1 + 1 ≤ 2 := jl
          exact List.eq_nil_of_length_eq_zero (by omega)
        subst hr
        have ht : t ∈ nb us ls b := by rw [q]; simp
        have fo2 := followed_ok p hb ht
        obtain ⟨l3, l4⟩ := lineC_len p hb ht
        have i1 : oIx (.lst ([z, t].map ptD)) (.int 1) = .ok (ptD t, .sh) := oIx_n (n := 1) rfl
        have ct : cutD ((lineC us ls b t).map ptD) (some 1) none = ((lineC us ls b t).tail).map ptD := by
          rw [cutD_from (by omega) (by simp; omega)]
          simp
        have rv1 : oRev (.lst ((lineC us ls b z).map ptD)) = .ok (.lst (((lineC us ls b z).reverse).map ptD), .fr) := by rw [List.map_reverse]; rfl
        have ap : ((lineC us ls b z).reverse).map ptD ++ ((lineC us ls b t).tail).map ptD = (bothC us ls b z [t]).map ptD := by
          rw [← List.map_append]; rfl
        have sz : (((lineC us ls b z).reverse).map ptD).length + (((lineC us ls b t).tail).map ptD).length ≤ SZ := by
          simp
          unfold SZ
          omega
        generalize ((lineC us ls b z).reverse).map ptD = A at *
        generalize ((lineC us ls b t).tail).map ptD = B at *
        generalize (lineC us ls b z).map ptD = A0 at *
        generalize (lineC us ls b t).map ptD = B0 at *
        generalize backC us ls b t = bt at *
        generalize bothC us ls b z [t] = l at *
        generalize eM : l.map ptD = M at *
        generalize eW : (l.reverse).map ptD = W at *
        have j1 : oIx (.tup [.bl bt, .lst B0]) (.int 1) = .ok (.lst B0, .sh) := rfl
        simp at en jo i0 i1
        by_cases cl : ltP c a = true
        · rw [cl] at lt
          simp [R_seam, denF, slots, S_seam, sSeq_ap, jo, en, i0, i1, fo, fo2, j1, ct, rv1, sz, ap, k0, k1, lt, rv, cl, eW, sz2, SZ]
        · rw [Bool.eq_false_iff.mpr cl] at lt
          simp [R_seam, denF, slots, S_seam, sSeq_ap, jo, en, i0, i1, fo, fo2, j1, ct, rv1, sz, ap, k0, k1, lt, rv, cl, eM, sz2, SZ]
end
end GD
namespace GD
open PySem L2 G
def kyP (p : Pt) : List Key := [.inl p.1, .inl p.2]
def seenD (vs : List Pt) : D := .dT (vs.map kyP) (vs.map fun _ => D.bl true)
theorem kyP_inj {p q : Pt} : kyP p = kyP q ↔ p = q := by
  obtain ⟨a, b⟩ := p
  obtain ⟨c, d⟩ := q
  unfold kyP
  simp
theorem mem_ky {p : Pt} {vs : List Pt} : kyP p ∈ vs.map kyP ↔ p ∈ vs := by
  rw [List.mem_map]
  constructor
  · rintro ⟨q, hq, e⟩
    rw [kyP_inj] at e
    exact e ▸ hq
  · exact fun h => ⟨p, h, rfl⟩
theorem zip_same (k : List Key) : ∀ vs : List Pt, List.zipWith (fun x y => if x = k then D.bl true else y) (vs.map kyP) (vs.map fun _ => D.bl true) = vs.map fun _ => D.bl true
  | [] => rfl
  | v :: vs => by
    rw [List.map_cons, List.map_cons, List.zipWith_cons_cons, zip_same k vs]
    split <;> rfl
def addP (vs : List Pt) (p : Pt) : List Pt := if p ∈ vs then vs else vs ++ [p]
theorem put_seen {vs : List Pt} {p : Pt} (h : vs.length < SZ) : kPut (seenD vs) (ptD p) (.bl true) = some (seenD (addP vs p)) := by
  have e : kPut (seenD vs) (ptD p) (.bl true) = if (vs.map kyP).length < SZ then some (.dT (putD (kyP p) (.bl true) (vs.map kyP) (vs.map fun _ => D.bl true)).1 (putD (kyP p) (.bl true) (vs.map kyP) (vs.map fun _ => D.bl true)).2) else none := rfl
  rw [e, if_pos (by rw [List.length_map]; exact h)]
  unfold putD addP
  by_cases m : p ∈ vs
  · rw [if_pos (mem_ky.mpr m), if_pos m, zip_same]
    rfl
  · rw [if_neg fun z => m (mem_ky.mp z), if_neg m]
    unfold seenD
    rw [List.map_append, List.map_append]
    rfl
theorem look_seen {p : Pt} : ∀ {vs : List Pt}, lookK (vs.map kyP) (vs.map fun _ => D.bl true) (kyP p) = if p ∈ vs then some (.bl true) else none
  | [] => by simp [lookK]
  | v :: vs => by
    have ih := look_seen (p := p) (vs := vs)
    rw [List.map_cons, List.map_cons]
    unfold lookK
    by_cases e : v = p
    · subst e
      simp
    · have e2 : ¬ kyP v = kyP p := fun z => e (kyP_inj.mp z)
      have e3 : ¬ p = v := fun z => e z.symm
      simp [e2, e3, ih]
theorem in_seen (vs : List Pt) (p : Pt) : oInD (ptD p) (seenD vs) = .ok (.bl (decide (p ∈ vs)), .sh) := by
  have e : dGet (seenD vs) (ptD p) = some (lookK (vs.map kyP) (vs.map fun _ => D.bl true) (kyP p)) := rfl
  unfold oInD
  rw [e, look_seen]
  by_cases m : p ∈ vs
  · rw [if_pos m, decide_eq_true m]; rfl
  · rw [if_neg m, decide_eq_false m]; rfl
theorem ni_seen (vs : List Pt) (p : Pt) : oNiD (ptD p) (seenD vs) = .ok (.bl (!decide (p ∈ vs)), .sh) := by
  have e : dGet (seenD vs) (ptD p) = some (lookK (vs.map kyP) (vs.map fun _ => D.bl true) (kyP p)) := rfl
  unfold oNiD
  rw [e, look_seen]
  by_cases m : p ∈ vs
  · rw [if_pos m, decide_eq_true m]; rfl
  · rw [if_neg m, decide_eq_false m]; rfl
theorem addP_mem {vs : List Pt} {p q : Pt} : q ∈ addP vs p ↔ q ∈ vs ∨ q = p := by
  unfold addP
  by_cases m : p ∈ vs
  · rw [if_pos m]
    exact ⟨.inl, fun h => h.elim id fun e => e ▸ m⟩
  · rw [if_neg m, List.mem_append, List.mem_singleton]
theorem addP_len (vs : List Pt) (p : Pt) : (addP vs p).length ≤ vs.length + 1 := by
  unfold addP
  split <;> simp
def addAll (vs ps : List Pt) : List Pt := ps.foldl addP vs
theorem addAll_mem {q : Pt} : ∀ {ps vs : List Pt}, q ∈ addAll vs ps ↔ q ∈ vs ∨ q ∈ ps
  | [], vs => by simp [addAll]
  | p :: ps, vs => by
    have := addAll_mem (q := q) (ps := ps) (vs := addP vs p)
    unfold addAll at this ⊢
    rw [List.foldl_cons, this, addP_mem, List.mem_cons, or_assoc]
theorem addAll_len : ∀ (ps vs : List Pt), (addAll vs ps).length ≤ vs.length + ps.length
  | [], vs => by simp [addAll]
  | p :: ps, vs => by
    have := addAll_len ps (addP vs p)
    have h := addP_len vs p
    unfold addAll at this ⊢
    rw [List.foldl_cons, List.length_cons]
    omega
end GD
namespace GD
open PySem L2 G
section
variable {us ls : List Int}
def PerP (us ls : List Int) (q : Pt) (n : Nat) : Prop := 1 ≤ n ∧ n ≤ 1600 ∧ Orb.it (rstep us ls) n q = q ∧ ∀ m, 1 ≤ m → m < n → Orb.it (rstep us ls) m q ≠ q
open Classical in
noncomputable def per (us ls : List Int) (q : Pt) : Nat := if h : ∃ n, PerP us ls q n then Classical.choose h else 1
def colP (x : Int) (k : Nat) : List Pt := (List.range k).map fun y => (x, ((y : Nat) : Int))
theorem colP_succ (x : Int) (k : Nat) : colP x (k + 1) = colP x k ++ [(x, (k : Int))] := by
  unfold colP
  rw [List.range_succ, List.map_append]
  rfl
end
end GD
namespace Sm
variable {α : Type} [DecidableEq α] {N : α → List α} {c : Bool} {l : List α}
/-- a set that holds the neighbours of its points and one of a seam's points holds them all -/
theorem Seam.conn (q : Seam N c l) {V : α → Prop} (hV : ∀ a, V a → ∀ b ∈ N a, V b) {z : α} (hz : z ∈ l) (vz : V z) : ∀ w ∈ l, V w := by
  obtain ⟨i, hi⟩ := List.getElem?_of_mem hz
  have up : ∀ k w, l[i + k]? = some w → V w := by
    intro k
    induction k with
    | zero => intro w hw; rw [Nat.add_zero, hi] at hw; cases hw; exact vz
    | succ k ih =>
      intro w hw
      have lt := (List.getElem?_eq_some_iff.mp hw).1
      obtain ⟨v, hv⟩ : ∃ v, l[i + k]? = some v := ⟨_, List.getElem?_eq_getElem (by omega)⟩
      exact hV v (ih v hv) w (q.step _ _ _ hv hw).1
  have dn : ∀ k, k ≤ i → ∀ w, l[i - k]? = some w → V w := by
    intro k
    induction k with
    | zero => intro _ w hw; rw [Nat.sub_zero, hi] at hw; cases hw; exact vz
    | succ k ih =>
      intro hk w hw
      have lt := (List.getElem?_eq_some_iff.mp hi).1
      obtain ⟨v, hv⟩ : ∃ v, l[i - k]? = some v := ⟨_, List.getElem?_eq_getElem (by omega)⟩
      refine hV v (ih (by omega) v hv) w (q.step (i - (k + 1)) _ _ hw ?_).2
      rw [show i - (k + 1) + 1 = i - k by omega]
      exact hv
  intro w hw
  obtain ⟨j, hj⟩ := List.getElem?_of_mem hw
  by_cases h : i ≤ j
  · exact up (j - i) w (by rw [show i + (j - i) = j by omega]; exact hj)
  · exact dn (i - j) (by omega) w (by rw [show i - (i - j) = j by omega]; exact hj)
end Sm
namespace GD
open PySem L2 G PySem.W
section
variable {s : Int} {us ls : List Int}
theorem fromL_seam {N : Pt → List Pt} {l : List Pt} (q : Sm.Seam N true l) : Sm.Seam N true (fromL l) ∧ ∀ z, z ∈ fromL l ↔ z ∈ l := by
  have r1 : Sm.Seam N true (rotL l) := by
    unfold rotL
    have e : Sm.Seam N true (l.take (fidx (minL l) l) ++ l.drop (fidx (minL l) l)) := by rw [List.take_append_drop]; exact q
    exact e.rot
  have m1 : ∀ z, z ∈ rotL l ↔ z ∈ l := fun z => by
    unfold rotL
    rw [List.mem_append, or_comm, ← List.mem_append, List.take_append_drop]
  obtain ⟨z, r, hr⟩ := rotL_cons q.two
  have fe : fromL l = if z.2 ≠ (minL l).2 then minL l :: (z :: r).reverse else minL l :: z :: r := by unfold fromL; rw [hr]
  rw [hr] at r1 m1
  rw [fe]
  by_cases c : z.2 ≠ (minL l).2
  · rw [if_pos c]
    refine ⟨?_, fun w => ?_⟩
    · have h := r1.rev
      rw [List.reverse_cons] at h
      exact h.rot
    · rw [← m1]
      simp
      constructor <;> (intro h; rcases h with h | h | h <;> simp [h])
  · rw [if_neg c]
    exact ⟨r1, m1⟩
theorem normL_seam {N : Pt → List Pt} {c : Bool} {l : List Pt} (q : Sm.Seam N c l) : Sm.Seam N c (normL l) ∧ ∀ z, z ∈ normL l ↔ z ∈ l := by
  have h2 := q.two
  rw [normL_eq (List.getElem?_eq_getElem (by omega)) (List.getElem?_eq_getElem (by omega))]
  split
  · exact ⟨q.rev, fun z => List.mem_reverse⟩
  · exact ⟨q, fun z => Iff.rfl⟩
theorem at_mem {b z : Pt} (k : Nat) (h : k ≤ Sm.end_ (nb us ls) b z + 1) : Sm.at_ (nb us ls) b z k ∈ lineC us ls b z := List.mem_map.mpr ⟨k, List.mem_range.mpr (by omega), rfl⟩
/-- the seam through a point is a seam through it -/
theorem seamC_ok {b : Pt} (hb : InC us ls b) {c : Bool} {l : List Pt} (h : seamC us ls b = some (c, l)) : Sm.Seam (nb us ls) c l ∧ b ∈ l := by
  unfold seamC at h
  cases q : nb us ls b with
  | nil => rw [q] at h; cases h
  | cons z r =>
    rw [q] at h
    dsimp only at h
    have hz : z ∈ nb us ls b := by rw [q]; simp
    by_cases bk : backC us ls b z = true
    · rw [if_pos bk] at h
      cases h
      obtain ⟨s1, s2⟩ := fromL_seam (Sm.seam_back (gr us ls) hb hz bk)
      exact ⟨s1, (s2 b).mpr (at_mem 0 (by omega))⟩
    · rw [if_neg bk] at h
      cases h
      have bf := Bool.eq_false_iff.mpr bk
      cases r with
      | nil =>
        obtain ⟨s1, s2⟩ := normL_seam (Sm.seam_one (gr us ls) hb q bf)
        exact ⟨s1, (s2 b).mpr (at_mem 0 (by omega))⟩
      | cons t r =>
        have hr : r = [] := by
          have jl : (nb us ls b).length ≤ 2 := joinL_len us ls b.1 b.2
          rw [q] at jl
          have jl : r.length + 1 + 1 ≤ 2 := jl
          exact List.eq_nil_of_length_eq_zero (by omega)
        subst hr
        obtain ⟨s1, s2⟩ := normL_seam (Sm.seam_two (gr us ls) hb q bf)
        refine ⟨s1, (s2 b).mpr (List.mem_append_left _ (List.mem_reverse.mpr (at_mem 0 (by omega))))⟩
theorem seamC_none {b : Pt} (h : seamC us ls b = none) : nb us ls b = [] := by
  unfold seamC at h
  cases q : nb us ls b with
  | nil => rfl
  | cons z r =>
    rw [q] at h
    dsimp only at h
    split at h <;> cases h
theorem seam_in {c : Bool} {l : List Pt} (q : Sm.Seam (nb us ls) c l) {b : Pt} (hb : InC us ls b) (h : b ∈ l) : ∀ z ∈ l, InC us ls z :=
  q.conn (V := InC us ls) (fun a ha z hz => ((gr us ls).sym a ha z hz).1) h hb
theorem seam_len (p : Plan s us ls) {c : Bool} {l : List Pt} (q : Sm.Seam (nb us ls) c l) (hi : ∀ z ∈ l, InC us ls z) : l.length ≤ 1681 := by
  have := Orb.nodup_le q.nd (L := ptsC us ls) fun z hz => ptsC_mem.mpr (hi z hz)
  rw [ptsC_len] at this
  have : (us.length + 2) * (ls.length + 2) ≤ 41 * 41 := Nat.mul_le_mul (by have := p.lu; omega) (by have := p.ll; omega)
  omega
abbrev Sm1 : Type := Bool × List Pt
abbrev sD (x : Sm1) : D := seamD (some x)
/-- one turn of the walk over the points -/
noncomputable def sS (us ls : List Int) (q : Pt) (vs : List Pt) : List Pt := if q ∈ vs then vs else match seamC us ls q with
  | none => vs
  | some x => addAll vs x.2
noncomputable def sF (us ls : List Int) (q : Pt) (vs : List Pt) (fs : List Sm1) : List Sm1 := if q ∈ vs then fs else match seamC us ls q with
  | none => fs
  | some x => fs ++ [x]
theorem see_seam (c x y one fd : D) : ∀ (ps vs : List Pt) (s6 : Slot), vs.length + ps.length < SZ → ∃ s6', forL (.one 6) S_seams_b1 (ps.map ptD) [.va c, .ow (seenD vs), .ow fd, .va x, .va y, .va one, s6] = .nx [.va c, .ow (seenD (addAll vs ps)), .ow fd, .va x, .va y, .va one, s6']
  | [], vs, s6, _ => ⟨s6, by simp [forL, addAll]⟩
  | p :: ps, vs, s6, hl => by
    have pu := put_seen (vs := vs) (p := p) (by simp at hl; omega)
    obtain ⟨s6', g⟩ := see_seam c x y one fd ps (addP vs p) (.va (ptD p)) (by have := addP_len vs p; simp at hl; omega)
    refine ⟨s6', ?_⟩
    have e : addAll vs (p :: ps) = addAll (addP vs p) ps := rfl
    rw [e, List.map_cons]
    have b : S_seams_b1 [.va c, .ow (seenD vs), .ow fd, .va x, .va y, .va one, .va (ptD p)] = .nx [.va c, .ow (seenD (addP vs p)), .ow fd, .va x, .va y, .va one, .va (ptD p)] := by
      simp [S_seams_b1, pu]
    simp [forL, b, g]
theorem ss_turn (p : Plan s us ls) {x y : Int} (h : InC us ls (x, y)) {vs : List Pt} {fs : List Sm1} {s5 s6 : Slot} (hv : vs.length + 1681 < SZ) (hq : fs.length < SZ) :
    ∃ s5' s6', S_seams_b2 [.va (cl s us ls), .ow (seenD vs), .ow (.lst (fs.map sD)), .va (.int x), .va (.int y), s5, s6] = .nx [.va (cl s us ls), .ow (seenD (sS us ls (x, y) vs)), .ow (.lst ((sF us ls (x, y) vs fs).map sD)), .va (.int x), .va (.int y), s5', s6'] := by
  have ni := ni_seen vs (x, y)
  have eq' : ptD (x, y) = .tup [.int x, .int y] := rfl
  rw [eq'] at ni
  have sz2 : 2 ≤ SZ := by decide
  by_cases m : (x, y) ∈ vs
  · rw [decide_eq_true m] at ni
    have e1 : sS us ls (x, y) vs = vs := by unfold sS; rw [if_pos m]
    have e2 : sF us ls (x, y) vs fs = fs := by unfold sF; rw [if_pos m]
    rw [e1, e2]
    exact ⟨s5, s6, by simp [S_seams_b2, ni, sz2]⟩
  · rw [decide_eq_false m] at ni
    have so := seam_ok p h
    rw [eq'] at so
    unfold sS sF
    rw [if_neg m, if_neg m]
    cases q : seamC us ls (x, y) with
    | none =>
      rw [q] at so
      have n1 : G.isNon .non = true := rfl
      have so : R_seam [cl s us ls, .tup [.int x, .int y]] = .ok (.non, false) := so
      exact ⟨.va .non, s6, by simp [S_seams_b2, sSeq_ap, ni, sz2, so, n1]⟩
    | some z =>
      rw [q] at so
      obtain ⟨c, l⟩ := z
      obtain ⟨q1, q2⟩ := seamC_ok h q
      have ln := seam_len p q1 (seam_in q1 h q2)
      have so : R_seam [cl s us ls, .tup [.int x, .int y]] = .ok (sD (c, l), false) := so
      have n1 : G.isNon (sD (c, l)) = false := rfl
      have i1 : oIx (sD (c, l)) (.int 1) = .ok (.lst (l.map ptD), .sh) := rfl
      have ka : kAp (fs.map sD) (sD (c, l)) = some ((fs ++ [(c, l)]).map sD) := by
        unfold kAp
        rw [List.length_map, if_pos hq, List.map_append]
        rfl
      obtain ⟨s6', g⟩ := see_seam (cl s us ls) (.int x) (.int y) (sD (c, l)) (.lst ((fs ++ [(c, l)]).map sD)) l vs s6 (by omega)
      refine ⟨.va (sD (c, l)), s6', ?_⟩
      generalize sD (c, l) = z at *
      generalize (fs ++ [(c, l)]).map sD = Z at *
      simp [S_seams_b2, sSeq_ap, sFor_ap, ni, sz2, so, n1, ka, i1, g]
noncomputable def sst (us ls : List Int) (a : List Pt × List Sm1) (q : Pt) : List Pt × List Sm1 := (sS us ls q a.1, sF us ls q a.1 a.2)
theorem sst_len (p : Plan s us ls) (a : List Pt × List Sm1) {q : Pt} (h : InC us ls q) : (sst us ls a q).1.length ≤ a.1.length + 1681 ∧ (sst us ls a q).2.length ≤ a.2.length + 1 := by
  unfold sst sS sF
  dsimp only
  by_cases m : q ∈ a.1
  · rw [if_pos m, if_pos m]; omega
  · rw [if_neg m, if_neg m]
    cases e : seamC us ls q with
    | none => dsimp only; omega
    | some x =>
      obtain ⟨q1, q2⟩ := seamC_ok h e
      have ln := seam_len p q1 (seam_in q1 h q2)
      have := addAll_len x.2 a.1
      dsimp only
      simp
      omega
theorem ss_col (p : Plan s us ls) {x : Nat} (hx : x < us.length + 2) {a : List Pt × List Sm1} {s4 s5 s6 : Slot} (hv : a.1.length ≤ 70000 * x) (hq : a.2.length ≤ 50 * x) :
    ∃ s4' s5' s6', S_seams_b3 [.va (cl s us ls), .ow (seenD a.1), .ow (.lst (a.2.map sD)), .va (.int x), s4, s5, s6] = .nx [.va (cl s us ls), .ow (seenD ((colP x (ls.length + 2)).foldl (sst us ls) a).1), .ow (.lst (((colP x (ls.length + 2)).foldl (sst us ls) a).2.map sD)), .va (.int x), s4', s5', s6'] ∧
      ((colP x (ls.length + 2)).foldl (sst us ls) a).1.length ≤ 70000 * (x + 1) ∧ ((colP x (ls.length + 2)).foldl (sst us ls) a).2.length ≤ 50 * (x + 1) := by
  have h2 := p.lu
  have h5 := p.ll
  have im := in62_of (show -(2 ^ 62) < (ls.length : Int) + 1 + 1 by omega) (by omega)
  obtain ⟨ρ', g1, s4', s5', s6', rfl, b1, b2⟩ := for_rng (i := 4) (n := (ls.length : Int) + 1 + 1) (a := S_seams_b2) (fun k ρ => ∃ s4 s5 s6, ρ = [.va (cl s us ls), .ow (seenD ((colP x k).foldl (sst us ls) a).1), .ow (.lst (((colP x k).foldl (sst us ls) a).2.map sD)), .va (.int x), s4, s5, s6] ∧ ((colP x k).foldl (sst us ls) a).1.length ≤ 70000 * x + 1681 * k ∧ ((colP x k).foldl (sst us ls) a).2.length ≤ 50 * x + k)
    (ρ := [.va (cl s us ls), .ow (seenD a.1), .ow (.lst (a.2.map sD)), .va (.int x), s4, s5, s6]) ⟨s4, s5, s6, rfl, (by show a.1.length ≤ _; omega), (by show a.2.length ≤ _; omega)⟩ (fun k ρ lt ⟨s4, s5, s6, e, b1, b2⟩ => by
    subst e
    refine ⟨by simp, ?_⟩
    have hi : InC us ls ((x : Int), (k : Int)) := by
      refine ⟨?_, ?_, ?_, ?_⟩ <;> dsimp only <;> omega
    have sl := sst_len p ((colP x k).foldl (sst us ls) a) hi
    obtain ⟨s5', s6', g⟩ := ss_turn p hi (vs := ((colP x k).foldl (sst us ls) a).1) (fs := ((colP x k).foldl (sst us ls) a).2) (s5 := s5) (s6 := s6) (by unfold SZ; omega) (by unfold SZ; omega)
    have ef : (colP x (k + 1)).foldl (sst us ls) a = sst us ls ((colP x k).foldl (sst us ls) a) ((x : Int), (k : Int)) := by
      rw [colP_succ, List.foldl_append]
      rfl
    rw [ef]
    exact ⟨_, .inl g, .va (.int k), s5', s6', rfl, by omega, by omega⟩)
  rw [show ((ls.length : Int) + 1 + 1).toNat = ls.length + 2 by omega] at b1 b2 g1
  refine ⟨s4', s5', s6', ?_, by omega, by omega⟩
  have tl := tall_cl s us ls
  simp [S_seams_b3, sFor_ap, tl, im]
  exact g1
def allC (ls : List Int) (k : Nat) : List Pt := ((List.range k).map fun x : Nat => colP (x : Int) (ls.length + 2)).flatten
theorem allC_succ (ls : List Int) (k : Nat) : allC ls (k + 1) = allC ls k ++ colP (k : Int) (ls.length + 2) := by
  unfold allC
  rw [List.range_succ, List.map_append, List.flatten_append]
  simp
noncomputable def ssAll (us ls : List Int) (k : Nat) : List Pt × List Sm1 := (allC ls k).foldl (sst us ls) ([], [])
theorem ssAll_succ (us ls : List Int) (k : Nat) : ssAll us ls (k + 1) = (colP (k : Int) (ls.length + 2)).foldl (sst us ls) (ssAll us ls k) := by
  unfold ssAll
  rw [allC_succ, List.foldl_append]
/-- the seams as they are found -/
noncomputable def found (us ls : List Int) : List Sm1 := (ssAll us ls (us.length + 2)).2
def fstP (x : Sm1) : Pt := x.2.headD (0, 0)
def leS (x y : Sm1) : Bool := !ltP (fstP y) (fstP x)
noncomputable def seamsL (us ls : List Int) : List Sm1 := (found us ls).mergeSort leS
structure SInv (us ls : List Int) (a : List Pt × List Sm1) : Prop where
  ev : ∀ x ∈ a.2, Sm.Seam (nb us ls) x.1 x.2 ∧ ∀ z ∈ x.2, InC us ls z
  seen : ∀ z, z ∈ a.1 ↔ ∃ x ∈ a.2, z ∈ x.2
  apart : a.2.Pairwise fun x y => ∀ z ∈ x.2, z ∉ y.2
theorem SInv.stp {a : List Pt × List Sm1} (I : SInv us ls a) {q : Pt} (h : InC us ls q) : SInv us ls (sst us ls a q) ∧ (nb us ls q ≠ [] → q ∈ (sst us ls a q).1) ∧ ∀ z ∈ a.1, z ∈ (sst us ls a q).1 := by
  unfold sst sS sF
  by_cases m : q ∈ a.1
  · rw [if_pos m, if_pos m]
    exact ⟨I, fun _ => m, fun z hz => hz⟩
  · rw [if_neg m, if_neg m]
    cases e : seamC us ls q with
    | none =>
      dsimp only
      exact ⟨I, fun ne => absurd (seamC_none e) ne, fun z hz => hz⟩
    | some x =>
      obtain ⟨q1, q2⟩ := seamC_ok h e
      have hin := seam_in q1 h q2
      dsimp only
      refine ⟨⟨fun y hy => ?_, fun z => ?_, ?_⟩, fun _ => addAll_mem.mpr (.inr q2), fun z hz => addAll_mem.mpr (.inl hz)⟩
      · rcases List.mem_append.mp hy with hy | hy
        · exact I.ev y hy
        · rw [List.mem_singleton.mp hy]
          exact ⟨q1, hin⟩
      · dsimp only
        rw [addAll_mem, I.seen]
        constructor
        · rintro (⟨y, hy, hz⟩ | hz)
          · exact ⟨y, List.mem_append_left _ hy, hz⟩
          · exact ⟨x, by simp, hz⟩
        · rintro ⟨y, hy, hz⟩
          rcases List.mem_append.mp hy with hy | hy
          · exact .inl ⟨y, hy, hz⟩
          · rw [List.mem_singleton.mp hy] at hz
            exact .inr hz
      · refine List.pairwise_append.mpr ⟨I.apart, by simp, fun y hy w hw z hz1 hz2 => ?_⟩
        rw [List.mem_singleton.mp hw] at hz2
        have := q1.conn (V := fun z => z ∈ y.2) (fun a ha b hb => (I.ev y hy).1.cl a ha b hb) hz2 hz1 q q2
        exact m ((I.seen q).mpr ⟨y, hy, this⟩)
theorem SInv.fold : ∀ (L : List Pt) {a : List Pt × List Sm1}, SInv us ls a → (∀ q ∈ L, InC us ls q) → SInv us ls (L.foldl (sst us ls) a) ∧ (∀ q ∈ L, nb us ls q ≠ [] → q ∈ (L.foldl (sst us ls) a).1) ∧ ∀ z ∈ a.1, z ∈ (L.foldl (sst us ls) a).1
  | [], a, I, _ => ⟨I, (fun _ h => (List.not_mem_nil h).elim), fun _ h => h⟩
  | q :: L, a, I, h => by
    obtain ⟨a1, a2, a3⟩ := SInv.stp I (h q List.mem_cons_self)
    obtain ⟨b1, b2, b3⟩ := SInv.fold L a1 fun x hx => h x (List.mem_cons_of_mem _ hx)
    refine ⟨b1, fun x hx e => ?_, fun z hz => b3 z (a3 z hz)⟩
    rcases List.mem_cons.mp hx with rfl | hx
    · exact b3 _ (a2 e)
    · exact b2 x hx e
theorem found_inv (us ls : List Int) : SInv us ls (ssAll us ls (us.length + 2)) ∧ ∀ z, InC us ls z → nb us ls z ≠ [] → ∃ x ∈ found us ls, z ∈ x.2 := by
  have I0 : SInv us ls (([], []) : List Pt × List Sm1) := ⟨(fun _ h => (List.not_mem_nil h).elim), fun z => ⟨(fun h => (List.not_mem_nil h).elim), fun ⟨_, h, _⟩ => (List.not_mem_nil h).elim⟩, List.Pairwise.nil⟩
  obtain ⟨I, ev, _⟩ := SInv.fold (ptsC us ls) I0 fun q hq => ptsC_mem.mp hq
  exact ⟨I, fun z hz ne => (I.seen z).mp (ev z (ptsC_mem.mpr hz) ne)⟩
theorem found_ev {x : Sm1} (h : x ∈ found us ls) : Sm.Seam (nb us ls) x.1 x.2 ∧ ∀ z ∈ x.2, InC us ls z := (found_inv us ls).1.ev x h
theorem found_apart : (found us ls).Pairwise fun x y => ∀ z ∈ x.2, z ∉ y.2 := (found_inv us ls).1.apart
theorem seamsL_mem {x : Sm1} : x ∈ seamsL us ls ↔ x ∈ found us ls := List.mem_mergeSort
theorem seamsL_perm : (seamsL us ls).Perm (found us ls) := List.mergeSort_perm _ _
theorem seamsL_apart : (seamsL us ls).Pairwise fun x y => ∀ z ∈ x.2, z ∉ y.2 :=
  (seamsL_perm.pairwise_iff fun {x y} h z hz hz' => h z hz' hz).mpr found_apart
/-- what seams gives -/
theorem seams_ok (p : Plan s us ls) : R_seams [cl s us ls] = .ok (.lst ((seamsL us ls).map sD), true) := by
  have h2 := p.lu
  have im := in62_of (show -(2 ^ 62) < (us.length : Int) + 1 + 1 by omega) (by omega)
  obtain ⟨ρ', g1, s3', s4', s5', s6', rfl, _, _⟩ := for_rng (i := 3) (n := (us.length : Int) + 1 + 1) (a := S_seams_b3) (fun k ρ => ∃ s3 s4 s5 s6, ρ = [.va (cl s us ls), .ow (seenD (ssAll us ls k).1), .ow (.lst ((ssAll us ls k).2.map sD)), s3, s4, s5, s6] ∧ (ssAll us ls k).1.length ≤ 70000 * k ∧ (ssAll us ls k).2.length ≤ 50 * k)
    (ρ := [.va (cl s us ls), .ow (seenD []), .ow (.lst []), .un, .un, .un, .un]) ⟨.un, .un, .un, .un, rfl, Nat.zero_le _, Nat.zero_le _⟩ (fun k ρ lt ⟨s3, s4, s5, s6, e, b1, b2⟩ => by
    subst e
    refine ⟨by simp, ?_⟩
    obtain ⟨s4', s5', s6', g, c1, c2⟩ := ss_col p (x := k) (by omega) (a := ssAll us ls k) (s4 := s4) (s5 := s5) (s6 := s6) b1 b2
    rw [ssAll_succ]
    exact ⟨_, .inl g, .va (.int k), s4', s5', s6', rfl, c1, c2⟩)
  rw [show ((us.length : Int) + 1 + 1).toNat = us.length + 2 by omega] at g1
  have ef : (ssAll us ls (us.length + 2)).2 = found us ls := rfl
  rw [ef] at g1
  have e0 : seenD [] = .dT [] [] := rfl
  rw [e0] at g1
  have so : oSrtK (.lst ((found us ls).map sD)) = .ok (.lst ((seamsL us ls).map sD), .fr) := by
    have key : ∀ x ∈ found us ls, ∃ q r, x.2 = q :: r := fun x hx => by
      have h2 := (found_ev hx).1.two
      cases e : x.2 with
      | nil => rw [e] at h2; simp at h2
      | cons q r => exact ⟨q, r, rfl⟩
    have kf : ∀ x ∈ found us ls, keyI (sD x) = some (fstP x) := fun x hx => by
      obtain ⟨q, r, e⟩ := key x hx
      obtain ⟨c, l⟩ := x
      have e : l = q :: r := e
      subst e
      rfl
    have al : ((found us ls).map sD).all (fun d => (keyI d).isSome) = true := by
      rw [List.all_map]
      refine List.all_eq_true.mpr fun x hx => ?_
      show (keyI (sD x)).isSome = true
      rw [kf x hx]
      rfl
    show (if (((found us ls).map sD).all fun d => (keyI d).isSome) = true then Out.ok (D.lst (((found us ls).map sD).mergeSort leK), Kd.fr) else .no) = _
    rw [if_pos al]
    unfold seamsL
    rw [List.map_mergeSort (f := sD) (s := leK) fun x hx y hy => ?_]
    unfold leS leK keyOfD
    rw [kf x hx, kf y hy]
    show _ = (!dataLt (ky2 (fstP y)) (ky2 (fstP x)))
    rw [show ky2 (fstP y) = PyData.tuple [.int (fstP y).1, .int (fstP y).2] from rfl, show ky2 (fstP x) = PyData.tuple [.int (fstP x).1, .int (fstP x).2] from rfl, dataLt_ii]
    rfl
  have wd := wide_cl s us ls
  generalize (found us ls).map sD = F at *
  generalize (seamsL us ls).map sD = G0 at *
  simp [R_seams, denF, slots, S_seams, sSeq_ap, sFor_ap, wd, im, g1, eDT, so, SZ]
end
end GD
namespace Sums
theorem perm_sum {l l' : List Int} (h : l.Perm l') : l.sum = l'.sum := by
  induction h with
  | nil => rfl
  | cons x _ ih => simp [ih]
  | swap x y l => simp; omega
  | trans _ _ a b => rw [a, b]
theorem flat_sum {α β : Type} (f : α → List β) (g : β → Int) : ∀ xs : List α, (((xs.map f).flatten).map g).sum = (xs.map fun x => ((f x).map g).sum).sum
  | [] => rfl
  | x :: xs => by
    rw [List.map_cons, List.flatten_cons, List.map_append, List.sum_append, flat_sum f g xs]
    rfl
theorem sum_add {α : Type} (f g : α → Int) : ∀ xs : List α, (xs.map fun x => f x + g x).sum = (xs.map f).sum + (xs.map g).sum
  | [] => rfl
  | x :: xs => by
    simp only [List.map_cons, List.sum_cons, sum_add f g xs]
    omega
theorem sum_mul {α : Type} (f : α → Int) (c : Int) : ∀ xs : List α, (xs.map fun x => c * f x).sum = c * (xs.map f).sum
  | [] => by simp
  | x :: xs => by
    simp only [List.map_cons, List.sum_cons, sum_mul f c xs, Int.mul_add]
theorem sum_congr {α : Type} {f g : α → Int} {xs : List α} (h : ∀ x ∈ xs, f x = g x) : (xs.map f).sum = (xs.map g).sum := by
  rw [List.map_congr_left h]
theorem sum_zero {α : Type} {f : α → Int} {xs : List α} (h : ∀ x ∈ xs, f x = 0) : (xs.map f).sum = 0 := by
  induction xs with
  | nil => rfl
  | cons x xs ih =>
    rw [List.map_cons, List.sum_cons, h x List.mem_cons_self, ih fun y hy => h y (List.mem_cons_of_mem _ hy)]
    rfl
theorem sum_filter {α : Type} {f : α → Int} {p : α → Bool} : ∀ {xs : List α}, (∀ x ∈ xs, p x = false → f x = 0) → ((xs.filter p).map f).sum = (xs.map f).sum
  | [], _ => rfl
  | x :: xs, h => by
    have ih := sum_filter (xs := xs) fun y hy => h y (List.mem_cons_of_mem _ hy)
    cases q : p x with
    | true => rw [List.filter_cons_of_pos q, List.map_cons, List.map_cons, List.sum_cons, List.sum_cons, ih]
    | false =>
      rw [List.filter_cons_of_neg (by rw [q]; simp), List.map_cons, List.sum_cons, ih, h x List.mem_cons_self q]
      omega
end Sums
namespace GD
open PySem L2 G PySem.W Sums
section
variable {s : Int} {us ls : List Int}
def stI (us : List Int) (k y : Nat) : Int := if ((y : Int) + gt us k) % 2 = 1 then 1 else 0
/-- all stitches -/
def many (us ls : List Int) : Int := ((List.range us.length).map fun k => ((List.range (ls.length + 1)).map (stI us k)).sum).sum + ((List.range ls.length).map fun k => ((List.range (us.length + 1)).map (stI ls k)).sum).sum
theorem pts_sumC (g : Pt → Int) : ((ptsC us ls).map g).sum = ((List.range (us.length + 2)).map fun x : Nat => ((List.range (ls.length + 2)).map fun y : Nat => g ((x : Int), (y : Int))).sum).sum := by
  unfold ptsC
  rw [flat_sum]
  refine sum_congr fun x _ => ?_
  rw [List.map_map]
  rfl
theorem ptsC_nodup : (ptsC us ls).Nodup := by
  unfold ptsC
  have key : ∀ (f : Nat → List Pt) (xs : List Nat), (∀ x ∈ xs, (f x).Nodup) → xs.Pairwise (fun a b => ∀ z ∈ f a, z ∉ f b) → ((xs.map f).flatten).Nodup := by
    intro f xs
    induction xs with
    | nil => intro _ _; exact List.nodup_nil
    | cons x xs ih =>
      intro h1 h2
      rw [List.map_cons, List.flatten_cons]
      obtain ⟨p1, p2⟩ := List.pairwise_cons.mp h2
      refine List.nodup_append.mpr ⟨h1 x List.mem_cons_self, ih (fun y hy => h1 y (List.mem_cons_of_mem _ hy)) p2, fun a ha b hb e => ?_⟩
      subst e
      obtain ⟨l, hl, hb⟩ := List.mem_flatten.mp hb
      obtain ⟨y, hy, rfl⟩ := List.mem_map.mp hl
      exact p1 y hy a ha hb
  refine key _ _ (fun x _ => ?_) ?_
  · refine List.pairwise_map.mpr (List.Pairwise.imp (R := fun i j => i < j) (fun {a b} lt e => ?_) List.pairwise_lt_range)
    injection e with _ e
    omega
  · refine List.Pairwise.imp (R := fun i j => i < j) (fun {a b} lt z hz hz' => ?_) List.pairwise_lt_range
    obtain ⟨c, _, rfl⟩ := List.mem_map.mp hz
    obtain ⟨d, _, e⟩ := List.mem_map.mp hz'
    injection e with e _
    omega
end
end GD
namespace GD
open PySem L2 G PySem.W
def sortI (us : List Int) : List Int := us.mergeSort fun a b => decide (a ≤ b)
theorem toPys_int : ∀ us : List Int, toPys (us.map D.int) = some (us.map PyData.int) := toPys_ints
theorem sortB_ints (us : List Int) : sortB (us.map PyData.int) = true := by
  unfold sortB
  have h1 : ((us.map PyData.int).all fun p => (us.map PyData.int).all fun q => alike p q) = true := by
    rw [List.all_map]
    refine List.all_eq_true.mpr fun p _ => ?_
    show ((us.map PyData.int).all fun q => alike _ q) = true
    rw [List.all_map]
    exact List.all_eq_true.mpr fun q _ => by simp [alike]
  have h2 : (us.map PyData.int).all noTup = true := by
    rw [List.all_map]
    exact List.all_eq_true.mpr fun q _ => rfl
  have h3 : ((us.map PyData.int).all fun p => decide (p.depth < 50)) = true := by
    rw [List.all_map]
    exact List.all_eq_true.mpr fun q _ => by simp [PyData.depth]
  rw [h1, h2, h3, Bool.or_true]
  rfl
theorem leD_int (a b : Int) : leD (.int a) (.int b) = decide (a ≤ b) := by
  show (!dataLt (.int b) (.int a)) = _
  rw [dataLt_int]
  by_cases h : b < a
  · rw [decide_eq_true h, decide_eq_false (by omega)]; rfl
  · rw [decide_eq_false h, decide_eq_true (by omega)]; rfl
theorem oSrt_ints (us : List Int) : oSrt (.lst (us.map D.int)) = .ok (.lst ((sortI us).map D.int), .fr) := by
  show srtL (us.map D.int) = _
  unfold srtL
  rw [toPys_int]
  dsimp only
  rw [if_pos (sortB_ints us)]
  unfold sortI
  rw [List.map_mergeSort (f := D.int) (s := leD) fun a _ b _ => (leD_int a b).symm]
theorem sortI_perm (us : List Int) : (sortI us).Perm us := List.mergeSort_perm _ _
theorem sortI_len (us : List Int) : (sortI us).length = us.length := List.length_mergeSort _
theorem sortI_sorted (us : List Int) : (sortI us).Pairwise fun a b => a ≤ b := by
  have := List.pairwise_mergeSort (le := fun a b : Int => decide (a ≤ b)) (fun a b c h1 h2 => by
    rw [decide_eq_true_iff] at *; omega) (fun a b => by
    rw [Bool.or_eq_true, decide_eq_true_iff, decide_eq_true_iff]; omega) us
  exact this.imp fun h => of_decide_eq_true h
theorem minI_spec : ∀ {ns : List Int}, ns ≠ [] → minI ns ∈ ns ∧ ∀ y ∈ ns, minI ns ≤ y
  | [], h => absurd rfl h
  | [a], _ => ⟨List.mem_singleton.mpr rfl, fun y hy => by rw [List.mem_singleton.mp hy]; exact Int.le_refl _⟩
  | a :: b :: t, _ => by
    obtain ⟨i1, i2⟩ := minI_spec (ns := b :: t) (by simp)
    have e : minI (a :: b :: t) = min a (minI (b :: t)) := rfl
    rw [e]
    refine ⟨?_, fun y hy => ?_⟩
    · by_cases q : a ≤ minI (b :: t)
      · rw [Int.min_eq_left q]; exact List.mem_cons_self
      · rw [Int.min_eq_right (by omega)]; exact List.mem_cons_of_mem _ i1
    · rcases List.mem_cons.mp hy with rfl | hy
      · exact Int.min_le_left _ _
      · exact Int.le_trans (Int.min_le_right _ _) (i2 y hy)
theorem maxI_spec : ∀ {ns : List Int}, ns ≠ [] → maxI ns ∈ ns ∧ ∀ y ∈ ns, y ≤ maxI ns
  | [], h => absurd rfl h
  | [a], _ => ⟨List.mem_singleton.mpr rfl, fun y hy => by rw [List.mem_singleton.mp hy]; exact Int.le_refl _⟩
  | a :: b :: t, _ => by
    obtain ⟨i1, i2⟩ := maxI_spec (ns := b :: t) (by simp)
    have e : maxI (a :: b :: t) = max a (maxI (b :: t)) := rfl
    rw [e]
    refine ⟨?_, fun y hy => ?_⟩
    · by_cases q : maxI (b :: t) ≤ a
      · rw [Int.max_eq_left q]; exact List.mem_cons_self
      · rw [Int.max_eq_right (by omega)]; exact List.mem_cons_of_mem _ i1
    · rcases List.mem_cons.mp hy with rfl | hy
      · exact Int.le_max_left _ _
      · exact Int.le_trans (i2 y hy) (Int.le_max_right _ _)
theorem min_ints {us : List Int} (h : us ≠ []) : oMin (.lst (us.map D.int)) = .ok (.int (minI us), .sh) := by
  show (match intsOf (us.map D.int) with
    | some ns => if ns ≠ [] then shr (.int (minI ns)) else .no
    | none => match toPys (us.map D.int) with
      | some (p :: ps) => if minB (p :: ps) = true then shr (fromPy (minD p ps)) else .no
      | _ => .no) = _
  rw [intsOf_map]
  dsimp only
  rw [if_pos h]
  rfl
theorem max_ints {us : List Int} (h : us ≠ []) : oBi .max1 [.lst (us.map D.int)] = .ok (.int (maxI us), .sh) := by
  show (match intsOf (us.map D.int) with
    | some ns => if ns ≠ [] then shr (.int (maxI ns)) else .no
    | none => .no) = _
  rw [intsOf_map]
  dsimp only
  rw [if_pos h]
  rfl
section
variable {s : Int} {us ls : List Int}
theorem two_kinds {a u v : Pt} (hu : u ∈ nb us ls a) (hv : v ∈ nb us ls a) (ne : u ≠ v) : (u ∈ rowN us ls a.1 a.2 ∧ v ∈ colN us ls a.1 a.2) ∨ (u ∈ colN us ls a.1 a.2 ∧ v ∈ rowN us ls a.1 a.2) := by
  rcases mem_nb.mp hu with h1 | h1 <;> rcases mem_nb.mp hv with h2 | h2
  · exact absurd ((mem_row.mp h1).2.trans (mem_row.mp h2).2.symm) ne
  · exact .inl ⟨h1, h2⟩
  · exact .inr ⟨h1, h2⟩
  · exact absurd ((mem_col.mp h1).2.trans (mem_col.mp h2).2.symm) ne
theorem row_step {a u : Pt} (h : u ∈ rowN us ls a.1 a.2) : u.1 ≠ a.1 ∧ u.2 = a.2 := by
  rw [(mem_row.mp h).2]
  exact ⟨rx_ne _ _, rfl⟩
theorem col_step {a u : Pt} (h : u ∈ colN us ls a.1 a.2) : u.1 = a.1 ∧ u.2 ≠ a.2 := by
  rw [(mem_col.mp h).2]
  exact ⟨rfl, cy_ne _ _⟩
noncomputable def roundsL (us ls : List Int) : List (List Pt) := ((seamsL us ls).filter (·.1)).map (·.2)
theorem roundsL_mem {l : List Pt} : l ∈ roundsL us ls ↔ (true, l) ∈ seamsL us ls := by
  unfold roundsL
  rw [List.mem_map]
  constructor
  · rintro ⟨⟨c, l'⟩, h, rfl⟩
    rw [List.mem_filter] at h
    have : c = true := h.2
    subst this
    exact h.1
  · intro h
    exact ⟨(true, l), List.mem_filter.mpr ⟨h, rfl⟩, rfl⟩
theorem roundsL_ev {l : List Pt} (h : l ∈ roundsL us ls) : Sm.Seam (nb us ls) true l ∧ ∀ z ∈ l, InC us ls z := found_ev (seamsL_mem.mp (roundsL_mem.mp h))
abbrev lD (l : List Pt) : D := .lst (l.map ptD)
theorem seamsL_len (p : Plan s us ls) : (seamsL us ls).length ≤ 1681 := by
  have h : ((seamsL us ls).map fun x : Sm1 => x.2.headD (0, 0)).Nodup := by
    refine List.pairwise_map.mpr ((seamsL_apart (us := us) (ls := ls)).imp_of_mem fun {a b} ha hb h e => ?_)
    have key : ∀ x ∈ seamsL us ls, x.2.headD (0, 0) ∈ x.2 := fun x hx => by
      have h2 := (found_ev (seamsL_mem.mp hx)).1.two
      cases q : x.2 with
      | nil => rw [q] at h2; simp at h2
      | cons z r => exact List.mem_cons_self
    exact h _ (key a ha) (by rw [e]; exact key b hb)
  have := Orb.nodup_le h (L := ptsC us ls) fun z hz => by
    obtain ⟨x, hx, rfl⟩ := List.mem_map.mp hz
    obtain ⟨q1, q2⟩ := found_ev (seamsL_mem.mp hx)
    refine ptsC_mem.mpr (q2 _ ?_)
    have h2 := q1.two
    cases q : x.2 with
    | nil => rw [q] at h2; simp at h2
    | cons z r => exact List.mem_cons_self
  rw [List.length_map, ptsC_len] at this
  have : (us.length + 2) * (ls.length + 2) ≤ 41 * 41 := Nat.mul_le_mul (by have := p.lu; omega) (by have := p.ll; omega)
  omega
theorem roundsC_ok (p : Plan s us ls) : R_rounds [cl s us ls] = .ok (.lst ((roundsL us ls).map lD), true) := by
  have so := seams_ok p
  have sl := seamsL_len p
  have lc : ∀ (xs : List Sm1) (acc : List (List Pt)), acc.length + xs.length < SZ → lcA (.tup [.one 1, .one 2]) (tTru (eVar 1)) (eVar 2) [.va (cl s us ls), .un, .un] (acc.map lD) (xs.map sD) = .ok ((acc ++ (xs.filter (·.1)).map (·.2)).map lD) := by
    intro xs
    induction xs with
    | nil => intro acc _; simp [lcA]
    | cons x xs ih =>
      intro acc hl
      obtain ⟨c, l⟩ := x
      have hl' : acc.length < SZ := by simp at hl; omega
      rw [List.map_cons]
      have es : sD (c, l) = .tup [.bl c, lD l] := rfl
      rw [es]
      unfold lcA
      cases c with
      | false =>
        have := ih acc (by simp at hl ⊢; omega)
        simp
        rw [this]
        simp
      | true =>
        have := ih (acc ++ [l]) (by simp at hl ⊢; omega)
        simp [hl']
        rw [List.map_append, List.map_cons, List.map_nil] at this
        rw [this]
        simp
  have l0 := lc (seamsL us ls) [] (by simp; unfold SZ; omega)
  rw [List.map_nil, List.nil_append] at l0
  have er : ((seamsL us ls).filter (·.1)).map (·.2) = roundsL us ls := rfl
  rw [er] at l0
  generalize (seamsL us ls).map sD = F at *
  generalize (roundsL us ls).map lD = G0 at *
  simp [R_rounds, denF, slots, S_rounds, so, eLc, wipeS, l0]
end
end GD
namespace GD
open PySem G
variable {us ls : List Int}
/-- the k-th point of the walk along a seam (a round one: the last point ahead) -/
def seqW (c : Bool) (l : List Pt) (k : Nat) : Pt := if c = true then (if k = 0 then l.getD (l.length - 1) (0, 0) else l.getD (k - 1) (0, 0)) else l.getD k (0, 0)
def stepsN (c : Bool) (l : List Pt) : Nat := l.length - 1 + if c = true then 1 else 0
theorem getD_eq {l : List Pt} {i : Nat} (h : i < l.length) : l[i]? = some (l.getD i (0, 0)) := by
  rw [List.getD_eq_getElem?_getD, List.getElem?_eq_getElem h]
  rfl
theorem seq_adj {c : Bool} {l : List Pt} (q : Sm.Seam (nb us ls) c l) {k : Nat} (h : k < stepsN c l) : seqW c l (k + 1) ∈ nb us ls (seqW c l k) ∧ seqW c l k ∈ nb us ls (seqW c l (k + 1)) := by
  have h2 := q.two
  cases c with
  | false =>
    have h : k + 1 < l.length := by unfold stepsN at h; simp at h; omega
    have e : ∀ j, seqW false l j = l.getD j (0, 0) := fun j => by unfold seqW; simp
    rw [e, e]
    exact q.step k _ _ (getD_eq (by omega)) (getD_eq h)
  | true =>
    have h : k < l.length := by unfold stepsN at h; simp at h; omega
    cases k with
    | zero =>
      have e0 : seqW true l 0 = l.getD (l.length - 1) (0, 0) := by unfold seqW; simp
      have e1 : seqW true l 1 = l.getD 0 (0, 0) := by unfold seqW; simp
      rw [e0, e1]
      have := (q.shut rfl).2 _ _ (getD_eq (i := 0) (by omega)) (getD_eq (i := l.length - 1) (by omega))
      exact ⟨this.2, this.1⟩
    | succ k =>
      have e : ∀ j, seqW true l (j + 1) = l.getD j (0, 0) := fun j => by unfold seqW; simp
      rw [e, e]
      exact q.step k _ _ (getD_eq (by omega)) (getD_eq h)
theorem seq_ne {c : Bool} {l : List Pt} (q : Sm.Seam (nb us ls) c l) {k : Nat} (h : k + 1 < stepsN c l) : seqW c l k ≠ seqW c l (k + 2) := by
  have ap : ∀ i j, i < l.length → j < l.length → i ≠ j → l.getD i (0, 0) ≠ l.getD j (0, 0) := fun i j hi hj ne e => by
    have := (List.getElem?_inj (i := i) (j := j) hi q.nd).mp (by rw [getD_eq hi, getD_eq hj, e])
    exact ne this
  cases c with
  | false =>
    have h : k + 2 < l.length := by unfold stepsN at h; simp at h; omega
    have e : ∀ j, seqW false l j = l.getD j (0, 0) := fun j => by unfold seqW; simp
    rw [e, e]
    exact ap _ _ (by omega) h (by omega)
  | true =>
    have h3 := (q.shut rfl).1
    have h : k + 1 < l.length := by unfold stepsN at h; simp at h; omega
    cases k with
    | zero =>
      have e0 : seqW true l 0 = l.getD (l.length - 1) (0, 0) := by unfold seqW; simp
      have e1 : seqW true l 2 = l.getD 1 (0, 0) := by unfold seqW; simp
      rw [e0, e1]
      exact ap _ _ (by omega) (by omega) (by omega)
    | succ k =>
      have e : ∀ j, seqW true l (j + 1) = l.getD j (0, 0) := fun j => by unfold seqW; simp
      rw [e, e]
      exact ap _ _ (by omega) h (by omega)
/-- along a row? -/
def isR (a b : Pt) : Bool := decide (a.1 ≠ b.1)
theorem isR_t {a b : Pt} (h : a.1 ≠ b.1) : isR a b = true := by unfold isR; exact decide_eq_true h
theorem isR_f {a b : Pt} (h : a.1 = b.1) : isR a b = false := by unfold isR; simp [h]
theorem step_two {a b : Pt} (h : b ∈ nb us ls a) : (isR a b = true ∧ b ∈ rowN us ls a.1 a.2) ∨ (isR a b = false ∧ b ∈ colN us ls a.1 a.2) := by
  rcases mem_nb.mp h with h | h
  · exact .inl ⟨isR_t fun e => (row_step h).1 e.symm, h⟩
  · exact .inr ⟨isR_f (col_step h).1.symm, h⟩
/-- rows and columns by turns -/
theorem seq_turns {c : Bool} {l : List Pt} (q : Sm.Seam (nb us ls) c l) {k : Nat} (h : k + 1 < stepsN c l) : isR (seqW c l k) (seqW c l (k + 1)) = !isR (seqW c l (k + 1)) (seqW c l (k + 2)) := by
  have a1 := seq_adj q (k := k) (by omega)
  have a2 := seq_adj q (k := k + 1) h
  rcases two_kinds a1.2 a2.1 (seq_ne q h) with ⟨h1, h2⟩ | ⟨h1, h2⟩
  · rw [isR_t (row_step h1).1, isR_f (col_step h2).1.symm]; rfl
  · rw [isR_f (col_step h1).1, isR_t fun e => (row_step h2).1 e.symm]; rfl
/-- the parity of the points where steps along rows begin -/
def parW (a b : Pt) : Int := if isR a b = true then (a.1 + a.2) % 2 else (a.1 + a.2 + 1) % 2
theorem row_one {a b : Pt} (h : b ∈ rowN us ls a.1 a.2) : (b.1 = a.1 + 1 ∧ (a.1 + gt ls (a.2 - 1).toNat) % 2 = 1 ∨ b.1 = a.1 - 1 ∧ (a.1 + gt ls (a.2 - 1).toNat) % 2 ≠ 1) ∧ b.2 = a.2 := by
  have e := (mem_row.mp h).2
  rw [e]
  unfold rx
  by_cases c : (a.1 + gt ls (a.2 - 1).toNat) % 2 = 1
  · rw [if_pos c]; exact ⟨.inl ⟨rfl, c⟩, rfl⟩
  · rw [if_neg c]; exact ⟨.inr ⟨rfl, c⟩, rfl⟩
theorem col_one {a b : Pt} (h : b ∈ colN us ls a.1 a.2) : (b.2 = a.2 + 1 ∧ (a.2 + gt us (a.1 - 1).toNat) % 2 = 1 ∨ b.2 = a.2 - 1 ∧ (a.2 + gt us (a.1 - 1).toNat) % 2 ≠ 1) ∧ b.1 = a.1 := by
  have e := (mem_col.mp h).2
  rw [e]
  unfold cy
  by_cases c : (a.2 + gt us (a.1 - 1).toNat) % 2 = 1
  · rw [if_pos c]; exact ⟨.inl ⟨rfl, c⟩, rfl⟩
  · rw [if_neg c]; exact ⟨.inr ⟨rfl, c⟩, rfl⟩
theorem par_next {a b z : Pt} (h : b ∈ nb us ls a) (t : isR a b = !isR b z) : parW a b = parW b z := by
  unfold parW
  rcases step_two h with ⟨r, h⟩ | ⟨r, h⟩
  · rw [r] at t
    have : isR b z = false := by cases q : isR b z <;> simp_all
    obtain ⟨h1, h2⟩ := row_one h
    rw [r, this, if_pos rfl, if_neg (by decide), h2]
    rcases h1 with ⟨h1, _⟩ | ⟨h1, _⟩ <;> (rw [h1]; omega)
  · rw [r] at t
    have : isR b z = true := by cases q : isR b z <;> simp_all
    obtain ⟨h1, h2⟩ := col_one h
    rw [r, this, if_neg (by decide), if_pos rfl, h2]
    rcases h1 with ⟨h1, _⟩ | ⟨h1, _⟩ <;> (rw [h1]; omega)
theorem par_all {c : Bool} {l : List Pt} (q : Sm.Seam (nb us ls) c l) : ∀ {k : Nat}, k < stepsN c l → parW (seqW c l k) (seqW c l (k + 1)) = parW (seqW c l 0) (seqW c l 1)
  | 0, _ => rfl
  | k + 1, h => by
    rw [← par_all q (k := k) (by omega)]
    exact (par_next (seq_adj q (by omega)).1 (seq_turns q h)).symm
/-- the way of a line: true: a column -/
def dirW (us ls : List Int) (e : Int) (w : Bool × Int) : Int := if w.1 = true then (if (e + 1 + w.2 + gt us (w.2 - 1).toNat) % 2 = 1 then 1 else -1) else (if (e + w.2 + gt ls (w.2 - 1).toNat) % 2 = 1 then 1 else -1)
theorem dirW_r (us ls : List Int) (e y : Int) : dirW us ls e (false, y) = if (e + y + gt ls (y - 1).toNat) % 2 = 1 then 1 else -1 := rfl
theorem dirW_c (us ls : List Int) (e x : Int) : dirW us ls e (true, x) = if (e + 1 + x + gt us (x - 1).toNat) % 2 = 1 then 1 else -1 := rfl
theorem dirW_one (us ls : List Int) (e : Int) (w : Bool × Int) : dirW us ls e w = 1 ∨ dirW us ls e w = -1 := by
  unfold dirW
  split <;> split <;> simp
def keyW (a b : Pt) : Bool × Int := if isR a b = true then (false, a.2) else (true, a.1)
theorem dir_step {a b : Pt} (h : b ∈ nb us ls a) : b.1 - a.1 + b.2 - a.2 = dirW us ls (parW a b) (keyW a b) := by
  rcases step_two h with ⟨r, h⟩ | ⟨r, h⟩
  · obtain ⟨h1, h2⟩ := row_one h
    have k : keyW a b = (false, a.2) := by unfold keyW; rw [if_pos r]
    have p : parW a b = (a.1 + a.2) % 2 := by unfold parW; rw [if_pos r]
    rw [k, p, dirW_r]
    rcases h1 with ⟨h1, o⟩ | ⟨h1, o⟩
    · rw [if_pos (by omega), h1, h2]; omega
    · rw [if_neg (by omega), h1, h2]; omega
  · obtain ⟨h1, h2⟩ := col_one h
    have k : keyW a b = (true, a.1) := by unfold keyW; rw [if_neg (by rw [r]; decide)]
    have p : parW a b = (a.1 + a.2 + 1) % 2 := by unfold parW; rw [if_neg (by rw [r]; decide)]
    rw [k, p, dirW_c]
    rcases h1 with ⟨h1, o⟩ | ⟨h1, o⟩
    · rw [if_pos (by omega), h1, h2]; omega
    · rw [if_neg (by omega), h1, h2]; omega
end GD
namespace Sm
variable {α : Type} [DecidableEq α]
theorem Seam.local {N N' : α → List α} {c : Bool} {l : List α} (q : Seam N c l) (ag : ∀ a ∈ l, N' a = N a) : Seam N' c l := by
  have mem : ∀ {i : Nat} {a : α}, l[i]? = some a → a ∈ l := fun h => List.mem_of_getElem? h
  refine ⟨q.nd, q.two, fun i a b ha hb => ?_, fun a ha b hb => ?_, fun h => ⟨(q.shut h).1, fun a b ha hb => ?_⟩, fun i a ha => ?_⟩
  · rw [ag a (mem ha), ag b (mem hb)]; exact q.step i a b ha hb
  · rw [ag a ha] at hb; exact q.cl a ha b hb
  · rw [ag a (mem ha), ag b (mem hb)]; exact (q.shut h).2 a b ha hb
  · rw [ag a (mem ha)]; exact q.deg i a ha
end Sm
namespace GD
open PySem L2 G PySem.W
/-- two rising lists with the same members are one -/
theorem sorted_eq {α : Type} {R : α → α → Prop} (as : ∀ a b, R a b → ¬ R b a) : ∀ {l l' : List α}, l.Pairwise R → l'.Pairwise R → (∀ z, z ∈ l ↔ z ∈ l') → l = l'
  | [], [], _, _, _ => rfl
  | [], b :: l', _, _, h => absurd ((h b).mpr List.mem_cons_self) List.not_mem_nil
  | a :: l, [], _, _, h => absurd ((h a).mp List.mem_cons_self) List.not_mem_nil
  | a :: l, b :: l', p1, p2, h => by
    obtain ⟨a1, a2⟩ := List.pairwise_cons.mp p1
    obtain ⟨b1, b2⟩ := List.pairwise_cons.mp p2
    have e : a = b := by
      rcases List.mem_cons.mp ((h a).mp List.mem_cons_self) with e | m
      · exact e
      · rcases List.mem_cons.mp ((h b).mpr List.mem_cons_self) with e | m'
        · exact e.symm
        · exact absurd (a1 b m') (as _ _ (b1 a m))
    subst e
    congr 1
    refine sorted_eq as a2 b2 fun z => ?_
    constructor
    · intro hz
      rcases List.mem_cons.mp ((h z).mp (List.mem_cons_of_mem _ hz)) with e | m
      · subst e
        have := a1 z hz
        exact absurd this (as _ _ this)
      · exact m
    · intro hz
      rcases List.mem_cons.mp ((h z).mpr (List.mem_cons_of_mem _ hz)) with e | m
      · subst e
        have := b1 z hz
        exact absurd this (as _ _ this)
      · exact m
theorem ltP_as (a b : Pt) (h : ltP a b = true) : ¬ ltP b a = true := by
  intro g
  rw [ltP_iff] at h g
  omega
section
variable {s : Int} {us ls us' ls' : List Int}
/-- each told seam is the one through its least point -/
theorem found_first {x : Sm1} (h : x ∈ found us ls) : ∃ q, InC us ls q ∧ seamC us ls q = some x ∧ q ∈ x.2 ∧ ∀ z ∈ x.2, ltP z q = false := by
  have key : ∀ (L A : List Pt) (a : List Pt × List Sm1), SInv us ls a → (∀ z ∈ A, nb us ls z ≠ [] → z ∈ a.1) → (∀ q ∈ L, InC us ls q) → L.Pairwise (fun p q => ltP p q = true) → (∀ z, InC us ls z → z ∈ A ∨ z ∈ L) → (∀ z ∈ A, ∀ q ∈ L, ltP z q = true) →
      (∀ x ∈ a.2, ∃ q, InC us ls q ∧ seamC us ls q = some x ∧ q ∈ x.2 ∧ ∀ z ∈ x.2, ltP z q = false) → ∀ x ∈ (L.foldl (sst us ls) a).2, ∃ q, InC us ls q ∧ seamC us ls q = some x ∧ q ∈ x.2 ∧ ∀ z ∈ x.2, ltP z q = false := by
    intro L
    induction L with
    | nil => intro A a _ _ _ _ _ _ h; exact h
    | cons q L ih =>
      intro A a I hA hL pw all lt hx
      obtain ⟨i1, i2, i3⟩ := SInv.stp I (hL q List.mem_cons_self)
      obtain ⟨p1, p2⟩ := List.pairwise_cons.mp pw
      refine ih (A ++ [q]) (sst us ls a q) i1 (fun z hz ne => ?_) (fun z hz => hL z (List.mem_cons_of_mem _ hz)) p2 (fun z hz => ?_) (fun z hz w hw => ?_) fun x hx' => ?_
      · rcases List.mem_append.mp hz with hz | hz
        · exact i3 z (hA z hz ne)
        · rw [List.mem_singleton.mp hz] at ne ⊢
          exact i2 ne
      · rcases all z hz with h | h
        · exact .inl (List.mem_append_left _ h)
        · rcases List.mem_cons.mp h with rfl | h
          · exact .inl (by simp)
          · exact .inr h
      · rcases List.mem_append.mp hz with hz | hz
        · exact lt z hz w (List.mem_cons_of_mem _ hw)
        · rw [List.mem_singleton.mp hz]
          exact p1 w hw
      · unfold sst sF at hx'
        dsimp only at hx'
        by_cases m : q ∈ a.1
        · rw [if_pos m] at hx'
          exact hx x hx'
        · rw [if_neg m] at hx'
          cases e : seamC us ls q with
          | none => rw [e] at hx'; exact hx x hx'
          | some y =>
            rw [e] at hx'
            rcases List.mem_append.mp hx' with hx' | hx'
            · exact hx x hx'
            · rw [List.mem_singleton] at hx'
              subst hx'
              have hq := hL q List.mem_cons_self
              obtain ⟨q1, q2⟩ := seamC_ok hq e
              have hin := seam_in q1 hq q2
              refine ⟨q, hq, e, q2, fun z hz => ?_⟩
              rw [Bool.eq_false_iff]
              intro lz
              -- z stands ahead of q and was seen
              have za : z ∈ A := by
                rcases all z (hin z hz) with h | h
                · exact h
                · rcases List.mem_cons.mp h with rfl | h
                  · exact absurd lz (ltP_as _ _ lz)
                  · exact absurd lz (ltP_as _ _ (p1 z h))
              have nz : nb us ls z ≠ [] := by
                intro e0
                obtain ⟨i, hi⟩ := List.getElem?_of_mem hz
                have := q1.deg i z hi
                rw [e0] at this
                split at this <;> simp at this
              obtain ⟨y, hy, hzy⟩ := (I.seen z).mp (hA z za nz)
              have := q1.conn (V := fun z => z ∈ y.2) (fun a ha b hb => (I.ev y hy).1.cl a ha b hb) hz hzy q q2
              exact m ((I.seen q).mpr ⟨y, hy, this⟩)
  have pw : (ptsC us ls).Pairwise fun p q => ltP p q = true := by
    unfold ptsC
    have k2 : ∀ (xs : List Nat), xs.Pairwise (· < ·) → ((xs.map fun x : Nat => (List.range (ls.length + 2)).map fun y : Nat => ((x : Int), (y : Int))).flatten).Pairwise fun p q : Pt => ltP p q = true := by
      intro xs
      induction xs with
      | nil => intro _; exact List.Pairwise.nil
      | cons x xs ih =>
        intro hp
        obtain ⟨p1, p2⟩ := List.pairwise_cons.mp hp
        rw [List.map_cons, List.flatten_cons]
        refine List.pairwise_append.mpr ⟨?_, ih p2, fun a ha b hb => ?_⟩
        · refine List.pairwise_map.mpr (List.Pairwise.imp (R := fun i j => i < j) (fun {a b} lt => ?_) List.pairwise_lt_range)
          rw [ltP_iff]
          dsimp only
          omega
        · obtain ⟨y, _, rfl⟩ := List.mem_map.mp ha
          obtain ⟨l, hl, hb⟩ := List.mem_flatten.mp hb
          obtain ⟨x', hx', rfl⟩ := List.mem_map.mp hl
          obtain ⟨y', _, rfl⟩ := List.mem_map.mp hb
          have := p1 x' hx'
          rw [ltP_iff]
          dsimp only
          omega
    exact k2 _ List.pairwise_lt_range
  have I0 : SInv us ls (([], []) : List Pt × List Sm1) := ⟨(fun _ h => (List.not_mem_nil h).elim), fun z => ⟨(fun h => (List.not_mem_nil h).elim), fun ⟨_, h, _⟩ => (List.not_mem_nil h).elim⟩, List.Pairwise.nil⟩
  exact key (ptsC us ls) [] ([], []) I0 (fun _ h => (List.not_mem_nil h).elim) (fun q hq => ptsC_mem.mp hq) pw (fun z hz => .inr (ptsC_mem.mpr hz)) (fun _ h => (List.not_mem_nil h).elim) (fun _ h => (List.not_mem_nil h).elim) x h
theorem seam_ne {x : Sm1} (h : x ∈ seamsL us ls) : fstP x ∈ x.2 := by
  have h2 := (found_ev (seamsL_mem.mp h)).1.two
  unfold fstP
  cases q : x.2 with
  | nil => rw [q] at h2; simp at h2
  | cons z r => exact List.mem_cons_self
end
end GD
namespace Turn
/-- .. and the sums of the turns -/
theorem leave3 {n : Nat} {X Y : Nat → Int} {h : Int → Int} (hn : 2 ≤ n) (hh : ∀ y, h y = 1 ∨ h y = -1)
    (sH : ∀ k, k < n → X (2 * k + 1) = X (2 * k) + h (Y (2 * k)) ∧ Y (2 * k + 1) = Y (2 * k))
    (sV : ∀ k, k < n → X (2 * k + 2) = X (2 * k + 1) ∧ (Y (2 * k + 2) = Y (2 * k + 1) + 1 ∨ Y (2 * k + 2) = Y (2 * k + 1) - 1))
    (cX : X (2 * n) = X 0) (cY : Y (2 * n) = Y 0) (inj : ∀ i j, i < j → j < 2 * n → ¬ (X i = X j ∧ Y i = Y j))
    (least : ∀ i, i < 2 * n → X 0 < X i ∨ (X 0 = X i ∧ Y 0 ≤ Y i)) (f1 : X 1 = X 0 + 1) (l1 : X (2 * n - 1) = X 0) (l2 : Y (2 * n - 1) = Y 0 + 1) : n % 4 = 2 ∧ sm (fun k => h (Y (2 * k)) * (Y (2 * k + 2) - Y (2 * k + 1))) n = 2 ∧ sm (fun k => (Y (2 * k + 2) - Y (2 * k + 1)) * h (Y (2 * k + 2))) n = -2 := by
  have hY : ∀ k, k < n → h (Y (2 * k)) = X (2 * k + 1) - X (2 * k) := fun k hk => by have := (sH k hk).1; omega
  have unit : ∀ i, i < 2 * n - 1 → Unit X Y i := fun i hi => by
    rcases (by omega : i = 2 * (i / 2) ∨ i = 2 * (i / 2) + 1) with e | e
    · have a := sH (i / 2) (by omega)
      have b := hh (Y (2 * (i / 2)))
      rw [← e] at a b
      exact .inr ⟨by omega, by omega⟩
    · have a := sV (i / 2) (by omega)
      rw [show 2 * (i / 2) + 2 = i + 1 by omega, ← e] at a
      exact .inl ⟨by omega, by omega⟩
  have f2 : Y 1 = Y 0 := (sH 0 (by omega)).2
  have tu := turns (M := 2 * n - 1) (by omega) unit (fun i j hi hj z => inj i j hi (by omega) ⟨by omega, by omega⟩) (fun i hi => least i (by omega)) f2 l1 l2
  rw [show 2 * n - 1 - 1 = 2 * (n - 1) by omega, sm_two] at tu
  -- the two kinds of steps
  obtain ⟨et, het⟩ : ∃ f : Nat → Int, ∀ k, f k = h (Y (2 * k)) := ⟨_, fun _ => rfl⟩
  obtain ⟨nu, hnu⟩ : ∃ f : Nat → Int, ∀ k, f k = Y (2 * k + 2) - Y (2 * k + 1) := ⟨_, fun _ => rfl⟩
  have e1 : ∀ k, et k = 1 ∨ et k = -1 := fun k => by rw [het]; exact hh _
  have n1 : ∀ k, k < n → nu k = 1 ∨ nu k = -1 := fun k hk => by rw [hnu]; have := (sV k hk).2; omega
  have et' : ∀ k, k < n → et k = X (2 * k + 1) - X (2 * k) := fun k hk => by rw [het]; exact hY k hk
  have t1 : ∀ k, k < n - 1 → 4 * (tn X Y (2 * k) + tn X Y (2 * k + 1)) = (1 + et k) * (1 + nu k) - (1 + nu k) * (1 + et (k + 1)) := fun k hk => by
    have s1 := sH k (by omega)
    have s2 := sV k (by omega)
    have s3 := sH (k + 1) (by omega)
    have E1 := et' k (by omega)
    have E2 := et' (k + 1) (by omega)
    have c1 := e1 k
    have c2 := e1 (k + 1)
    have c3 := n1 k (by omega)
    have c4 := hnu k
    rw [show 2 * (k + 1) + 1 = 2 * k + 3 by omega, show 2 * (k + 1) = 2 * k + 2 by omega] at s3 E2
    unfold tn A B W
    rw [show 2 * k + 1 + 1 = 2 * k + 2 by omega, show 2 * k + 1 + 2 = 2 * k + 3 by omega]
    have d1 : X (2 * k + 1) - X (2 * k) = et k := by omega
    have d2 : Y (2 * k + 1) - Y (2 * k) = 0 := by omega
    have d3 : Y (2 * k + 2) - Y (2 * k) = nu k := by omega
    have d4 : X (2 * k + 2) - X (2 * k) = et k := by omega
    have d5 : Y (2 * k + 2) - Y (2 * k + 1) = nu k := by omega
    have d6 : X (2 * k + 2) - X (2 * k + 1) = 0 := by omega
    have d7 : Y (2 * k + 3) - Y (2 * k + 1) = nu k := by omega
    have d8 : X (2 * k + 3) - X (2 * k + 1) = et (k + 1) := by omega
    have d9 : Y (2 * k + 3) - Y (2 * k + 2) = 0 := by omega
    have d10 : Y (2 * k + 2 + 1) - Y (2 * k + 1) = nu k := by rw [show 2 * k + 2 + 1 = 2 * k + 3 by omega]; exact d7
    have d11 : Y (2 * k + 1 + 1 + 1) - Y (2 * k + 1) = nu k := by rw [show 2 * k + 1 + 1 + 1 = 2 * k + 3 by omega]; exact d7
    simp only [d1, d2, d3, d4, d5, d6, d7, d8, d9, d10, d11]
    unfold I
    rcases c1 with c1 | c1 <;> rcases c2 with c2 | c2 <;> rcases c3 with c3 | c3 <;> rw [c1, c2, c3] <;> decide
  have key : 4 * sm (fun k => tn X Y (2 * k) + tn X Y (2 * k + 1)) (n - 1) = sm (fun k => (1 + et k) * (1 + nu k) - (1 + nu k) * (1 + et (k + 1))) (n - 1) := by
    have : ∀ m, m ≤ n - 1 → 4 * sm (fun k => tn X Y (2 * k) + tn X Y (2 * k + 1)) m = sm (fun k => (1 + et k) * (1 + nu k) - (1 + nu k) * (1 + et (k + 1))) m := by
      intro m
      induction m with
      | zero => intro _; rfl
      | succ m ih =>
        intro hm
        have a := ih (by omega)
        have b := t1 m (by omega)
        show 4 * (sm _ m + (tn X Y (2 * m) + tn X Y (2 * m + 1))) = sm _ m + ((1 + et m) * (1 + nu m) - (1 + nu m) * (1 + et (m + 1)))
        omega
    exact this _ (Nat.le_refl _)
  rw [tu] at key
  -- the sums
  obtain ⟨P, hP⟩ : ∃ f : Nat → Int, ∀ k, f k = et k * nu k := ⟨_, fun _ => rfl⟩
  obtain ⟨Q, hQ⟩ : ∃ f : Nat → Int, ∀ k, f k = nu k * et (k + 1) := ⟨_, fun _ => rfl⟩
  have k2 : ∀ m, sm (fun k => (1 + et k) * (1 + nu k) - (1 + nu k) * (1 + et (k + 1))) m = (et 0 - et m) + (sm P m - sm Q m) := by
    intro m
    induction m with
    | zero => show (0 : Int) = et 0 - et 0 + (0 - 0); omega
    | succ m ih =>
      show sm _ m + ((1 + et m) * (1 + nu m) - (1 + nu m) * (1 + et (m + 1))) = (et 0 - et (m + 1)) + ((sm P m + P m) - (sm Q m + Q m))
      rw [ih, hP, hQ]
      have a : (1 + et m) * (1 + nu m) = 1 + et m + nu m + et m * nu m := by simp only [Int.add_mul, Int.mul_add, Int.one_mul, Int.mul_one]; omega
      have b : (1 + nu m) * (1 + et (m + 1)) = 1 + nu m + et (m + 1) + nu m * et (m + 1) := by simp only [Int.add_mul, Int.mul_add, Int.one_mul, Int.mul_one]; omega
      omega
  rw [k2] at key
  have tel : ∀ m, m ≤ n → sm (fun k => P k + nu k * h (Y (2 * k + 2))) m = pot (fun y => h y + h (y + 1)) (Y (2 * m)) - pot (fun y => h y + h (y + 1)) (Y 0) := by
    intro m
    induction m with
    | zero => intro _; rw [Nat.mul_zero]; show (0 : Int) = _ - _; omega
    | succ m ih =>
      intro hm
      show sm _ m + (P m + nu m * h (Y (2 * m + 2))) = _
      rw [ih (by omega), hP, het]
      have s1 := sH m (by omega)
      have s2 := sV m (by omega)
      have c4 := hnu m
      rw [← s1.2, show 2 * (m + 1) = 2 * m + 2 by omega]
      rcases s2.2 with z | z
      · have q := pot_succ (fun y => h y + h (y + 1)) (Y (2 * m + 1))
        rw [show nu m = 1 by omega, z]
        rw [q]
        have w := hh (Y (2 * m + 1))
        rw [Int.mul_one, Int.one_mul]
        rw [s1.2]
        omega
      · have q := pot_succ (fun y => h y + h (y + 1)) (Y (2 * m + 2))
        rw [show nu m = -1 by omega]
        rw [show Y (2 * m + 2) + 1 = Y (2 * m + 1) by omega] at q
        rw [Int.mul_neg_one, Int.neg_one_mul]
        omega
  have tl := tel n (Nat.le_refl _)
  rw [cY, Int.sub_self] at tl
  have tl0 := tl
  obtain ⟨m, hm⟩ : ∃ m, n = m + 1 := ⟨n - 1, by omega⟩
  have last := hnu m
  rw [show 2 * m + 2 = 2 * n by omega, show 2 * m + 1 = 2 * n - 1 by omega, cY, l2] at last
  have lv : nu m = -1 := by omega
  have e0 : et 0 = 1 := by rw [et' 0 (by omega)]; show X 1 - X 0 = 1; omega
  rw [hm] at tl
  have tl : sm (fun k => P k + nu k * h (Y (2 * k + 2))) m + (P m + nu m * h (Y (2 * m + 2))) = 0 := tl
  have same : sm (fun k => P k + nu k * h (Y (2 * k + 2))) m = sm P m + sm Q m := by
    rw [← sm_add]
    refine sm_congr fun k hk => ?_
    rw [hQ, het, show 2 * (k + 1) = 2 * k + 2 by omega]
  rw [same, show 2 * m + 2 = 2 * n by omega, cY, lv, hP, lv, Int.mul_neg_one, Int.neg_one_mul] at tl
  have h0 : h (Y 0) = 1 := by have := het 0; rw [Nat.mul_zero] at this; omega
  rw [h0] at tl
  rw [show n - 1 = m by omega, e0] at key
  -- n and the corners
  have so : sm P n = 2 := by
    rw [hm]
    show sm P m + P m = 2
    rw [hP, lv, Int.mul_neg_one]
    omega
  have se : sm et n = 0 := by
    have : ∀ m, m ≤ n → sm et m = X (2 * m) - X 0 := by
      intro m
      induction m with
      | zero => intro _; rw [Nat.mul_zero]; show (0 : Int) = _; omega
      | succ m ih =>
        intro hm
        show sm et m + et m = _
        rw [ih (by omega), et' m (by omega)]
        have := (sV m (by omega)).1
        rw [show 2 * (m + 1) = 2 * m + 2 by omega]
        omega
    rw [this n (Nat.le_refl _), cX]
    omega
  have sn : sm nu n = 0 := by
    have : ∀ m, m ≤ n → sm nu m = Y (2 * m) - Y 0 := by
      intro m
      induction m with
      | zero => intro _; rw [Nat.mul_zero]; show (0 : Int) = _; omega
      | succ m ih =>
        intro hm
        show sm nu m + nu m = _
        rw [ih (by omega), hnu m]
        have := (sH m (by omega)).2
        rw [show 2 * (m + 1) = 2 * m + 2 by omega]
        omega
    rw [this n (Nat.le_refl _), cY]
    omega
  have four : ∀ m, m ≤ n → ∃ q : Int, (m : Int) + sm et m + sm nu m + sm P m = 4 * q := by
    intro m
    induction m with
    | zero => intro _; exact ⟨0, rfl⟩
    | succ m ih =>
      intro hm
      obtain ⟨q, hq⟩ := ih (by omega)
      have c1 := e1 m
      have c2 := n1 m (by omega)
      have hp := hP m
      show ∃ q : Int, ((m + 1 : Nat) : Int) + (sm et m + et m) + (sm nu m + nu m) + (sm P m + P m) = 4 * q
      rcases c1 with c1 | c1 <;> rcases c2 with c2 | c2 <;> rw [c1, c2] at hp
      · exact ⟨q + 1, by omega⟩
      · exact ⟨q, by omega⟩
      · exact ⟨q, by omega⟩
      · exact ⟨q, by omega⟩
  obtain ⟨q, hq⟩ := four n (Nat.le_refl _)
  rw [so, se, sn] at hq
  have f4 : n % 4 = 2 := by omega
  rw [sm_add] at tl0
  refine ⟨f4, ?_, ?_⟩
  · rw [← so]
    exact sm_congr fun k _ => by rw [hP, het, hnu]
  · have e : sm (fun k => (Y (2 * k + 2) - Y (2 * k + 1)) * h (Y (2 * k + 2))) n = sm (fun k => nu k * h (Y (2 * k + 2))) n := sm_congr fun k _ => by rw [hnu]
    rw [e]
    have so' : sm (fun k => P k) n = 2 := so
    omega
end Turn
namespace GD
open PySem G
def ptN (l : List Pt) (i : Nat) : Pt := l.getD (i % l.length) (0, 0)
/-- a round seam from its least point on, the first step going right -/
structure Rn (l : List Pt) (n : Nat) (h v : Int → Int) : Prop where
  len : l.length = 2 * n
  two : 2 ≤ n
  hh : ∀ y, h y = 1 ∨ h y = -1
  vv : ∀ x, v x = 1 ∨ v x = -1
  sH : ∀ k, k < n → (ptN l (2 * k + 1)).1 = (ptN l (2 * k)).1 + h (ptN l (2 * k)).2 ∧ (ptN l (2 * k + 1)).2 = (ptN l (2 * k)).2
  sV : ∀ k, k < n → (ptN l (2 * k + 2)).1 = (ptN l (2 * k + 1)).1 ∧ (ptN l (2 * k + 2)).2 = (ptN l (2 * k + 1)).2 + v (ptN l (2 * k + 1)).1
  inj : ∀ i j, i < j → j < 2 * n → ptN l i ≠ ptN l j
  least : ∀ i, (ptN l 0).1 < (ptN l i).1 ∨ ((ptN l 0).1 = (ptN l i).1 ∧ (ptN l 0).2 ≤ (ptN l i).2)
  f1 : (ptN l 1).1 = (ptN l 0).1 + 1
  l1 : (ptN l (2 * n - 1)).1 = (ptN l 0).1
  l2 : (ptN l (2 * n - 1)).2 = (ptN l 0).2 + 1
section
variable {us ls : List Int}
theorem ptN_lt {l : List Pt} {i : Nat} (h : i < l.length) : ptN l i = l.getD i (0, 0) := by unfold ptN; rw [Nat.mod_eq_of_lt h]
theorem ptN_get {l : List Pt} {i : Nat} (h : i < l.length) : l[i]? = some (ptN l i) := by rw [ptN_lt h]; exact getD_eq h
theorem ptN_mem {l : List Pt} (h : 0 < l.length) (i : Nat) : ptN l i ∈ l := by
  unfold ptN
  exact List.mem_of_getElem? (getD_eq (Nat.mod_lt _ h))
theorem ptN_per (l : List Pt) (i : Nat) : ptN l (i + l.length) = ptN l i := by unfold ptN; rw [Nat.add_mod_right]
/-- the steps of a closed line -/
theorem step_n {l : List Pt} (q : Sm.Seam (nb us ls) true l) {i : Nat} (hi : i < l.length) : ∃ k, k < stepsN true l ∧ ptN l i = seqW true l k ∧ ptN l (i + 1) = seqW true l (k + 1) := by
  have st : stepsN true l = l.length := by
    unfold stepsN
    have := q.two
    simp
    omega
  by_cases c : i + 1 < l.length
  · refine ⟨i + 1, by omega, ?_, ?_⟩
    · rw [ptN_lt hi]
      unfold seqW
      simp
    · rw [ptN_lt c]
      unfold seqW
      simp
  · obtain rfl : i = l.length - 1 := by omega
    refine ⟨0, by omega, ?_, ?_⟩
    · rw [ptN_lt (by omega)]
      unfold seqW
      simp
    · rw [show l.length - 1 + 1 = 0 + l.length by omega, ptN_per, ptN_lt (by omega)]
      unfold seqW
      simp
theorem adj_n {l : List Pt} (q : Sm.Seam (nb us ls) true l) {i : Nat} (hi : i < l.length) : ptN l (i + 1) ∈ nb us ls (ptN l i) ∧ ptN l i ∈ nb us ls (ptN l (i + 1)) := by
  obtain ⟨k, h1, h2, h3⟩ := step_n q hi
  rw [h2, h3]
  exact seq_adj q h1
theorem par_n {l : List Pt} (q : Sm.Seam (nb us ls) true l) {i : Nat} (hi : i < l.length) : parW (ptN l i) (ptN l (i + 1)) = parW (ptN l 0) (ptN l 1) := by
  obtain ⟨k, h1, h2, h3⟩ := step_n q hi
  obtain ⟨k', g1, g2, g3⟩ := step_n q (i := 0) (by omega)
  rw [h2, h3, g2, g3, par_all q h1, par_all q g1]
theorem inj_n {l : List Pt} (nd : l.Nodup) {i j : Nat} (hi : i < j) (hj : j < l.length) : ptN l i ≠ ptN l j := fun e => by
  have := (List.getElem?_inj (i := i) (j := j) (by omega) nd).mp (by rw [ptN_get (by omega), ptN_get hj, e])
  omega
/-- by turns -/
theorem alt_n {l : List Pt} (q : Sm.Seam (nb us ls) true l) {i : Nat} (hi : i < l.length) : isR (ptN l i) (ptN l (i + 1)) = !isR (ptN l (i + 1)) (ptN l (i + 2)) := by
  obtain ⟨h3, _⟩ := q.shut rfl
  have a1 := adj_n q hi
  have ne : ptN l i ≠ ptN l (i + 2) := by
    by_cases c : i + 2 < l.length
    · exact inj_n q.nd (by omega) c
    · have e : ptN l (i + 2) = ptN l (i + 2 - l.length) := by
        rw [← ptN_per l (i + 2 - l.length)]
        congr 1
        omega
      rw [e]
      exact (inj_n q.nd (by omega) hi).symm
  have a2 : ptN l (i + 2) ∈ nb us ls (ptN l (i + 1)) := by
    by_cases c : i + 1 < l.length
    · exact (adj_n q c).1
    · have e1 : ptN l (i + 1) = ptN l 0 := by
        rw [← ptN_per l 0]
        congr 1
        omega
      have e2 : ptN l (i + 2) = ptN l (0 + 1) := by
        rw [← ptN_per l (0 + 1)]
        congr 1
        omega
      rw [e1, e2]
      exact (adj_n q (by omega)).1
  rcases two_kinds a1.2 a2 ne with ⟨h1, h2⟩ | ⟨h1, h2⟩
  · rw [isR_t (row_step h1).1, isR_f (col_step h2).1.symm]; rfl
  · rw [isR_f (col_step h1).1, isR_t fun e => (row_step h2).1 e.symm]; rfl
/-- the lines of round seams begin at their least point, their first step goes along the row -/
theorem round_head {l : List Pt} (hl : l ∈ roundsL us ls) : (∀ z ∈ l, ltP z (ptN l 0) = false) ∧ (ptN l 1).2 = (ptN l 0).2 := by
  obtain ⟨q, hq, e, _, _⟩ := found_first (seamsL_mem.mp (roundsL_mem.mp hl))
  have sq := (roundsL_ev hl).1
  obtain ⟨h3, shut⟩ := sq.shut rfl
  unfold seamC at e
  cases en : nb us ls q with
  | nil => rw [en] at e; cases e
  | cons z r =>
    rw [en] at e
    dsimp only at e
    split at e
    · injection e with e
      injection e with _ e
      have hz : z ∈ nb us ls q := by rw [en]; exact List.mem_cons_self
      have bk : backC us ls q z = true := by assumption
      have m := (fromL_seam (Sm.seam_back (gr us ls) hq hz bk))
      have ll : (lineC us ls q z) = Sm.line (nb us ls) q z (Sm.end_ (nb us ls) q z) := rfl
      rw [← ll] at m
      obtain ⟨w, t, hr⟩ := rotL_cons (l := lineC us ls q z) (by have := (Sm.seam_back (gr us ls) hq hz bk).two; exact this)
      have hd : ptN l 0 = minL (lineC us ls q z) := by
        rw [ptN_lt (by omega), ← e]
        unfold fromL
        rw [hr]
        dsimp only
        split <;> rfl
      refine ⟨fun x hx => ?_, ?_⟩
      · rw [hd]
        exact minL_le x ((m.2 x).mp (by rw [e]; exact hx))
      · have fe : fromL (lineC us ls q z) = if w.2 ≠ (minL (lineC us ls q z)).2 then minL (lineC us ls q z) :: (w :: t).reverse else minL (lineC us ls q z) :: w :: t := by unfold fromL; rw [hr]
        by_cases c : w.2 ≠ (minL (lineC us ls q z)).2
        · rw [if_pos c, e] at fe
          have lw : ptN l (l.length - 1) = w := by
            have : l[l.length - 1]? = some w := by
              rw [fe, List.reverse_cons]
              simp
            rw [ptN_get (by omega)] at this
            exact Option.some.inj this
          have a1 := adj_n sq (i := 0) (by omega)
          have a2 := adj_n sq (i := l.length - 1) (by omega)
          rw [show l.length - 1 + 1 = 0 + l.length by omega, ptN_per, lw] at a2
          have ne : ptN l 1 ≠ w := by
            rw [← lw]
            exact inj_n sq.nd (by omega) (by omega)
          rcases two_kinds a1.1 a2.2 ne with ⟨h1, _⟩ | ⟨_, h2⟩
          · exact (row_step h1).2
          · rw [← hd] at c
            exact absurd (row_step h2).2 c
        · rw [if_neg c, e] at fe
          have h1 : ptN l 1 = w := by
            have : l[1]? = some w := by rw [fe]; rfl
            rw [ptN_get (by omega)] at this
            exact Option.some.inj this
          rw [h1, hd]
          exact Classical.byContradiction c
    · injection e with e
      injection e with e _
      cases e
theorem round_rn {l : List Pt} (hl : l ∈ roundsL us ls) : ∃ n e, Rn l n (fun y => dirW us ls e (false, y)) (fun x => dirW us ls e (true, x)) := by
  obtain ⟨hm, hf⟩ := round_head hl
  have q := (roundsL_ev hl).1
  obtain ⟨h3, shut⟩ := q.shut rfl
  have r0 : isR (ptN l 0) (ptN l 1) = true := by
    have a := adj_n q (i := 0) (by omega)
    rcases step_two a.1 with ⟨h, _⟩ | ⟨_, h⟩
    · exact h
    · exact absurd hf (col_step h).2
  have ev : ∀ k, k < l.length → isR (ptN l k) (ptN l (k + 1)) = decide (k % 2 = 0) := by
    intro k
    induction k with
    | zero => intro _; rw [r0]; rfl
    | succ k ih =>
      intro hk
      have a := alt_n q (i := k) (by omega)
      have b := ih (by omega)
      rw [b] at a
      rw [show k + 1 + 1 = k + 2 by omega]
      cases c : isR (ptN l (k + 1)) (ptN l (k + 2)) with
      | true =>
        rw [c] at a
        have := of_decide_eq_false a
        exact (decide_eq_true (by omega)).symm
      | false =>
        rw [c] at a
        have := of_decide_eq_true a
        exact (decide_eq_false (by omega)).symm
  have last : isR (ptN l (l.length - 1)) (ptN l 0) = false := by
    have a := alt_n q (i := l.length - 1) (by omega)
    rw [show l.length - 1 + 1 = 0 + l.length by omega, ptN_per, show l.length - 1 + 2 = 1 + l.length by omega, ptN_per, r0] at a
    exact a
  have evn : l.length % 2 = 0 := by
    have a := ev (l.length - 1) (by omega)
    rw [show l.length - 1 + 1 = 0 + l.length by omega, ptN_per, last] at a
    have := of_decide_eq_false a.symm
    omega
  have dir : ∀ k, k < l.length → (ptN l (k + 1)).1 - (ptN l k).1 + (ptN l (k + 1)).2 - (ptN l k).2 = dirW us ls (parW (ptN l 0) (ptN l 1)) (keyW (ptN l k) (ptN l (k + 1))) := fun k hk => by
    rw [← par_n q hk]
    exact dir_step (adj_n q hk).1
  have stH : ∀ k, k < l.length → k % 2 = 0 → (ptN l (k + 1)).1 = (ptN l k).1 + dirW us ls (parW (ptN l 0) (ptN l 1)) (false, (ptN l k).2) ∧ (ptN l (k + 1)).2 = (ptN l k).2 := fun k hk h2 => by
    have r := ev k hk
    rw [decide_eq_true h2] at r
    have d := dir k hk
    have ke : keyW (ptN l k) (ptN l (k + 1)) = (false, (ptN l k).2) := by unfold keyW; rw [if_pos r]
    rw [ke] at d
    have s2 : (ptN l (k + 1)).2 = (ptN l k).2 := by
      rcases step_two (adj_n q hk).1 with ⟨_, h⟩ | ⟨h, _⟩
      · exact (row_step h).2
      · rw [r] at h; cases h
    exact ⟨by omega, s2⟩
  have stV : ∀ k, k < l.length → k % 2 = 1 → (ptN l (k + 1)).1 = (ptN l k).1 ∧ (ptN l (k + 1)).2 = (ptN l k).2 + dirW us ls (parW (ptN l 0) (ptN l 1)) (true, (ptN l k).1) := fun k hk h2 => by
    have r := ev k hk
    rw [decide_eq_false (by omega)] at r
    have d := dir k hk
    have ke : keyW (ptN l k) (ptN l (k + 1)) = (true, (ptN l k).1) := by unfold keyW; rw [if_neg (by rw [r]; decide)]
    rw [ke] at d
    have s2 : (ptN l (k + 1)).1 = (ptN l k).1 := by
      rcases step_two (adj_n q hk).1 with ⟨h, _⟩ | ⟨_, h⟩
      · rw [r] at h; cases h
      · exact (col_step h).1
    exact ⟨s2, by omega⟩
  have le : ∀ i, (ptN l 0).1 < (ptN l i).1 ∨ ((ptN l 0).1 = (ptN l i).1 ∧ (ptN l 0).2 ≤ (ptN l i).2) := fun i => by
    have h := hm _ (ptN_mem (by omega) i)
    rw [Bool.eq_false_iff] at h
    have : ¬ ((ptN l i).1 < (ptN l 0).1 ∨ ((ptN l i).1 = (ptN l 0).1 ∧ (ptN l i).2 < (ptN l 0).2)) := fun z => h (ltP_iff.mpr z)
    omega
  have d0 := stH 0 (by omega) rfl
  have dl := stV (l.length - 1) (by omega) (by omega)
  rw [show l.length - 1 + 1 = 0 + l.length by omega, ptN_per] at dl
  have o0 := dirW_one us ls (parW (ptN l 0) (ptN l 1)) (false, (ptN l 0).2)
  have o1 := dirW_one us ls (parW (ptN l 0) (ptN l 1)) (true, (ptN l (l.length - 1)).1)
  have m0 := le 1
  have m1 := le (l.length - 1)
  refine ⟨l.length / 2, parW (ptN l 0) (ptN l 1), by omega, by omega, fun y => dirW_one us ls _ _, fun x => dirW_one us ls _ _, fun k hk => stH (2 * k) (by omega) (by omega), fun k hk => stV (2 * k + 1) (by omega) (by omega), fun i j hi hj => inj_n q.nd hi (by omega), le, ?_, ?_, ?_⟩
  · rw [show (0 : Nat) + 1 = 1 from rfl] at d0
    omega
  · rw [show 2 * (l.length / 2) - 1 = l.length - 1 by omega]
    omega
  · rw [show 2 * (l.length / 2) - 1 = l.length - 1 by omega]
    omega
theorem Rn.leave {l : List Pt} {n : Nat} {h v : Int → Int} (R : Rn l n h v) : n % 4 = 2 ∧ Turn.sm (fun k => h (ptN l (2 * k)).2 * v (ptN l (2 * k + 1)).1) n = 2 ∧ Turn.sm (fun k => v (ptN l (2 * k + 1)).1 * h (ptN l (2 * k + 2)).2) n = -2 := by
  have c : ptN l (2 * n) = ptN l 0 := by
    rw [← ptN_per l 0, R.len]
    congr 1
    omega
  obtain ⟨a, b, d⟩ := Turn.leave3 (n := n) (X := fun i => (ptN l i).1) (Y := fun i => (ptN l i).2) (h := h) R.two R.hh R.sH (fun k hk => ⟨(R.sV k hk).1, by
    have := (R.sV k hk).2
    have := R.vv (ptN l (2 * k + 1)).1
    omega⟩) (by rw [c]) (by rw [c]) (fun i j hi hj z => R.inj i j hi hj (Prod.ext z.1 z.2)) (fun i _ => R.least i) R.f1 R.l1 R.l2
  refine ⟨a, ?_, ?_⟩
  · rw [← b]
    refine Turn.sm_congr fun k hk => ?_
    have := (R.sV k hk).2
    rw [show (ptN l (2 * k + 2)).2 - (ptN l (2 * k + 1)).2 = v (ptN l (2 * k + 1)).1 by omega]
  · rw [← d]
    refine Turn.sm_congr fun k hk => ?_
    have := (R.sV k hk).2
    rw [show (ptN l (2 * k + 2)).2 - (ptN l (2 * k + 1)).2 = v (ptN l (2 * k + 1)).1 by omega]
/-- four are left -/
theorem round_four {l : List Pt} (hl : l ∈ roundsL us ls) : l.length % 8 = 4 := by
  obtain ⟨n, e, R⟩ := round_rn hl
  have := R.leave.1
  have := R.len
  omega
end
end GD
namespace GD
open PySem L2 G
def prsF (a : Pt) : List Pt → List (Pt × Pt)
  | [] => []
  | b :: r => (a, b) :: prsF b r
def upO (z : Pt × Pt) : Option Pt := if z.1.1 = z.2.1 then some (z.2.1, if z.1.2 < z.2.2 then z.1.2 else z.2.2) else none
def lastP (l : List Pt) : Pt := (l[l.length - 1]?).getD (0, 0)
def prs (l : List Pt) : List (Pt × Pt) := prsF (lastP l) l
def ups (l : List Pt) : List Pt := (prs l).filterMap upO
def U (a b : Pt) : Prop := (b.1 = a.1 ∧ (b.2 = a.2 + 1 ∨ b.2 = a.2 - 1)) ∨ (b.2 = a.2 ∧ (b.1 = a.1 + 1 ∨ b.1 = a.1 - 1))
structure Rg (l : List Pt) : Prop where
  nd : l.Nodup
  three : 3 ≤ l.length
  un : ∀ z ∈ prs l, U z.1 z.2
theorem prsF_len : ∀ (l : List Pt) (a : Pt), (prsF a l).length = l.length
  | [], _ => rfl
  | b :: r, a => by unfold prsF; rw [List.length_cons, List.length_cons, prsF_len r b]
theorem prsF_get : ∀ {l : List Pt} {a u v : Pt} {j : Nat}, (prsF a l)[j]? = some (u, v) → l[j]? = some v ∧ ((j = 0 ∧ u = a) ∨ ∃ i, j = i + 1 ∧ l[i]? = some u)
  | [], _, _, _, _, h => by simp [prsF] at h
  | b :: r, a, u, v, 0, h => by
    simp [prsF] at h
    exact ⟨by simp [h.2], .inl ⟨rfl, h.1.symm⟩⟩
  | b :: r, a, u, v, j + 1, h => by
    have h : (prsF b r)[j]? = some (u, v) := by simpa [prsF] using h
    obtain ⟨h1, h2⟩ := prsF_get h
    refine ⟨by simpa using h1, .inr ⟨j, rfl, ?_⟩⟩
    rcases h2 with ⟨rfl, rfl⟩ | ⟨i, rfl, h3⟩
    · rfl
    · simpa using h3
theorem prs_get {l : List Pt} {j : Nat} {v : Pt} (h : l[j]? = some v) : ∃ u, (prs l)[j]? = some (u, v) ∧ ((j = 0 ∧ l[l.length - 1]? = some u) ∨ ∃ i, j = i + 1 ∧ l[i]? = some u) := by
  have lt := (List.getElem?_eq_some_iff.mp h).1
  have e : (prs l)[j]? = some ((prs l)[j]'(by unfold prs; rw [prsF_len]; exact lt)) := List.getElem?_eq_getElem _
  obtain ⟨⟨u, v'⟩, e⟩ : ∃ z, (prs l)[j]? = some z := ⟨_, e⟩
  obtain ⟨h1, h2⟩ := prsF_get e
  rw [h] at h1
  cases h1
  refine ⟨u, e, ?_⟩
  rcases h2 with ⟨h3, rfl⟩ | h3
  · refine .inl ⟨h3, ?_⟩
    have : l[l.length - 1]? = some (l[l.length - 1]'(by omega)) := List.getElem?_eq_getElem _
    unfold lastP
    rw [this]
    rfl
  · exact .inr h3
/-- where a pair stands -/
theorem prs_ix {l : List Pt} {z : Pt × Pt} (h : z ∈ prs l) : ∃ j, l[j]? = some z.2 ∧ ((j = 0 ∧ l[l.length - 1]? = some z.1) ∨ ∃ i, j = i + 1 ∧ l[i]? = some z.1) := by
  obtain ⟨j, hj⟩ := List.getElem?_of_mem h
  obtain ⟨u, v⟩ := z
  obtain ⟨h1, _⟩ := prsF_get (show (prsF (lastP l) l)[j]? = some (u, v) from hj)
  obtain ⟨u', g1, g2⟩ := prs_get h1
  rw [hj] at g1
  cases g1
  exact ⟨j, h1, g2⟩
theorem prs_in {l : List Pt} {z : Pt × Pt} (h : z ∈ prs l) : z.1 ∈ l ∧ z.2 ∈ l := by
  obtain ⟨j, h1, h2⟩ := prs_ix h
  refine ⟨?_, List.mem_of_getElem? h1⟩
  rcases h2 with ⟨_, h⟩ | ⟨_, _, h⟩ <;> exact List.mem_of_getElem? h
theorem prsF_snd : ∀ (l : List Pt) (a : Pt), (prsF a l).map (·.2) = l
  | [], _ => rfl
  | b :: r, a => by unfold prsF; rw [List.map_cons, prsF_snd r b]
theorem nodup_map_of {α β : Type} (f : α → β) {l : List α} (h : (l.map f).Nodup) : l.Nodup := (List.pairwise_map.mp h).imp fun h e => h (congrArg f e)
theorem ix_inj {l : List Pt} (nd : l.Nodup) {i j : Nat} {a : Pt} (h1 : l[i]? = some a) (h2 : l[j]? = some a) : i = j :=
  (List.getElem?_inj (by exact (List.getElem?_eq_some_iff.mp h1).1) nd).mp (h1.trans h2.symm)
theorem upO_some {z : Pt × Pt} {e : Pt} (h : upO z = some e) : z.1.1 = z.2.1 ∧ e = (z.2.1, if z.1.2 < z.2.2 then z.1.2 else z.2.2) := by
  unfold upO at h
  by_cases c : z.1.1 = z.2.1
  · rw [if_pos c] at h
    exact ⟨c, (Option.some.inj h).symm⟩
  · rw [if_neg c] at h
    cases h
section
variable {l : List Pt}
/-- each upright step is another one -/
theorem ups_nodup (R : Rg l) : (ups l).Nodup := by
  unfold ups
  refine List.pairwise_filterMap.mpr ?_
  have nd : (prs l).Nodup := nodup_map_of (·.2) (by unfold prs; rw [prsF_snd]; exact R.nd)
  refine List.Pairwise.imp_of_mem (fun {z w} hz hw ne e he e' he' ee => ne ?_) nd
  subst ee
  obtain ⟨c1, e1⟩ := upO_some he
  obtain ⟨c2, e2⟩ := upO_some he'
  have u1 := R.un z hz
  have u2 := R.un w hw
  obtain ⟨j, hj, pj⟩ := prs_ix hz
  obtain ⟨k, hk, pk⟩ := prs_ix hw
  obtain ⟨⟨ax, ay⟩, ⟨bx, by_⟩⟩ := z
  obtain ⟨⟨cx, cy_⟩, ⟨dx, dy⟩⟩ := w
  have lj := (List.getElem?_eq_some_iff.mp hj).1
  have lk := (List.getElem?_eq_some_iff.mp hk).1
  have three := R.three
  unfold U at u1 u2
  dsimp only at c1 c2 e1 e2 u1 u2 hj hk pj pk
  subst c1 c2
  rw [e1] at e2
  injection e2 with e3 e4
  subst e3
  by_cases q : by_ = dy
  · subst q
    have := ix_inj R.nd hj hk
    subst this
    have : ay = cy_ := by
      rcases pj with ⟨z1, h1⟩ | ⟨i, z1, h1⟩ <;> rcases pk with ⟨z2, h2⟩ | ⟨i2, z2, h2⟩
      · rw [h1] at h2; cases h2; rfl
      · omega
      · omega
      · have : i = i2 := by omega
        subst this
        rw [h1] at h2; cases h2; rfl
    rw [this]
  · exfalso
    have e5 : ay = dy ∧ cy_ = by_ := by
      clear pj pk hj hk lj lk
      split at e4 <;> split at e4 <;> omega
    obtain ⟨rfl, rfl⟩ := e5
    rcases pj with ⟨z1, h1⟩ | ⟨i, z1, h1⟩ <;> rcases pk with ⟨z2, h2⟩ | ⟨i2, z2, h2⟩
    · have := ix_inj R.nd h1 hk
      have := ix_inj R.nd h2 hj
      omega
    · have := ix_inj R.nd h1 hk
      have := ix_inj R.nd h2 hj
      omega
    · have := ix_inj R.nd h1 hk
      have := ix_inj R.nd h2 hj
      omega
    · have := ix_inj R.nd h1 hk
      have := ix_inj R.nd h2 hj
      omega
/-- how often the walk crosses the row y -/
theorem ups_par (y : Int) : ∀ (l : List Pt) (a : Pt), (∀ z ∈ prsF a l, U z.1 z.2) → ((((prsF a l).filterMap upO).filter fun e => decide (e.2 = y)).length) % 2 = ((if y < a.2 then 1 else 0) + (if y < ((l[l.length - 1]?).getD a).2 then 1 else 0)) % 2
  | [], a, _ => by
    show 0 % 2 = _
    simp
    split <;> rfl
  | b :: r, a, h => by
    have ih := ups_par y r b fun z hz => h z (List.mem_cons_of_mem _ hz)
    have u := h (a, b) List.mem_cons_self
    have el : ((b :: r)[(b :: r).length - 1]?).getD a = (r[r.length - 1]?).getD b := by
      cases r with
      | nil => rfl
      | cons c t =>
        rw [show (b :: c :: t).length - 1 = (c :: t).length - 1 + 1 by simp, List.getElem?_cons_succ]
        have : (c :: t)[(c :: t).length - 1]? = some ((c :: t)[(c :: t).length - 1]'(by simp)) := List.getElem?_eq_getElem _
        rw [this]
        rfl
    rw [el]
    have es : prsF a (b :: r) = (a, b) :: prsF b r := rfl
    rw [es]
    generalize (r[r.length - 1]?).getD b = z at *
    obtain ⟨ax, ay⟩ := a
    obtain ⟨bx, by_⟩ := b
    unfold U at u
    dsimp only at u ih ⊢
    by_cases c : ax = bx
    · have eu : upO ((ax, ay), (bx, by_)) = some (bx, if ay < by_ then ay else by_) := by unfold upO; rw [if_pos c]
      rw [List.filterMap_cons_some eu]
      have fin : ∀ (n m : Nat), n % 2 = ((if y < by_ then 1 else 0) + (if y < z.2 then 1 else 0)) % 2 → m = n + (if (if ay < by_ then ay else by_) = y then 1 else 0) → m % 2 = ((if y < ay then 1 else 0) + (if y < z.2 then 1 else 0)) % 2 := fun n m h1 h2 => by
        clear ih h
        by_cases q1 : y < ay <;> by_cases q2 : y < by_ <;> by_cases q3 : y < z.2 <;> by_cases q4 : ay < by_
        all_goals
          simp only [q1, q2, q3, q4, if_true, if_false] at h1 h2 ⊢
          first
            | omega
            | (rw [if_pos (by omega)] at h2; omega)
            | (rw [if_neg (by omega)] at h2; omega)
      refine fin _ _ ih ?_
      by_cases q : (if ay < by_ then ay else by_) = y
      · rw [List.filter_cons_of_pos (by simpa using q), List.length_cons, if_pos q]
      · rw [List.filter_cons_of_neg (by simpa using q), if_neg q]
        rfl
    · have eu : upO ((ax, ay), (bx, by_)) = none := by unfold upO; rw [if_neg c]
      rw [List.filterMap_cons_none eu, ih]
      have : ay = by_ := by omega
      rw [this]
/-- the places of a row -/
def plc (l : List Pt) (y : Int) : List Int := ((ups l).filter fun e => decide (e.2 = y)).map (·.1)
theorem plc_even (R : Rg l) (y : Int) : (plc l y).length % 2 = 0 := by
  have h := ups_par y l (lastP l) R.un
  have e : (l[l.length - 1]?).getD (lastP l) = lastP l := by
    unfold lastP
    have : l[l.length - 1]? = some (l[l.length - 1]'(by have := R.three; omega)) := List.getElem?_eq_getElem _
    rw [this]
    rfl
  rw [e] at h
  unfold plc ups prs
  rw [List.length_map, h]
  split <;> rfl
theorem plc_mem {x y : Int} : x ∈ plc l y ↔ (x, y) ∈ ups l := by
  unfold plc
  rw [List.mem_map]
  constructor
  · rintro ⟨⟨a, b⟩, h, rfl⟩
    obtain ⟨h1, h2⟩ := List.mem_filter.mp h
    have h2 := of_decide_eq_true h2
    dsimp only at h2
    subst h2
    exact h1
  · intro h
    exact ⟨(x, y), List.mem_filter.mpr ⟨h, decide_eq_true rfl⟩, rfl⟩
theorem plc_nodup (R : Rg l) (y : Int) : (plc l y).Nodup := by
  unfold plc
  refine List.pairwise_map.mpr (List.Pairwise.imp_of_mem (fun {a b} ha hb ne e => ne ?_) ((ups_nodup R).filter _))
  have h1 := of_decide_eq_true (List.mem_filter.mp ha).2
  have h2 := of_decide_eq_true (List.mem_filter.mp hb).2
  exact Prod.ext e (h1.trans h2.symm)
/-- an upright step lies between two points -/
theorem ups_at (R : Rg l) {x y : Int} (h : (x, y) ∈ ups l) : (x, y) ∈ l ∧ (x, y + 1) ∈ l := by
  obtain ⟨z, hz, e⟩ := List.mem_filterMap.mp h
  obtain ⟨c, e⟩ := upO_some e
  have u := R.un z hz
  obtain ⟨i1, i2⟩ := prs_in hz
  obtain ⟨⟨ax, ay⟩, ⟨bx, by_⟩⟩ := z
  unfold U at u
  dsimp only at c e u i1 i2
  subst c
  injection e with e1 e2
  subst e1
  split at e2
  · have : by_ = y + 1 := by omega
    rw [← this, e2]
    exact ⟨i1, i2⟩
  · have : ay = y + 1 := by omega
    rw [← this, e2]
    exact ⟨i2, i1⟩
end
def pairsI : List Int → List (Int × Int)
  | a :: b :: r => (a, b) :: pairsI r
  | _ => []
def cntI (x : Int) (s : List Int) : Nat := (s.filter fun z => decide (z ≤ x)).length
theorem cnt_zero {x : Int} {s : List Int} (h : ∀ z ∈ s, x < z) : cntI x s = 0 := by
  unfold cntI
  rw [List.length_eq_zero_iff, List.filter_eq_nil_iff]
  intro z hz
  have := h z hz
  simpa using this
theorem pairs_in : ∀ {s : List Int} {p : Int × Int}, p ∈ pairsI s → p.1 ∈ s ∧ p.2 ∈ s
  | [], _, h => by cases h
  | [_], _, h => by cases h
  | a :: b :: r, p, h => by
    rcases List.mem_cons.mp h with rfl | h
    · exact ⟨List.mem_cons_self, List.mem_cons_of_mem _ List.mem_cons_self⟩
    · obtain ⟨h1, h2⟩ := pairs_in h
      exact ⟨List.mem_cons_of_mem _ (List.mem_cons_of_mem _ h1), List.mem_cons_of_mem _ (List.mem_cons_of_mem _ h2)⟩
theorem in_row (x : Int) : ∀ {s : List Int}, s.Pairwise (fun a b => a < b) → s.length % 2 = 0 → ((∃ p ∈ pairsI s, p.1 ≤ x ∧ x < p.2) ↔ cntI x s % 2 = 1)
  | [], _, _ => by simp [pairsI, cntI]
  | [a], _, h => by simp at h
  | a :: b :: r, s, h => by
    obtain ⟨s1, s2⟩ := List.pairwise_cons.mp s
    obtain ⟨s3, s4⟩ := List.pairwise_cons.mp s2
    have ab := s1 b List.mem_cons_self
    have ih := in_row x s4 (by simp at h; omega)
    have ex : (∃ p ∈ pairsI (a :: b :: r), p.1 ≤ x ∧ x < p.2) ↔ (a ≤ x ∧ x < b) ∨ ∃ p ∈ pairsI r, p.1 ≤ x ∧ x < p.2 := by
      show (∃ p ∈ (a, b) :: pairsI r, p.1 ≤ x ∧ x < p.2) ↔ _
      simp
    rw [ex, ih]
    by_cases c1 : a ≤ x
    · by_cases c2 : b ≤ x
      · have : cntI x (a :: b :: r) = cntI x r + 2 := by unfold cntI; simp [c1, c2]
        rw [this]
        constructor
        · rintro (h | h) <;> omega
        · intro h
          exact .inr (by omega)
      · have z : cntI x r = 0 := cnt_zero fun z hz => by have := s3 z hz; omega
        have : cntI x (a :: b :: r) = 1 := by
          have e : cntI x (a :: b :: r) = cntI x r + 1 := by unfold cntI; simp [c1, c2]
          omega
        rw [this]
        exact ⟨fun _ => rfl, fun _ => .inl ⟨c1, by omega⟩⟩
    · have z : cntI x r = 0 := cnt_zero fun z hz => by have := s3 z hz; omega
      have c2 : ¬ b ≤ x := by omega
      have : cntI x (a :: b :: r) = 0 := by
        have e : cntI x (a :: b :: r) = cntI x r := by unfold cntI; simp [c1, c2]
        omega
      rw [this, z]
      constructor
      · rintro (h | h) <;> omega
      · intro h; omega
theorem cnt_step (x : Int) : ∀ {s : List Int}, s.Nodup → cntI x s = cntI (x - 1) s + if x ∈ s then 1 else 0
  | [], _ => rfl
  | a :: r, nd => by
    obtain ⟨n1, n2⟩ := List.nodup_cons.mp nd
    have ih := cnt_step x n2
    have e : ∀ z : Int, cntI z (a :: r) = cntI z r + if a ≤ z then 1 else 0 := fun z => by
      unfold cntI
      by_cases c : a ≤ z <;> simp [c]
    rw [e, e, ih]
    by_cases c : x = a
    · subst c
      rw [if_neg n1, if_pos List.mem_cons_self, if_pos (Int.le_refl _), if_neg (by omega)]
    · have m : x ∈ a :: r ↔ x ∈ r := by simp [c]
      have q : (if x ∈ a :: r then 1 else 0) = (if x ∈ r then 1 else 0 : Nat) := by simp [c]
      have q2 : (if a ≤ x then 1 else 0 : Nat) = if a ≤ x - 1 then 1 else 0 := by
        by_cases d : a ≤ x
        · rw [if_pos d, if_pos (by omega)]
        · rw [if_neg d, if_neg (by omega)]
      rw [q, q2]
      omega
theorem cnt_perm {x : Int} {s t : List Int} (h : s.Perm t) : cntI x s = cntI x t := (h.filter _).length_eq
/-- lo, lo + 1, .. below hi -/
def rngI (lo hi : Int) : List Int := (List.range (hi - lo).toNat).map fun k => lo + (k : Nat)
theorem rngI_mem {lo hi x : Int} : x ∈ rngI lo hi ↔ lo ≤ x ∧ x < hi := by
  unfold rngI
  rw [List.mem_map]
  constructor
  · rintro ⟨k, hk, rfl⟩
    have := List.mem_range.mp hk
    omega
  · rintro ⟨h1, h2⟩
    exact ⟨(x - lo).toNat, List.mem_range.mpr (by omega), by omega⟩
theorem rngI_lt (lo hi : Int) : (rngI lo hi).Pairwise fun a b => a < b := by
  unfold rngI
  refine List.pairwise_map.mpr (List.pairwise_lt_range.imp fun h => ?_)
  omega
theorem rngI_len (lo hi : Int) : (rngI lo hi).length = (hi - lo).toNat := by simp [rngI]
def rowX (s : List Int) : List Int := ((pairsI s).map fun p => rngI p.1 p.2).flatten
theorem rowX_mem {s : List Int} {x : Int} : x ∈ rowX s ↔ ∃ p ∈ pairsI s, p.1 ≤ x ∧ x < p.2 := by
  unfold rowX
  rw [List.mem_flatten]
  constructor
  · rintro ⟨l, hl, hx⟩
    obtain ⟨p, hp, rfl⟩ := List.mem_map.mp hl
    exact ⟨p, hp, rngI_mem.mp hx⟩
  · rintro ⟨p, hp, h⟩
    exact ⟨_, List.mem_map.mpr ⟨p, hp, rfl⟩, rngI_mem.mpr h⟩
theorem rowX_lt : ∀ {s : List Int}, s.Pairwise (fun a b => a < b) → (rowX s).Pairwise fun a b => a < b
  | [], _ => List.Pairwise.nil
  | [_], _ => List.Pairwise.nil
  | a :: b :: r, s => by
    obtain ⟨s1, s2⟩ := List.pairwise_cons.mp s
    obtain ⟨s3, s4⟩ := List.pairwise_cons.mp s2
    have e : rowX (a :: b :: r) = rngI a b ++ rowX r := by
      show ((rngI a b) :: (pairsI r).map fun p => rngI p.1 p.2).flatten = _
      rw [List.flatten_cons]
      rfl
    rw [e, List.pairwise_append]
    refine ⟨rngI_lt a b, rowX_lt s4, fun u hu v hv => ?_⟩
    obtain ⟨p, hp, h1, _⟩ := rowX_mem.mp hv
    have := s3 _ (pairs_in hp).1
    have := rngI_mem.mp hu
    omega
end GD
namespace Bf
variable {α : Type} [DecidableEq α]
/-- what is found: the point, how far, from where -/
structure E (α : Type) where
  k : α
  d : Nat
  p : α
def add (c : E α) (es : List (E α)) (o : α) : List (E α) := if o ∈ es.map (·.k) then es else es ++ [⟨o, c.d + 1, c.k⟩]
def turn (N : α → List α) (es : List (E α)) (n : Nat) : List (E α) := match es[n]? with
  | some c => (N c.k).foldl (add c) es
  | none => es
def run (N : α → List α) (s : α) : Nat → List (E α)
  | 0 => [⟨s, 0, s⟩]
  | n + 1 => turn N (run N s n) n
structure Inv (N : α → List α) (s : α) (n : Nat) (es : List (E α)) : Prop where
  nd : (es.map (·.k)).Nodup
  h0 : es[0]? = some ⟨s, 0, s⟩
  par : ∀ (i : Nat) (e : E α), es[i]? = some e → i = 0 ∨ ∃ (j : Nat) (c : E α), j < i ∧ es[j]? = some c ∧ e.k ∈ N c.k ∧ e.d = c.d + 1 ∧ e.p = c.k
  cl : ∀ (j : Nat) (c : E α), j < n → es[j]? = some c → ∀ o ∈ N c.k, ∃ e ∈ es, e.k = o ∧ e.d ≤ c.d + 1
  mono : ∀ (i j : Nat) (e f : E α), i ≤ j → es[i]? = some e → es[j]? = some f → e.d ≤ f.d
  bnd : ∀ c : E α, es[n]? = some c → ∀ e ∈ es, e.d ≤ c.d + 1
theorem app_get {es : List (E α)} {x e : E α} {i : Nat} (h : (es ++ [x])[i]? = some e) : es[i]? = some e ∨ (i = es.length ∧ e = x) := by
  by_cases q : i < es.length
  · rw [List.getElem?_append_left q] at h
    exact .inl h
  · rw [List.getElem?_append_right (by omega)] at h
    have : i = es.length := by
      have := (List.getElem?_eq_some_iff.mp h).1
      simp at this
      omega
    subst this
    rw [Nat.sub_self] at h
    exact .inr ⟨rfl, (Option.some.inj h).symm⟩
/-- the state amid the turn of c = es[n]: those of D are done -/
structure Mid (N : α → List α) (s : α) (n : Nat) (c : E α) (D : List α) (es : List (E α)) : Prop where
  nd : (es.map (·.k)).Nodup
  h0 : es[0]? = some ⟨s, 0, s⟩
  at_ : es[n]? = some c
  par : ∀ (i : Nat) (e : E α), es[i]? = some e → i = 0 ∨ ∃ (j : Nat) (c : E α), j < i ∧ es[j]? = some c ∧ e.k ∈ N c.k ∧ e.d = c.d + 1 ∧ e.p = c.k
  cl : ∀ (j : Nat) (b : E α), j < n → es[j]? = some b → ∀ o ∈ N b.k, ∃ e ∈ es, e.k = o ∧ e.d ≤ b.d + 1
  dn : ∀ o ∈ D, ∃ e ∈ es, e.k = o ∧ e.d ≤ c.d + 1
  mono : ∀ (i j : Nat) (e f : E α), i ≤ j → es[i]? = some e → es[j]? = some f → e.d ≤ f.d
  bnd : ∀ e ∈ es, e.d ≤ c.d + 1
theorem Mid.add {N : α → List α} {s : α} {n : Nat} {c : E α} {D : List α} {es : List (E α)} (I : Mid N s n c D es) {o : α} (ho : o ∈ N c.k) : Mid N s n c (D ++ [o]) (add c es o) := by
  unfold Bf.add
  by_cases m : o ∈ es.map (·.k)
  · rw [if_pos m]
    refine ⟨I.nd, I.h0, I.at_, I.par, I.cl, fun z hz => ?_, I.mono, I.bnd⟩
    rcases List.mem_append.mp hz with hz | hz
    · exact I.dn z hz
    · rw [List.mem_singleton.mp hz]
      obtain ⟨e, he, ek⟩ := List.mem_map.mp m
      exact ⟨e, he, ek, I.bnd e he⟩
  · rw [if_neg m]
    have old : ∀ {i : Nat} {e : E α}, es[i]? = some e → (es ++ [⟨o, c.d + 1, c.k⟩])[i]? = some e := fun {i e} h => by
      rw [List.getElem?_append_left (List.getElem?_eq_some_iff.mp h).1]
      exact h
    have lt : n < es.length := (List.getElem?_eq_some_iff.mp I.at_).1
    refine ⟨?_, old I.h0, old I.at_, fun i e h => ?_, fun j b hj h z hz => ?_, fun z hz => ?_, fun i j e f hij h1 h2 => ?_, fun e he => ?_⟩
    · rw [List.map_append, List.nodup_append]
      refine ⟨I.nd, by simp, fun a ha b hb e => ?_⟩
      simp at hb
      subst hb
      subst e
      exact m ha
    · rcases app_get h with h | ⟨rfl, rfl⟩
      · rcases I.par i e h with z | ⟨j, b, h1, h2, h3⟩
        · exact .inl z
        · exact .inr ⟨j, b, h1, old h2, h3⟩
      · exact .inr ⟨n, c, lt, old I.at_, ho, rfl, rfl⟩
    · rcases app_get h with h | ⟨rfl, rfl⟩
      · obtain ⟨e, he, z1⟩ := I.cl j b hj h z hz
        exact ⟨e, List.mem_append_left _ he, z1⟩
      · omega
    · rcases List.mem_append.mp hz with hz | hz
      · obtain ⟨e, he, z1⟩ := I.dn z hz
        exact ⟨e, List.mem_append_left _ he, z1⟩
      · rw [List.mem_singleton.mp hz]
        exact ⟨⟨o, c.d + 1, c.k⟩, by simp, rfl, Nat.le_refl _⟩
    · rcases app_get h2 with h2 | ⟨rfl, rfl⟩
      · rcases app_get h1 with h1 | ⟨rfl, rfl⟩
        · exact I.mono i j e f hij h1 h2
        · have := (List.getElem?_eq_some_iff.mp h2).1
          omega
      · rcases app_get h1 with h1 | ⟨rfl, rfl⟩
        · exact I.bnd e (List.mem_of_getElem? h1)
        · exact Nat.le_refl _
    · rcases List.mem_append.mp he with he | he
      · exact I.bnd e he
      · rw [List.mem_singleton.mp he]
        exact Nat.le_refl _
theorem Mid.fold {N : α → List α} {s : α} {n : Nat} {c : E α} : ∀ (L : List α) {D : List α} {es : List (E α)}, Mid N s n c D es → (∀ o ∈ L, o ∈ N c.k) → Mid N s n c (D ++ L) (L.foldl (Bf.add c) es)
  | [], D, es, I, _ => by simpa using I
  | o :: L, D, es, I, h => by
    have := Mid.fold L (I.add (h o List.mem_cons_self)) fun z hz => h z (List.mem_cons_of_mem _ hz)
    rw [List.append_assoc] at this
    exact this
theorem Inv.turn {N : α → List α} {s : α} {n : Nat} {es : List (E α)} (I : Inv N s n es) : Inv N s (n + 1) (turn N es n) := by
  unfold Bf.turn
  cases q : es[n]? with
  | none =>
    have hl := List.getElem?_eq_none_iff.mp q
    refine ⟨I.nd, I.h0, I.par, fun j c hj h => ?_, I.mono, fun c h => ?_⟩
    · have h2 : j < es.length := (List.getElem?_eq_some_iff.mp h).1
      exact I.cl j c (by omega) h
    · have h2 : n + 1 < es.length := (List.getElem?_eq_some_iff.mp h).1
      omega
  | some c =>
    have M := Mid.fold (N c.k) (D := []) (es := es) ⟨I.nd, I.h0, q, I.par, I.cl, (fun _ h => by cases h), I.mono, I.bnd c q⟩ fun _ h => h
    rw [List.nil_append] at M
    refine ⟨M.nd, M.h0, M.par, fun j b hj h o ho => ?_, M.mono, fun b h e he => ?_⟩
    · by_cases e : j = n
      · subst e
        rw [M.at_] at h
        cases h
        exact M.dn o ho
      · exact M.cl j b (by omega) h o ho
    · have h1 := M.mono n (n + 1) c b (by omega) M.at_ h
      have h2 := M.bnd e he
      omega
theorem run_inv (N : α → List α) (s : α) : ∀ n, Inv N s n (run N s n)
  | 0 => by
    refine ⟨by simp [run], rfl, fun i e h => ?_, fun j c hj _ => by omega, fun i j e f hij h1 h2 => ?_, fun c h e he => ?_⟩
    · cases i with
      | zero => exact .inl rfl
      | succ i => simp [run] at h
    · have i0 : i = 0 := by
        have := (List.getElem?_eq_some_iff.mp h1).1
        simp [run] at this
        exact this
      have j0 : j = 0 := by
        have := (List.getElem?_eq_some_iff.mp h2).1
        simp [run] at this
        exact this
      subst i0 j0
      rw [h1] at h2
      cases h2
      exact Nat.le_refl _
    · simp [run] at h he
      subst he
      exact Nat.zero_le _
  | n + 1 => (run_inv N s n).turn
inductive Wk (N : α → List α) : Nat → α → α → Prop
  | nil (a : α) : Wk N 0 a a
  | snoc {n : Nat} {a b c : α} : Wk N n a b → c ∈ N b → Wk N (n + 1) a c
theorem Wk.cons {N : α → List α} {a b : α} (h : b ∈ N a) : ∀ {n : Nat} {c : α}, Wk N n b c → Wk N (n + 1) a c
  | _, _, .nil _ => .snoc (.nil a) h
  | _, _, .snoc w hc => .snoc (Wk.cons h w) hc
theorem Wk.sym {N : α → List α} {S : α → Prop} (sy : ∀ a, S a → ∀ b ∈ N a, S b ∧ a ∈ N b) : ∀ {n : Nat} {a b : α}, S a → Wk N n a b → S b ∧ Wk N n b a
  | _, _, _, ha, .nil _ => ⟨ha, .nil _⟩
  | _, _, _, ha, .snoc (b := b) w hc => by
    obtain ⟨h1, h2⟩ := Wk.sym sy ha w
    obtain ⟨h3, h4⟩ := sy b h1 _ hc
    exact ⟨h3, Wk.cons h4 h2⟩
theorem Wk.mono {N M : α → List α} (h : ∀ a, ∀ b ∈ N a, b ∈ M a) : ∀ {n : Nat} {a b : α}, Wk N n a b → Wk M n a b
  | _, _, _, .nil _ => .nil _
  | _, _, _, .snoc w hc => .snoc (Wk.mono h w) (h _ _ hc)
section
variable {N : α → List α} {s : α} {n : Nat} {es : List (E α)}
/-- within every closed part -/
theorem Inv.within (I : Inv N s n es) {S : α → Prop} (hs : S s) (cl : ∀ a, S a → ∀ b ∈ N a, S b) : ∀ e ∈ es, S e.k := by
  have key : ∀ (i : Nat) (e : E α), es[i]? = some e → S e.k := by
    intro i
    induction i using Nat.strongRecOn with
    | ind i ih =>
      intro e h
      rcases I.par i e h with z | ⟨j, c, h1, h2, h3, _⟩
      · subst z
        rw [I.h0] at h
        cases h
        exact hs
      · exact cl _ (ih j h1 c h2) _ h3
  intro e he
  obtain ⟨i, hi⟩ := List.getElem?_of_mem he
  exact key i e hi
end
/-- the flood ends -/
theorem run_ends {N : α → List α} {s : α} {S : α → Prop} {L : List α} (hs : S s) (cl : ∀ a, S a → ∀ b ∈ N a, S b) (fin : ∀ a, S a → a ∈ L) (n : Nat) : (run N s n).length ≤ L.length := by
  have I := run_inv N s n
  have := Orb.nodup_le I.nd (L := L) fun z hz => by
    obtain ⟨e, he, rfl⟩ := List.mem_map.mp hz
    exact fin _ (I.within hs cl e he)
  rwa [List.length_map] at this
end Bf
namespace GD
open PySem L2 G
end GD
namespace GD
open PySem L2 G
end GD
namespace GD
open PySem L2 G
end GD
namespace GD
open PySem L2 G
end GD
namespace GD
open PySem L2 G
end GD
namespace GD
open PySem L2 G
end GD
namespace GD
open PySem L2 G
theorem sortP_lt {ps : List Pt} (nd : ps.Nodup) : (sortP ps).Pairwise fun a b => ltP a b = true := by
  have h := List.pairwise_mergeSort (le := leP) (fun a b c h1 h2 => by
    unfold leP at *
    have h1 := of_decide_eq_true h1
    have h2 := of_decide_eq_true h2
    exact decide_eq_true (by omega)) (fun a b => by
    unfold leP
    rw [Bool.or_eq_true, decide_eq_true_eq, decide_eq_true_eq]
    omega) ps
  have n2 : (sortP ps).Nodup := (sortP_perm ps).nodup_iff.mpr nd
  refine List.Pairwise.imp (R := fun a b => leP a b = true ∧ a ≠ b) (fun {a b} ⟨h1, h2⟩ => ?_) (List.Pairwise.and h n2)
  rcases ltP_tri a b with l | l | l
  · exact l
  · exact absurd l h2
  · exfalso
    unfold leP at h1
    have h1 := of_decide_eq_true h1
    rw [ltP_iff] at l
    omega
theorem sortP_same {ps qs : List Pt} (np : ps.Nodup) (nq : qs.Nodup) (h : ∀ z, z ∈ ps ↔ z ∈ qs) : sortP ps = sortP qs :=
  sorted_eq ltP_as (sortP_lt np) (sortP_lt nq) fun z => by rw [(sortP_perm ps).mem_iff, (sortP_perm qs).mem_iff, h]
end GD
namespace GD
open PySem L2 G
abbrev As := List (Int × List Int)
def addA (y x : Int) : As → As
  | [] => [(y, [x])]
  | a :: A => if a.1 = y then (a.1, a.2 ++ [x]) :: A else a :: addA y x A
def keysA (A : As) : List Key := A.map fun a => .inl a.1
def valsA (A : As) : List D := A.map fun a => .lst (a.2.map D.int)
theorem addA_pos {y x : Int} : ∀ {A : As} {p : Nat}, posK (.inl y : Key) (keysA A) = some p → ∃ l : List Int, (valsA A)[p]? = some (.lst (l.map D.int)) ∧ (y, l) ∈ A ∧ keysA (addA y x A) = keysA A ∧ valsA (addA y x A) = (valsA A).set p (.lst (l.map D.int ++ [.int x]))
  | [], _, h => by cases h
  | a :: A, p, h => by
    have h : (if (.inl a.1 : Key) = .inl y then some 0 else (posK (.inl y : Key) (keysA A)).map (· + 1)) = some p := h
    by_cases c : a.1 = y
    · rw [if_pos (by rw [c])] at h
      cases h
      refine ⟨a.2, rfl, by rw [← c]; exact List.mem_cons_self, ?_, ?_⟩
      · unfold addA
        rw [if_pos c]
        rfl
      · unfold addA
        rw [if_pos c]
        show (.lst ((a.2 ++ [x]).map D.int) :: valsA A : List D) = _
        rw [List.map_append]
        rfl
    · rw [if_neg (fun z => c (by injection z))] at h
      cases q : posK (.inl y : Key) (keysA A) with
      | none => rw [q] at h; cases h
      | some r =>
        rw [q] at h
        cases h
        obtain ⟨l, h1, hm, h2, h3⟩ := addA_pos (x := x) q
        refine ⟨l, by show (_ :: valsA A)[r + 1]? = _; rw [List.getElem?_cons_succ]; exact h1, List.mem_cons_of_mem _ hm, ?_, ?_⟩
        · unfold addA
          rw [if_neg c]
          show (.inl a.1 :: keysA (addA y x A) : List Key) = _
          rw [h2]
          rfl
        · unfold addA
          rw [if_neg c]
          show (.lst (a.2.map D.int) :: valsA (addA y x A) : List D) = _
          rw [h3]
          rfl
theorem addA_new {y x : Int} : ∀ {A : As}, posK (.inl y : Key) (keysA A) = none → keysA (addA y x A) = keysA A ++ [.inl y] ∧ valsA (addA y x A) = valsA A ++ [.lst [.int x]]
  | [], _ => ⟨rfl, rfl⟩
  | a :: A, h => by
    have h : (if (.inl a.1 : Key) = .inl y then some 0 else (posK (.inl y : Key) (keysA A)).map (· + 1)) = none := h
    by_cases c : a.1 = y
    · rw [if_pos (by rw [c])] at h
      cases h
    · rw [if_neg (fun z => c (by injection z))] at h
      obtain ⟨h1, h2⟩ := addA_new (x := x) (A := A) (by
        cases q : posK (.inl y : Key) (keysA A) with
        | none => rfl
        | some r => rw [q] at h; cases h)
      unfold addA
      rw [if_neg c]
      exact ⟨by show (.inl a.1 :: keysA (addA y x A) : List Key) = _; rw [h1]; rfl, by show (.lst (a.2.map D.int) :: valsA (addA y x A) : List D) = _; rw [h2]; rfl⟩
/-- the places at a row -/
def lookA (y : Int) : As → List Int
  | [] => []
  | a :: A => if a.1 = y then a.2 else lookA y A
theorem look_add (y x z : Int) : ∀ A : As, lookA z (addA y x A) = if y = z then lookA z A ++ [x] else lookA z A
  | [] => by
    unfold addA lookA lookA
    by_cases c : y = z
    · rw [if_pos c, if_pos c]
      try rfl
    · rw [if_neg c, if_neg c]
      try (unfold lookA; rfl)
  | a :: A => by
    have ih := look_add y x z A
    unfold addA
    by_cases c : a.1 = y
    · rw [if_pos c]
      unfold lookA
      dsimp only
      by_cases d : y = z
      · rw [if_pos (c.trans d), if_pos d, if_pos (c.trans d)]
      · rw [if_neg (fun e => d (c.symm.trans e)), if_neg d, if_neg (fun e => d (c.symm.trans e))]
    · rw [if_neg c]
      unfold lookA
      by_cases d : a.1 = z
      · rw [if_pos d, if_pos d, if_neg (fun e => c (d.trans e.symm))]
      · rw [if_neg d, if_neg d, ih]
theorem lookA_in {A : As} {a : Int × List Int} (nd : (A.map (·.1)).Nodup) (h : a ∈ A) : lookA a.1 A = a.2 := by
  induction A with
  | nil => cases h
  | cons b A ih =>
    obtain ⟨n1, n2⟩ := List.nodup_cons.mp nd
    unfold lookA
    rcases List.mem_cons.mp h with rfl | h
    · rw [if_pos rfl]
    · rw [if_neg fun e => n1 (by show b.1 ∈ _; rw [e]; exact List.mem_map_of_mem (f := (·.1)) h)]
      exact ih n2 h
theorem add_keys {y x z : Int} : ∀ {A : As}, z ∈ (addA y x A).map (·.1) ↔ z = y ∨ z ∈ A.map (·.1)
  | [] => by simp [addA]
  | a :: A => by
    have ih := add_keys (y := y) (x := x) (z := z) (A := A)
    unfold addA
    by_cases c : a.1 = y
    · rw [if_pos c]
      simp only [List.map_cons, List.mem_cons]
      constructor
      · rintro (h | h)
        · exact .inl (h.trans c)
        · exact .inr (.inr h)
      · rintro (h | h | h)
        · exact .inl (h.trans c.symm)
        · exact .inl h
        · exact .inr h
    · rw [if_neg c]
      simp only [List.map_cons, List.mem_cons, ih]
      constructor
      · rintro (h | h | h)
        · exact .inr (.inl h)
        · exact .inl h
        · exact .inr (.inr h)
      · rintro (h | h | h)
        · exact .inr (.inl h)
        · exact .inl h
        · exact .inr (.inr h)
theorem add_nodup {y x : Int} : ∀ {A : As}, (A.map (·.1)).Nodup → ((addA y x A).map (·.1)).Nodup
  | [], _ => by simp [addA]
  | a :: A, nd => by
    obtain ⟨n1, n2⟩ := List.nodup_cons.mp nd
    unfold addA
    by_cases c : a.1 = y
    · rw [if_pos c]
      exact nd
    · rw [if_neg c]
      refine List.nodup_cons.mpr ⟨fun h => ?_, add_nodup n2⟩
      rcases add_keys.mp h with h | h
      · exact c h
      · exact n1 h
theorem add_size {y x : Int} {n : Nat} : ∀ {A : As}, (∀ a ∈ A, a.2.length ≤ n) → (addA y x A).length ≤ A.length + 1 ∧ ∀ a ∈ addA y x A, a.2.length ≤ n + 1
  | [], _ => ⟨by simp [addA], fun a h => by simp [addA] at h; subst h; simp⟩
  | b :: A, h => by
    obtain ⟨h1, h2⟩ := add_size (y := y) (x := x) (A := A) fun a ha => h a (List.mem_cons_of_mem _ ha)
    have hb := h b List.mem_cons_self
    unfold addA
    by_cases c : b.1 = y
    · rw [if_pos c]
      refine ⟨by simp, fun a ha => ?_⟩
      rcases List.mem_cons.mp ha with rfl | ha
      · simp; exact hb
      · have := h a (List.mem_cons_of_mem _ ha); omega
    · rw [if_neg c]
      refine ⟨by simp; exact h1, fun a ha => ?_⟩
      rcases List.mem_cons.mp ha with rfl | ha
      · omega
      · exact h2 a ha
def stpA (A : As) (e : Pt) : As := addA e.2 e.1 A
def byRows (l : List Pt) : As := (ups l).foldl stpA []
structure AInv (E : List Pt) (A : As) : Prop where
  nd : (A.map (·.1)).Nodup
  look : ∀ y, lookA y A = (E.filter fun e => decide (e.2 = y)).map (·.1)
  keys : ∀ y, y ∈ A.map (·.1) ↔ ∃ e ∈ E, e.2 = y
theorem AInv.step {E : List Pt} {A : As} (I : AInv E A) (e : Pt) : AInv (E ++ [e]) (stpA A e) := by
  refine ⟨add_nodup I.nd, fun y => ?_, fun y => ?_⟩
  · unfold stpA
    rw [look_add, I.look, List.filter_append, List.map_append]
    by_cases c : e.2 = y
    · rw [if_pos c, List.filter_cons_of_pos (by simpa using c)]
      rfl
    · rw [if_neg c, List.filter_cons_of_neg (by simpa using c)]
      simp
  · unfold stpA
    rw [add_keys, I.keys]
    constructor
    · rintro (h | ⟨z, hz, h⟩)
      · exact ⟨e, by simp, h.symm⟩
      · exact ⟨z, List.mem_append_left _ hz, h⟩
    · rintro ⟨z, hz, h⟩
      rcases List.mem_append.mp hz with hz | hz
      · exact .inr ⟨z, hz, h⟩
      · rw [List.mem_singleton.mp hz] at h
        exact .inl h.symm
theorem AInv.fold {E : List Pt} : ∀ {L : List Pt} {A : As}, AInv E A → AInv (E ++ L) (L.foldl stpA A)
  | [], _, I => by simpa using I
  | e :: L, A, I => by
    have := AInv.fold (L := L) (I.step e)
    rw [List.append_assoc] at this
    exact this
theorem byRows_inv (l : List Pt) : AInv (ups l) (byRows l) := by
  have := AInv.fold (E := []) (L := ups l) (A := []) ⟨by simp, fun _ => rfl, fun y => by simp⟩
  rwa [List.nil_append] at this
def aft (A : As) (z : Pt × Pt) : As := match upO z with
  | some e => stpA A e
  | none => A
theorem aft_fold (z : List (Pt × Pt)) : ∀ A : As, z.foldl aft A = (z.filterMap upO).foldl stpA A := by
  induction z with
  | nil => intro A; rfl
  | cons a z ih =>
    intro A
    rw [List.foldl_cons, ih]
    unfold aft
    cases q : upO a with
    | none => rw [List.filterMap_cons_none q]
    | some e => rw [List.filterMap_cons_some q]; rfl
abbrev dA (A : As) : Slot := .pv (shn 2) (.dK (keysA A) (valsA A))
theorem sdapp {A : As} {y x : Int} {fk g : ES} {L d2 d3 d4 d5 : Slot} (hl : A.length < SZ) (hs : ∀ a ∈ A, a.2.length < SZ) (hk : fk [L, dA A, d2, d3, d4, d5] = .ok (.int y, .sh)) (hg : ∀ A : As, g [L, dA A, d2, d3, d4, d5] = .ok (.int x, .sh)) (hg2 : ∀ d, g [L, .pv (shn 2) d, d2, d3, d4, d5] = .ok (.int x, .sh)) :
    sSdApp 1 fk g [L, dA A, d2, d3, d4, d5] = .nx [L, dA (addA y x A), d2, d3, d4, d5] := by
  have kl : (keysA A).length = A.length := by simp [keysA]
  have vl : (valsA A).length = A.length := by simp [valsA]
  show sWith (fk [L, dA A, d2, d3, d4, d5]) _ _ = _
  rw [hk]
  show (if (keysA A).length < SZ then _ else _) = _
  rw [if_pos (by rw [kl]; exact hl)]
  unfold sdP
  cases px : posK (.inl y : Key) (keysA A) with
  | some p =>
    obtain ⟨l, h1, hm, h2, h3⟩ := addA_pos (x := x) px
    dsimp only
    rw [h1]
    show sWith (g [L, .pv (shn 2) (.dK (keysA A) (valsA A)), d2, d3, d4, d5]) _ _ = _
    rw [hg2]
    show (match app2 (fun _ => shn 0) (l.map D.int) (.int x) with
      | some es' => Fl.nx [L, .pv (shn 2) (.dK (keysA A) ((valsA A).set p (.lst es'))), d2, d3, d4, d5]
      | none => Fl.no) = _
    have a2 : app2 (fun _ => shn 0) (l.map D.int) (.int x) = some (l.map D.int ++ [.int x]) := by
      show (if (l.map D.int).length < SZ then some _ else none) = _
      rw [if_pos (by rw [List.length_map]; exact hs _ hm)]
    rw [a2]
    show Fl.nx [L, .pv (shn 2) (.dK (keysA A) ((valsA A).set p (.lst (l.map D.int ++ [.int x])))), d2, d3, d4, d5] = _
    rw [dA, h2, h3]
  | none =>
    obtain ⟨h2, h3⟩ := addA_new (x := x) px
    dsimp only
    show sWith (g [L, .pv (shn 2) (.dK (keysA A ++ [.inl y]) (valsA A ++ [.lst []])), d2, d3, d4, d5]) _ _ = _
    rw [hg2]
    show Fl.nx [L, .pv (shn 2) (.dK (keysA A ++ [.inl y]) ((valsA A ++ [D.lst []]).set (valsA A).length (D.lst ([] ++ [D.int x])))), d2, d3, d4, d5] = _
    rw [dA, h2, h3]
    simp
theorem up_turn {l : List Pt} {j : Nat} {u v : Pt} {A : As} (hj : j < l.length) (h : (prs l)[j]? = some (u, v)) (hu : (j = 0 ∧ l[l.length - 1]? = some u) ∨ ∃ i, j = i + 1 ∧ l[i]? = some u) (hl : A.length < SZ) (hs : ∀ a ∈ A, a.2.length < SZ) {s5 : Slot} :
    S_upright_steps_b1 [.va (.lst (l.map ptD)), dA A, .va (.int j), .va (.int v.1), .va (.int v.2), s5] = .nx [.va (.lst (l.map ptD)), dA (aft A (u, v)), .va (.int j), .va (.int v.1), .va (.int v.2), .va (ptD u)] := by
  have i1 : oIx (.lst (l.map ptD)) (.int ((j : Int) - 1)) = .ok (ptD u, .sh) := by
    rcases hu with ⟨rfl, h1⟩ | ⟨i, rfl, h1⟩
    · exact oIx_neg1 (by rw [List.length_map, List.getElem?_map, h1]; rfl)
    · rw [show ((i + 1 : Nat) : Int) - 1 = (i : Int) by omega]
      exact oIx_n (by rw [List.getElem?_map, h1]; rfl)
  have q0 : oIx (ptD u) (.int 0) = .ok (.int u.1, .sh) := rfl
  have q1 : oIx (ptD u) (.int 1) = .ok (.int u.2, .sh) := rfl
  have sd := fun (x y : Int) => sdapp (A := A) (y := y) (x := x) (L := .va (.lst (l.map ptD))) (d2 := .va (.int j)) (d3 := .va (.int v.1)) (d4 := .va (.int v.2)) (d5 := .va (ptD u)) (fk := eBi .min2 [eVar 4, eBin oIx (eVar 5) (eC (.int 1))]) (g := eVar 3) hl hs
  unfold aft upO
  dsimp only
  generalize l.map ptD = M at *
  by_cases c : u.1 = v.1
  · rw [if_pos c]
    have sd := sd v.1 (if u.2 < v.2 then u.2 else v.2) (by simp [q1]) (fun A => by simp) (fun d => by simp)
    dsimp only [stpA]
    generalize addA (if u.2 < v.2 then u.2 else v.2) v.1 A = A2 at *
    generalize dA A2 = D2 at *
    generalize dA A = D1 at *
    generalize ptD u = PU at *
    simp [S_upright_steps_b1, sSeq_ap, i1, q0, c, sd]
  · rw [if_neg c]
    dsimp only
    generalize dA A = D1 at *
    generalize ptD u = PU at *
    simp [S_upright_steps_b1, sSeq_ap, i1, q0, c]
theorem upright_ok {l : List Pt} (hl : l.length < 5000) : Q_upright_steps [.lst (l.map ptD)] = .ok (.dK (keysA (byRows l)) (valsA (byRows l))) := by
  obtain ⟨ρ', g1, s2, s3, s4, s5, rfl, _, _⟩ := forL_nx (tg := .tup [.one 2, .tup [.one 3, .one 4]]) (a := S_upright_steps_b1) (I := fun k ρ => ∃ s2 s3 s4 s5, ρ = [.va (.lst (l.map ptD)), dA (((prs l).take k).foldl aft []), s2, s3, s4, s5] ∧ (((prs l).take k).foldl aft []).length ≤ k ∧ ∀ a ∈ ((prs l).take k).foldl aft [], a.2.length ≤ k)
    (ds := enumD 0 (l.map ptD)) (k := 0) (ρ := [.va (.lst (l.map ptD)), dA [], .un, .un, .un, .un]) ⟨.un, .un, .un, .un, rfl, Nat.le_refl _, fun a h => by cases h⟩ (fun j d ρ hd ⟨s2, s3, s4, s5, e, b1, b2⟩ => by
    subst e
    rw [Nat.zero_add] at *
    obtain ⟨w, hw, rfl⟩ := enumD_get hd
    obtain ⟨v, hv, rfl⟩ := map_get hw
    have lt := (List.getElem?_eq_some_iff.mp hv).1
    obtain ⟨u, h1, h2⟩ := prs_get hv
    have tk : (prs l).take (j + 1) = (prs l).take j ++ [(u, v)] := by rw [List.take_add_one, h1]; rfl
    have t := up_turn (l := l) (A := ((prs l).take j).foldl aft []) lt h1 h2 (by unfold SZ; omega) (fun a ha => by have := b2 a ha; unfold SZ; omega) (s5 := s5)
    refine ⟨_, [.va (.lst (l.map ptD)), dA (aft (((prs l).take j).foldl aft []) (u, v)), .va (.int j), .va (.int v.1), .va (.int v.2), .va (ptD u)], rfl, .inl (by rw [Nat.zero_add]; exact t), .va (.int j), .va (.int v.1), .va (.int v.2), .va (ptD u), ?_, ?_⟩
    · rw [tk, List.foldl_append]; rfl
    · rw [tk, List.foldl_append]
      show (aft _ (u, v)).length ≤ _ ∧ ∀ a ∈ aft _ (u, v), _
      unfold aft
      cases upO (u, v) with
      | none => exact ⟨Nat.le_trans b1 (by omega), fun a ha => by have := b2 a ha; omega⟩
      | some e =>
        obtain ⟨z1, z2⟩ := add_size (y := e.2) (x := e.1) b2
        exact ⟨Nat.le_trans z1 (by omega), z2⟩)
  have tk : (prs l).take (0 + (enumD 0 (l.map ptD)).length) = prs l := by
    rw [enumD_len, List.length_map, Nat.zero_add]
    exact List.take_of_length_le (by unfold prs; rw [prsF_len]; exact Nat.le_refl _)
  rw [tk, aft_fold] at g1
  have eb : ((prs l).filterMap upO).foldl stpA [] = byRows l := rfl
  rw [eb] at g1
  have g1' : forL (.tup [.one 2, .tup [.one 3, .one 4]]) S_upright_steps_b1 (enumD 0 (l.map ptD)) [.va (.lst (l.map ptD)), .pv (shn 2) (.dK [] []), .un, .un, .un, .un] = _ := g1
  have rt : ∀ a b c d e : Slot, sRetT 1 2 [a, dA (byRows l), b, c, d, e] = .rt (.dK (keysA (byRows l)) (valsA (byRows l))) (.tr 2) [a, dA (byRows l), b, c, d, e] := fun a b c d e => by
    show (@ite _ (shn 2 = shn 2) (Classical.propDecidable _) (Fl.rt (.dK (keysA (byRows l)) (valsA (byRows l))) (.tr 2) [a, dA (byRows l), b, c, d, e]) .no) = _
    rw [if_pos rfl]
  have nt : ∀ a b c d e f : Slot, sAsgT 1 (eNewT 1 eDK) [a, b, c, d, e, f] = .nx [a, .pv (shn 2) (.dK [] []), c, d, e, f] := fun _ _ _ _ _ _ => rfl
  generalize l.map ptD = M at *
  generalize dA (byRows l) = DB at *
  simp [Q_upright_steps, denP, slots, S_upright_steps, sSeq_ap, sFor_ap, itEnum, nt, g1', rt]
end GD
namespace GD
open PySem L2 G PySem.W
theorem lc_ptI {tg : Tg} {e : ES} {ρ : Sl} (g : Pt → Int) (l : List Pt) (hl : l.length < SZ) (h : ∀ z : Pt, ∃ ρ1 kd, tgSet tg (ptD z) ρ = some ρ1 ∧ e ρ1 = .ok (.int (g z), kd) ∧ kd.solid = true) : lcA tg G.tYes e ρ [] (l.map ptD) = .ok ((l.map g).map D.int) := by
  have := lcA_of (tg := tg) (e := e) (ρ := ρ) (fun d => match d with
    | .tup [.int a, .int b] => .int (g (a, b))
    | _ => .non) (ds := l.map ptD) (by simpa using hl) fun j d hd => by
      obtain ⟨z, hz, rfl⟩ := map_get hd
      obtain ⟨ρ1, kd, h1, h2, h3⟩ := h z
      exact ⟨ρ1, kd, h1, h2, h3⟩
  rw [this, List.map_map, List.map_map]
  congr 1
end GD
namespace GD
open PySem L2 G
theorem pairs_get : ∀ {s : List Int} {k : Nat} {a b : Int}, s[2 * k]? = some a → s[2 * k + 1]? = some b → (pairsI s)[k]? = some (a, b)
  | [], _, _, _, h, _ => by simp at h
  | [_], 0, _, _, _, h => by simp at h
  | [_], k + 1, _, _, h, _ => by simp at h
  | x :: y :: r, 0, a, b, h1, h2 => by
    simp at h1 h2
    subst h1 h2
    rfl
  | x :: y :: r, k + 1, a, b, h1, h2 => by
    rw [show 2 * (k + 1) = 2 * k + 1 + 1 by omega, List.getElem?_cons_succ, List.getElem?_cons_succ] at h1
    rw [show 2 * (k + 1) + 1 = 2 * k + 1 + 1 + 1 by omega, List.getElem?_cons_succ, List.getElem?_cons_succ] at h2
    show ((x, y) :: pairsI r)[k + 1]? = _
    rw [List.getElem?_cons_succ]
    exact pairs_get h1 h2
theorem pairs_len : ∀ s : List Int, (pairsI s).length = s.length / 2
  | [] => rfl
  | [_] => by simp [pairsI]
  | x :: y :: r => by
    show ((x, y) :: pairsI r).length = _
    rw [List.length_cons, pairs_len r]
    simp
    omega
def cellsR (y : Int) (xs : List Int) : List Pt := xs.map fun x => (x, y)
theorem rngI_take (a b : Int) {k : Nat} (h : a + (k : Int) < b) : (rngI a b).take (k + 1) = (rngI a b).take k ++ [a + (k : Int)] := by
  have : (rngI a b)[k]? = some (a + (k : Int)) := by
    unfold rngI
    rw [List.getElem?_map, List.getElem?_range (by omega)]
    rfl
  rw [List.take_add_one, this]
  rfl
theorem ins_b2 {F : List Pt} {s : List Int} {at_ : Nat} {a b y : Int} (h1 : s[at_]? = some a) (h2 : s[at_ + 1]? = some b) (ha : 0 ≤ a) (ab : a < b) (hb : b ≤ 50) (hF : F.length + 2000 < SZ) {d0 : D} {s5 : Slot} :
    ∃ s5', S_inside_b2 [.va d0, .ow (.lst (F.map ptD)), .va (.int y), .va (.lst (s.map .int)), .va (.int at_), s5] = .nx [.va d0, .ow (.lst ((F ++ cellsR y (rngI a b)).map ptD)), .va (.int y), .va (.lst (s.map .int)), .va (.int at_), s5'] := by
  have i1 : oIx (.lst (s.map .int)) (.int at_) = .ok (.int a, .sh) := oIx_n (by rw [List.getElem?_map, h1]; rfl)
  have i2 : oIx (.lst (s.map .int)) (.int ((at_ : Int) + 1)) = .ok (.int b, .sh) := by
    rw [show (at_ : Int) + 1 = ((at_ + 1 : Nat) : Int) by omega]
    exact oIx_n (by rw [List.getElem?_map, h2]; rfl)
  · obtain ⟨ρ', g1, s5', rfl⟩ := for_rng2 (i := 5) (lo := a) (hi := b) (a := S_inside_b1) (fun k ρ => ∃ s5, ρ = [.va d0, .ow (.lst ((F ++ cellsR y ((rngI a b).take k)).map ptD)), .va (.int y), .va (.lst (s.map .int)), .va (.int at_), s5])
      (ρ := [.va d0, .ow (.lst (F.map ptD)), .va (.int y), .va (.lst (s.map .int)), .va (.int at_), s5]) ⟨s5, by simp [cellsR]⟩ (fun j ρ lt ⟨s5, e⟩ => by
        subst e
        refine ⟨by simp, ?_⟩
        have ka : kAp ((F ++ cellsR y ((rngI a b).take j)).map ptD) (.tup [.int (a + (j : Int)), .int y]) = some ((F ++ cellsR y ((rngI a b).take (j + 1))).map ptD) := by
          have := kAp_pt (acc := F ++ cellsR y ((rngI a b).take j)) (x := a + (j : Int)) (y := y) (by
            rw [List.length_append]
            unfold cellsR
            rw [List.length_map, List.length_take]
            omega)
          rw [this, rngI_take a b lt]
          unfold cellsR
          rw [List.map_append (f := fun x => (x, y)), ← List.append_assoc]
          rfl
        have sz2 : 2 ≤ SZ := by decide
        refine ⟨_, .inl ?_, .va (.int (a + (j : Int))), rfl⟩
        generalize (F ++ cellsR y ((rngI a b).take (j + 1))).map ptD = M2 at *
        generalize (F ++ cellsR y ((rngI a b).take j)).map ptD = M1 at *
        simp [S_inside_b1, ka, sz2])
    have tk : (rngI a b).take (b - a).toNat = rngI a b := List.take_of_length_le (by rw [rngI_len]; exact Nat.le_refl _)
    rw [tk] at g1
    have im1 := in62_of (show -(2 ^ 62) < a by omega) (by omega)
    have im2 := in62_of (show -(2 ^ 62) < b by omega) (by omega)
    refine ⟨s5', ?_⟩
    generalize (F ++ cellsR y (rngI a b)).map ptD = M2 at *
    generalize F.map ptD = M1 at *
    generalize s.map D.int = SM at *
    simp [S_inside_b2, sFor_ap, i1, i2, im1, im2, g1]
theorem sort_lt {s : List Int} (nd : s.Nodup) : (sortI s).Pairwise fun a b => a < b := by
  have n2 : (sortI s).Nodup := (sortI_perm s).nodup_iff.mpr nd
  exact List.Pairwise.imp (R := fun a b => a ≤ b ∧ a ≠ b) (fun {a b} ⟨h1, h2⟩ => by omega) (List.Pairwise.and (sortI_sorted s) n2)
theorem rowX_take {s : List Int} {k : Nat} {a b : Int} (h : (pairsI s)[k]? = some (a, b)) : (((pairsI s).take (k + 1)).map fun p => rngI p.1 p.2).flatten = (((pairsI s).take k).map fun p => rngI p.1 p.2).flatten ++ rngI a b := by
  rw [List.take_add_one, h, List.map_append, List.flatten_append]
  simp
theorem rngC2 (n : Nat) (h : n % 2 = 0) : rngC 0 n 2 = (List.range (n / 2)).map fun k => D.int ((2 * k : Nat) : Int) := by
  unfold rngC
  have e : (Builtin.Range.rangeSize 0 (n : Int) 2).toNat = n / 2 := by
    unfold Builtin.Range.rangeSize
    rw [if_pos (by decide)]
    split <;> omega
  rw [e]
  refine List.map_congr_left fun k _ => ?_
  congr 1
  omega
theorem ins_b3 {F : List Pt} {s : List Int} {y : Int} (nd : s.Nodup) (ev : s.length % 2 = 0) (hl : s.length ≤ 5000) (h0 : ∀ x ∈ s, 0 ≤ x ∧ x ≤ 50) (hF : F.length + 300000 < SZ) {d0 : D} {s4 s5 : Slot} :
    ∃ s3' s4' s5', S_inside_b3 [.va d0, .ow (.lst (F.map ptD)), .va (.int y), .va (.lst (s.map .int)), s4, s5] = .nx [.va d0, .ow (.lst ((F ++ cellsR y (rowX (sortI s))).map ptD)), .va (.int y), s3', s4', s5'] := by
  have o := oSrt_ints s
  have lt := sort_lt nd
  have pm := sortI_perm s
  have le := sortI_len s
  have hm : ∀ x ∈ sortI s, 0 ≤ x ∧ x ≤ 50 := fun x hx => h0 x (pm.mem_iff.mp hx)
  generalize sortI s = t at *
  have h2 : t.length % 2 = 0 := by omega
  have pl := pairs_len t
  have small : ∀ k, ((((pairsI t).take k).map fun p => rngI p.1 p.2).flatten).length ≤ 50 * k := fun k => by
    induction k with
    | zero => simp
    | succ k ih =>
      cases q : (pairsI t)[k]? with
      | none =>
        rw [List.take_add_one, q]
        simp at ih ⊢
        omega
      | some p =>
        rw [rowX_take q, List.length_append, rngI_len]
        have := pairs_in (List.mem_of_getElem? q)
        have := hm _ this.1
        have := hm _ (pairs_in (List.mem_of_getElem? q)).2
        omega
  obtain ⟨ρ', g1, s4', s5', rfl⟩ := forL_nx (tg := .one 4) (a := S_inside_b2) (I := fun k ρ => ∃ s4 s5, ρ = [.va d0, .ow (.lst ((F ++ cellsR y ((((pairsI t).take k).map fun p => rngI p.1 p.2).flatten)).map ptD)), .va (.int y), .va (.lst (t.map .int)), s4, s5])
    (ds := (List.range (t.length / 2)).map fun k => D.int ((2 * k : Nat) : Int)) (k := 0) (ρ := [.va d0, .ow (.lst (F.map ptD)), .va (.int y), .va (.lst (t.map .int)), s4, s5]) ⟨s4, s5, by simp [cellsR]⟩ (fun j d ρ hd ⟨s4, s5, e⟩ => by
      subst e
      rw [Nat.zero_add] at *
      obtain ⟨k, hk, rfl⟩ := map_get hd
      obtain ⟨e0, lt2⟩ := range_get hk
      have e0 : j = k := by omega
      subst e0
      have e1 : t[2 * j]? = some (t[2 * j]'(by omega)) := List.getElem?_eq_getElem _
      have e2 : t[2 * j + 1]? = some (t[2 * j + 1]'(by omega)) := List.getElem?_eq_getElem _
      have ab : t[2 * j]'(by omega) < t[2 * j + 1]'(by omega) := List.pairwise_iff_getElem.mp lt _ _ (by omega) (by omega) (by omega)
      have pg := pairs_get e1 e2
      have m1 := hm _ (List.mem_of_getElem? e1)
      have m2 := hm _ (List.mem_of_getElem? e2)
      generalize t[2 * j]'(by omega) = a at *
      generalize t[2 * j + 1]'(by omega) = b at *
      have sk := small j
      obtain ⟨s5', g⟩ := ins_b2 (F := F ++ cellsR y ((((pairsI t).take j).map fun p => rngI p.1 p.2).flatten)) (y := y) e1 e2 m1.1 ab m2.2 (by
        rw [List.length_append]
        have : (cellsR y ((((pairsI t).take j).map fun p => rngI p.1 p.2).flatten)).length = ((((pairsI t).take j).map fun p => rngI p.1 p.2).flatten).length := List.length_map _
        rw [this]
        unfold SZ at *
        omega) (d0 := d0) (s5 := s5)
      refine ⟨_, [.va d0, .ow (.lst ((F ++ cellsR y ((((pairsI t).take (j + 1)).map fun p => rngI p.1 p.2).flatten)).map ptD)), .va (.int y), .va (.lst (t.map .int)), .va (.int ((2 * j : Nat) : Int)), s5'], rfl, .inl ?_, _, _, rfl⟩
      rw [rowX_take pg]
      have ec : cellsR y ((((pairsI t).take j).map fun p => rngI p.1 p.2).flatten ++ rngI a b) = cellsR y ((((pairsI t).take j).map fun p => rngI p.1 p.2).flatten) ++ cellsR y (rngI a b) := by unfold cellsR; rw [List.map_append]
      rw [ec, ← List.append_assoc]
      exact g)
  have tk : (pairsI t).take (0 + ((List.range (t.length / 2)).map fun k => D.int ((2 * k : Nat) : Int)).length) = pairsI t := List.take_of_length_le (by simp [pl])
  rw [tk] at g1
  have ex : ((pairsI t).map fun p => rngI p.1 p.2).flatten = rowX t := rfl
  rw [ex] at g1
  have rc := rngC2 t.length h2
  rw [← rc] at g1
  have n1 : oBi .len [.lst (t.map .int)] = .ok (.int t.length, .sh) := by show shr (.int ((t.map D.int).length : Nat)) = _; rw [List.length_map]; rfl
  have im := in62_of (show -(2 ^ 62) < (t.length : Int) by omega) (by omega)
  have im0 : in62 0 = true := by decide
  refine ⟨.va (.lst (t.map .int)), s4', s5', ?_⟩
  generalize (F ++ cellsR y (rowX t)).map ptD = M2 at *
  generalize F.map ptD = M1 at *
  generalize s.map D.int = SM at *
  generalize t.map D.int = TM at *
  generalize (t.length : Int) = tl at *
  simp [S_inside_b3, sSeq_ap, sFor_ap, itR3, o, n1, im, im0, g1]
def insL (l : List Pt) : List Pt := ((byRows l).map fun a => cellsR a.1 (rowX (sortI a.2))).flatten
theorem byRows_ev {l : List Pt} (R : Rg l) {a : Int × List Int} (h : a ∈ byRows l) : a.2 = plc l a.1 := by
  have I := byRows_inv l
  rw [← lookA_in I.nd h, I.look]
  rfl
theorem flat_take {α β : Type} (f : α → List β) {l : List α} {k : Nat} {a : α} (h : l[k]? = some a) : ((l.take (k + 1)).map f).flatten = ((l.take k).map f).flatten ++ f a := by
  rw [List.take_add_one, h, List.map_append, List.flatten_append]
  simp
theorem lt_len {s : List Int} (h : s.Pairwise fun a b => a < b) {n : Nat} (h0 : ∀ x ∈ s, 0 ≤ x ∧ x < n) : s.length ≤ n := by
  have := Orb.nodup_le (l := s) (L := rngI 0 n) (h.imp fun h e => by omega) fun x hx => rngI_mem.mpr (h0 x hx)
  rw [rngI_len] at this
  omega
theorem row_in {l : List Pt} (hb : ∀ z ∈ l, 0 ≤ z.1 ∧ z.1 ≤ 50) (R : Rg l) (y : Int) : ∀ x ∈ plc l y, 0 ≤ x ∧ x ≤ 50 := fun x hx => hb _ (ups_at R (plc_mem.mp hx)).1
theorem rowX_in {l : List Pt} (hb : ∀ z ∈ l, 0 ≤ z.1 ∧ z.1 ≤ 50) (R : Rg l) (y : Int) : ∀ x ∈ rowX (sortI (plc l y)), 0 ≤ x ∧ x < 51 := fun x hx => by
  obtain ⟨p, hp, h1, h2⟩ := rowX_mem.mp hx
  obtain ⟨m1, m2⟩ := pairs_in hp
  have a1 := row_in hb R y _ ((sortI_perm _).mem_iff.mp m1)
  have a2 := row_in hb R y _ ((sortI_perm _).mem_iff.mp m2)
  omega
theorem byRows_len (l : List Pt) : (byRows l).length ≤ l.length ∧ ∀ a ∈ byRows l, a.2.length ≤ l.length := by
  have key : ∀ (E : List Pt) (A : As) (n : Nat), A.length ≤ n → (∀ a ∈ A, a.2.length ≤ n) → (E.foldl stpA A).length ≤ n + E.length ∧ ∀ a ∈ E.foldl stpA A, a.2.length ≤ n + E.length := by
    intro E
    induction E with
    | nil => intro A n h1 h2; exact ⟨h1, h2⟩
    | cons e E ih =>
      intro A n h1 h2
      obtain ⟨z1, z2⟩ := add_size (y := e.2) (x := e.1) h2
      have := ih (stpA A e) (n + 1) (Nat.le_trans z1 (by omega)) z2
      rw [List.length_cons]
      rw [show n + (E.length + 1) = n + 1 + E.length by omega]
      exact this
  have ul : (ups l).length ≤ l.length := by
    unfold ups
    have h1 := List.length_filterMap_le upO (prs l)
    have h2 : (prs l).length = l.length := by unfold prs; rw [prsF_len]
    omega
  obtain ⟨h1, h2⟩ := key (ups l) [] 0 (Nat.le_refl _) fun a h => by cases h
  exact ⟨by unfold byRows; omega, fun a ha => by have := h2 a ha; omega⟩
theorem inside_ok {l : List Pt} (R : Rg l) (hl : l.length < 5000) (hb : ∀ z ∈ l, 0 ≤ z.1 ∧ z.1 ≤ 50) : R_inside [.lst (l.map ptD)] = .ok (.lst ((sortP (insL l)).map ptD), true) := by
  have up := upright_ok (l := l) hl
  obtain ⟨bl, bl2⟩ := byRows_len l
  have small : ∀ k, ((((byRows l).take k).map fun a => cellsR a.1 (rowX (sortI a.2))).flatten).length ≤ 51 * k := fun k => by
    induction k with
    | zero => simp
    | succ k ih =>
      cases q : (byRows l)[k]? with
      | none =>
        rw [List.take_add_one, q]
        simp at ih ⊢
        omega
      | some a =>
        have ha := List.mem_of_getElem? q
        rw [flat_take _ q, List.length_append]
        have e := byRows_ev R ha
        have : (cellsR a.1 (rowX (sortI a.2))).length ≤ 51 := by
          unfold cellsR
          rw [List.length_map]
          refine lt_len (n := 51) (rowX_lt (sort_lt ?_)) ?_
          · rw [e]; exact plc_nodup R _
          · rw [e]; exact rowX_in hb R _
        omega
  obtain ⟨ρ', g1, s2', s3', s4', s5', rfl⟩ := forL_nx (tg := .tup [.one 2, .one 3]) (a := S_inside_b3) (I := fun k ρ => ∃ s2 s3 s4 s5, ρ = [.va (.lst (l.map ptD)), .ow (.lst (((((byRows l).take k).map fun a => cellsR a.1 (rowX (sortI a.2))).flatten).map ptD)), s2, s3, s4, s5])
    (ds := (byRows l).map fun a => D.tup [.int a.1, .lst (a.2.map .int)]) (k := 0) (ρ := [.va (.lst (l.map ptD)), .ow (.lst []), .un, .un, .un, .un]) ⟨.un, .un, .un, .un, by simp⟩ (fun j d ρ hd ⟨s2, s3, s4, s5, e⟩ => by
      subst e
      rw [Nat.zero_add] at *
      obtain ⟨a, ha, rfl⟩ := map_get hd
      have lt := (List.getElem?_eq_some_iff.mp ha).1
      have ev := byRows_ev R (List.mem_of_getElem? ha)
      have sk := small j
      obtain ⟨s3', s4', s5', g⟩ := ins_b3 (F := ((((byRows l).take j).map fun a => cellsR a.1 (rowX (sortI a.2))).flatten)) (s := a.2) (y := a.1) (by rw [ev]; exact plc_nodup R _) (by rw [ev]; exact plc_even R _) (by have := bl2 a (List.mem_of_getElem? ha); omega) (by rw [ev]; exact row_in hb R _) (by unfold SZ; omega) (d0 := .lst (l.map ptD)) (s4 := s4) (s5 := s5)
      refine ⟨_, [.va (.lst (l.map ptD)), .ow (.lst (((((byRows l).take (j + 1)).map fun a => cellsR a.1 (rowX (sortI a.2))).flatten).map ptD)), .va (.int a.1), s3', s4', s5'], rfl, .inl ?_, _, _, _, _, rfl⟩
      rw [flat_take _ ha]
      exact g)
  have tk : (byRows l).take (0 + ((byRows l).map fun a => D.tup [.int a.1, .lst (a.2.map .int)]).length) = byRows l := List.take_of_length_le (by simp)
  rw [tk] at g1
  have ei : ((byRows l).map fun a => cellsR a.1 (rowX (sortI a.2))).flatten = insL l := rfl
  rw [ei] at g1
  have im : itmD (keysA (byRows l)) (valsA (byRows l)) = (byRows l).map fun a => D.tup [.int a.1, .lst (a.2.map .int)] := by
    unfold itmD keysA valsA
    rw [List.zip_map', List.map_map]
    rfl
  have it : ∀ b c d e f : Slot, itItT (eFnT 2 Q_upright_steps [eVar 0]) [.va (.lst (l.map ptD)), b, c, d, e, f] = .ok ((byRows l).map fun a => D.tup [.int a.1, .lst (a.2.map .int)]) := fun b c d e f => by
    rw [← im]
    generalize l.map ptD = M at *
    simp [itItT, eFnT, up]
  have so := oSrt_pts (insL l)
  generalize l.map ptD = M at *
  generalize (insL l).map ptD = IM at *
  generalize (sortP (insL l)).map ptD = SM at *
  simp [R_inside, denF, slots, S_inside, sSeq_ap, sFor_ap, it, g1, so, SZ]
end GD
namespace GD
open PySem L2 G
def wiB (S : List Pt) (lo y : Int) : Nat → Bool
  | 0 => false
  | k + 1 => (wiB S lo y k) != decide ((lo + (k : Int), y) ∈ S)
def rwL (S : List Pt) (lo y : Int) (k : Nat) : List Pt := ((List.range k).filter fun j => wiB S lo y (j + 1)).map fun j => (lo + ((j : Nat) : Int), y)
theorem rwL_succ (S : List Pt) (lo y : Int) (k : Nat) : rwL S lo y (k + 1) = rwL S lo y k ++ if wiB S lo y (k + 1) = true then [(lo + (k : Int), y)] else [] := by
  unfold rwL
  rw [List.range_succ, List.filter_append, List.map_append]
  by_cases c : wiB S lo y (k + 1) = true
  · rw [if_pos c, List.filter_cons_of_pos (p := fun j => wiB S lo y (j + 1)) c]
    rfl
  · rw [if_neg c, List.filter_cons_of_neg (p := fun j => wiB S lo y (j + 1)) c]
    rfl
theorem rwL_len (S : List Pt) (lo y : Int) (k : Nat) : (rwL S lo y k).length ≤ k := by
  unfold rwL
  rw [List.length_map]
  have := List.length_filter_le (fun j => wiB S lo y (j + 1)) (List.range k)
  rw [List.length_range] at this
  exact this
def patL (S : List Pt) (lo hi bo to : Int) (k : Nat) : List Pt := ((List.range k).map fun j => rwL S lo (bo + ((j : Nat) : Int)) (hi - lo).toNat).flatten
theorem patL_succ (S : List Pt) (lo hi bo to : Int) (k : Nat) : patL S lo hi bo to (k + 1) = patL S lo hi bo to k ++ rwL S lo (bo + (k : Int)) (hi - lo).toNat := by
  unfold patL
  rw [List.range_succ, List.map_append, List.flatten_append]
  simp
theorem patL_len (S : List Pt) (lo hi bo to : Int) : ∀ k : Nat, (patL S lo hi bo to k).length ≤ k * (hi - lo).toNat
  | 0 => by simp [patL]
  | k + 1 => by
    rw [patL_succ, List.length_append]
    have := patL_len S lo hi bo to k
    have := rwL_len S lo (bo + (k : Int)) (hi - lo).toNat
    rw [Nat.succ_mul]
    omega
section
variable {l : List Pt}
def aftS (vs : List Pt) (z : Pt × Pt) : List Pt := match upO z with
  | some e => addP vs e
  | none => vs
theorem aftS_fold (z : List (Pt × Pt)) : ∀ vs : List Pt, z.foldl aftS vs = addAll vs (z.filterMap upO) := by
  induction z with
  | nil => intro vs; rfl
  | cons a z ih =>
    intro vs
    rw [List.foldl_cons, ih]
    unfold aftS
    cases q : upO a with
    | none => rw [List.filterMap_cons_none q]
    | some e => rw [List.filterMap_cons_some q]; rfl
theorem pa_turn {j : Nat} {u v : Pt} {vs : List Pt} (hv : l[j]? = some v) (hu : (j = 0 ∧ l[l.length - 1]? = some u) ∨ ∃ i, j = i + 1 ∧ l[i]? = some u) (hl : vs.length < SZ) {d1 d2 d3 d4 : D} {s7 s8 s9 s10 : Slot} :
    S__law_patch_b1 [.va (.lst (l.map ptD)), .va d1, .va d2, .va d3, .va d4, .ow (seenD vs), .va (.int j), s7, s8, s9, s10] = .nx [.va (.lst (l.map ptD)), .va d1, .va d2, .va d3, .va d4, .ow (seenD (aftS vs (u, v))), .va (.int j), s7, s8, s9, s10] := by
  have i0 : oIx (.lst (l.map ptD)) (.int j) = .ok (ptD v, .sh) := oIx_n (by rw [List.getElem?_map, hv]; rfl)
  have i1 : oIx (.lst (l.map ptD)) (.int ((j : Int) - 1)) = .ok (ptD u, .sh) := by
    rcases hu with ⟨rfl, h1⟩ | ⟨i, rfl, h1⟩
    · exact oIx_neg1 (by rw [List.length_map, List.getElem?_map, h1]; rfl)
    · rw [show ((i + 1 : Nat) : Int) - 1 = (i : Int) by omega]
      exact oIx_n (by rw [List.getElem?_map, h1]; rfl)
  have q0 : ∀ u : Pt, oIx (ptD u) (.int 0) = .ok (.int u.1, .sh) := fun _ => rfl
  have q1 : ∀ u : Pt, oIx (ptD u) (.int 1) = .ok (.int u.2, .sh) := fun _ => rfl
  have u0 := q0 u
  have u1 := q1 u
  have v0 := q0 v
  have v1 := q1 v
  have pu : ∀ x y : Int, kPut (seenD vs) (.tup [.int x, .int y]) (.bl true) = some (seenD (addP vs (x, y))) := fun x y => put_seen (p := (x, y)) hl
  have sz2 : 2 ≤ SZ := by decide
  unfold aftS upO
  dsimp only
  generalize l.map ptD = M at *
  generalize ptD u = PU at *
  generalize ptD v = PV at *
  clear q0 q1
  by_cases c : u.1 = v.1
  · rw [if_pos c]
    dsimp only
    simp [S__law_patch_b1, i0, i1, u0, u1, v0, v1, c, pu, sz2]
  · rw [if_neg c]
    dsimp only
    have c' : ¬ v.1 = u.1 := fun e => c e.symm
    simp [S__law_patch_b1, i0, i1, u0, u1, v0, v1, c']
theorem pa_b2 {S F : List Pt} {lo y : Int} {k : Nat} (hF : F.length < SZ) {d0 d1 d2 d3 d4 : D} {s6 : Slot} :
    S__law_patch_b2 [.va d0, .va d1, .va d2, .va d3, .va d4, .ow (seenD S), s6, .ow (.lst (F.map ptD)), .va (.int y), .va (.bl (wiB S lo y k)), .va (.int (lo + (k : Int)))] = .nx [.va d0, .va d1, .va d2, .va d3, .va d4, .ow (seenD S), s6, .ow (.lst ((F ++ if wiB S lo y (k + 1) = true then [(lo + (k : Int), y)] else []).map ptD)), .va (.int y), .va (.bl (wiB S lo y (k + 1))), .va (.int (lo + (k : Int)))] := by
  have ni := in_seen S (lo + (k : Int), y)
  have eq' : ptD (lo + (k : Int), y) = .tup [.int (lo + (k : Int)), .int y] := rfl
  rw [eq'] at ni
  have ka := kAp_pt (acc := F) (x := lo + (k : Int)) (y := y) hF
  have ew : wiB S lo y (k + 1) = ((wiB S lo y k) != decide ((lo + (k : Int), y) ∈ S)) := rfl
  have sz2 : 2 ≤ SZ := by decide
  rw [ew]
  generalize wiB S lo y k = w at *
  generalize decide ((lo + (k : Int), y) ∈ S) = m at *
  generalize seenD S = SD at *
  cases w <;> cases m <;> simp [S__law_patch_b2, sSeq_ap, ni, sz2, ka, -List.map_append]
theorem pa_b3 {S F : List Pt} {lo hi y : Int} (hlo : 0 ≤ lo) (hh : lo ≤ hi) (hhi : hi ≤ 50) (hF : F.length + 100 < SZ) {d0 d3 d4 : D} {s6 s9 s10 : Slot} :
    ∃ s9' s10', S__law_patch_b3 [.va d0, .va (.int lo), .va (.int hi), .va d3, .va d4, .ow (seenD S), s6, .ow (.lst (F.map ptD)), .va (.int y), s9, s10] = .nx [.va d0, .va (.int lo), .va (.int hi), .va d3, .va d4, .ow (seenD S), s6, .ow (.lst ((F ++ rwL S lo y (hi - lo).toNat).map ptD)), .va (.int y), s9', s10'] := by
  obtain ⟨ρ', g1, s10', rfl⟩ := for_rng2 (i := 10) (lo := lo) (hi := hi) (a := S__law_patch_b2) (fun k ρ => ∃ s10, ρ = [.va d0, .va (.int lo), .va (.int hi), .va d3, .va d4, .ow (seenD S), s6, .ow (.lst ((F ++ rwL S lo y k).map ptD)), .va (.int y), .va (.bl (wiB S lo y k)), s10])
    (ρ := [.va d0, .va (.int lo), .va (.int hi), .va d3, .va d4, .ow (seenD S), s6, .ow (.lst (F.map ptD)), .va (.int y), .va (.bl false), s10]) ⟨s10, by simp [rwL, wiB]⟩ (fun j ρ lt ⟨s10, e⟩ => by
      subst e
      refine ⟨by simp, ?_⟩
      have rl := rwL_len S lo y j
      have g := pa_b2 (S := S) (F := F ++ rwL S lo y j) (lo := lo) (y := y) (k := j) (by rw [List.length_append]; unfold SZ at *; omega) (d0 := d0) (d1 := .int lo) (d2 := .int hi) (d3 := d3) (d4 := d4) (s6 := s6)
      rw [List.append_assoc, ← rwL_succ] at g
      exact ⟨_, .inl g, _, rfl⟩)
  have im1 := in62_of (show -(2 ^ 62) < lo by omega) (by omega)
  have im2 := in62_of (show -(2 ^ 62) < hi by omega) (by omega)
  refine ⟨.va (.bl (wiB S lo y (hi - lo).toNat)), s10', ?_⟩
  generalize (F ++ rwL S lo y (hi - lo).toNat).map ptD = M2 at *
  generalize F.map ptD = M1 at *
  generalize seenD S = SD at *
  simp [S__law_patch_b3, sSeq_ap, sFor_ap, im1, im2, g1]
theorem patch_ok {l : List Pt} (hne : l ≠ []) (hl : l.length < 5000) (hb : ∀ z ∈ l, 0 ≤ z.1 ∧ z.1 ≤ 50 ∧ 0 ≤ z.2 ∧ z.2 ≤ 50) :
    R__law_patch [.lst (l.map ptD)] = .ok (.lst ((sortP (patL (addAll [] (ups l)) (minI (l.map (·.1))) (maxI (l.map (·.1))) (minI (l.map (·.2))) (maxI (l.map (·.2))) (maxI (l.map (·.2)) - minI (l.map (·.2))).toNat)).map ptD), true) := by
  have nx : l.map (·.1) ≠ [] := by simpa using hne
  have ny : l.map (·.2) ≠ [] := by simpa using hne
  have m1 := min_ints nx
  have m2 := min_ints ny
  have x1 := max_ints nx
  have x2 := max_ints ny
  have b1 : 0 ≤ minI (l.map (·.1)) ∧ maxI (l.map (·.1)) ≤ 50 ∧ minI (l.map (·.1)) ≤ maxI (l.map (·.1)) := by
    obtain ⟨z, hz, e⟩ := List.mem_map.mp (minI_spec nx).1
    obtain ⟨w, hw, e2⟩ := List.mem_map.mp (maxI_spec nx).1
    have := hb z hz
    have := hb w hw
    have := (minI_spec nx).2 _ (maxI_spec nx).1
    omega
  have b2 : 0 ≤ minI (l.map (·.2)) ∧ maxI (l.map (·.2)) ≤ 50 ∧ minI (l.map (·.2)) ≤ maxI (l.map (·.2)) := by
    obtain ⟨z, hz, e⟩ := List.mem_map.mp (minI_spec ny).1
    obtain ⟨w, hw, e2⟩ := List.mem_map.mp (maxI_spec ny).1
    have := hb z hz
    have := hb w hw
    have := (minI_spec ny).2 _ (maxI_spec ny).1
    omega
  have c1 := lc_ptI (tg := .tup [.one 10, .one 8]) (e := eVar 10) (ρ := [.va (.lst (l.map ptD)), .un, .un, .un, .un, .un, .un, .un, .un, .un, .un]) (·.1) l (by unfold SZ; omega) fun z => ⟨[.va (.lst (l.map ptD)), .un, .un, .un, .un, .un, .un, .un, .va (.int z.2), .un, .va (.int z.1)], .sh, by simp [ptD], by simp, rfl⟩
  have c2 := fun A => lc_ptI (tg := .tup [.one 10, .one 8]) (e := eVar 10) (ρ := [.va (.lst (l.map ptD)), .va A, .un, .un, .un, .un, .un, .un, .un, .un, .un]) (·.1) l (by unfold SZ; omega) fun z => ⟨[.va (.lst (l.map ptD)), .va A, .un, .un, .un, .un, .un, .un, .va (.int z.2), .un, .va (.int z.1)], .sh, by simp [ptD], by simp, rfl⟩
  have c3 := fun A B => lc_ptI (tg := .tup [.one 10, .one 8]) (e := eVar 8) (ρ := [.va (.lst (l.map ptD)), .va A, .va B, .un, .un, .un, .un, .un, .un, .un, .un]) (·.2) l (by unfold SZ; omega) fun z => ⟨[.va (.lst (l.map ptD)), .va A, .va B, .un, .un, .un, .un, .un, .va (.int z.2), .un, .va (.int z.1)], .sh, by simp [ptD], by simp, rfl⟩
  have c4 := fun A B C => lc_ptI (tg := .tup [.one 10, .one 8]) (e := eVar 8) (ρ := [.va (.lst (l.map ptD)), .va A, .va B, .va C, .un, .un, .un, .un, .un, .un, .un]) (·.2) l (by unfold SZ; omega) fun z => ⟨[.va (.lst (l.map ptD)), .va A, .va B, .va C, .un, .un, .un, .un, .va (.int z.2), .un, .va (.int z.1)], .sh, by simp [ptD], by simp, rfl⟩
  generalize minI (l.map (·.1)) = lo at *
  generalize minI (l.map (·.2)) = bo at *
  generalize maxI (l.map (·.1)) = hi at *
  generalize maxI (l.map (·.2)) = to at *
  have c2 := c2 (.int lo)
  have c3 := c3 (.int lo) (.int hi)
  have c4 := c4 (.int lo) (.int hi) (.int bo)
  obtain ⟨ρ', g1, s6', rfl, _⟩ := for_rng (i := 6) (n := l.length) (a := S__law_patch_b1) (fun k ρ => ∃ s6, ρ = [.va (.lst (l.map ptD)), .va (.int lo), .va (.int hi), .va (.int bo), .va (.int to), .ow (seenD (((prs l).take k).foldl aftS [])), s6, .un, .un, .un, .un] ∧ (((prs l).take k).foldl aftS []).length ≤ k)
    (ρ := [.va (.lst (l.map ptD)), .va (.int lo), .va (.int hi), .va (.int bo), .va (.int to), .ow (seenD []), .un, .un, .un, .un, .un]) ⟨.un, rfl, Nat.le_refl _⟩ (fun j ρ lt ⟨s6, e, hs⟩ => by
      subst e
      refine ⟨by simp, ?_⟩
      have lt : j < l.length := by omega
      have hv : l[j]? = some (l[j]'lt) := List.getElem?_eq_getElem _
      generalize l[j]'lt = v at *
      obtain ⟨u, h1, h2⟩ := prs_get hv
      have tk : (prs l).take (j + 1) = (prs l).take j ++ [(u, v)] := by rw [List.take_add_one, h1]; rfl
      have t := pa_turn (l := l) hv h2 (vs := ((prs l).take j).foldl aftS []) (by unfold SZ; omega) (d1 := .int lo) (d2 := .int hi) (d3 := .int bo) (d4 := .int to) (s7 := .un) (s8 := .un) (s9 := .un) (s10 := .un)
      refine ⟨_, .inl t, .va (.int j), ?_, ?_⟩
      · rw [tk, List.foldl_append]; rfl
      · rw [tk, List.foldl_append]
        show (aftS _ (u, v)).length ≤ _
        unfold aftS
        cases upO (u, v) with
        | none => exact Nat.le_trans hs (by omega)
        | some e => exact Nat.le_trans (addP_len _ _) (Nat.succ_le_succ hs))
  rw [Int.toNat_natCast] at g1
  have tk : (prs l).take l.length = prs l := List.take_of_length_le (by unfold prs; rw [prsF_len]; exact Nat.le_refl _)
  rw [tk, aftS_fold] at g1
  have eu : (prs l).filterMap upO = ups l := rfl
  rw [eu] at g1
  generalize addAll [] (ups l) = S at *
  obtain ⟨ρ', g2, s8', s9', s10', rfl⟩ := for_rng2 (i := 8) (lo := bo) (hi := to) (a := S__law_patch_b3) (fun k ρ => ∃ s8 s9 s10, ρ = [.va (.lst (l.map ptD)), .va (.int lo), .va (.int hi), .va (.int bo), .va (.int to), .ow (seenD S), s6', .ow (.lst ((patL S lo hi bo to k).map ptD)), s8, s9, s10])
    (ρ := [.va (.lst (l.map ptD)), .va (.int lo), .va (.int hi), .va (.int bo), .va (.int to), .ow (seenD S), s6', .ow (.lst []), .un, .un, .un]) ⟨.un, .un, .un, rfl⟩ (fun j ρ lt ⟨s8, s9, s10, e⟩ => by
      subst e
      refine ⟨by simp, ?_⟩
      have ll := patL_len S lo hi bo to j
      have lm : j * (hi - lo).toNat ≤ 50 * 50 := Nat.mul_le_mul (by omega) (by omega)
      obtain ⟨s9', s10', g⟩ := pa_b3 (S := S) (F := patL S lo hi bo to j) (lo := lo) (hi := hi) (y := bo + (j : Int)) (by omega) (by omega) (by omega) (by unfold SZ; omega) (d0 := .lst (l.map ptD)) (d3 := .int bo) (d4 := .int to) (s6 := s6') (s9 := s9) (s10 := s10)
      rw [← patL_succ] at g
      exact ⟨_, .inl g, _, _, _, rfl⟩)
  have so := oSrt_pts (patL S lo hi bo to (to - bo).toNat)
  have n1 : oBi .len [.lst (l.map ptD)] = .ok (.int l.length, .sh) := by show shr (.int ((l.map ptD).length : Nat)) = _; rw [List.length_map]; rfl
  have im := in62_of (show -(2 ^ 62) < (l.length : Int) by omega) (by omega)
  have im1 := in62_of (show -(2 ^ 62) < bo by omega) (by omega)
  have im2 := in62_of (show -(2 ^ 62) < to by omega) (by omega)
  have g1' : forL (.one 6) S__law_patch_b1 (rngD 0 l.length) [.va (.lst (l.map ptD)), .va (.int lo), .va (.int hi), .va (.int bo), .va (.int to), .ow (.dT [] []), .un, .un, .un, .un, .un] = _ := g1
  clear g1
  generalize (l.map (·.1)).map D.int = X at *
  generalize (l.map (·.2)).map D.int = Y at *
  generalize (patL S lo hi bo to (to - bo).toNat).map ptD = LM at *
  generalize (sortP (patL S lo hi bo to (to - bo).toNat)).map ptD = SM at *
  generalize l.map ptD = M at *
  generalize seenD S = SD at *
  generalize (l.length : Int) = n at *
  simp [R__law_patch, denF, slots, S__law_patch, sSeq_ap, sFor_ap, eLc, wipeS, c1, c2, c3, c4, m1, m2, x1, x2, eDT, n1, im, im1, im2, g1', g2, so, SZ]
end
end GD
namespace GD
open PySem L2 G
section
variable {l : List Pt}
theorem ins_mem (R : Rg l) {x y : Int} : (x, y) ∈ insL l ↔ cntI x (plc l y) % 2 = 1 := by
  have I := byRows_inv l
  have key : x ∈ rowX (sortI (plc l y)) ↔ cntI x (plc l y) % 2 = 1 := by
    rw [rowX_mem, in_row x (sort_lt (plc_nodup R y)) (by rw [sortI_len]; exact plc_even R y), cnt_perm (sortI_perm _)]
  rw [← key]
  unfold insL
  rw [List.mem_flatten]
  constructor
  · rintro ⟨c, hc, hx⟩
    obtain ⟨a, ha, rfl⟩ := List.mem_map.mp hc
    obtain ⟨x', hx', e⟩ := List.mem_map.mp hx
    injection e with e1 e2
    subst e1 e2
    rw [← byRows_ev R ha]
    exact hx'
  · intro hx
    have hk : y ∈ (byRows l).map (·.1) := by
      rw [I.keys]
      obtain ⟨p, hp, _⟩ := rowX_mem.mp hx
      have := (pairs_in hp).1
      rw [(sortI_perm _).mem_iff] at this
      exact ⟨_, plc_mem.mp this, rfl⟩
    obtain ⟨a, ha, e⟩ := List.mem_map.mp hk
    refine ⟨_, List.mem_map.mpr ⟨a, ha, rfl⟩, List.mem_map.mpr ⟨x, ?_, by rw [e]⟩⟩
    rw [byRows_ev R ha, e]
    exact hx
theorem ins_nodup (R : Rg l) : (insL l).Nodup := by
  have I := byRows_inv l
  unfold insL
  refine List.pairwise_flatten.mpr ⟨fun c hc => ?_, ?_⟩
  · obtain ⟨a, ha, rfl⟩ := List.mem_map.mp hc
    unfold cellsR
    refine List.pairwise_map.mpr ((rowX_lt (sort_lt (by rw [byRows_ev R ha]; exact plc_nodup R _))).imp fun {u v} h e => ?_)
    injection e with e1 _
    omega
  · refine List.pairwise_map.mpr ((List.pairwise_map.mp I.nd).imp fun {a b} h p hp q hq e => h ?_)
    obtain ⟨_, _, rfl⟩ := List.mem_map.mp hp
    obtain ⟨_, _, rfl⟩ := List.mem_map.mp hq
    injection e
theorem wiB_cnt {S : List Pt} {lo y : Int} {s : List Int} (nd : s.Nodup) (h0 : ∀ x ∈ s, lo ≤ x) (hS : ∀ x, (x, y) ∈ S ↔ x ∈ s) : ∀ k : Nat, wiB S lo y k = decide (cntI (lo + (k : Int) - 1) s % 2 = 1)
  | 0 => by
    rw [cnt_zero fun z hz => by have := h0 z hz; omega]
    rfl
  | k + 1 => by
    have ih := wiB_cnt nd h0 hS k
    have st := cnt_step (lo + (k : Int)) nd
    show (wiB S lo y k != decide ((lo + (k : Int), y) ∈ S)) = _
    rw [ih, show lo + ((k + 1 : Nat) : Int) - 1 = lo + (k : Int) by omega, st]
    generalize cntI (lo + (k : Int) - 1) s = c
    by_cases m : lo + (k : Int) ∈ s
    · rw [decide_eq_true ((hS _).mpr m), if_pos m]
      by_cases q : c % 2 = 1
      · rw [decide_eq_true q, decide_eq_false (by omega)]; rfl
      · rw [decide_eq_false q, decide_eq_true (by omega)]; rfl
    · rw [decide_eq_false fun z => m ((hS _).mp z), if_neg m]
      by_cases q : c % 2 = 1
      · rw [decide_eq_true q, decide_eq_true (by omega)]; rfl
      · rw [decide_eq_false q, decide_eq_false (by omega)]; rfl
theorem pat_mem (R : Rg l) {lo hi bo to x y : Int} (h0 : ∀ z ∈ l, lo ≤ z.1) : (x, y) ∈ patL (addAll [] (ups l)) lo hi bo to (to - bo).toNat ↔ bo ≤ y ∧ y < to ∧ lo ≤ x ∧ x < hi ∧ cntI x (plc l y) % 2 = 1 := by
  have w := fun y => wiB_cnt (S := addAll [] (ups l)) (lo := lo) (plc_nodup R y) (fun x hx => h0 _ (ups_at R (plc_mem.mp hx)).1) (y := y) fun x => by rw [addAll_mem, plc_mem]; simp
  unfold patL rwL
  rw [List.mem_flatten]
  constructor
  · rintro ⟨c, hc, hx⟩
    obtain ⟨j, hj, rfl⟩ := List.mem_map.mp hc
    obtain ⟨k, hk, e⟩ := List.mem_map.mp hx
    obtain ⟨k1, k2⟩ := List.mem_filter.mp hk
    rw [w] at k2
    have k2 := of_decide_eq_true k2
    have k1 := List.mem_range.mp k1
    have j1 := List.mem_range.mp hj
    injection e with e1 e2
    subst e1 e2
    rw [show lo + ((k + 1 : Nat) : Int) - 1 = lo + (k : Int) by omega] at k2
    exact ⟨by omega, by omega, by omega, by omega, k2⟩
  · rintro ⟨h1, h2, h3, h4, h5⟩
    refine ⟨_, List.mem_map.mpr ⟨(y - bo).toNat, List.mem_range.mpr (by omega), rfl⟩, ?_⟩
    have ey : bo + (((y - bo).toNat : Nat) : Int) = y := by omega
    rw [ey]
    refine List.mem_map.mpr ⟨(x - lo).toNat, List.mem_filter.mpr ⟨List.mem_range.mpr (by omega), ?_⟩, by rw [show lo + (((x - lo).toNat : Nat) : Int) = x by omega]⟩
    rw [w, show lo + (((x - lo).toNat + 1 : Nat) : Int) - 1 = x by omega]
    exact decide_eq_true h5
theorem pat_nodup {S : List Pt} {lo hi bo to : Int} : ∀ k : Nat, (patL S lo hi bo to k).Nodup := fun k => by
  unfold patL
  refine List.pairwise_flatten.mpr ⟨fun c hc => ?_, ?_⟩
  · obtain ⟨j, _, rfl⟩ := List.mem_map.mp hc
    unfold rwL
    refine List.pairwise_map.mpr ((List.nodup_range.filter _).imp fun {u v} h e => h ?_)
    injection e with e1 _
    omega
  · refine List.pairwise_map.mpr (List.nodup_range.imp fun {a b} h p hp q hq e => h ?_)
    unfold rwL at hp hq
    obtain ⟨_, _, rfl⟩ := List.mem_map.mp hp
    obtain ⟨_, _, rfl⟩ := List.mem_map.mp hq
    injection e with _ e2
    omega
/-- the law's patch is what inside gives -/
theorem patch_eq (R : Rg l) : sortP (patL (addAll [] (ups l)) (minI (l.map (·.1))) (maxI (l.map (·.1))) (minI (l.map (·.2))) (maxI (l.map (·.2))) (maxI (l.map (·.2)) - minI (l.map (·.2))).toNat) = sortP (insL l) := by
  have hne : l ≠ [] := by
    intro e
    have := R.three
    rw [e] at this
    simp at this
  have nx : l.map (·.1) ≠ [] := by simpa using hne
  have ny : l.map (·.2) ≠ [] := by simpa using hne
  have lx : ∀ z ∈ l, minI (l.map (·.1)) ≤ z.1 ∧ z.1 ≤ maxI (l.map (·.1)) := fun z hz => ⟨(minI_spec nx).2 _ (List.mem_map_of_mem (f := (·.1)) hz), (maxI_spec nx).2 _ (List.mem_map_of_mem (f := (·.1)) hz)⟩
  have ly : ∀ z ∈ l, minI (l.map (·.2)) ≤ z.2 ∧ z.2 ≤ maxI (l.map (·.2)) := fun z hz => ⟨(minI_spec ny).2 _ (List.mem_map_of_mem (f := (·.2)) hz), (maxI_spec ny).2 _ (List.mem_map_of_mem (f := (·.2)) hz)⟩
  refine sortP_same (pat_nodup _) (ins_nodup R) fun ⟨x, y⟩ => ?_
  rw [pat_mem R fun z hz => (lx z hz).1, ins_mem R]
  constructor
  · exact fun h => h.2.2.2.2
  · intro h
    rw [← cnt_perm (sortI_perm _), ← in_row x (sort_lt (plc_nodup R y)) (by rw [sortI_len]; exact plc_even R y)] at h
    obtain ⟨p, hp, h1, h2⟩ := h
    obtain ⟨m1, m2⟩ := pairs_in hp
    rw [(sortI_perm _).mem_iff, plc_mem] at m1 m2
    obtain ⟨a1, a2⟩ := ups_at R m1
    obtain ⟨b1, b2⟩ := ups_at R m2
    have c1 := lx _ a1
    have c2 := lx _ b1
    have c3 := ly _ a1
    have c4 := ly _ a2
    dsimp only at c1 c2 c3 c4
    refine ⟨by omega, by omega, by omega, by omega, ?_⟩
    rw [← cnt_perm (sortI_perm _), ← in_row x (sort_lt (plc_nodup R y)) (by rw [sortI_len]; exact plc_even R y)]
    exact ⟨p, hp, h1, h2⟩
end
section
variable {us ls : List Int}
theorem nb_unit {a b : Pt} (h : b ∈ nb us ls a) : U a b := by
  rcases mem_nb.mp h with h | h
  · obtain ⟨_, e⟩ := mem_row.mp h
    have n : rx ls a.1 a.2 = a.1 + 1 ∨ rx ls a.1 a.2 = a.1 - 1 := by unfold rx; split <;> omega
    rw [e]
    exact .inr ⟨rfl, n⟩
  · obtain ⟨_, e⟩ := mem_col.mp h
    have n : cy us a.1 a.2 = a.2 + 1 ∨ cy us a.1 a.2 = a.2 - 1 := by unfold cy; split <;> omega
    rw [e]
    exact .inl ⟨rfl, n⟩
theorem seam_rg {l : List Pt} (q : Sm.Seam (nb us ls) true l) : Rg l := by
  obtain ⟨h3, sh⟩ := q.shut rfl
  refine ⟨q.nd, h3, fun z hz => ?_⟩
  obtain ⟨j, h1, h2⟩ := prs_ix hz
  rcases h2 with ⟨rfl, h2⟩ | ⟨i, rfl, h2⟩
  · exact nb_unit (sh _ _ h1 h2).2
  · exact nb_unit (q.step i _ _ h2 h1).1
theorem inC_50 {s : Int} (p : Plan s us ls) {z : Pt} (h : InC us ls z) : 0 ≤ z.1 ∧ z.1 ≤ 50 ∧ 0 ≤ z.2 ∧ z.2 ≤ 50 := by
  have := p.lu
  have := p.ll
  obtain ⟨h1, h2, h3, h4⟩ := h
  omega
end
end GD
namespace GD
open PySem L2 G
theorem path_par (f : Pt × Pt → Nat) (χ : Pt → Nat) : ∀ (r : List Pt) (a : Pt), (∀ z ∈ prsF a r, f z % 2 = (χ z.1 + χ z.2) % 2) → ((prsF a r).map f).sum % 2 = (χ a + χ ((r[r.length - 1]?).getD a)) % 2
  | [], a, _ => by
    show 0 % 2 = (χ a + χ a) % 2
    omega
  | b :: r, a, h => by
    have ih := path_par f χ r b fun z hz => h z (List.mem_cons_of_mem _ hz)
    have u := h (a, b) List.mem_cons_self
    have el : ((b :: r)[(b :: r).length - 1]?).getD a = (r[r.length - 1]?).getD b := by
      cases r with
      | nil => rfl
      | cons c t =>
        rw [show (b :: c :: t).length - 1 = (c :: t).length - 1 + 1 by simp, List.getElem?_cons_succ]
        have : (c :: t)[(c :: t).length - 1]? = some ((c :: t)[(c :: t).length - 1]'(by simp)) := List.getElem?_eq_getElem _
        rw [this]
        rfl
    rw [el, show prsF a (b :: r) = (a, b) :: prsF b r from rfl, List.map_cons, List.sum_cons]
    dsimp only at u
    omega
/-- an upright step of row y, at x or left of it -/
def vp (x y : Int) (z : Pt × Pt) : Nat := match upO z with
  | some e => if e.2 = y ∧ e.1 ≤ x then 1 else 0
  | none => 0
/-- the level step from (a, b) to (a + 1, b), either way -/
def hp (a b : Int) (z : Pt × Pt) : Nat := if z.1.2 = b ∧ z.2.2 = b ∧ ((z.1.1 = a ∧ z.2.1 = a + 1) ∨ (z.1.1 = a + 1 ∧ z.2.1 = a)) then 1 else 0
def chi (a b : Int) (p : Pt) : Nat := if p.2 = b ∧ p.1 ≤ a then 1 else 0
theorem cnt_sum (x y : Int) : ∀ E : List (Pt × Pt), cntI x (((E.filterMap upO).filter fun e => decide (e.2 = y)).map (·.1)) = (E.map (vp x y)).sum
  | [] => rfl
  | z :: E => by
    have ih := cnt_sum x y E
    rw [List.map_cons, List.sum_cons, ← ih]
    unfold vp
    cases h : upO z with
    | none => rw [List.filterMap_cons_none h]; simp
    | some e =>
      rw [List.filterMap_cons_some h]
      dsimp only
      by_cases q : e.2 = y
      · rw [List.filter_cons_of_pos (by simpa using q), List.map_cons]
        unfold cntI
        by_cases q2 : e.1 ≤ x
        · rw [List.filter_cons_of_pos (by simpa using q2), List.length_cons, if_pos ⟨q, q2⟩]
          omega
        · rw [List.filter_cons_of_neg (by simpa using q2), if_neg fun h => q2 h.2]
          omega
      · rw [List.filter_cons_of_neg (by simpa using q), if_neg fun h => q h.1]
        omega
theorem hp_chi {u v : Pt} (h : U u v) (a b : Int) : (vp a b (u, v) + vp a (b - 1) (u, v) + hp a b (u, v)) % 2 = (chi a b u + chi a b v) % 2 := by
  obtain ⟨x1, y1⟩ := u
  obtain ⟨x2, y2⟩ := v
  unfold U at h
  dsimp only at h
  unfold vp hp chi upO
  dsimp only
  by_cases c : x1 = x2
  · rw [if_pos c]
    dsimp only
    have k : y2 = y1 + 1 ∨ y2 = y1 - 1 := by omega
    clear h
    rcases k with k | k
    · rw [if_pos (show y1 < y2 by omega)]
      repeat' split
      all_goals omega
    · rw [if_neg (show ¬ y1 < y2 by omega)]
      repeat' split
      all_goals omega
  · rw [if_neg c]
    dsimp only
    have k : y2 = y1 ∧ (x2 = x1 + 1 ∨ x2 = x1 - 1) := by omega
    clear h
    repeat' split
    all_goals omega
theorem sum_add3 (f g h : Pt × Pt → Nat) : ∀ E : List (Pt × Pt), (E.map fun z => f z + g z + h z).sum = (E.map f).sum + (E.map g).sum + (E.map h).sum
  | [] => rfl
  | z :: E => by
    have ih := sum_add3 f g h E
    simp only [List.map_cons, List.sum_cons]
    omega
theorem sum_zero {f : Pt × Pt → Nat} : ∀ {E : List (Pt × Pt)}, (∀ z ∈ E, f z = 0) → (E.map f).sum = 0
  | [], _ => rfl
  | z :: E, h => by
    rw [List.map_cons, List.sum_cons, h z List.mem_cons_self, sum_zero fun w hw => h w (List.mem_cons_of_mem _ hw)]
section
variable {l : List Pt}
theorem last_self (R : Rg l) : (l[l.length - 1]?).getD (lastP l) = lastP l := by
  unfold lastP
  have : l[l.length - 1]? = some (l[l.length - 1]'(by have := R.three; omega)) := List.getElem?_eq_getElem _
  rw [this]
  rfl
/-- both rows beside a level step, and the step -/
theorem cut_even (R : Rg l) (a b : Int) : (cntI a (plc l b) + cntI a (plc l (b - 1)) + ((prs l).map (hp a b)).sum) % 2 = 0 := by
  have h := path_par (fun z => vp a b z + vp a (b - 1) z + hp a b z) (chi a b) l (lastP l) fun z hz => hp_chi (R.un z hz) a b
  rw [last_self R, sum_add3] at h
  have e1 := cnt_sum a b (prs l)
  have e2 := cnt_sum a (b - 1) (prs l)
  unfold plc ups
  rw [e1, e2]
  unfold prs
  omega
/-- is the cell within? -/
def wi (l : List Pt) (x y : Int) : Bool := decide (cntI x (plc l y) % 2 = 1)
theorem wi_h (R : Rg l) {a b : Int} (h : (a, b) ∉ l ∨ (a + 1, b) ∉ l) : wi l a (b - 1) = wi l a b := by
  have e := cut_even R a b
  have z : ((prs l).map (hp a b)).sum = 0 := sum_zero fun w hw => by
    obtain ⟨m1, m2⟩ := prs_in hw
    obtain ⟨⟨x1, y1⟩, ⟨x2, y2⟩⟩ := w
    unfold hp
    dsimp only at m1 m2 ⊢
    refine if_neg fun q => ?_
    obtain ⟨rfl, rfl, ⟨rfl, rfl⟩ | ⟨rfl, rfl⟩⟩ := q
    · rcases h with h | h
      · exact h m1
      · exact h m2
    · rcases h with h | h
      · exact h m2
      · exact h m1
  unfold wi
  by_cases q : cntI a (plc l b) % 2 = 1
  · rw [decide_eq_true q, decide_eq_true (by omega)]
  · rw [decide_eq_false q, decide_eq_false (by omega)]
theorem wi_v (R : Rg l) {x y : Int} (h : (x, y) ∉ ups l) : wi l (x - 1) y = wi l x y := by
  unfold wi
  rw [cnt_step x (plc_nodup R y), if_neg fun m => h (plc_mem.mp m), Nat.add_zero]
theorem wi_U (R : Rg l) {u v : Pt} (h : U u v) (hu : u ∉ l) (hv : v ∉ l) : wi l u.1 u.2 = wi l v.1 v.2 := by
  obtain ⟨a, b⟩ := u
  obtain ⟨c, d⟩ := v
  unfold U at h
  dsimp only at h ⊢
  rcases h with ⟨rfl, rfl | rfl⟩ | ⟨rfl, rfl | rfl⟩
  · have := wi_h R (a := c) (b := b + 1) (.inl hv)
    rw [← this]
    congr 1
    omega
  · exact (wi_h R (.inl hu)).symm
  · have := wi_v R (x := a + 1) (y := d) fun m => hv (ups_at R m).1
    rw [← this]
    congr 1
    omega
  · exact (wi_v R fun m => hu (ups_at R m).1).symm
/-- right of a cell within stands a step -/
theorem wi_right (R : Rg l) {x y : Int} (h : wi l x y = true) : ∃ x', x < x' ∧ (x', y) ∈ ups l := by
  have h := of_decide_eq_true h
  have ev := plc_even R y
  refine Classical.byContradiction fun n => ?_
  have al : ∀ z ∈ plc l y, z ≤ x := fun z hz => Classical.byContradiction fun q => n ⟨z, by omega, plc_mem.mp hz⟩
  have : cntI x (plc l y) = (plc l y).length := by
    unfold cntI
    rw [List.filter_eq_self.mpr fun z hz => decide_eq_true (al z hz)]
  omega
end
end GD
namespace GD
open PySem L2 G
/-- sums along a way -/
def su (f : Pt × Pt → Nat) (w : Nat → Pt) : Nat → Nat
  | 0 => 0
  | n + 1 => su f w n + f (w n, w (n + 1))
theorem su_congr {f g : Pt × Pt → Nat} {w : Nat → Pt} : ∀ {n : Nat}, (∀ k, k < n → f (w k, w (k + 1)) = g (w k, w (k + 1))) → su f w n = su g w n
  | 0, _ => rfl
  | n + 1, h => by
    show su f w n + _ = su g w n + _
    rw [su_congr fun k hk => h k (by omega), h n (by omega)]
theorem su_add (f g : Pt × Pt → Nat) (w : Nat → Pt) : ∀ n, su (fun z => f z + g z) w n = su f w n + su g w n
  | 0 => rfl
  | n + 1 => by
    show su _ w n + (f _ + g _) = (su f w n + _) + (su g w n + _)
    rw [su_add f g w n]
    omega
theorem su_par {f : Pt × Pt → Nat} {χ : Pt → Nat} {w : Nat → Pt} : ∀ {n : Nat}, (∀ k, k < n → f (w k, w (k + 1)) % 2 = (χ (w k) + χ (w (k + 1))) % 2) → su f w n % 2 = (χ (w 0) + χ (w n)) % 2
  | 0, _ => by show 0 % 2 = _; omega
  | n + 1, h => by
    have a := su_par (f := f) (χ := χ) (w := w) (n := n) fun k hk => h k (by omega)
    have b := h n (by omega)
    show (su f w n + _) % 2 = _
    omega
theorem su_zero {f : Pt × Pt → Nat} {w : Nat → Pt} : ∀ {n : Nat}, (∀ k, k < n → f (w k, w (k + 1)) = 0) → su f w n = 0
  | 0, _ => rfl
  | n + 1, h => by
    show su f w n + _ = 0
    rw [su_zero fun k hk => h k (by omega), h n (by omega)]
theorem su_one {f : Pt × Pt → Nat} {w : Nat → Pt} : ∀ {n k : Nat}, k < n → f (w k, w (k + 1)) = 1 → (∀ j, j < n → j ≠ k → f (w j, w (j + 1)) = 0) → su f w n = 1
  | n + 1, k, hk, h1, h => by
    show su f w n + _ = 1
    by_cases c : k = n
    · subst c
      rw [su_zero fun j hj => h j (by omega) (by omega), h1]
    · rw [su_one (k := k) (by omega) h1 fun j hj ne => h j (by omega) ne, h n (by omega) (fun e => c e.symm)]
/-- level steps between 0 and 1, in the rows up to b -/
def hq (b : Int) (z : Pt × Pt) : Nat := if z.1.2 = z.2.2 ∧ z.1.2 ≤ b ∧ ((z.1.1 = 0 ∧ z.2.1 = 1) ∨ (z.1.1 = 1 ∧ z.2.1 = 0)) then 1 else 0
def eAt (u v : Pt) (z : Pt × Pt) : Nat := if z = (u, v) ∨ z = (v, u) then 1 else 0
theorem vp_step {a b : Int} {z : Pt × Pt} (h : U z.1 z.2) : vp a b z = vp (a - 1) b z + eAt (a, b) (a, b + 1) z := by
  obtain ⟨⟨x1, y1⟩, ⟨x2, y2⟩⟩ := z
  unfold U at h
  unfold vp eAt upO
  dsimp only at h ⊢
  by_cases c : x1 = x2
  · rw [if_pos c]
    dsimp only
    have k : y2 = y1 + 1 ∨ y2 = y1 - 1 := by omega
    clear h
    subst c
    rcases k with rfl | rfl
    · rw [if_pos (show y1 < y1 + 1 by omega)]
      by_cases q : x1 = a ∧ y1 = b
      · obtain ⟨rfl, rfl⟩ := q
        rw [if_pos ⟨rfl, by omega⟩, if_neg (show ¬ (y1 = y1 ∧ x1 ≤ x1 - 1) by omega), if_pos (.inl rfl)]
      · rw [if_neg (show ¬ (((x1, y1), (x1, y1 + 1)) = ((a, b), (a, b + 1)) ∨ ((x1, y1), (x1, y1 + 1)) = ((a, b + 1), (a, b))) from fun e => by
          rcases e with e | e
          · injection e with e1 _
            injection e1 with e1 e2
            exact q ⟨e1, e2⟩
          · injection e with e1 e2
            injection e1 with _ e1
            injection e2 with _ e2
            omega)]
        by_cases r : y1 = b ∧ x1 ≤ a
        · rw [if_pos r, if_pos (show y1 = b ∧ x1 ≤ a - 1 by omega)]
        · rw [if_neg r, if_neg (show ¬ (y1 = b ∧ x1 ≤ a - 1) by omega)]
    · rw [if_neg (show ¬ y1 < y1 - 1 by omega)]
      by_cases q : x1 = a ∧ y1 - 1 = b
      · obtain ⟨rfl, rfl⟩ := q
        rw [if_pos ⟨rfl, by omega⟩, if_neg (show ¬ (y1 - 1 = y1 - 1 ∧ x1 ≤ x1 - 1) by omega), if_pos (.inr (by rw [show y1 - 1 + 1 = y1 by omega]))]
      · rw [if_neg (show ¬ (((x1, y1), (x1, y1 - 1)) = ((a, b), (a, b + 1)) ∨ ((x1, y1), (x1, y1 - 1)) = ((a, b + 1), (a, b))) from fun e => by
          rcases e with e | e
          · injection e with e1 e2
            injection e1 with _ e1
            injection e2 with _ e2
            omega
          · injection e with e1 e2
            injection e1 with e3 e1
            injection e2 with _ e2
            exact q ⟨e3, e2⟩)]
        by_cases r : y1 - 1 = b ∧ x1 ≤ a
        · rw [if_pos r, if_pos (show y1 - 1 = b ∧ x1 ≤ a - 1 by omega)]
        · rw [if_neg r, if_neg (show ¬ (y1 - 1 = b ∧ x1 ≤ a - 1) by omega)]
  · rw [if_neg c]
    dsimp only
    rw [if_neg fun e => c (by
      rcases e with e | e <;>
      · injection e with e1 e2
        injection e1 with e1 _
        injection e2 with e2 _
        omega)]
theorem hp_eAt (a b : Int) (z : Pt × Pt) : hp a b z = eAt (a, b) (a + 1, b) z := by
  obtain ⟨⟨x1, y1⟩, ⟨x2, y2⟩⟩ := z
  unfold hp eAt
  dsimp only
  by_cases c : y1 = b ∧ y2 = b ∧ (x1 = a ∧ x2 = a + 1 ∨ x1 = a + 1 ∧ x2 = a)
  · rw [if_pos c, if_pos]
    obtain ⟨rfl, rfl, ⟨rfl, rfl⟩ | ⟨rfl, rfl⟩⟩ := c
    · exact .inl rfl
    · exact .inr rfl
  · rw [if_neg c, if_neg]
    intro e
    apply c
    rcases e with e | e <;>
    · injection e with e1 e2
      injection e1 with e1 e3
      injection e2 with e2 e4
      omega
def chi2 (a b : Int) (p : Pt) : Nat := if p.2 = b ∧ 1 ≤ p.1 ∧ p.1 ≤ a then 1 else 0
theorem hq_chi {u v : Pt} (h : U u v) (hx : u.1 = v.1 → 1 ≤ u.1) {a : Int} (ha : 0 ≤ a) (b : Int) : (vp a b (u, v) + hq b (u, v) + (vp a (b - 1) (u, v) + hq (b - 1) (u, v)) + hp a b (u, v)) % 2 = (chi2 a b u + chi2 a b v) % 2 := by
  obtain ⟨x1, y1⟩ := u
  obtain ⟨x2, y2⟩ := v
  unfold U at h
  dsimp only at h hx
  unfold vp hp hq chi2 upO
  dsimp only
  by_cases c : x1 = x2
  · rw [if_pos c]
    dsimp only
    have k : y2 = y1 + 1 ∨ y2 = y1 - 1 := by omega
    have := hx c
    clear h hx
    rcases k with k | k
    · rw [if_pos (show y1 < y2 by omega)]
      repeat' split
      all_goals omega
    · rw [if_neg (show ¬ y1 < y2 by omega)]
      repeat' split
      all_goals omega
  · rw [if_neg c]
    dsimp only
    have k : y2 = y1 ∧ (x2 = x1 + 1 ∨ x2 = x1 - 1) := by omega
    clear h hx
    obtain ⟨rfl, k⟩ := k
    by_cases r : y2 = b
    · subst r
      repeat' split
      all_goals omega
    · repeat' split
      all_goals omega
section
variable {us ls : List Int} {c : Bool} {l : List Pt}
/-- steps of a seam: unit steps, upright ones at 1 or right of it -/
theorem seq_U (q : Sm.Seam (nb us ls) c l) {k : Nat} (h : k < stepsN c l) : U (seqW c l k) (seqW c l (k + 1)) ∧ ((seqW c l k).1 = (seqW c l (k + 1)).1 → 1 ≤ (seqW c l k).1) := by
  have a := (seq_adj q h).1
  refine ⟨nb_unit a, fun e => ?_⟩
  rcases mem_nb.mp a with m | m
  · exact absurd e.symm (row_step m).1
  · have := (mem_col.mp m).1
    omega
/-- the ends of an open seam have one neighbour -/
theorem seq_end (q : Sm.Seam (nb us ls) false l) : (nb us ls (seqW false l 0)).length = 1 ∧ (nb us ls (seqW false l (stepsN false l))).length = 1 := by
  have h2 := q.two
  have e : ∀ j, seqW false l j = l.getD j (0, 0) := fun j => by unfold seqW; simp
  have sn : stepsN false l = l.length - 1 := by unfold stepsN; simp
  rw [e, e, sn]
  have d0 := q.deg 0 _ (getD_eq (by omega))
  have d1 := q.deg (l.length - 1) _ (getD_eq (by omega))
  rw [if_neg (by simp)] at d0
  rw [if_neg (by simp; omega)] at d1
  exact ⟨d0, d1⟩
theorem seq_round (q : Sm.Seam (nb us ls) true l) : seqW true l (stepsN true l) = seqW true l 0 := by
  have h3 := (q.shut rfl).1
  have sn : stepsN true l = l.length := by unfold stepsN; simp; omega
  rw [sn]
  unfold seqW
  rw [if_pos rfl, if_pos rfl, if_neg (by omega), if_pos rfl]
theorem seq_mem (q : Sm.Seam (nb us ls) c l) {k : Nat} (h : k ≤ stepsN c l) : seqW c l k ∈ l := by
  have h2 := q.two
  cases c with
  | false =>
    have sn : stepsN false l = l.length - 1 := by unfold stepsN; simp
    have e : seqW false l k = l.getD k (0, 0) := by unfold seqW; simp
    rw [e]
    exact List.mem_of_getElem? (getD_eq (by omega))
  | true =>
    have sn : stepsN true l = l.length := by unfold stepsN; simp; omega
    unfold seqW
    rw [if_pos rfl]
    split
    · exact List.mem_of_getElem? (getD_eq (by omega))
    · exact List.mem_of_getElem? (getD_eq (by omega))
theorem seq_inj (q : Sm.Seam (nb us ls) c l) {i j : Nat} (hi : i < stepsN c l) (hj : j < stepsN c l) (e : seqW c l i = seqW c l j) : i = j := by
  have h2 := q.two
  have ap : ∀ i j, i < l.length → j < l.length → l.getD i (0, 0) = l.getD j (0, 0) → i = j := fun i j hi hj e => (List.getElem?_inj (i := i) (j := j) hi q.nd).mp (by rw [getD_eq hi, getD_eq hj, e])
  cases c with
  | false =>
    have sn : stepsN false l = l.length - 1 := by unfold stepsN; simp
    have e0 : ∀ j, seqW false l j = l.getD j (0, 0) := fun j => by unfold seqW; simp
    rw [e0, e0] at e
    exact ap _ _ (by omega) (by omega) e
  | true =>
    have sn : stepsN true l = l.length := by unfold stepsN; simp; omega
    have e0 : ∀ k, seqW true l k = l.getD (if k = 0 then l.length - 1 else k - 1) (0, 0) := fun k => by
      unfold seqW
      rw [if_pos rfl]
      split <;> rfl
    rw [e0, e0] at e
    have := ap _ _ (by split <;> omega) (by split <;> omega) e
    split at this <;> split at this <;> omega
theorem nb_one_edge {z : Pt} (hz : (nb us ls z).length = 1) : ¬ (1 ≤ z.1 ∧ z.1 ≤ us.length ∧ 1 ≤ z.2 ∧ z.2 ≤ ls.length) := fun h => by
  have mr : (rx ls z.1 z.2, z.2) ∈ nb us ls z := mem_nb.mpr (.inl (mem_row.mpr ⟨⟨by omega, by omega, by unfold rx; split <;> omega, by unfold rx; split <;> omega⟩, rfl⟩))
  have mc : (z.1, cy us z.1 z.2) ∈ nb us ls z := mem_nb.mpr (.inr (mem_col.mpr ⟨⟨by omega, by omega, by unfold cy; split <;> omega, by unfold cy; split <;> omega⟩, rfl⟩))
  obtain ⟨w, e⟩ := List.length_eq_one_iff.mp hz
  rw [e] at mr mc
  have e1 := List.mem_singleton.mp mr
  have e2 := List.mem_singleton.mp mc
  rw [← e2] at e1
  injection e1 with e1 _
  exact rx_ne z.1 z.2 e1
/-- the parity of a cell against a seam -/
def gN (c : Bool) (l : List Pt) (a b : Int) : Nat := su (fun z => vp a b z + hq b z) (seqW c l) (stepsN c l)
/-- how often a seam takes the step between u and v -/
def eN (c : Bool) (l : List Pt) (u v : Pt) : Nat := su (eAt u v) (seqW c l) (stepsN c l)
theorem gN_v (q : Sm.Seam (nb us ls) c l) (a b : Int) : gN c l a b = gN c l (a - 1) b + eN c l (a, b) (a, b + 1) := by
  unfold gN eN
  rw [← su_add]
  refine su_congr fun k hk => ?_
  have := vp_step (a := a) (b := b) (z := (seqW c l k, seqW c l (k + 1))) (seq_U q hk).1
  omega
theorem gN_h (q : Sm.Seam (nb us ls) c l) {a b : Int} (ha : 0 ≤ a) (ha2 : a ≤ us.length) (hb : 1 ≤ b) (hb2 : b ≤ ls.length) : (gN c l a b + gN c l a (b - 1) + eN c l (a, b) (a + 1, b)) % 2 = 0 := by
  have e : gN c l a b + gN c l a (b - 1) + eN c l (a, b) (a + 1, b) = su (fun z => vp a b z + hq b z + (vp a (b - 1) z + hq (b - 1) z) + hp a b z) (seqW c l) (stepsN c l) := by
    unfold gN eN
    rw [su_add (fun z => vp a b z + hq b z + (vp a (b - 1) z + hq (b - 1) z)), su_add (fun z => vp a b z + hq b z)]
    congr 1
    exact su_congr fun k _ => (hp_eAt a b _).symm
  rw [e, su_par (χ := chi2 a b) fun k hk => hq_chi (seq_U q hk).1 (seq_U q hk).2 ha b]
  cases c with
  | true => rw [seq_round q]; omega
  | false =>
    obtain ⟨d0, d1⟩ := seq_end q
    have z : ∀ w : Pt, (nb us ls w).length = 1 → chi2 a b w = 0 := fun w hw => by
      unfold chi2
      refine if_neg fun h => nb_one_edge hw ?_
      omega
    rw [z _ d0, z _ d1]
/-- a stitch of a seam's point: the seam takes it once -/
theorem eN_one (q : Sm.Seam (nb us ls) c l) {u v : Pt} (hu : u ∈ l) (hv : v ∈ nb us ls u) (hs : u ∈ nb us ls v) : eN c l u v = 1 := by
  have hvl : v ∈ l := q.cl u hu v hv
  have h2 := q.two
  -- a step between u and v
  have ex : ∃ k, k < stepsN c l ∧ ((seqW c l k = u ∧ seqW c l (k + 1) = v) ∨ (seqW c l k = v ∧ seqW c l (k + 1) = u)) := by
    obtain ⟨i, hi⟩ := List.getElem?_of_mem hu
    have il := (List.getElem?_eq_some_iff.mp hi).1
    have gi : l.getD i (0, 0) = u := by rw [List.getD_eq_getElem?_getD, hi]; rfl
    cases c with
    | false =>
      have sn : stepsN false l = l.length - 1 := by unfold stepsN; simp
      have e0 : ∀ j, seqW false l j = l.getD j (0, 0) := fun j => by unfold seqW; simp
      by_cases c0 : i = 0
      · subst c0
        have a := (seq_adj q (k := 0) (by omega)).1
        rw [e0, e0, gi] at a
        have d := q.deg 0 u hi
        rw [if_neg (by simp)] at d
        obtain ⟨w, e⟩ := List.length_eq_one_iff.mp d
        rw [e] at a hv
        refine ⟨0, by omega, .inl ⟨by rw [e0]; exact gi, ?_⟩⟩
        rw [e0, List.mem_singleton.mp a, List.mem_singleton.mp hv]
      · have a := (seq_adj q (k := i - 1) (by omega)).2
        rw [e0, e0, show i - 1 + 1 = i by omega, gi] at a
        by_cases c1 : i + 1 < l.length
        · have b := (seq_adj q (k := i) (by omega)).1
          rw [e0, e0, gi] at b
          have ne := seq_ne q (k := i - 1) (by omega)
          rw [e0, e0, show i - 1 + 2 = i + 1 by omega] at ne
          have d := q.deg i u hi
          rw [if_pos (.inr ⟨by omega, c1⟩)] at d
          rcases Sm.one_of (Nat.le_of_eq d) a b ne hv with r | r
          · refine ⟨i - 1, by omega, .inr ⟨by rw [e0]; exact r.symm, by rw [e0, show i - 1 + 1 = i by omega]; exact gi⟩⟩
          · exact ⟨i, by omega, .inl ⟨by rw [e0]; exact gi, by rw [e0]; exact r.symm⟩⟩
        · have d := q.deg i u hi
          rw [if_neg (by simp; omega)] at d
          obtain ⟨w, e⟩ := List.length_eq_one_iff.mp d
          rw [e] at a hv
          refine ⟨i - 1, by omega, .inr ⟨?_, by rw [e0, show i - 1 + 1 = i by omega]; exact gi⟩⟩
          rw [e0, List.mem_singleton.mp a, List.mem_singleton.mp hv]
    | true =>
      have h3 := (q.shut rfl).1
      have sn : stepsN true l = l.length := by unfold stepsN; simp; omega
      have e1 : ∀ j, seqW true l (j + 1) = l.getD j (0, 0) := fun j => by unfold seqW; simp
      have e0 : seqW true l 0 = l.getD (l.length - 1) (0, 0) := by unfold seqW; simp
      have d := q.deg i u hi
      rw [if_pos (.inl rfl)] at d
      have a := (seq_adj q (k := i) (by omega)).2
      rw [e1, gi] at a
      by_cases c1 : i + 1 < l.length
      · have b := (seq_adj q (k := i + 1) (by omega)).1
        rw [e1, gi] at b
        have ne := seq_ne q (k := i) (by omega)
        rcases Sm.one_of (Nat.le_of_eq d) a b ne hv with r | r
        · exact ⟨i, by omega, .inr ⟨r.symm, by rw [e1]; exact gi⟩⟩
        · exact ⟨i + 1, by omega, .inl ⟨by rw [e1]; exact gi, r.symm⟩⟩
      · obtain rfl : i = l.length - 1 := by omega
        have b := (seq_adj q (k := 0) (by omega)).1
        rw [e0, gi] at b
        have ne : seqW true l (l.length - 1) ≠ seqW true l 1 := by
          intro e
          have := seq_inj q (i := l.length - 1) (j := 1) (by omega) (by omega) e
          omega
        rcases Sm.one_of (Nat.le_of_eq d) a b ne hv with r | r
        · exact ⟨l.length - 1, by omega, .inr ⟨r.symm, by rw [e1]; exact gi⟩⟩
        · exact ⟨0, by omega, .inl ⟨by rw [e0]; exact gi, r.symm⟩⟩
  obtain ⟨k, hk, hkw⟩ := ex
  have one : eAt u v (seqW c l k, seqW c l (k + 1)) = 1 := by
    unfold eAt
    rw [if_pos]
    rcases hkw with ⟨h1, h2⟩ | ⟨h1, h2⟩
    · exact .inl (by rw [h1, h2])
    · exact .inr (by rw [h1, h2])
  -- the other way round has another parity
  have flip : ∀ a b : Pt, b ∈ nb us ls a → a ∈ nb us ls b → parW a b ≠ parW b a := fun a b h h' => by
    unfold parW
    rcases step_two h with ⟨r, m⟩ | ⟨r, m⟩
    · rcases step_two h' with ⟨r', _⟩ | ⟨r', m'⟩
      · obtain ⟨h1, h2⟩ := row_one m
        rw [r, r', if_pos rfl, if_pos rfl]
        omega
      · exact absurd (col_step m').1 (row_step m).1.symm
    · rcases step_two h' with ⟨r', m'⟩ | ⟨r', _⟩
      · exact absurd (col_step m).1 (row_step m').1.symm
      · obtain ⟨h1, h2⟩ := col_one m
        rw [r, r', if_neg (by decide), if_neg (by decide)]
        omega
  refine su_one hk one fun j hj ne => ?_
  unfold eAt
  refine if_neg fun e => ne ?_
  have pj := par_all q hj
  have pk := par_all q hk
  rcases e with e | e <;> (injection e with e1 e2)
  · rcases hkw with ⟨h1, h2⟩ | ⟨h1, h2⟩
    · exact seq_inj q hj hk (e1.trans h1.symm)
    · rw [e1, e2, ← pk, h1, h2] at pj
      exact absurd pj (flip u v hv hs)
  · rcases hkw with ⟨h1, h2⟩ | ⟨h1, h2⟩
    · rw [e1, e2, ← pk, h1, h2] at pj
      exact absurd pj (flip v u hs hv)
    · exact seq_inj q hj hk (e1.trans h1.symm)
theorem eN_out (q : Sm.Seam (nb us ls) c l) {u v : Pt} (hu : u ∉ l) : eN c l u v = 0 := su_zero fun k hk => by
  have m1 := seq_mem q (k := k) (by omega)
  have m2 := seq_mem q (k := k + 1) (by omega)
  unfold eAt
  refine if_neg fun e => ?_
  rcases e with e | e <;> (injection e with e1 e2)
  · exact hu (e1 ▸ m1)
  · exact hu (e2 ▸ m2)
theorem eN_not (q : Sm.Seam (nb us ls) c l) {u v : Pt} (hv : v ∉ nb us ls u) : eN c l u v = 0 := su_zero fun k hk => by
  have a := seq_adj q hk
  unfold eAt
  refine if_neg fun e => ?_
  rcases e with e | e <;> (injection e with e1 e2; rw [e1, e2] at a)
  · exact hv a.1
  · exact hv a.2
end
end GD
namespace GD
open PySem L2 G
end GD
namespace GD
open PySem L2 G
end GD
namespace GD
open PySem L2 G
end GD
namespace GD
open PySem L2 G
theorem Rect.set {F : List (List Int)} {m n y x : Nat} {v : Int} (h : Rect F m n) (hy : y < m) (hv : v = 0 ∨ v = 1) : Rect (F.set y ((rowA F y).set x v)) m n := by
  have hm : rowA F y ∈ F := rowA_mem (by rw [h.len]; exact hy)
  refine ⟨by rw [List.length_set]; exact h.len, fun r hr => ?_, fun r hr => ?_⟩
  · rcases List.mem_or_eq_of_mem_set hr with hr | rfl
    · exact h.row r hr
    · rw [List.length_set]; exact h.row _ hm
  · rcases List.mem_or_eq_of_mem_set hr with hr | rfl
    · exact h.bit r hr
    · intro b hb
      rcases List.mem_or_eq_of_mem_set hb with hb | rfl
      · exact h.bit _ hm b hb
      · exact hv
end GD
namespace Fd
/-- a strip: ("x", k), ("y", k) -/
abbrev Stp := Bool × Int
inductive Fc where
  | cell (x y c : Int) | line (r : Bool) (k s : Int) (b : Bool)
  deriving DecidableEq
def one : Fc → Stp
  | .cell x _ _ => (false, x)
  | .line r k _ _ => (r, k)
def two : Fc → Stp
  | .cell _ y _ => (true, y)
  | .line r k _ _ => (r, k + 1)
def b2 (b : Bool) : Int := if b then 1 else 0
def wt : Fc → Int
  | .cell x y c => (c + x * y) % 2
  | .line _ _ s b => (s + b2 b) % 2
abbrev Nfs := List (Int × Fc)
/-- a fact's number, the other strip, the weight -/
abbrev Tr3 := Int × Stp × Int
def tie (b : Stp) (z : Int × Fc) : List Tr3 := (if one z.2 = b then [(z.1, two z.2, wt z.2)] else []) ++ if two z.2 = b then [(z.1, one z.2, wt z.2)] else []
def ties (fs : Nfs) (b : Stp) : List Tr3 := fs.flatMap (tie b)
theorem mem_ties {fs : Nfs} {b : Stp} {t : Tr3} : t ∈ ties fs b ↔ ∃ z ∈ fs, t.1 = z.1 ∧ t.2.2 = wt z.2 ∧ ((one z.2 = b ∧ two z.2 = t.2.1) ∨ (two z.2 = b ∧ one z.2 = t.2.1)) := by
  unfold ties
  rw [List.mem_flatMap]
  constructor
  · rintro ⟨z, hz, h⟩
    refine ⟨z, hz, ?_⟩
    unfold tie at h
    rcases List.mem_append.mp h with h | h
    · split at h
      · rename_i e
        rw [List.mem_singleton.mp h]
        exact ⟨rfl, rfl, .inl ⟨e, rfl⟩⟩
      · cases h
    · split at h
      · rename_i e
        rw [List.mem_singleton.mp h]
        exact ⟨rfl, rfl, .inr ⟨e, rfl⟩⟩
      · cases h
  · rintro ⟨z, hz, h1, h2, h3⟩
    refine ⟨z, hz, ?_⟩
    obtain ⟨n, o, w⟩ := t
    dsimp only at h1 h2 h3
    subst h1 h2
    unfold tie
    rcases h3 with ⟨e1, e2⟩ | ⟨e1, e2⟩
    · rw [if_pos e1, e2]
      simp
    · rw [if_pos e1, e2]
      simp
theorem ties_sym {fs : Nfs} {a b : Stp} {n w : Int} (h : (n, b, w) ∈ ties fs a) : (n, a, w) ∈ ties fs b := by
  obtain ⟨z, hz, h1, h2, h3⟩ := mem_ties.mp h
  refine mem_ties.mpr ⟨z, hz, h1, h2, ?_⟩
  rcases h3 with ⟨e1, e2⟩ | ⟨e1, e2⟩
  · exact .inr ⟨e2, e1⟩
  · exact .inl ⟨e2, e1⟩
structure E where
  k : Stp
  rs : List Int
  w : Int
def add (c : E) (es : List E) (z : Tr3) : List E := if z.2.1 ∈ es.map (·.k) then es else es ++ [⟨z.2.1, c.rs ++ [z.1], (c.w + z.2.2) % 2⟩]
def turn (N : Stp → List Tr3) (es : List E) (n : Nat) : List E := match es[n]? with
  | some c => (N c.k).foldl (add c) es
  | none => es
def run (N : Stp → List Tr3) (s : Stp) : Nat → List E
  | 0 => [⟨s, [], 0⟩]
  | n + 1 => turn N (run N s n) n
/-- the neighbours alone -/
def nbs (N : Stp → List Tr3) (a : Stp) : List Stp := (N a).map (·.2.1)
theorem fold_keys (c : E) (d : Bf.E Stp) : ∀ (zs : List Tr3) (es : List E) (fs : List (Bf.E Stp)), es.map (·.k) = fs.map (·.k) → (zs.foldl (add c) es).map (·.k) = ((zs.map (·.2.1)).foldl (Bf.add d) fs).map (·.k)
  | [], _, _, h => h
  | z :: zs, es, fs, h => by
    rw [List.foldl_cons, List.map_cons, List.foldl_cons]
    refine fold_keys c d zs _ _ ?_
    unfold add Bf.add
    rw [← h]
    by_cases m : z.2.1 ∈ es.map (·.k)
    · rw [if_pos m, if_pos m]; exact h
    · rw [if_neg m, if_neg m, List.map_append, List.map_append, h]
      rfl
theorem run_keys (N : Stp → List Tr3) (s : Stp) : ∀ n, (run N s n).map (·.k) = (Bf.run (nbs N) s n).map (·.k)
  | 0 => rfl
  | n + 1 => by
    have ih := run_keys N s n
    show (turn N (run N s n) n).map (·.k) = (Bf.turn (nbs N) (Bf.run (nbs N) s n) n).map (·.k)
    unfold turn Bf.turn
    have e : (run N s n)[n]?.map (·.k) = (Bf.run (nbs N) s n)[n]?.map (·.k) := by rw [← List.getElem?_map, ← List.getElem?_map, ih]
    cases q : (run N s n)[n]? with
    | none =>
      rw [q] at e
      cases q2 : (Bf.run (nbs N) s n)[n]? with
      | none => exact ih
      | some d => rw [q2] at e; cases e
    | some c =>
      rw [q] at e
      cases q2 : (Bf.run (nbs N) s n)[n]? with
      | none => rw [q2] at e; cases e
      | some d =>
        rw [q2] at e
        have ek : c.k = d.k := Option.some.inj e
        dsimp only
        rw [ek]
        exact fold_keys c d _ _ _ ih
theorem run_len (N : Stp → List Tr3) (s : Stp) (n : Nat) : (run N s n).length = (Bf.run (nbs N) s n).length := by
  have := congrArg List.length (run_keys N s n)
  rwa [List.length_map, List.length_map] at this
inductive Pth (N : Stp → List Tr3) (s : Stp) : List Int → Int → Stp → Prop
  | nil : Pth N s [] 0 s
  | snoc {rs : List Int} {w wt n : Int} {b c : Stp} : Pth N s rs w b → (n, c, wt) ∈ N b → Pth N s (rs ++ [n]) ((w + wt) % 2) c
theorem run_path (N : Stp → List Tr3) (s : Stp) : ∀ n, ∀ e ∈ run N s n, Pth N s e.rs e.w e.k
  | 0 => fun e he => by
    rw [List.mem_singleton.mp he]
    exact .nil
  | n + 1 => by
    have ih := run_path N s n
    show ∀ e ∈ turn N (run N s n) n, _
    unfold turn
    cases q : (run N s n)[n]? with
    | none => exact ih
    | some c =>
      have hc := ih c (List.mem_of_getElem? q)
      have key : ∀ (zs : List Tr3) (es : List E), (∀ z ∈ zs, z ∈ N c.k) → (∀ e ∈ es, Pth N s e.rs e.w e.k) → ∀ e ∈ zs.foldl (add c) es, Pth N s e.rs e.w e.k := by
        intro zs
        induction zs with
        | nil => intro es _ h; exact h
        | cons z zs ih2 =>
          intro es hz h
          rw [List.foldl_cons]
          refine ih2 _ (fun y hy => hz y (List.mem_cons_of_mem _ hy)) ?_
          unfold add
          split
          · exact h
          · intro e he
            rcases List.mem_append.mp he with he | he
            · exact h e he
            · rw [List.mem_singleton.mp he]
              exact .snoc hc (hz z List.mem_cons_self)
      exact key _ _ (fun _ h => h) ih
theorem Pth.bit {N : Stp → List Tr3} {s : Stp} {rs : List Int} {w : Int} {t : Stp} (h : Pth N s rs w t) : w = 0 ∨ w = 1 := by
  cases h with
  | nil => exact .inl rfl
  | snoc _ _ => omega
def Pot (fs : Nfs) (p : Stp → Int) : Prop := ∀ z ∈ fs, (p (one z.2) + p (two z.2) + wt z.2) % 2 = 0
theorem Pot.tie {fs : Nfs} {p : Stp → Int} (h : Pot fs p) {a : Stp} {t : Tr3} (ht : t ∈ ties fs a) : (p a + p t.2.1 + t.2.2) % 2 = 0 := by
  obtain ⟨z, hz, _, h2, h3⟩ := mem_ties.mp ht
  have := h z hz
  rw [h2]
  rcases h3 with ⟨e1, e2⟩ | ⟨e1, e2⟩
  · rw [← e1, ← e2]; exact this
  · rw [← e1, ← e2]; omega
theorem Pth.pot {fs : Nfs} {p : Stp → Int} (hp : Pot fs p) {s : Stp} : ∀ {rs : List Int} {w : Int} {t : Stp}, Pth (ties fs) s rs w t → (p s + p t + w) % 2 = 0
  | _, _, _, .nil => by omega
  | _, _, _, .snoc (b := b) h ht => by
    have ih := Pth.pot hp h
    have := hp.tie ht
    dsimp only at this
    omega
/-- the strips that the facts tie -/
def ends (fs : Nfs) : List Stp := fs.flatMap fun z => [one z.2, two z.2]
theorem ends_len (fs : Nfs) : (ends fs).length = 2 * fs.length := by
  induction fs with
  | nil => rfl
  | cons z fs ih =>
    show ([one z.2, two z.2] ++ ends fs).length = _
    rw [List.length_append, ih]
    simp
    omega
theorem ties_end {fs : Nfs} {a : Stp} {t : Tr3} (h : t ∈ ties fs a) : t.2.1 ∈ ends fs := by
  obtain ⟨z, hz, _, _, h3⟩ := mem_ties.mp h
  refine List.mem_flatMap.mpr ⟨z, hz, ?_⟩
  rcases h3 with ⟨_, e2⟩ | ⟨_, e2⟩ <;> simp [e2]
theorem reach_len (fs : Nfs) (s : Stp) (n : Nat) : (run (ties fs) s n).length ≤ 2 * fs.length + 1 := by
  rw [run_len]
  have := Bf.run_ends (N := nbs (ties fs)) (s := s) (S := fun a => a ∈ s :: ends fs) (L := s :: ends fs) List.mem_cons_self (fun a _ b hb => by
    obtain ⟨t, ht, rfl⟩ := List.mem_map.mp hb
    exact List.mem_cons_of_mem _ (ties_end ht)) (fun _ h => h) n
  rw [List.length_cons, ends_len] at this
  exact this
/-- what is reached from a strip -/
def reach (fs : Nfs) (s : Stp) : List E := run (ties fs) s (2 * fs.length + 1)
theorem reach_path {fs : Nfs} {s : Stp} {e : E} (h : e ∈ reach fs s) : Pth (ties fs) s e.rs e.w e.k := run_path _ _ _ e h
theorem reach_pot {fs : Nfs} {p : Stp → Int} (hp : Pot fs p) {s : Stp} {e : E} (h : e ∈ reach fs s) : (p s + p e.k + e.w) % 2 = 0 := (reach_path h).pot hp
/-- the reached strips are closed -/
theorem reach_cl {fs : Nfs} {s a b : Stp} (ha : a ∈ (reach fs s).map (·.k)) {n w : Int} (h : (n, b, w) ∈ ties fs a) : b ∈ (reach fs s).map (·.k) := by
  have I := Bf.run_inv (nbs (ties fs)) s (2 * fs.length + 1)
  have hl : (Bf.run (nbs (ties fs)) s (2 * fs.length + 1)).length ≤ 2 * fs.length + 1 := by rw [← run_len]; exact reach_len fs s _
  have e : (reach fs s).map (·.k) = (Bf.run (nbs (ties fs)) s (2 * fs.length + 1)).map (·.k) := run_keys _ _ _
  rw [e] at ha ⊢
  obtain ⟨d, hd, rfl⟩ := List.mem_map.mp ha
  obtain ⟨j, hj⟩ := List.getElem?_of_mem hd
  obtain ⟨f, hf, hk, _⟩ := I.cl j d (by have := (List.getElem?_eq_some_iff.mp hj).1; omega) hj b (List.mem_map.mpr ⟨_, h, rfl⟩)
  exact List.mem_map.mpr ⟨f, hf, hk⟩
theorem reach_self (fs : Nfs) (s : Stp) : s ∈ (reach fs s).map (·.k) := by
  have I := Bf.run_inv (nbs (ties fs)) s (2 * fs.length + 1)
  have e : (reach fs s).map (·.k) = (Bf.run (nbs (ties fs)) s (2 * fs.length + 1)).map (·.k) := run_keys _ _ _
  rw [e]
  exact List.mem_map.mpr ⟨_, List.mem_of_getElem? I.h0, rfl⟩
end Fd
namespace GD
open PySem L2 G
open Fd (Stp Fc Nfs Tr3)
def spW (b : Bool) : Str := if b then "y" else "x"
def spK (a : Stp) : List Key := [.inr (spW a.1), .inl a.2]
def spD (a : Stp) : D := .tup [.str (spW a.1), .int a.2]
def lnW (b : Bool) : Str := if b then "row" else "col"
def fcD : Fc → D
  | .cell x y c => .tup [.str "cell", .int x, .int y, .int c]
  | .line r k s b => .tup [.str (lnW r), .int k, .int s, .bl b]
def fsD (fs : Nfs) : D := .dK (fs.map fun z => .inl z.1) (fs.map fun z => fcD z.2)
abbrev An := List (Stp × List Tr3)
def addN (b : Stp) (t : Tr3) : An → An
  | [] => [(b, [t])]
  | a :: A => if a.1 = b then (a.1, a.2 ++ [t]) :: A else a :: addN b t A
def fcT (z : Int × Fc) : D := .tup [.int z.1, fcD z.2]
end GD
namespace Fd
end Fd
namespace GD
open PySem L2 G
open Fd (Stp Fc Nfs Tr3)
end GD
namespace Fd
/-- b is reached from a -/
def Cn (fs : Nfs) (a b : Stp) : Prop := b ∈ (reach fs a).map (·.k)
instance (fs : Nfs) (a b : Stp) : Decidable (Cn fs a b) := inferInstanceAs (Decidable (b ∈ (reach fs a).map (·.k)))
theorem Cn.refl (fs : Nfs) (a : Stp) : Cn fs a a := reach_self fs a
theorem Pth.cn {fs : Nfs} {a b : Stp} (h : Cn fs a b) : ∀ {rs : List Int} {w : Int} {c : Stp}, Pth (ties fs) b rs w c → Cn fs a c
  | _, _, _, .nil => h
  | _, _, _, .snoc h1 h2 => reach_cl (Pth.cn h h1) h2
theorem Cn.path {fs : Nfs} {a b : Stp} (h : Cn fs a b) : ∃ rs w, Pth (ties fs) a rs w b := by
  obtain ⟨e, he, rfl⟩ := List.mem_map.mp h
  exact ⟨_, _, reach_path he⟩
theorem Cn.trans {fs : Nfs} {a b c : Stp} (h : Cn fs a b) (g : Cn fs b c) : Cn fs a c := by
  obtain ⟨rs, w, p⟩ := g.path
  exact p.cn h
theorem Cn.tie {fs : Nfs} {a b : Stp} {n w : Int} (h : (n, b, w) ∈ ties fs a) : Cn fs a b := reach_cl (reach_self fs a) h
theorem Pth.back {fs : Nfs} {a : Stp} : ∀ {rs : List Int} {w : Int} {c : Stp}, Pth (ties fs) a rs w c → Cn fs c a
  | _, _, _, .nil => .refl _ _
  | _, _, _, .snoc h1 h2 => (Cn.tie (ties_sym h2)).trans (Pth.back h1)
theorem Cn.symm {fs : Nfs} {a b : Stp} (h : Cn fs a b) : Cn fs b a := by
  obtain ⟨rs, w, p⟩ := h.path
  exact p.back
theorem Cn.fact {fs : Nfs} {z : Int × Fc} (h : z ∈ fs) : Cn fs (one z.2) (two z.2) := Cn.tie (n := z.1) (w := wt z.2) (mem_ties.mpr ⟨z, h, rfl, rfl, .inl ⟨rfl, rfl⟩⟩)
/-- one more fact -/
theorem Cn.mono {fs gs : Nfs} (hs : ∀ z ∈ fs, z ∈ gs) {a b : Stp} (h : Cn fs a b) : Cn gs a b := by
  obtain ⟨rs, w, p⟩ := h.path
  clear h
  induction p with
  | nil => exact .refl _ _
  | snoc h1 h2 ih =>
    refine ih.trans ?_
    obtain ⟨z, hz, q⟩ := mem_ties.mp h2
    exact Cn.tie (mem_ties.mpr ⟨z, hs z hz, q⟩)
theorem Cn.snoc {fs : Nfs} {n : Int} {f : Fc} {a b : Stp} : Cn (fs ++ [(n, f)]) a b ↔ Cn fs a b ∨ (Cn fs a (one f) ∧ Cn fs (two f) b) ∨ (Cn fs a (two f) ∧ Cn fs (one f) b) := by
  have m : ∀ z ∈ fs, z ∈ fs ++ [(n, f)] := fun z hz => List.mem_append_left _ hz
  have e : Cn (fs ++ [(n, f)]) (one f) (two f) := Cn.fact (z := (n, f)) (by simp)
  constructor
  · intro h
    obtain ⟨rs, w, p⟩ := h.path
    clear h
    induction p with
    | nil => exact .inl (.refl _ _)
    | snoc h1 h2 ih =>
      obtain ⟨z, hz, q1, q2, q3⟩ := mem_ties.mp h2
      rcases List.mem_append.mp hz with hz | hz
      · have t : Cn fs _ _ := Cn.tie (mem_ties.mpr ⟨z, hz, q1, q2, q3⟩)
        rcases ih with ih | ⟨i1, i2⟩ | ⟨i1, i2⟩
        · exact .inl (ih.trans t)
        · exact .inr (.inl ⟨i1, i2.trans t⟩)
        · exact .inr (.inr ⟨i1, i2.trans t⟩)
      · rw [List.mem_singleton.mp hz] at q3
        dsimp only at q3
        rcases q3 with ⟨e1, e2⟩ | ⟨e1, e2⟩
        · rw [← e1] at ih
          rw [← e2]
          rcases ih with ih | ⟨i1, i2⟩ | ⟨i1, i2⟩
          · exact .inr (.inl ⟨ih, .refl _ _⟩)
          · exact .inl (i1.trans i2.symm)
          · exact .inl i1
        · rw [← e1] at ih
          rw [← e2]
          rcases ih with ih | ⟨i1, i2⟩ | ⟨i1, i2⟩
          · exact .inr (.inr ⟨ih, .refl _ _⟩)
          · exact .inl i1
          · exact .inl (i1.trans i2.symm)
  · rintro (h | ⟨h1, h2⟩ | ⟨h1, h2⟩)
    · exact h.mono m
    · exact (h1.mono m).trans (e.trans (h2.mono m))
    · exact (h1.mono m).trans (e.symm.trans (h2.mono m))
theorem Pot.snoc {fs : Nfs} {p : Stp → Int} (hp : Pot fs p) {n : Int} {f : Fc} (hc : ¬ Cn fs (one f) (two f)) : ∃ q, Pot (fs ++ [(n, f)]) q := by
  refine ⟨fun a => if Cn fs (one f) a then p a + (p (one f) + p (two f) + wt f) else p a, fun z hz => ?_⟩
  rcases List.mem_append.mp hz with hz | hz
  · have h := hp z hz
    have c := Cn.fact hz
    by_cases d : Cn fs (one f) (one z.2)
    · have d2 := d.trans c
      dsimp only
      rw [if_pos d, if_pos d2]
      omega
    · have d2 : ¬ Cn fs (one f) (two z.2) := fun e => d (e.trans c.symm)
      dsimp only
      rw [if_neg d, if_neg d2]
      exact h
  · rw [List.mem_singleton.mp hz]
    dsimp only
    rw [if_pos (Cn.refl _ _), if_neg hc]
    omega
theorem Pot.mono {fs gs : Nfs} {p : Stp → Int} (h : Pot gs p) (hs : ∀ z ∈ fs, z ∈ gs) : Pot fs p := fun z hz => h z (hs z hz)
/-- how many classes of like h-values a list has -/
def cls (h : Stp → Stp) : List Stp → Nat
  | [] => 0
  | a :: L => (if L.any (fun b => decide (h a = h b)) = true then 0 else 1) + cls h L
theorem cls_congr {h g : Stp → Stp} : ∀ {L : List Stp}, (∀ a ∈ L, ∀ b ∈ L, (h a = h b ↔ g a = g b)) → cls h L = cls g L
  | [], _ => rfl
  | a :: L, e => by
    unfold cls
    rw [cls_congr (L := L) fun x hx y hy => e x (List.mem_cons_of_mem _ hx) y (List.mem_cons_of_mem _ hy)]
    have : L.any (fun b => decide (h a = h b)) = L.any (fun b => decide (g a = g b)) := by
      rw [Bool.eq_iff_iff, List.any_eq_true, List.any_eq_true]
      constructor
      · rintro ⟨b, hb, t⟩
        exact ⟨b, hb, decide_eq_true ((e a List.mem_cons_self b (List.mem_cons_of_mem _ hb)).mp (of_decide_eq_true t))⟩
      · rintro ⟨b, hb, t⟩
        exact ⟨b, hb, decide_eq_true ((e a List.mem_cons_self b (List.mem_cons_of_mem _ hb)).mpr (of_decide_eq_true t))⟩
    rw [this]
/-- the class of v joins the class of u -/
def mg (h : Stp → Stp) (u v : Stp) : Stp → Stp := fun a => if h a = v then u else h a
theorem cls_mg {h : Stp → Stp} {u v : Stp} (ne : u ≠ v) : ∀ L : List Stp, cls (mg h u v) L + (if (L.any (fun b => decide (h b = u)) && L.any (fun b => decide (h b = v))) = true then 1 else 0) = cls h L
  | [] => rfl
  | a :: L => by
    have ih := cls_mg (h := h) ne L
    unfold cls
    rw [List.any_cons, List.any_cons]
    by_cases c1 : h a = u
    · have c2 : ¬ h a = v := fun e => ne (c1.symm.trans e)
      have m1 : mg h u v a = u := by unfold mg; rw [if_neg c2, c1]
      rw [m1, decide_eq_true c1, decide_eq_false c2, c1]
      have e1 : L.any (fun b => decide (u = h b)) = L.any (fun b => decide (h b = u)) := by
        congr 1; funext b; rw [decide_eq_decide]; exact eq_comm
      have e2 : L.any (fun b => decide (u = mg h u v b)) = (L.any (fun b => decide (h b = u)) || L.any (fun b => decide (h b = v))) := by
        rw [Bool.eq_iff_iff, Bool.or_eq_true, List.any_eq_true, List.any_eq_true, List.any_eq_true]
        unfold mg
        constructor
        · rintro ⟨b, hb, t⟩
          have t := of_decide_eq_true t
          by_cases d : h b = v
          · exact .inr ⟨b, hb, decide_eq_true d⟩
          · rw [if_neg d] at t
            exact .inl ⟨b, hb, decide_eq_true t.symm⟩
        · rintro (⟨b, hb, t⟩ | ⟨b, hb, t⟩)
          · have t := of_decide_eq_true t
            have d : ¬ h b = v := fun e => ne (t.symm.trans e)
            exact ⟨b, hb, decide_eq_true (by rw [if_neg d, t])⟩
          · exact ⟨b, hb, decide_eq_true (by rw [if_pos (of_decide_eq_true t)])⟩
      rw [e1, e2]
      cases q1 : L.any (fun b => decide (h b = u)) <;> cases q2 : L.any (fun b => decide (h b = v)) <;> simp [q1, q2] at ih ⊢ <;> omega
    · by_cases c2 : h a = v
      · have m1 : mg h u v a = u := by unfold mg; rw [if_pos c2]
        rw [m1, decide_eq_false c1, decide_eq_true c2, c2]
        have e1 : L.any (fun b => decide (v = h b)) = L.any (fun b => decide (h b = v)) := by
          congr 1; funext b; rw [decide_eq_decide]; exact eq_comm
        have e2 : L.any (fun b => decide (u = mg h u v b)) = (L.any (fun b => decide (h b = u)) || L.any (fun b => decide (h b = v))) := by
          rw [Bool.eq_iff_iff, Bool.or_eq_true, List.any_eq_true, List.any_eq_true, List.any_eq_true]
          unfold mg
          constructor
          · rintro ⟨b, hb, t⟩
            have t := of_decide_eq_true t
            by_cases d : h b = v
            · exact .inr ⟨b, hb, decide_eq_true d⟩
            · rw [if_neg d] at t
              exact .inl ⟨b, hb, decide_eq_true t.symm⟩
          · rintro (⟨b, hb, t⟩ | ⟨b, hb, t⟩)
            · have t := of_decide_eq_true t
              have d : ¬ h b = v := fun e => ne (t.symm.trans e)
              exact ⟨b, hb, decide_eq_true (by rw [if_neg d, t])⟩
            · exact ⟨b, hb, decide_eq_true (by rw [if_pos (of_decide_eq_true t)])⟩
        rw [e1, e2]
        cases q1 : L.any (fun b => decide (h b = u)) <;> cases q2 : L.any (fun b => decide (h b = v)) <;> simp [q1, q2] at ih ⊢ <;> omega
      · have m1 : mg h u v a = h a := by unfold mg; rw [if_neg c2]
        rw [m1, decide_eq_false c1, decide_eq_false c2]
        have e2 : L.any (fun b => decide (h a = mg h u v b)) = L.any (fun b => decide (h a = h b)) := by
          congr 1
          funext b
          rw [decide_eq_decide]
          unfold mg
          by_cases d : h b = v
          · rw [if_pos d, d]
            exact ⟨fun e => absurd e c1, fun e => absurd e c2⟩
          · rw [if_neg d]
        rw [e2]
        simp only [Bool.false_or]
        omega
theorem cls_one {h : Stp → Stp} {u : Stp} : ∀ {L : List Stp}, L ≠ [] → (∀ a ∈ L, h a = u) → cls h L = 1
  | [], h, _ => absurd rfl h
  | [a], _, _ => rfl
  | a :: b :: L, _, e => by
    have ih := cls_one (L := b :: L) (by simp) fun x hx => e x (List.mem_cons_of_mem _ hx)
    unfold cls
    rw [ih, if_pos]
    rw [List.any_cons, decide_eq_true (by rw [e a List.mem_cons_self, e b (by simp)])]
    rfl
theorem cls_pos {h : Stp → Stp} : ∀ {L : List Stp}, L ≠ [] → 1 ≤ cls h L
  | [], h => absurd rfl h
  | [a], _ => Nat.le_refl _
  | a :: b :: L, _ => by
    have := cls_pos (h := h) (L := b :: L) (by simp)
    unfold cls
    omega
end Fd
namespace GD
open PySem L2 G
open Fd (Stp Fc Nfs Tr3)
/-- a fact of a cloth of w columns and t rows -/
def FcV (w t : Int) : Fc → Prop
  | .cell x y c => 0 ≤ x ∧ x < w ∧ 0 ≤ y ∧ y < t ∧ (c = 0 ∨ c = 1)
  | .line false k s _ => 0 ≤ k ∧ k < w - 1 ∧ 0 ≤ s ∧ s < t
  | .line true k s _ => 0 ≤ k ∧ k < t - 1 ∧ 0 ≤ s ∧ s < w
abbrev fnL (w t : Int) (fs : Nfs) (n : Int) : List D := [.int w, .int t, fsD fs, .int n]
end GD
namespace GD
open PySem L2 G
open Fd (Stp Fc Nfs Tr3 Cn)
/-- a dict from strips to strips -/
def hD (K : List Stp) (h : Stp → Stp) : D := .dT (K.map spK) (K.map fun a => spD (h a))
/-- the first strip of a list that is tied to one -/
def fst1 (fs : Nfs) (L : List Stp) (a : Stp) : Stp := (L.find? fun s => decide (Cn fs s a)).getD a
theorem fst1_cn {fs : Nfs} {L : List Stp} {a : Stp} (ha : a ∈ L) : fst1 fs L a ∈ L ∧ Cn fs (fst1 fs L a) a := by
  unfold fst1
  cases q : L.find? (fun s => decide (Cn fs s a)) with
  | none =>
    have := List.find?_eq_none.mp q a ha
    exact absurd (Cn.refl fs a) (by simpa using this)
  | some z =>
    exact ⟨List.mem_of_find?_eq_some q, by simpa using List.find?_some q⟩
theorem fst1_iff {fs : Nfs} {L : List Stp} {a b : Stp} (ha : a ∈ L) (hb : b ∈ L) : fst1 fs L a = fst1 fs L b ↔ Cn fs a b := by
  constructor
  · intro h
    have h1 := (fst1_cn (fs := fs) ha).2
    have h2 := (fst1_cn (fs := fs) hb).2
    rw [h] at h1
    exact h1.symm.trans h2
  · intro h
    unfold fst1
    have e : (fun s => decide (Cn fs s a)) = fun s => decide (Cn fs s b) := by
      funext s
      rw [decide_eq_decide]
      exact ⟨fun g => g.trans h, fun g => g.trans h.symm⟩
    rw [e]
    cases q : L.find? (fun s => decide (Cn fs s b)) with
    | none =>
      have := List.find?_eq_none.mp q b hb
      exact absurd (Cn.refl fs b) (by simpa using this)
    | some z => rfl
def strips (w t : Nat) : List Stp := (List.range w).map (fun x => (false, ((x : Nat) : Int))) ++ (List.range t).map fun y => (true, ((y : Nat) : Int))
abbrev hS (O : D) (S : D) (K : List Stp) (h : Stp → Stp) (s3 s4 : Slot) : Sl := [.va O, .va S, .ow (hD K h), s3, s4, .un, .un]
end GD
namespace GD
open PySem L2 G
open Fd (Stp Fc Nfs Tr3 Cn)
end GD
namespace Fd
theorem mg_iff {h : Stp → Stp} {u v a b : Stp} : mg h u v a = mg h u v b ↔ h a = h b ∨ (h a = u ∧ h b = v) ∨ (h a = v ∧ h b = u) := by
  unfold mg
  by_cases c : h a = v <;> by_cases d : h b = v
  · rw [if_pos c, if_pos d]
    exact ⟨fun _ => .inl (c.trans d.symm), fun _ => rfl⟩
  · rw [if_pos c, if_neg d]
    constructor
    · intro e; exact .inr (.inr ⟨c, e.symm⟩)
    · rintro (e | ⟨_, e⟩ | ⟨_, e⟩)
      · exact absurd (e.symm.trans c) d
      · exact absurd e d
      · exact e.symm
  · rw [if_neg c, if_pos d]
    constructor
    · intro e; exact .inr (.inl ⟨e, d⟩)
    · rintro (e | ⟨e, _⟩ | ⟨e, _⟩)
      · exact absurd (e.trans d) c
      · exact e
      · exact absurd e c
  · rw [if_neg c, if_neg d]
    constructor
    · intro e; exact .inl e
    · rintro (e | ⟨_, e⟩ | ⟨e, _⟩)
      · exact e
      · exact absurd e d
      · exact absurd e c
theorem cls_one_inv {h : Stp → Stp} : ∀ {L : List Stp}, cls h L = 1 → ∀ a ∈ L, ∀ b ∈ L, h a = h b
  | [], e, a, ha, _, _ => by cases ha
  | [x], _, a, ha, b, hb => by rw [List.mem_singleton.mp ha, List.mem_singleton.mp hb]
  | x :: y :: L, e, a, ha, b, hb => by
    have p := cls_pos (h := h) (L := y :: L) (by simp)
    unfold cls at e
    by_cases q : (y :: L).any (fun b => decide (h x = h b)) = true
    · rw [if_pos q] at e
      have ih := cls_one_inv (h := h) (L := y :: L) (by omega)
      obtain ⟨z, hz, hx⟩ := List.any_eq_true.mp q
      have hx := of_decide_eq_true hx
      have all : ∀ c ∈ x :: y :: L, h c = h z := fun c hc => by
        rcases List.mem_cons.mp hc with rfl | hc
        · exact hx
        · exact ih c hc z hz
      exact (all a ha).trans (all b hb).symm
    · rw [if_neg q] at e
      omega
end Fd
namespace GD
open PySem L2 G
open Fd (Stp Fc Nfs Tr3 Cn)
/-- like by h: tied by the facts -/
def Ties (L : List Stp) (h : Stp → Stp) (gs : Nfs) : Prop := ∀ a ∈ L, ∀ b ∈ L, (h a = h b ↔ Cn gs a b)
theorem Ties.fst1 (fs : Nfs) (L : List Stp) : Ties L (fst1 fs L) fs := fun a ha b hb => fst1_iff ha hb
theorem Ties.mg {L : List Stp} {h : Stp → Stp} {gs : Nfs} (t : Ties L h gs) {f : Fc} {n : Int} (h1 : Fd.one f ∈ L) (h2 : Fd.two f ∈ L) : Ties L (Fd.mg h (h (Fd.one f)) (h (Fd.two f))) (gs ++ [(n, f)]) := fun a ha b hb => by
  rw [Fd.mg_iff, Cn.snoc, t a ha b hb, t a ha _ h1, t b hb _ h2, t a ha _ h2, t b hb _ h1]
  constructor
  · rintro (h | ⟨h, g⟩ | ⟨h, g⟩)
    · exact .inl h
    · exact .inr (.inl ⟨h, g.symm⟩)
    · exact .inr (.inr ⟨h, g.symm⟩)
  · rintro (h | ⟨h, g⟩ | ⟨h, g⟩)
    · exact .inl h
    · exact .inr (.inl ⟨h, g.symm⟩)
    · exact .inr (.inr ⟨h, g.symm⟩)
/-- one more fact between classes: one class less -/
theorem cls_fact {L : List Stp} {gs : Nfs} {f : Fc} {n : Int} (h1 : Fd.one f ∈ L) (h2 : Fd.two f ∈ L) (hc : ¬ Cn gs (Fd.one f) (Fd.two f)) : Fd.cls (fst1 (gs ++ [(n, f)]) L) L + 1 = Fd.cls (fst1 gs L) L := by
  have t := (Ties.fst1 gs L).mg (n := n) h1 h2
  have ne : fst1 gs L (Fd.one f) ≠ fst1 gs L (Fd.two f) := fun e => hc ((fst1_iff h1 h2).mp e)
  have e : Fd.cls (fst1 (gs ++ [(n, f)]) L) L = Fd.cls (Fd.mg (fst1 gs L) (fst1 gs L (Fd.one f)) (fst1 gs L (Fd.two f))) L := Fd.cls_congr fun a ha b hb => (fst1_iff ha hb).trans (t a ha b hb).symm
  have m := Fd.cls_mg (h := fst1 gs L) ne L
  rw [if_pos (by
    rw [Bool.and_eq_true, List.any_eq_true, List.any_eq_true]
    exact ⟨⟨_, h1, decide_eq_true rfl⟩, ⟨_, h2, decide_eq_true rfl⟩⟩)] at m
  rw [e]
  exact m
/-- the looks, one by one -/
def scn (h : Stp → Stp) : List Pt → List Pt × (Stp → Stp)
  | [] => ([], h)
  | c :: cs => if h (false, c.1) = h (true, c.2) then scn h cs else (c :: (scn (Fd.mg h (h (false, c.1)) (h (true, c.2))) cs).1, (scn (Fd.mg h (h (false, c.1)) (h (true, c.2))) cs).2)
theorem scn_keep {h : Stp → Stp} {a b : Stp} : ∀ {cs : List Pt} {h : Stp → Stp}, h a = h b → (scn h cs).2 a = (scn h cs).2 b
  | [], h, e => e
  | c :: cs, h, e => by
    unfold scn
    by_cases q : h (false, c.1) = h (true, c.2)
    · rw [if_pos q]
      exact scn_keep (h := h) e
    · rw [if_neg q]
      exact scn_keep (h := h) (Fd.mg_iff.mpr (.inl e))
theorem scn_done : ∀ {cs : List Pt} {h : Stp → Stp}, ∀ c ∈ cs, (scn h cs).2 (false, c.1) = (scn h cs).2 (true, c.2)
  | [], _, c, hc => by cases hc
  | d :: cs, h, c, hc => by
    unfold scn
    by_cases q : h (false, d.1) = h (true, d.2)
    · rw [if_pos q]
      rcases List.mem_cons.mp hc with rfl | hc
      · exact scn_keep (h := h) q
      · exact scn_done c hc
    · rw [if_neg q]
      rcases List.mem_cons.mp hc with rfl | hc
      · refine scn_keep (h := h) (Fd.mg_iff.mpr (.inr (.inl ⟨rfl, rfl⟩)))
      · exact scn_done c hc
theorem scn_cls {L : List Stp} : ∀ {cs : List Pt} {h : Stp → Stp}, (∀ c ∈ cs, (false, c.1) ∈ L ∧ (true, c.2) ∈ L) → Fd.cls (scn h cs).2 L + (scn h cs).1.length = Fd.cls h L
  | [], h, _ => rfl
  | c :: cs, h, hl => by
    have ih := fun h => scn_cls (L := L) (cs := cs) (h := h) fun d hd => hl d (List.mem_cons_of_mem _ hd)
    obtain ⟨m1, m2⟩ := hl c List.mem_cons_self
    unfold scn
    by_cases q : h (false, c.1) = h (true, c.2)
    · rw [if_pos q]
      exact ih h
    · rw [if_neg q]
      have m := Fd.cls_mg (h := h) q L
      rw [if_pos (by
        rw [Bool.and_eq_true, List.any_eq_true, List.any_eq_true]
        exact ⟨⟨_, m1, decide_eq_true rfl⟩, ⟨_, m2, decide_eq_true rfl⟩⟩)] at m
      have := ih (Fd.mg h (h (false, c.1)) (h (true, c.2)))
      dsimp only
      rw [List.length_cons]
      omega
def rowCs (T : Nat) (x : Nat) : List Pt := (List.range T).map fun y => (((x : Nat) : Int), ((y : Nat) : Int))
def cellsN (W T : Nat) : List Pt := (List.range W).flatMap (rowCs T)
/-- the looks of some facts -/
def looksL (fs : Nfs) (W T : Nat) : List Pt := (scn (fst1 fs (strips W T)) (cellsN W T)).1
theorem cellsN_mem {W T : Nat} {c : Pt} : c ∈ cellsN W T ↔ ∃ x < W, ∃ y < T, c = (((x : Nat) : Int), ((y : Nat) : Int)) := by
  unfold cellsN rowCs
  simp only [List.mem_flatMap, List.mem_range, List.mem_map]
  constructor
  · rintro ⟨x, hx, y, hy, rfl⟩; exact ⟨x, hx, y, hy, rfl⟩
  · rintro ⟨x, hx, y, hy, rfl⟩; exact ⟨x, hx, y, hy, rfl⟩
theorem strips_x {W T x : Nat} (h : x < W) : ((false, ((x : Nat) : Int)) : Stp) ∈ strips W T := List.mem_append_left _ (List.mem_map.mpr ⟨x, List.mem_range.mpr h, rfl⟩)
theorem strips_y {W T y : Nat} (h : y < T) : ((true, ((y : Nat) : Int)) : Stp) ∈ strips W T := List.mem_append_right _ (List.mem_map.mpr ⟨y, List.mem_range.mpr h, rfl⟩)
theorem strips_inv {W T : Nat} {a : Stp} (h : a ∈ strips W T) : (∃ x < W, a = (false, ((x : Nat) : Int))) ∨ ∃ y < T, a = (true, ((y : Nat) : Int)) := by
  rcases List.mem_append.mp h with h | h
  · obtain ⟨x, hx, rfl⟩ := List.mem_map.mp h
    exact .inl ⟨x, List.mem_range.mp hx, rfl⟩
  · obtain ⟨y, hy, rfl⟩ := List.mem_map.mp h
    exact .inr ⟨y, List.mem_range.mp hy, rfl⟩
theorem cells_L {W T : Nat} : ∀ c ∈ cellsN W T, ((false, c.1) : Stp) ∈ strips W T ∧ ((true, c.2) : Stp) ∈ strips W T := fun c hc => by
  obtain ⟨x, hx, y, hy, rfl⟩ := cellsN_mem.mp hc
  exact ⟨strips_x hx, strips_y hy⟩
/-- one look less than there are classes -/
theorem looks_cls (fs : Nfs) {W T : Nat} (hW : 1 ≤ W) (hT : 1 ≤ T) : (looksL fs W T).length + 1 = Fd.cls (fst1 fs (strips W T)) (strips W T) := by
  have h := scn_cls (L := strips W T) (cs := cellsN W T) (h := fst1 fs (strips W T)) cells_L
  have d : ∀ x < W, ∀ y < T, (scn (fst1 fs (strips W T)) (cellsN W T)).2 (false, ((x : Nat) : Int)) = (scn (fst1 fs (strips W T)) (cellsN W T)).2 (true, ((y : Nat) : Int)) := fun x hx y hy => scn_done _ (cellsN_mem.mpr ⟨x, hx, y, hy, rfl⟩)
  have o := Fd.cls_one (h := (scn (fst1 fs (strips W T)) (cellsN W T)).2) (u := (scn (fst1 fs (strips W T)) (cellsN W T)).2 (true, ((0 : Nat) : Int))) (L := strips W T) (List.ne_nil_of_mem (strips_x (x := 0) (by omega))) (fun a ha => by
    rcases strips_inv ha with ⟨x, hx, rfl⟩ | ⟨y, hy, rfl⟩
    · exact d x hx 0 (by omega)
    · exact (d 0 (by omega) y hy).symm.trans (d 0 (by omega) 0 (by omega)))
  unfold looksL
  omega
/-- a fact between strips that are not tied: one look less -/
theorem looks_less {fs : Nfs} {W T : Nat} (hW : 1 ≤ W) (hT : 1 ≤ T) {n : Int} {f : Fc} (h1 : Fd.one f ∈ strips W T) (h2 : Fd.two f ∈ strips W T) (hc : ¬ Cn fs (Fd.one f) (Fd.two f)) : (looksL (fs ++ [(n, f)]) W T).length + 1 = (looksL fs W T).length := by
  have a := looks_cls fs hW hT
  have b := looks_cls (fs ++ [(n, f)]) hW hT
  have c := cls_fact (n := n) h1 h2 hc
  omega
/-- no looks: all is tied -/
theorem looks_none {fs : Nfs} {W T : Nat} (hW : 1 ≤ W) (hT : 1 ≤ T) (h : (looksL fs W T).length = 0) {a b : Stp} (ha : a ∈ strips W T) (hb : b ∈ strips W T) : Cn fs a b := by
  have c := looks_cls fs hW hT
  exact (fst1_iff ha hb).mp (Fd.cls_one_inv (by omega) a ha b hb)
theorem looks_some {fs : Nfs} {W T : Nat} (hW : 1 ≤ W) (hT : 1 ≤ T) {a b : Stp} (ha : a ∈ strips W T) (hb : b ∈ strips W T) (hc : ¬ Cn fs a b) : 1 ≤ (looksL fs W T).length := by
  rcases Nat.eq_zero_or_pos (looksL fs W T).length with h | h
  · exact absurd (looks_none hW hT h ha hb) hc
  · exact h
end GD
namespace GD
open PySem L2 G
open Fd (Stp Fc Nfs Tr3 Cn)
end GD
namespace GD
open PySem L2 G
open Fd (Stp Fc Nfs Tr3 Cn)
/-- facts that may be kept together; n is the next number -/
structure Gd (w t : Int) (fs : Nfs) (n : Int) : Prop where
  v : ∀ z ∈ fs, FcV w t z.2
  k : ∀ z ∈ fs, z.1 < n
  p : ∃ p, Fd.Pot fs p
theorem Gd.snoc {w t n : Int} {fs : Nfs} (g : Gd w t fs n) {f : Fc} (v : FcV w t f) (hc : ¬ Cn fs (Fd.one f) (Fd.two f)) : Gd w t (fs ++ [(n, f)]) (n + 1) := by
  obtain ⟨p, hp⟩ := g.p
  refine ⟨fun z hz => ?_, fun z hz => ?_, hp.snoc hc⟩
  · rcases List.mem_append.mp hz with hz | hz
    · exact g.v z hz
    · rw [List.mem_singleton.mp hz]; exact v
  · rcases List.mem_append.mp hz with hz | hz
    · have := g.k z hz; omega
    · rw [List.mem_singleton.mp hz]; dsimp only; omega
end GD
namespace GD
open PySem L2 G
open Fd (Stp Fc Nfs Tr3 Cn)
abbrev Ak := Option (Bool × Nat)
def akA : Ak → Stp
  | none => (false, 0)
  | some (r, k) => (r, (k : Nat))
def akB : Ak → Stp
  | none => (true, 0)
  | some (r, k) => (r, ((k : Nat) : Int) + 1)
def akF (i : Int) : Ak → Fc
  | none => .cell 0 0 i
  | some (r, k) => .line r (k : Nat) 0 (decide (i = 1))
def AkV (W T : Nat) : Ak → Prop
  | none => 1 ≤ W ∧ 1 ≤ T
  | some (r, k) => 1 ≤ W ∧ 1 ≤ T ∧ k + 1 < (if r then T else W)
theorem ak_one (i : Int) (a : Ak) : Fd.one (akF i a) = akA a := by cases a <;> rfl
theorem ak_two (i : Int) (a : Ak) : Fd.two (akF i a) = akB a := by cases a <;> rfl
theorem ak_wt {i : Int} (h : i = 0 ∨ i = 1) (a : Ak) : Fd.wt (akF i a) = i := by
  cases a with
  | none =>
    show (i + 0 * 0) % 2 = i
    omega
  | some q =>
    obtain ⟨r, k⟩ := q
    rcases h with rfl | rfl <;> rfl
theorem ak_in {W T : Nat} {a : Ak} (h : AkV W T a) : akA a ∈ strips W T ∧ akB a ∈ strips W T := by
  cases a with
  | none => exact ⟨strips_x (x := 0) h.1, strips_y (y := 0) h.2⟩
  | some q =>
    obtain ⟨r, k⟩ := q
    obtain ⟨h1, h2, h3⟩ := h
    cases r with
    | false =>
      have h3 : k + 1 < W := h3
      exact ⟨strips_x (x := k) (by omega), strips_x (x := k + 1) h3⟩
    | true =>
      have h3 : k + 1 < T := h3
      exact ⟨strips_y (y := k) (by omega), strips_y (y := k + 1) h3⟩
end GD
namespace GD
open PySem L2 G
open Fd (Stp Fc Nfs Tr3 Cn)
/-- what the bit of an asked pair tells -/
def Tld (gs : Nfs) (a : Ak) (b : Int) : Prop := (b = 0 ∨ b = 1) ∧ Cn gs (akA a) (akB a) ∧ ∀ p, Fd.Pot gs p → (p (akA a) + p (akB a) + b) % 2 = 0
theorem Tld.mono {gs hs : Nfs} {a : Ak} {b : Int} (h : Tld gs a b) (hm : ∀ z ∈ gs, z ∈ hs) : Tld hs a b := ⟨h.1, h.2.1.mono hm, fun p hp => h.2.2 p (hp.mono hm)⟩
section
variable {W T : Nat}
/-- what is asked, in order -/
def asks (W T : Nat) : List Ak := none :: ((List.range (W - 1)).map (fun k => some (false, k)) ++ (List.range (T - 1)).map fun k => some (true, k))
theorem asks_len (h1W : 1 ≤ W) (h1T : 1 ≤ T) : (asks W T).length = W + T - 1 := by
  unfold asks
  simp
  omega
end
end GD
namespace G
open PySem L2
@[simp] theorem oBk0_l (xs : List D) : oBk0 (.lst xs) = .ok (.lst xs.tail.reverse, .fr) := rfl
end G
namespace GD
open PySem L2 G
end GD
namespace GD
open PySem L2 G
end GD
namespace GD
open PySem L2 G
open Fd (Stp Fc Nfs Tr3)
section
variable {s : Int} {us ls : List Int}
/-- what a fact says of a plan -/
def hB (s : Int) (us ls : List Int) : Fc → Bool
  | .cell x y c => decide (colour s us ls x y = c)
  | .line false k t b => decide (decide ((t + gt us k.toNat) % 2 = 1) = b)
  | .line true k t b => decide (decide ((t + gt ls k.toNat) % 2 = 1) = b)
abbrev FcP (us ls : List Int) (f : Fc) : Prop := FcV ((us.length : Int) + 1) ((ls.length : Int) + 1) f
def potP (s : Int) (us ls : List Int) : Stp → Int := fun a => if a.1 = true then (ls.take a.2.toNat).sum else s + (us.take a.2.toNat).sum
theorem sum_take1 (us : List Int) {k : Int} (h1 : 0 ≤ k) (h2 : k < us.length) : (us.take (k + 1).toNat).sum = (us.take k.toNat).sum + gt us k.toNat := by
  have e : (k + 1).toNat = k.toNat + 1 := by omega
  have hk : us[k.toNat]? = some (gt us k.toNat) := by
    have : k.toNat < us.length := by omega
    rw [List.getElem?_eq_getElem this]
    unfold gt
    rw [List.getD_eq_getElem?_getD, List.getElem?_eq_getElem this]
    rfl
  rw [e, List.take_add_one, hk, List.sum_append]
  simp
theorem pot_fact {f : Fc} (v : FcP us ls f) (h : hB s us ls f = true) : (potP s us ls (Fd.one f) + potP s us ls (Fd.two f) + Fd.wt f) % 2 = 0 := by
  cases f with
  | cell x y c =>
    have h := of_decide_eq_true h
    unfold colour at h
    show (s + (us.take x.toNat).sum + (ls.take y.toNat).sum + (c + x * y) % 2) % 2 = 0
    generalize x * y = m at *
    omega
  | line r k t b =>
    cases r with
    | false =>
      obtain ⟨h1, h2, h3, h4⟩ := v
      have h : decide (decide ((t + gt us k.toNat) % 2 = 1) = b) = true := h
      have h := of_decide_eq_true h
      show (s + (us.take k.toNat).sum + (s + (us.take (k + 1).toNat).sum) + (t + Fd.b2 b) % 2) % 2 = 0
      rw [sum_take1 us h1 (by omega)]
      cases b with
      | false =>
        have h := of_decide_eq_false h
        show (_ + _ + (t + 0) % 2) % 2 = 0
        omega
      | true =>
        have h := of_decide_eq_true h
        show (_ + _ + (t + 1) % 2) % 2 = 0
        omega
    | true =>
      obtain ⟨h1, h2, h3, h4⟩ := v
      have h : decide (decide ((t + gt ls k.toNat) % 2 = 1) = b) = true := h
      have h := of_decide_eq_true h
      show ((ls.take k.toNat).sum + ((ls.take (k + 1).toNat).sum) + (t + Fd.b2 b) % 2) % 2 = 0
      rw [sum_take1 ls h1 (by omega)]
      cases b with
      | false =>
        have h := of_decide_eq_false h
        show (_ + _ + (t + 0) % 2) % 2 = 0
        omega
      | true =>
        have h := of_decide_eq_true h
        show (_ + _ + (t + 1) % 2) % 2 = 0
        omega
end
end GD
namespace GD
open PySem L2 G
open Fd (Stp Fc Nfs Tr3)
section
variable {s : Int} {us ls : List Int}
/-- facts that law_filled gives -/
structure FsOk (s : Int) (us ls : List Int) (fs : Nfs) : Prop where
  key : ∀ (i : Nat) (z : Int × Fc), fs[i]? = some z → z.1 = (i : Int)
  ok : ∀ z ∈ fs, FcP us ls z.2 ∧ hB s us ls z.2 = true
theorem FsOk.pot {fs : Nfs} (h : FsOk s us ls fs) : Fd.Pot fs (potP s us ls) := fun z hz => pot_fact (h.ok z hz).1 (h.ok z hz).2
theorem FsOk.fresh {fs : Nfs} (h : FsOk s us ls fs) : (fs.length : Int) ∉ fs.map (·.1) := fun m => by
  obtain ⟨z, hz, e⟩ := List.mem_map.mp m
  obtain ⟨i, hi⟩ := List.getElem?_of_mem hz
  have := h.key i z hi
  have lt := (List.getElem?_eq_some_iff.mp hi).1
  omega
theorem FsOk.snoc {fs : Nfs} (h : FsOk s us ls fs) {f : Fc} (v : FcP us ls f) (t : hB s us ls f = true) : FsOk s us ls (fs ++ [((fs.length : Int), f)]) := by
  refine ⟨fun i z hz => ?_, fun z hz => ?_⟩
  · by_cases c : i < fs.length
    · rw [List.getElem?_append_left c] at hz
      exact h.key i z hz
    · rw [List.getElem?_append_right (by omega)] at hz
      cases q : i - fs.length with
      | zero =>
        rw [q] at hz
        cases hz
        show (fs.length : Int) = i
        omega
      | succ k => rw [q] at hz; cases hz
  · rcases List.mem_append.mp hz with hz | hz
    · exact h.ok z hz
    · rw [List.mem_singleton.mp hz]
      exact ⟨v, t⟩
end
end GD
namespace GD
open PySem L2 G
open Fd (Stp Fc Nfs Tr3)
theorem small {us : List Int} (hu : 12 ≤ us.length) : ∃ s : Int, ∃ as bs : List Int, R__law_small [.lst (us.map .int)] = .ok (.tup [.int s, dI as, dI bs], false) ∧ Plan s as bs := by
  have i0 := oIx_i (us := us) (i := 0) (by omega) (by omega)
  have i1 := oIx_i (us := us) (i := 1) (by omega) (by omega)
  have i2 := oIx_i (us := us) (i := 2) (by omega) (by omega)
  have i3 := oIx_i (us := us) (i := 3) (by omega) (by omega)
  obtain ⟨m1, p1, q1⟩ := pick5 (a := 5) (b := 9) (c := 16) (d := 40) (e := 5) (x := gt us 0) (P := fun m => 1 ≤ m ∧ m ≤ 40) (by omega) (by omega) (by omega) (by omega) (by omega)
  obtain ⟨m2, p2, q2⟩ := pick5 (a := 5) (b := 9) (c := 12) (d := 5) (e := 40) (x := gt us 0) (P := fun m => 1 ≤ m ∧ m ≤ 40) (by omega) (by omega) (by omega) (by omega) (by omega)
  have w1 : 0 ≤ gt us 1 % m1 := Int.emod_nonneg _ (by omega)
  have w2 : gt us 1 % m1 < m1 := Int.emod_lt_of_pos _ (by omega)
  have w3 : 0 ≤ gt us 2 % m2 := Int.emod_nonneg _ (by omega)
  have w4 : gt us 2 % m2 < m2 := Int.emod_lt_of_pos _ (by omega)
  obtain ⟨as, r1, l1, b1⟩ := row (us := us.drop 4) (many := gt us 1 % m1) (by simp; omega) w1 (by omega)
  obtain ⟨bs, r2, l2, b2⟩ := row (us := us.drop 8) (many := gt us 2 % m2) (by simp; omega) w3 (by omega)
  refine ⟨gt us 3 % 2, as, bs, ?_, mod2 _, b1, b2, by omega, by omega⟩
  have c4 := cut_us (us := us) (k := 4) (by omega) (by omega)
  have c8 := cut_us (us := us) (k := 8) (by omega) (by omega)
  have z1 : 0 < m1 := by omega
  have z2 : 0 < m2 := by omega
  have a1 : 1 + gt us 1 % m1 - 1 = gt us 1 % m1 := by omega
  have a2 : 1 + gt us 2 % m2 - 1 = gt us 2 % m2 := by omega
  simp at i0 i1 i2 i3 p1 p2 c4 c8 r1 r2 a1 a2
  simp [R__law_small, denF, slots, S__law_small, sSeq_ap, i0, i1, i2, i3, p1, p2, c4, c8, r1, r2, z1, z2, a1, a2, SZ]
end GD
namespace GD
open PySem L2 G
open Fd (Stp Fc Nfs Tr3 Cn)
theorem sumP {q : Nat → Int} {us : List Int} (h : ∀ k < us.length, (q k + q (k + 1) + gt us k) % 2 = 0) : ∀ x ≤ us.length, (q 0 + q x + (us.take x).sum) % 2 = 0
  | 0, _ => by simp; omega
  | x + 1, hx => by
    have ih := sumP h x (by omega)
    have e := h x (by omega)
    have s := sum_take1 us (k := (x : Int)) (by omega) (by omega)
    rw [show ((x : Int) + 1).toNat = x + 1 by omega, Int.toNat_natCast] at s
    rw [s]
    omega
end GD
namespace GD
open PySem L2 G
open Fd (Stp Fc Nfs Tr3 Cn)
/-- the keys are the places -/
def Keyed (fs : Nfs) : Prop := ∀ (i : Nat) (z : Int × Fc), fs[i]? = some z → z.1 = (i : Int)
theorem Keyed.keys {fs : Nfs} (h : Keyed fs) : fs.map (·.1) = (List.range fs.length).map fun i => ((i : Nat) : Int) := by
  refine List.ext_getElem? fun i => ?_
  rw [List.getElem?_map, List.getElem?_map]
  by_cases c : i < fs.length
  · rw [List.getElem?_eq_getElem c, List.getElem?_range c]
    have := h i _ (List.getElem?_eq_getElem c)
    exact congrArg some this
  · rw [List.getElem?_eq_none (by omega), List.getElem?_eq_none (by simp; omega)]
    rfl
end GD
namespace GD
open PySem L2 G
open Fd (Stp Fc Nfs Tr3 Cn)
/-- the state behind an asked pair -/
def nxG (W T : Nat) (gs : Nfs) (n m : Int) (a : Ak) : Nfs := if Cn gs (akA a) (akB a) then gs else gs ++ [(n, akF (m / 2 ^ ((looksL gs W T).length - 1)) a)]
def nxN (gs : Nfs) (n : Int) (a : Ak) : Int := if Cn gs (akA a) (akB a) then n else n + 1
def nxM (W T : Nat) (gs : Nfs) (m : Int) (a : Ak) : Int := if Cn gs (akA a) (akB a) then m else m % 2 ^ ((looksL gs W T).length - 1)
/-- the facts at the end of a number's run -/
def fin (W T : Nat) : List Ak → Nfs → Int → Int → Nfs
  | [], gs, _, _ => gs
  | a :: as, gs, n, m => fin W T as (nxG W T gs n m a) (nxN gs n a) (nxM W T gs m a)
end GD
namespace GD
open PySem L2 G
open Fd (Stp Fc Nfs Tr3 Cn)
theorem tied_sum {gs : Nfs} {a b : Stp} (h : Cn gs a b) {p q : Stp → Int} (hp : Fd.Pot gs p) (hq : Fd.Pot gs q) : (p a + p b + q a + q b) % 2 = 0 := by
  obtain ⟨e, he, ek⟩ := List.mem_map.mp h
  have h1 := Fd.reach_pot hp he
  have h2 := Fd.reach_pot hq he
  rw [ek] at h1 h2
  omega
section
variable {W T : Nat}
theorem nxG_sub {gs : Nfs} {n m : Int} {a : Ak} : ∀ z ∈ gs, z ∈ nxG W T gs n m a := fun z hz => by
  unfold nxG
  split
  · exact hz
  · exact List.mem_append_left _ hz
theorem fin_sub : ∀ (as : List Ak) (gs : Nfs) (n m : Int), ∀ z ∈ gs, z ∈ fin W T as gs n m
  | [], _, _, _, z, hz => hz
  | a :: as, gs, n, m, z, hz => fin_sub as _ _ _ z (nxG_sub z hz)
theorem fin_tied {a : Ak} {as : List Ak} {gs : Nfs} {n m : Int} (h : Cn gs (akA a) (akB a)) : fin W T (a :: as) gs n m = fin W T as gs n m := by
  show fin W T as (nxG W T gs n m a) (nxN gs n a) (nxM W T gs m a) = _
  unfold nxG nxN nxM
  rw [if_pos h, if_pos h, if_pos h]
theorem fin_free {a : Ak} {as : List Ak} {gs : Nfs} {n m : Int} {k : Nat} (h : ¬ Cn gs (akA a) (akB a)) (hk : (looksL gs W T).length = k + 1) : fin W T (a :: as) gs n m = fin W T as (gs ++ [(n, akF (m / 2 ^ k) a)]) (n + 1) (m % 2 ^ k) := by
  show fin W T as (nxG W T gs n m a) (nxN gs n a) (nxM W T gs m a) = _
  unfold nxG nxN nxM
  rw [if_neg h, if_neg h, if_neg h, hk, Nat.add_sub_cancel]
theorem pow_lt {j k : Nat} (h : j < k) : (2 : Int) ^ j / 2 ^ k = 0 ∧ (2 : Int) ^ j % 2 ^ k = 2 ^ j := by
  have p : (0 : Int) ≤ 2 ^ j := Int.le_of_lt (Int.pow_pos (by decide))
  have l : (2 : Int) ^ j < 2 ^ k := by
    have := Nat.pow_lt_pow_right (a := 2) (by decide) h
    exact_mod_cast this
  exact ⟨Int.ediv_eq_zero_of_lt p l, Int.emod_eq_of_lt p l⟩
theorem flip (hW : 1 ≤ W) (hT : 1 ≤ T) {A B : Stp} : ∀ (as : List Ak) (gs : Nfs) (n : Int), (∀ a ∈ as, AkV W T a) → ¬ Cn gs A B → Cn (fin W T as gs n 0) A B → ∃ j, j < (looksL gs W T).length ∧ ∀ p q, Fd.Pot (fin W T as gs n 0) p → Fd.Pot (fin W T as gs n (2 ^ j)) q → (p A + p B + q A + q B) % 2 = 1 := by
  intro as
  induction as with
  | nil => intro gs n _ h g; exact absurd g h
  | cons a as ih =>
    intro gs n hv h g
    have hva := hv a List.mem_cons_self
    have hv' : ∀ b ∈ as, AkV W T b := fun b hb => hv b (List.mem_cons_of_mem _ hb)
    by_cases c : Cn gs (akA a) (akB a)
    · rw [fin_tied c] at g
      obtain ⟨j, hj, hh⟩ := ih gs n hv' h g
      refine ⟨j, hj, fun p q hp hq => ?_⟩
      rw [fin_tied c] at hp hq
      exact hh p q hp hq
    · obtain ⟨m1, m2⟩ := ak_in hva
      have l1 := looks_some hW hT m1 m2 c
      obtain ⟨k, hk⟩ : ∃ k, (looksL gs W T).length = k + 1 := ⟨(looksL gs W T).length - 1, by omega⟩
      have f0 := fun m => fin_free (as := as) (n := n) (m := m) c hk
      have z0 : (0 : Int) / 2 ^ k = 0 := Int.zero_ediv _
      have z1 : (0 : Int) % 2 ^ k = 0 := Int.zero_emod _
      have g0 := f0 0
      rw [z0, z1] at g0
      have less := looks_less (fs := gs) (n := n) (f := akF 0 a) hW hT (by rw [ak_one]; exact m1) (by rw [ak_two]; exact m2) (by rw [ak_one, ak_two]; exact c)
      have sn := Cn.snoc (fs := gs) (n := n) (f := akF 0 a) (a := A) (b := B)
      rw [ak_one, ak_two] at sn
      have mem0 : (n, akF 0 a) ∈ gs ++ [(n, akF 0 a)] := by simp
      have sub0 : ∀ z ∈ gs, z ∈ gs ++ [(n, akF 0 a)] := fun z hz => List.mem_append_left _ hz
      obtain ⟨G0, h0⟩ : ∃ G0 : Nfs, G0 = gs ++ [(n, akF 0 a)] := ⟨_, rfl⟩
      rw [← h0] at less sn g0 mem0 sub0
      rw [g0] at g ⊢
      by_cases d : Cn G0 A B
      · have g1 := f0 (2 ^ k)
        have pk : (2 : Int) ^ k ≠ 0 := Int.ne_of_gt (Int.pow_pos (by decide))
        rw [Int.ediv_self pk, Int.emod_self] at g1
        have mem1 : (n, akF 1 a) ∈ gs ++ [(n, akF 1 a)] := by simp
        have sub1 : ∀ z ∈ gs, z ∈ gs ++ [(n, akF 1 a)] := fun z hz => List.mem_append_left _ hz
        obtain ⟨G1, h1⟩ : ∃ G1 : Nfs, G1 = gs ++ [(n, akF 1 a)] := ⟨_, rfl⟩
        rw [← h1] at g1 mem1 sub1
        refine ⟨k, by omega, fun p q hp hq => ?_⟩
        rw [g1] at hq
        have p0 := hp.mono (fin_sub as G0 (n + 1) 0)
        have q0 := hq.mono (fin_sub as G1 (n + 1) 0)
        have e0 := p0 _ mem0
        have e1 := q0 _ mem1
        rw [ak_one, ak_two, ak_wt (.inl rfl)] at e0
        rw [ak_one, ak_two, ak_wt (.inr rfl)] at e1
        have pg := p0.mono sub0
        have qg := q0.mono sub1
        rcases sn.mp d with x | ⟨x, y⟩ | ⟨x, y⟩
        · exact absurd x h
        · have s1 := tied_sum x pg qg
          have s2 := tied_sum y pg qg
          omega
        · have s1 := tied_sum x pg qg
          have s2 := tied_sum y pg qg
          omega
      · obtain ⟨j, hj, hh⟩ := ih G0 (n + 1) hv' d g
        have jk : j < k := by omega
        obtain ⟨u1, u2⟩ := pow_lt jk
        have gj := f0 (2 ^ j)
        rw [u1, u2, ← h0] at gj
        refine ⟨j, by omega, fun p q hp hq => ?_⟩
        rw [gj] at hq
        exact hh p q hp hq
end
end GD
namespace GD
open PySem L2 G
open Fd (Stp Fc Nfs Tr3 Cn)
section
variable {W T : Nat}
theorem asks_mem_l {r : Bool} {k : Nat} (h : k + 1 < (if r then T else W)) : (some (r, k) : Ak) ∈ asks W T := by
  unfold asks
  refine List.mem_cons_of_mem _ (List.mem_append.mpr ?_)
  cases r with
  | false =>
    have h : k + 1 < W := h
    exact .inl (List.mem_map.mpr ⟨k, List.mem_range.mpr (by omega), rfl⟩)
  | true =>
    have h : k + 1 < T := h
    exact .inr (List.mem_map.mpr ⟨k, List.mem_range.mpr (by omega), rfl⟩)
theorem chain {gs : Nfs} {r : Bool} {N : Nat} (h : ∀ k, k + 1 < N → Cn gs (r, (k : Nat)) (r, ((k : Nat) : Int) + 1)) : ∀ x, x < N → Cn gs (r, 0) (r, ((x : Nat) : Int))
  | 0, _ => Cn.refl _ _
  | x + 1, hx => (chain h x (by omega)).trans (h x hx)
theorem all_tied (hW : 1 ≤ W) (hT : 1 ≤ T) {gs : Nfs} (h : ∀ a ∈ asks W T, Cn gs (akA a) (akB a)) : (looksL gs W T).length = 0 := by
  have hx := chain (gs := gs) (r := false) (N := W) fun k hk => h (some (false, k)) (asks_mem_l (T := T) (W := W) (r := false) hk)
  have hy := chain (gs := gs) (r := true) (N := T) fun k hk => h (some (true, k)) (asks_mem_l (T := T) (W := W) (r := true) hk)
  have h0 : Cn gs (false, 0) (true, 0) := h none List.mem_cons_self
  have all : ∀ a ∈ strips W T, Cn gs (false, 0) a := fun a ha => by
    rcases strips_inv ha with ⟨x, hx', rfl⟩ | ⟨y, hy', rfl⟩
    · exact hx x hx'
    · exact h0.trans (hy y hy')
  have m0 := strips_x (W := W) (T := T) (x := 0) (by omega)
  have c := Fd.cls_one (h := fst1 gs (strips W T)) (u := fst1 gs (strips W T) (false, ((0 : Nat) : Int))) (L := strips W T) (List.ne_nil_of_mem m0) (fun a ha => (fst1_iff ha m0).mpr (all a ha).symm)
  have l := looks_cls gs hW hT
  omega
/-- bits that a potential gives -/
structure ByP (W T : Nat) (p : Stp → Int) (bs : List Int) : Prop where
  s : (p (false, 0) + p (true, 0) + gt bs 0) % 2 = 0
  u : ∀ k < W - 1, (p (false, (k : Nat)) + p (false, ((k : Nat) : Int) + 1) + gt ((bs.drop 1).take (W - 1)) k) % 2 = 0
  l : ∀ k < T - 1, (p (true, (k : Nat)) + p (true, ((k : Nat) : Int) + 1) + gt (bs.drop W) k) % 2 = 0
theorem byP (hW : 1 ≤ W) (hT : 1 ≤ T) {gs : Nfs} {bs : List Int} (hl : bs.length = W + T - 1) (ht : ∀ (j : Nat) (a : Ak) (b : Int), (asks W T)[j]? = some a → bs[j]? = some b → Tld gs a b) {p : Stp → Int} (hp : Fd.Pot gs p) : ByP W T p bs := by
  have al := asks_len hW hT
  have at' : ∀ j (a : Ak), (asks W T)[j]? = some a → Tld gs a (gt bs j) := fun j a ha => by
    have lt := (List.getElem?_eq_some_iff.mp ha).1
    have lt' : j < bs.length := by omega
    refine ht j a _ ha ?_
    rw [gt_eq lt', List.getElem?_eq_getElem lt']
  have au : ∀ k < W - 1, (asks W T)[1 + k]? = some (some (false, k)) := fun k hk => by
    unfold asks
    rw [Nat.add_comm, List.getElem?_cons_succ, List.getElem?_append_left (by simpa using hk), List.getElem?_map, List.getElem?_range hk]
    rfl
  have av : ∀ k < T - 1, (asks W T)[W + k]? = some (some (true, k)) := fun k hk => by
    unfold asks
    rw [show W + k = (W - 1 + k) + 1 by omega, List.getElem?_cons_succ, List.getElem?_append_right (by simp), List.getElem?_map]
    rw [show W - 1 + k - ((List.range (W - 1)).map fun k => (some (false, k) : Ak)).length = k by simp, List.getElem?_range hk]
    rfl
  have lu : ((bs.drop 1).take (W - 1)).length = W - 1 := by simp; omega
  have ll : (bs.drop W).length = T - 1 := by simp; omega
  refine ⟨(at' 0 none rfl).2.2 p hp, fun k hk => ?_, fun k hk => ?_⟩
  · have := (at' (1 + k) _ (au k hk)).2.2 p hp
    have e : gt ((bs.drop 1).take (W - 1)) k = gt bs (1 + k) := by
      rw [gt_eq (by omega), gt_eq (by omega)]
      simp only [List.getElem_take, List.getElem_drop]
    rw [e]
    exact this
  · have := (at' (W + k) _ (av k hk)).2.2 p hp
    have e : gt (bs.drop W) k = gt bs (W + k) := by
      rw [gt_eq (by omega), gt_eq (by omega)]
      simp
    rw [e]
    exact this
theorem colour_p {s : Int} {us ls : List Int} {p : Stp → Int} (hs : (p (false, 0) + p (true, 0) + s) % 2 = 0) (hu : ∀ k < us.length, (p (false, (k : Nat)) + p (false, ((k : Nat) : Int) + 1) + gt us k) % 2 = 0) (hl : ∀ k < ls.length, (p (true, (k : Nat)) + p (true, ((k : Nat) : Int) + 1) + gt ls k) % 2 = 0) {x y : Nat} (hx : x ≤ us.length) (hy : y ≤ ls.length) : (p (false, (x : Nat)) + p (true, (y : Nat)) + colour s us ls (x : Nat) (y : Nat) + (x : Int) * y) % 2 = 0 := by
  have a := sumP (q := fun k => p (false, (k : Nat))) hu x hx
  have b := sumP (q := fun k => p (true, (k : Nat))) hl y hy
  unfold colour
  rw [Int.toNat_natCast, Int.toNat_natCast]
  generalize (x : Int) * y = m
  have a : (p (false, 0) + p (false, (x : Nat)) + (us.take x).sum) % 2 = 0 := a
  have b : (p (true, 0) + p (true, (y : Nat)) + (ls.take y).sum) % 2 = 0 := b
  omega
end
end GD
namespace GD
open PySem L2 G
open Fd (Stp Fc Nfs Tr3)
theorem FsOk.keys {s : Int} {us ls : List Int} {fs : Nfs} (h : FsOk s us ls fs) : (fs.map (·.1)).Nodup := by
  show List.Pairwise (· ≠ ·) _
  rw [List.pairwise_iff_getElem]
  intro i j hi hj hij e
  rw [List.length_map] at hi hj
  rw [List.getElem_map, List.getElem_map] at e
  have a := h.key i _ (List.getElem?_eq_getElem hi)
  have b := h.key j _ (List.getElem?_eq_getElem hj)
  omega
end GD
namespace GD
open PySem L2 G
open Fd (Stp Fc Nfs Tr3 Cn)
end GD
namespace GD
open PySem L2 G
open Fd (Stp Fc Nfs Tr3 Cn)
inductive Qn where
  | cell (x y : Nat) | line (r : Bool) (k : Nat)
def qA : Qn → Stp
  | .cell x _ => (false, (x : Nat))
  | .line r k => (r, (k : Nat))
def qB : Qn → Stp
  | .cell _ y => (true, (y : Nat))
  | .line r k => (r, ((k : Nat) : Int) + 1)
def qO : Qn → Int
  | .cell x y => (x : Int) * y
  | .line _ _ => 0
def QnV (W T : Nat) : Qn → Prop
  | .cell x y => x < W ∧ y < T
  | .line r k => k + 1 < (if r then T else W)
/-- the answer in a cloth -/
def qV (s : Int) (us ls : List Int) : Qn → Int
  | .cell x y => colour s us ls (x : Nat) (y : Nat)
  | .line false k => gt us k
  | .line true k => gt ls k
section
variable {W T : Nat}
/-- an answer by a potential -/
theorem qV_p {s : Int} {us ls : List Int} {p : Stp → Int} (hs : (p (false, 0) + p (true, 0) + s) % 2 = 0) (hu : ∀ k < us.length, (p (false, (k : Nat)) + p (false, ((k : Nat) : Int) + 1) + gt us k) % 2 = 0) (hl : ∀ k < ls.length, (p (true, (k : Nat)) + p (true, ((k : Nat) : Int) + 1) + gt ls k) % 2 = 0) (lu : us.length = W - 1) (ll : ls.length = T - 1) {q : Qn} (h : QnV W T q) : (p (qA q) + p (qB q) + qV s us ls q + qO q) % 2 = 0 := by
  cases q with
  | cell x y =>
    obtain ⟨h1, h2⟩ := h
    exact colour_p hs hu hl (by omega) (by omega)
  | line r k =>
    cases r with
    | false =>
      have h : k + 1 < W := h
      have := hu k (by omega)
      show (p (false, (k : Nat)) + p (false, ((k : Nat) : Int) + 1) + gt us k + 0) % 2 = 0
      omega
    | true =>
      have h : k + 1 < T := h
      have := hl k (by omega)
      show (p (true, (k : Nat)) + p (true, ((k : Nat) : Int) + 1) + gt ls k + 0) % 2 = 0
      omega
end
end GD
namespace GD
open PySem L2 G
open Fd (Stp Fc Nfs Tr3 Cn)
/-- the bits of a number's cloth -/
structure ClN (W T : Nat) (fs : Nfs) (n m : Int) (bs : List Int) : Prop where
  pl : Plan (gt bs 0) ((bs.drop 1).take (W - 1)) (bs.drop W)
  lu : ((bs.drop 1).take (W - 1)).length = W - 1
  ll : (bs.drop W).length = T - 1
  len : bs.length = W + T - 1
  gd : ∃ n', Gd (W : Int) (T : Int) (fin W T (asks W T) fs n m) n'
  tl : ∀ (j : Nat) (a : Ak) (b : Int), (asks W T)[j]? = some a → bs[j]? = some b → Tld (fin W T (asks W T) fs n m) a b
section
variable {W T : Nat} {fs : Nfs} {n : Int}
abbrev vB (W : Nat) (bs : List Int) (q : Qn) : Int := qV (gt bs 0) ((bs.drop 1).take (W - 1)) (bs.drop W) q
theorem ClN.val (hW : 1 ≤ W) (hT : 1 ≤ T) {m : Int} {bs : List Int} (c : ClN W T fs n m bs) {p : Stp → Int} (hp : Fd.Pot (fin W T (asks W T) fs n m) p) {q : Qn} (hq : QnV W T q) : (p (qA q) + p (qB q) + vB W bs q + qO q) % 2 = 0 := by
  have b := byP hW hT c.len c.tl hp
  exact qV_p b.s (fun k hk => b.u k (by have := c.lu; omega)) (fun k hk => b.l k (by have := c.ll; omega)) c.lu c.ll hq
theorem ClN.none (hW : 1 ≤ W) (hT : 1 ≤ T) {m : Int} {bs : List Int} (c : ClN W T fs n m bs) : (looksL (fin W T (asks W T) fs n m) W T).length = 0 := all_tied hW hT fun a ha => by
  obtain ⟨j, hj⟩ := List.getElem?_of_mem ha
  have lt := (List.getElem?_eq_some_iff.mp hj).1
  have al := asks_len hW hT
  have lb := c.len
  have lt' : j < bs.length := by omega
  exact (c.tl j a _ hj (List.getElem?_eq_getElem lt')).2.1
end
end GD
namespace GD
open PySem L2 G PySem.W
end GD
namespace GD
open PySem L2 G PySem.W PyProof.Rows
abbrev Ky := List Pt × Bool
def pyK (k : Ky) : PyData := .tuple [.list (k.1.map pyPt), .bool k.2]
def leKy (a b : Ky) : Bool := !dataLt (pyK b) (pyK a)
def sortK (ks : List Ky) : List Ky := ks.mergeSort leKy
theorem toks_pts : ∀ (a b : List Pt) (r t : List (Int ⊕ List Nat)), keyToksAll (a.map pyPt) ++ r = keyToksAll (b.map pyPt) ++ t → a = b ∧ r = t
  | [], [], r, t, h => by
    simp [keyToksAll] at h
    exact ⟨rfl, h⟩
  | [], y :: b, r, t, h => by
    simp [keyToksAll] at h
  | x :: a, [], r, t, h => by
    simp [keyToksAll] at h
  | x :: a, y :: b, r, t, h => by
    have e : ∀ (z : Pt) (c : List Pt) (r : List (Int ⊕ List Nat)), keyToksAll ((z :: c).map pyPt) ++ r = .inl 1 :: .inl 1 :: .inl z.1 :: .inl 1 :: .inl z.2 :: .inl 0 :: (keyToksAll (c.map pyPt) ++ r) := fun z c r => by
      rw [List.map_cons]
      simp [keyToksAll, keyToks, pyPt]
    rw [e, e] at h
    injection h with _ h
    injection h with _ h
    injection h with h1 h
    injection h with _ h
    injection h with h2 h
    injection h with _ h
    injection h1 with h1
    injection h2 with h2
    obtain ⟨h3, h4⟩ := toks_pts a b r t h
    exact ⟨by rw [h3, Prod.ext h1 h2], h4⟩
theorem toks_k {a b : Ky} (h : keyToks (pyK a) = keyToks (pyK b)) : a = b := by
  have e : ∀ c : Ky, keyToks (pyK c) = .inl 1 :: (keyToksAll (c.1.map pyPt) ++ [.inl 1, .inl (if c.2 = true then 1 else 0), .inl 0]) := fun c => by
    simp [pyK, keyToks, keyToksAll]
  rw [e, e] at h
  injection h with _ h
  obtain ⟨h1, h2⟩ := toks_pts _ _ _ _ h
  refine Prod.ext h1 ?_
  injection h2 with _ h2
  injection h2 with h2 _
  injection h2 with h2
  cases ha : a.2 <;> cases hb : b.2 <;> rw [ha, hb] at h2 <;> first | rfl | simp at h2
theorem lt_asym {x y : PyData} (h : dataLt x y = true) : dataLt y x = false := by
  cases q : dataLt y x with
  | false => rfl
  | true =>
    have h1 := lex_trans (O := itemOrd) _ _ _ h q
    have h2 := lex_irrefl (O := itemOrd) (keyToks x)
    unfold dataLt at h1 h2
    rw [h2] at h1
    cases h1
theorem sortK_lt {ks : List Ky} (nd : ks.Nodup) : (sortK ks).Pairwise fun a b => dataLt (pyK a) (pyK b) = true := by
  have so := List.pairwise_mergeSort (le := leKy) (fun a b c h1 h2 => by
    unfold leKy at *
    rw [Bool.not_eq_true'] at *
    cases q : dataLt (pyK c) (pyK a) with
    | false => rfl
    | true =>
      rcases lex_negTrans (O := itemOrd) (keyToks (pyK c)) (keyToks (pyK b)) (keyToks (pyK a)) q with z | z
      · rw [show dataLt (pyK c) (pyK b) = true from z] at h2; cases h2
      · rw [show dataLt (pyK b) (pyK a) = true from z] at h1; cases h1) (fun a b => by
    unfold leKy
    rw [Bool.or_eq_true, Bool.not_eq_true', Bool.not_eq_true']
    cases q : dataLt (pyK b) (pyK a) with
    | false => exact .inl rfl
    | true => exact .inr (lt_asym q)) ks
  have n2 : (sortK ks).Nodup := (List.mergeSort_perm ks leKy).nodup_iff.mpr nd
  refine List.Pairwise.imp (R := fun a b => leKy a b = true ∧ a ≠ b) (fun {a b} ⟨h1, h2⟩ => ?_) (List.Pairwise.and so n2)
  unfold leKy at h1
  rw [Bool.not_eq_true'] at h1
  cases q : dataLt (pyK a) (pyK b) with
  | true => rfl
  | false => exact absurd (toks_k (lex_total (O := itemOrd) _ _ q h1)) h2
theorem sortK_same {a b : List Ky} (na : a.Nodup) (nb : b.Nodup) (h : ∀ z, z ∈ a ↔ z ∈ b) : sortK a = sortK b := by
  refine sorted_eq (R := fun a b => dataLt (pyK a) (pyK b) = true) (fun x y h1 h2 => ?_) (sortK_lt na) (sortK_lt nb) fun z => ?_
  · rw [lt_asym h1] at h2
    cases h2
  · unfold sortK
    rw [(List.mergeSort_perm a leKy).mem_iff, (List.mergeSort_perm b leKy).mem_iff, h]
section
variable {us ls us' ls' : List Int} {φ ψ : Pt → Pt}
/-- φ takes one cloth's points to the other's, with their neighbours -/
structure Img (us ls us' ls' : List Int) (φ ψ : Pt → Pt) : Prop where
  go : ∀ z, InC us ls z → InC us' ls' (φ z)
  bk : ∀ z, InC us' ls' z → InC us ls (ψ z)
  pf : ∀ z, ψ (φ z) = z
  fp : ∀ z, φ (ψ z) = z
  nbs : ∀ z, InC us ls z → (nb us' ls' (φ z)).Perm ((nb us ls z).map φ)
theorem Img.mem (I : Img us ls us' ls' φ ψ) {z w : Pt} (h : InC us ls z) : w ∈ nb us' ls' (φ z) ↔ ∃ v ∈ nb us ls z, φ v = w := by
  rw [(I.nbs z h).mem_iff, List.mem_map]
theorem Img.inj (I : Img us ls us' ls' φ ψ) {a b : Pt} (h : φ a = φ b) : a = b := by rw [← I.pf a, ← I.pf b, h]
theorem Img.seam (I : Img us ls us' ls' φ ψ) {c : Bool} {l : List Pt} (q : Sm.Seam (nb us ls) c l) (hin : ∀ z ∈ l, InC us ls z) : Sm.Seam (nb us' ls') c (l.map φ) := by
  have up : ∀ {a b : Pt}, a ∈ l → b ∈ nb us ls a → φ b ∈ nb us' ls' (φ a) := fun {a b} ha hb => (I.mem (hin a ha)).mpr ⟨b, hb, rfl⟩
  have gm : ∀ {i : Nat} {a : Pt}, (l.map φ)[i]? = some a → ∃ b, l[i]? = some b ∧ a = φ b := fun h => map_get h
  refine ⟨List.pairwise_map.mpr (q.nd.imp fun h e => h (I.inj e)), by rw [List.length_map]; exact q.two, fun i a b h1 h2 => ?_, fun a ha b hb => ?_, fun h => ⟨by rw [List.length_map]; exact (q.shut h).1, fun a b h1 h2 => ?_⟩, fun i a h => ?_⟩
  · obtain ⟨a, k1, rfl⟩ := gm h1
    obtain ⟨b, k2, rfl⟩ := gm h2
    obtain ⟨z1, z2⟩ := q.step i a b k1 k2
    exact ⟨up (List.mem_of_getElem? k1) z1, up (List.mem_of_getElem? k2) z2⟩
  · obtain ⟨a, ha', rfl⟩ := List.mem_map.mp ha
    obtain ⟨v, hv, rfl⟩ := (I.mem (hin a ha')).mp hb
    exact List.mem_map_of_mem (q.cl a ha' v hv)
  · rw [List.length_map] at h2
    obtain ⟨a, k1, rfl⟩ := gm h1
    obtain ⟨b, k2, rfl⟩ := gm h2
    obtain ⟨z1, z2⟩ := (q.shut h).2 a b k1 k2
    exact ⟨up (List.mem_of_getElem? k1) z1, up (List.mem_of_getElem? k2) z2⟩
  · obtain ⟨a, k, rfl⟩ := gm h
    rw [List.length_map, (I.nbs a (hin a (List.mem_of_getElem? k))).length_eq, List.length_map]
    exact q.deg i a k
/-- two seams with a point in common are one -/
theorem seam_uniq {N : Pt → List Pt} {c c' : Bool} {l l' : List Pt} (q : Sm.Seam N c l) (q' : Sm.Seam N c' l') {z : Pt} (h : z ∈ l) (h' : z ∈ l') : c = c' ∧ ∀ w, w ∈ l ↔ w ∈ l' := by
  have a := q.conn (V := fun z => z ∈ l') (fun a ha b hb => q'.cl a ha b hb) h h'
  have b := q'.conn (V := fun z => z ∈ l) (fun a ha b hb => q.cl a ha b hb) h' h
  refine ⟨?_, fun w => ⟨a w, b w⟩⟩
  have key : ∀ {l l' : List Pt}, Sm.Seam N true l → Sm.Seam N false l' → (∀ w ∈ l', w ∈ l) → False := fun {l l'} q q' b => by
    have h2 := q'.two
    have e0 : l'[0]? = some (l'[0]'(by omega)) := List.getElem?_eq_getElem _
    generalize l'[0]'(by omega) = w at e0
    have d1 := q'.deg 0 w e0
    rw [if_neg (by intro z; rcases z with z | z; cases z; omega)] at d1
    obtain ⟨i, hi⟩ := List.getElem?_of_mem (b w (List.mem_of_getElem? e0))
    have d2 := q.deg i w hi
    rw [if_pos (.inl rfl)] at d2
    omega
  cases c <;> cases c'
  · rfl
  · exact (key q' q a).elim
  · exact (key q q' b).elim
  · rfl
def keyS (x : Sm1) : Ky := (sortP x.2, x.1)
def keyI (φ : Pt → Pt) (x : Sm1) : Ky := (sortP (x.2.map φ), x.1)
theorem seamsL_nodup {f : Sm1 → Ky} (hf : ∀ x ∈ seamsL us ls, ∀ y ∈ seamsL us ls, f x = f y → ∃ z, z ∈ x.2 ∧ z ∈ y.2) : ((seamsL us ls).map f).Nodup := by
  refine List.pairwise_map.mpr (List.Pairwise.imp_of_mem (fun {x y} hx hy ap e => ?_) (seamsL_apart (us := us) (ls := ls)))
  obtain ⟨z, h1, h2⟩ := hf x hx y hy e
  exact ap z h1 h2
theorem keys_nodup : ((seamsL us ls).map keyS).Nodup := seamsL_nodup fun x hx y hy e => by
  refine ⟨fstP x, seam_ne hx, ?_⟩
  have e1 : sortP x.2 = sortP y.2 := congrArg Prod.fst e
  rw [← (sortP_perm y.2).mem_iff, ← e1, (sortP_perm x.2).mem_iff]
  exact seam_ne hx
theorem Img.keys_nodup (I : Img us ls us' ls' φ ψ) : ((seamsL us ls).map (keyI φ)).Nodup := seamsL_nodup fun x hx y hy e => by
  refine ⟨fstP x, seam_ne hx, ?_⟩
  have e1 : sortP (x.2.map φ) = sortP (y.2.map φ) := congrArg Prod.fst e
  have : φ (fstP x) ∈ y.2.map φ := by
    rw [← (sortP_perm (y.2.map φ)).mem_iff, ← e1, (sortP_perm (x.2.map φ)).mem_iff]
    exact List.mem_map_of_mem (seam_ne hx)
  obtain ⟨z, hz, e⟩ := List.mem_map.mp this
  rw [← I.inj e]
  exact hz
theorem sortP_mem {a b : List Pt} (na : a.Nodup) (nb : b.Nodup) (h : ∀ z, z ∈ a ↔ z ∈ b) : sortP a = sortP b := sortP_same na nb h
/-- a seam's image is the other cloth's seam -/
theorem Img.pair (I : Img us ls us' ls' φ ψ) {x x' : Sm1} (hx : x ∈ seamsL us ls) (hx' : x' ∈ seamsL us' ls') {z : Pt} (h1 : z ∈ x.2) (h2 : φ z ∈ x'.2) : keyS x' = keyI φ x := by
  obtain ⟨q, hin⟩ := found_ev (seamsL_mem.mp hx)
  obtain ⟨q', _⟩ := found_ev (seamsL_mem.mp hx')
  have qi := I.seam q hin
  obtain ⟨ec, em⟩ := seam_uniq q' qi h2 (List.mem_map_of_mem h1)
  unfold keyS keyI
  rw [ec, sortP_mem q'.nd qi.nd em]
theorem Img.keys_mem (I : Img us ls us' ls' φ ψ) (k : Ky) : k ∈ (seamsL us' ls').map keyS ↔ k ∈ (seamsL us ls).map (keyI φ) := by
  constructor
  · intro h
    obtain ⟨x', hx', rfl⟩ := List.mem_map.mp h
    obtain ⟨q', hin'⟩ := found_ev (seamsL_mem.mp hx')
    have hf := seam_ne hx'
    have hz := I.bk _ (hin' _ hf)
    have ne : nb us ls (ψ (fstP x')) ≠ [] := by
      intro e
      have h2 := q'.two
      obtain ⟨i, hi⟩ := List.getElem?_of_mem hf
      have d := q'.deg i _ hi
      have p := (I.nbs _ hz).length_eq
      rw [I.fp, e] at p
      simp at p
      split at d <;> simp [p] at d
    obtain ⟨x, hx, hm⟩ := (found_inv us ls).2 _ hz ne
    have hx := seamsL_mem.mpr hx
    exact List.mem_map.mpr ⟨x, hx, (I.pair hx hx' hm (by rw [I.fp]; exact hf)).symm⟩
  · intro h
    obtain ⟨x, hx, rfl⟩ := List.mem_map.mp h
    obtain ⟨q, hin⟩ := found_ev (seamsL_mem.mp hx)
    have hf := seam_ne hx
    have hz := I.go _ (hin _ hf)
    have ne : nb us' ls' (φ (fstP x)) ≠ [] := by
      intro e
      obtain ⟨i, hi⟩ := List.getElem?_of_mem hf
      have d := q.deg i _ hi
      have p := (I.nbs _ (hin _ hf)).length_eq
      rw [e] at p
      simp at p
      split at d <;> simp [← p] at d
    obtain ⟨x', hx', hm⟩ := (found_inv us' ls').2 _ hz ne
    have hx' := seamsL_mem.mpr hx'
    exact List.mem_map.mpr ⟨x', hx', I.pair hx hx' hf hm⟩
theorem Img.kept (I : Img us ls us' ls' φ ψ) : sortK ((seamsL us' ls').map keyS) = sortK ((seamsL us ls).map (keyI φ)) := sortK_same GD.keys_nodup I.keys_nodup I.keys_mem
end
end GD
namespace GD
open PySem L2 G PySem.W PyProof.Rows
end GD
namespace GD
open PySem L2 G
open Fd (Stp Fc Nfs Tr3 Cn)
abbrev k5 (D0 A P : D) (W T : Nat) (fs : Nfs) (n : Int) (F Q : D) (s8 s9 s10 s11 : Slot) (rs ts : List D) (s14 s15 s16 s17 s18 s19 s20 : Slot) : Sl := [.va D0, .va A, .va P, .va (.int (W : Nat)), .va (.int (T : Nat)), ownW false 22 (fnL (W : Int) (T : Int) fs n), .va F, .va Q, s8, s9, s10, s11, .ow (.lst rs), .ow (.lst ts), s14, s15, s16, s17, s18, s19, s20]
end GD
namespace GD
open PySem L2 G
open Fd (Stp Fc Nfs Tr3 Cn)
end GD
namespace GD
open PySem L2 G
open Fd (Stp Fc Nfs Tr3 Cn)
end GD
namespace GD
open PySem L2 G
open Fd (Stp Fc Nfs Tr3 Cn)
end GD
namespace GD
open PySem L2 G
open Fd (Stp Fc Nfs Tr3 Cn)
end GD
namespace GD
open PySem L2 G
open Fd (Stp Fc Nfs Tr3 Cn)
end GD
namespace GD
open PySem L2 G
open Fd (Stp Fc Nfs Tr3 Cn)
section
variable {D0 P F : D} {W T : Nat} {fs : Nfs} {n : Int} {vs : List Int}
abbrev u5 (D0 A P : D) (W T : Nat) (fs : Nfs) (n : Int) (F : D) (s7 s18 : Slot) : Sl := [.va D0, .va A, .va P, .va (.int (W : Nat)), .va (.int (T : Nat)), ownW false 22 (fnL (W : Int) (T : Int) fs n), .va F, s7, .un, .un, .un, .un, .un, .un, .un, .un, .un, .un, s18, .un, .un]
end
end GD
namespace GD
open PySem L2 G
open Fd (Stp Fc Nfs Tr3 Cn)
end GD
namespace GD
open PySem L2 G
open Fd (Stp Fc Nfs Tr3 Cn)
section
variable {W T : Nat} {fs : Nfs} {n : Int}
theorem gt_dr (us : List Int) (a k : Nat) : gt (us.drop a) k = gt us (a + k) := by
  unfold gt
  rw [List.getD_eq_getElem?_getD, List.getD_eq_getElem?_getD, List.getElem?_drop]
theorem gt_tk {us : List Int} {a k : Nat} (h : k < a) : gt (us.take a) k = gt us k := by
  unfold gt
  rw [List.getD_eq_getElem?_getD, List.getD_eq_getElem?_getD, List.getElem?_take, if_pos h]
theorem ClN.bits (hW : 1 ≤ W) (hT : 1 ≤ T) {m : Int} {bs : List Int} (c : ClN W T fs n m bs) : Bits bs := fun b hb => by
  obtain ⟨j, hj⟩ := List.getElem?_of_mem hb
  obtain ⟨lt, e⟩ := List.getElem?_eq_some_iff.mp hj
  have e2 := gt_eq lt
  rw [e] at e2
  have l := c.len
  rw [← e2]
  by_cases j0 : j = 0
  · subst j0
    exact c.pl.bs
  · by_cases jw : j < W
    · have := c.pl.bu.get (j - 1)
      rwa [gt_tk (by omega), gt_dr, show 1 + (j - 1) = j by omega] at this
    · have := c.pl.bl.get (j - W)
      rwa [gt_dr, show W + (j - W) = j by omega] at this
end
end GD
namespace GD
open PySem L2 G
open Fd (Stp Fc Nfs Tr3 Cn)
end GD
namespace GD
open PySem L2 G
open Fd (Stp Fc Nfs Tr3 Cn)
end GD
namespace GD
open PySem L2 G
open Fd (Stp Fc Nfs Tr3 Cn)
end GD
namespace GD
open PySem L2 G
open Fd (Stp Fc Nfs Tr3 Cn)
/-- the bit of a strip, counted from one -/
def sq (p : Stp → Int) (s a : Stp) : Int := (p s + p a) % 2
section
variable {fs : Nfs} {p : Stp → Int} {s : Stp}
structure Sq (fs : Nfs) (s : Stp) (K : List Stp) : Prop where
  nd : K.Nodup
  m : s ∈ K
  c : ∀ a ∈ K, Fd.Cn fs s a
theorem Sq.len {K : List Stp} (h : Sq fs s K) : K.length ≤ 2 * fs.length + 1 := by
  have := Orb.nodup_le (L := (Fd.reach fs s).map (fun e : Fd.E => e.k)) h.nd fun x hx => h.c x hx
  rw [List.length_map] at this
  exact Nat.le_trans this (Fd.reach_len fs s _)
theorem Sq.new {K : List Stp} (h : Sq fs s K) {a b : Stp} (ha : a ∈ K) (hb : b ∉ K) (hc : Cn fs a b) : Sq fs s (K ++ [b]) :=
  ⟨by
    rw [List.nodup_append]
    refine ⟨h.nd, by simp, fun x hx y hy => ?_⟩
    rw [List.mem_singleton.mp hy]
    rintro rfl
    exact hb hx, List.mem_append_left _ h.m, fun x hx => by
    rcases List.mem_append.mp hx with hx | hx
    · exact h.c x hx
    · rw [List.mem_singleton.mp hx]
      exact (h.c a ha).trans hc⟩
end
end GD
namespace GD
open PySem L2 G
open Fd (Stp Fc Nfs Tr3 Cn)
section
variable {w t n : Int} {fs : Nfs}
/-- the numbers rise -/
def Rises (fs : Nfs) : Prop := List.Pairwise (fun a b : Int => a < b) (fs.map (·.1))
theorem Rises.nd (h : Rises fs) : (fs.map (·.1)).Nodup := h.imp fun {a b} e => by omega
/-- it tells the other thing -/
abbrev Cl (p : Stp → Int) (fs : Nfs) (f : Fc) : Prop := Cn fs (Fd.one f) (Fd.two f) ∧ ¬ (p (Fd.one f) + p (Fd.two f) + Fd.wt f) % 2 = 0
end
end GD
namespace GD
open PySem L2 G
open Fd (Stp Fc Nfs Tr3 Cn)
end GD
namespace GD
open PySem L2 G
open Fd (Stp Fc Nfs Tr3 Cn)
end GD
namespace GD
open PySem L2 G
open Fd (Stp Fc Nfs Tr3 Cn)
structure G9 (W T : Nat) (fs : Nfs) (n : Int) : Prop where
  g : Gd (W : Int) (T : Int) fs n
  r : Rises fs
  n0 : 0 ≤ n
  hw : W ≤ 40
  ht : T ≤ 40
section
variable {D0 A P : D} {W T : Nat} {fs : Nfs} {n : Int} {hs : List Int}
theorem G9.snoc (h : G9 W T fs n) {p : Stp → Int} (hp : Fd.Pot fs p) {f : Fc} (v : FcV (W : Int) (T : Int) f) (hc : ¬ Cl p fs f) : G9 W T (fs ++ [(n, f)]) (n + 1) := by
  refine ⟨⟨fun z hz => ?_, fun z hz => ?_, ?_⟩, ?_, by have := h.n0; omega, h.hw, h.ht⟩
  · rcases List.mem_append.mp hz with hz | hz
    · exact h.g.v z hz
    · rw [List.mem_singleton.mp hz]; exact v
  · rcases List.mem_append.mp hz with hz | hz
    · have := h.g.k z hz; omega
    · rw [List.mem_singleton.mp hz]; show n < n + 1; omega
  · by_cases c : Cn fs (Fd.one f) (Fd.two f)
    · refine ⟨p, fun z hz => ?_⟩
      rcases List.mem_append.mp hz with hz | hz
      · exact hp z hz
      · rw [List.mem_singleton.mp hz]
        exact Decidable.not_not.mp fun e => hc ⟨c, e⟩
    · exact hp.snoc c
  · unfold Rises
    rw [List.map_append, List.pairwise_append]
    refine ⟨h.r, by simp, fun a ha b hb => ?_⟩
    obtain ⟨z, hz, rfl⟩ := List.mem_map.mp ha
    rw [List.mem_singleton.mp (show b ∈ [n] from hb)]
    exact h.g.k z hz
end
end GD
namespace GD
open PySem L2 G
open Fd (Stp Fc Nfs Tr3 Cn)
/-- the same facts, by other numbers -/
def Sam (fs gs : Nfs) : Prop := ∀ f, f ∈ fs.map (·.2) ↔ f ∈ gs.map (·.2)
section
variable {fs gs : Nfs}
theorem Sam.symm (h : Sam fs gs) : Sam gs fs := fun f => (h f).symm
theorem Sam.of (h : Sam fs gs) {z : Int × Fc} (hz : z ∈ fs) : ∃ y ∈ gs, y.2 = z.2 := by
  have := (h z.2).mp (List.mem_map_of_mem (f := fun z : Int × Fc => z.2) hz)
  obtain ⟨y, hy, e⟩ := List.mem_map.mp this
  exact ⟨y, hy, e⟩
theorem Sam.pth (h : Sam fs gs) {a : Stp} : ∀ {rs : List Int} {w : Int} {c : Stp}, Fd.Pth (Fd.ties fs) a rs w c → Cn gs a c
  | _, _, _, .nil => Cn.refl _ _
  | _, _, _, .snoc h1 h2 => by
    have h3 := Sam.pth h h1
    obtain ⟨z, hz, _, _, h4⟩ := Fd.mem_ties.mp h2
    obtain ⟨y, hy, e⟩ := h.of hz
    have cf := Cn.fact hy
    rw [e] at cf
    rcases h4 with ⟨e1, e2⟩ | ⟨e1, e2⟩
    · dsimp only at e2
      rw [← e2]
      rw [← e1] at h3
      exact h3.trans cf
    · dsimp only at e2
      rw [← e2]
      rw [← e1] at h3
      exact h3.trans cf.symm
theorem Sam.cn (h : Sam fs gs) {a b : Stp} : Cn fs a b ↔ Cn gs a b := by
  constructor
  · intro c
    obtain ⟨rs, w, p⟩ := c.path
    exact h.pth p
  · intro c
    obtain ⟨rs, w, p⟩ := c.path
    exact h.symm.pth p
theorem Sam.pot (h : Sam fs gs) {p : Stp → Int} (hp : Fd.Pot fs p) : Fd.Pot gs p := fun z hz => by
  obtain ⟨y, hy, e⟩ := h.symm.of hz
  have := hp y hy
  rw [e] at this
  exact this
theorem Sam.snoc (h : Sam fs gs) (n m : Int) (f : Fc) : Sam (fs ++ [(n, f)]) (gs ++ [(m, f)]) := fun g => by
  rw [List.map_append, List.map_append, List.mem_append, List.mem_append, h g]
  rfl
theorem Sam.cl (h : Sam fs gs) {p : Stp → Int} {f : Fc} : Cl p fs f ↔ Cl p gs f := by
  unfold Cl
  rw [h.cn]
end
end GD
namespace GD
open PySem L2 G
open Fd (Stp Fc Nfs Tr3 Cn)
/-- where a says something, a' says the same -/
def Ref (a a' : SS) : Prop := ∀ ρ, a ρ ≠ .no → a' ρ = a ρ
theorem Ref.refl (a : SS) : Ref a a := fun _ _ => rfl
theorem Ref.no (a : SS) : Ref (fun _ => .no) a := fun _ h => absurd rfl h
theorem Ref.seq {a a' b b' : SS} (h1 : Ref a a') (h2 : Ref b b') : Ref (sSeq a b) (sSeq a' b') := fun ρ h => by
  rw [sSeq_ap] at h ⊢
  rw [sSeq_ap]
  have n : a ρ ≠ .no := fun e => by rw [e] at h; exact h rfl
  rw [h1 ρ n]
  cases q : a ρ with
  | nx ρ' =>
    rw [q] at h
    exact h2 ρ' h
  | _ => rfl
theorem Ref.drop {c i : Nat} {R R' : List D → List D → Lo} {fs : List ES} (h : ∀ os ds, R os ds ≠ .no → R' os ds = R os ds) : Ref (smDrop (emCall c R i fs)) (smDrop (emCall c R' i fs)) := fun ρ hn => by
  unfold smDrop emCall at hn ⊢
  cases q : ownS ρ i with
  | none => rfl
  | some o =>
    obtain ⟨b, c', ds⟩ := o
    rw [q] at hn
    dsimp only at hn ⊢
    by_cases e : c' = c
    · rw [if_pos e] at hn ⊢
      rw [if_pos e]
      cases w : eArgs fs ρ with
      | ok xs =>
        rw [w] at hn
        dsimp only at hn ⊢
        by_cases e2 : allSolid xs = true
        · rw [if_pos e2] at hn ⊢
          rw [if_pos e2, h ds _ fun z => by rw [z] at hn; exact hn rfl]
        · rw [if_neg e2, if_neg e2]
      | ex n gs => rfl
      | no => rfl
    · rw [if_neg e, if_neg e]
/-- both ends of a fact are there -/
def Used (fs : Nfs) (K : List Stp) (m : Int) : Prop := ∀ z ∈ fs, z.1 = m → Fd.one z.2 ∈ K ∧ Fd.two z.2 ∈ K
theorem Used.mono {fs : Nfs} {K L : List Stp} {m : Int} (h : Used fs K m) (s : ∀ x ∈ K, x ∈ L) : Used fs L m := fun z hz e => ⟨s _ (h z hz e).1, s _ (h z hz e).2⟩
end GD
namespace GD
open PySem L2 G
open Fd (Stp Fc Nfs Tr3 Cn)
abbrev u3 (D0 A P : D) (W T : Nat) (fs : Nfs) (n : Int) (rs : Nfs) (s5 s6 s7 s8 s9 s10 s11 s12 s13 s14 : Slot) : Sl := [.va D0, .va A, .va P, ownW false 22 (fnL (W : Int) (T : Int) fs n), .va (.lst (rs.map fcT)), s5, s6, s7, s8, s9, s10, s11, s12, s13, s14]
end GD
namespace GD
open PySem L2 G
open Fd (Stp Fc Nfs Tr3 Cn)
section
variable {W T : Nat} {fs : Nfs} {n : Int}
abbrev c2 (O L : D) (x y : Int) (s4 s5 s6 s7 : Slot) : Sl := [.va O, .va L, .va (.int x), .va (.int y), s4, s5, s6, s7]
abbrev l2 (O L : D) (r : Bool) (k : Int) (s4 s5 s6 : Slot) : Sl := [.va O, .va L, .va (.str (lnW r)), .va (.int k), s4, s5, s6]
end
end GD
namespace GD
open PySem L2 G
open Fd (Stp Fc Nfs Tr3 Cn)
end GD
namespace GD
open PySem L2 G
open Fd (Stp Fc Nfs Tr3 Cn)
section
variable {W T : Nat} {fs : Nfs} {n : Int}
abbrev d1 (O L : D) (W T : Nat) (s4 s5 s6 s7 s8 : Slot) : Sl := [.va O, .va L, .va (.int (W : Nat)), .va (.int (T : Nat)), s4, s5, s6, s7, s8]
/-- the test: what is due against what is told -/
abbrev tD : SS := G.sIf (G.tOr (G.tAnd (tBl (eUn (fun d => shr (.bl (isNon d))) (eVar 7))) (tBl (eUn (fun d => shr (.bl (!isNon d))) (eVar 8)))) (G.tAnd (tBl (eUn (fun d => shr (.bl (!isNon d))) (eVar 7))) (G.tNot (tTru (eFn R__law_same [eVar 8, eVar 7]))))) (sRet (eC (.bl false))) (sSkip)
end
end GD
namespace GD
open PySem L2 G
open Fd (Stp Fc Nfs Tr3 Cn)
section
variable {W T : Nat} {fs : Nfs} {n : Int} {p : Stp → Int}
abbrev h8 (F : D) (W T : Nat) (K : List Stp) (h : Stp → Stp) (s4 s5 : Slot) : Sl := [.va F, .va (.int (W : Nat)), .va (.int (T : Nat)), .ow (hD K h), s4, s5, .un, .un]
end
end GD
namespace GD
open PySem L2 G
open Fd (Stp Fc Nfs Tr3 Cn)
structure Idm (h : Stp → Stp) (K : List Stp) : Prop where
  m : ∀ a ∈ K, h a ∈ K
  i : ∀ a ∈ K, h (h a) = h a
theorem Idm.mg {h : Stp → Stp} {K : List Stp} (d : Idm h K) {x y : Stp} (hx : x ∈ K) (hy : y ∈ K) : Idm (Fd.mg h (h x) (h y)) K := by
  have hu := d.i x hx
  refine ⟨fun a ha => ?_, fun a ha => ?_⟩
  · unfold Fd.mg
    split
    · exact d.m x hx
    · exact d.m a ha
  · have mu : Fd.mg h (h x) (h y) (h x) = h x := by
      unfold Fd.mg
      split
      · rfl
      · exact hu
    by_cases c : h a = h y
    · have e : Fd.mg h (h x) (h y) a = h x := if_pos c
      rw [e, mu]
    · have e : Fd.mg h (h x) (h y) a = h a := if_neg c
      rw [e]
      unfold Fd.mg
      rw [d.i a ha, if_neg c]
end GD
namespace GD
open PySem L2 G
open Fd (Stp Fc Nfs Tr3 Cn)
end GD
namespace GD
open PySem L2 G
open Fd (Stp Fc Nfs Tr3 Cn)
end GD
namespace GD
open PySem L2 G
open Fd (Stp Fc Nfs Tr3 Cn)
end GD
namespace GD
open PySem L2 G
open Fd (Stp Fc Nfs Tr3 Cn)
end GD
namespace GD
open PySem L2 G
open Fd (Stp Fc Nfs Tr3 Cn)
end GD
namespace GD
open PySem L2 G
open Fd (Stp Fc Nfs Tr3 Cn)
end GD
namespace GD
open PySem L2 G
open Fd (Stp Fc Nfs Tr3 Cn)
section
variable {W T : Nat} {fs : Nfs} {n : Int} {us : List Int}
theorem G9.drop (h : G9 W T fs n) (k : Nat) : G9 W T (fs.drop k) n := by
  obtain ⟨p, hp⟩ := h.g.p
  have m : ∀ z ∈ fs.drop k, z ∈ fs := fun z hz => List.mem_of_mem_drop hz
  exact ⟨⟨fun z hz => h.g.v z (m z hz), fun z hz => h.g.k z (m z hz), ⟨p, hp.mono m⟩⟩, List.Pairwise.sublist (List.Sublist.map _ (List.drop_sublist k fs)) h.r, h.n0, h.hw, h.ht⟩
end
end GD
namespace GD
open PySem L2 G
open Fd (Stp Fc Nfs Tr3 Cn)
abbrev v1 (D0 A P : D) (W T : Nat) (gs : Nfs) (n : Int) (s6 s7 s8 s9 : Slot) : Sl := [.va D0, .va A, .va P, .va (.int (W : Nat)), .va (.int (T : Nat)), ownW false 22 (fnL (W : Int) (T : Int) gs n), s6, s7, s8, s9]
end GD
namespace GD
open PySem L2 G
open Fd (Stp Fc Nfs Tr3 Cn)
end GD
namespace GD
open PySem L2 G
open Fd (Stp Fc Nfs Tr3 Cn)
end GD
namespace GD
open PySem L2 G
open Fd (Stp Fc Nfs Tr3 Cn)
end GD
namespace GD
open PySem L2 G
def colsF (F : List (List Int)) (n : Nat) : List Int := (List.range (n - 1)).map fun k => (gt (rowA F 0) k + gt (rowA F 0) (k + 1)) % 2
def rowsF (F : List (List Int)) (m : Nat) : List Int := (List.range (m - 1)).map fun k => (gt (rowA F k) 0 + gt (rowA F (k + 1)) 0) % 2
theorem map_gt {f : Nat → Int} {n k : Nat} (h : k < n) : gt ((List.range n).map f) k = f k := by
  rw [gt_eq (by simpa using h)]
  simp
section
variable {F : List (List Int)} {m n : Nat}
theorem ev_none (ev : evens F (m - 1) (n - 1) = []) {x y : Nat} (hx : x + 1 < n) (hy : y + 1 < m) : (gt (rowA F y) x + gt (rowA F y) (x + 1) + gt (rowA F (y + 1)) x + gt (rowA F (y + 1)) (x + 1)) % 2 = 1 := by
  by_cases q : evenB F x y = true
  · have : (((x : Nat) : Int), ((y : Nat) : Int)) ∈ evens F (m - 1) (n - 1) := by
      unfold evens
      refine List.mem_flatten.mpr ⟨_, List.mem_map.mpr ⟨y, List.mem_range.mpr (by omega), rfl⟩, ?_⟩
      unfold evRow
      exact List.mem_map.mpr ⟨x, List.mem_filter.mpr ⟨List.mem_range.mpr (by omega), q⟩, rfl⟩
    rw [ev] at this
    cases this
  · have := of_decide_eq_false (Bool.eq_false_iff.mpr q)
    omega
theorem bitF (h : Rect F m n) {y : Nat} (hy : y < m) (x : Nat) : gt (rowA F y) x = 0 ∨ gt (rowA F y) x = 1 := (h.bit _ (rowA_mem (by rw [h.len]; exact hy))).get x
theorem step_y (h : Rect F m n) (ev : evens F (m - 1) (n - 1) = []) {x : Nat} (hx : x + 1 < n) : ∀ y : Nat, y < m → (gt (rowA F y) x + gt (rowA F y) (x + 1)) % 2 = (gt (colsF F n) x + y) % 2
  | 0, _ => by
    unfold colsF
    rw [map_gt (by omega)]
    omega
  | y + 1, hy => by
    have ih := step_y h ev hx y (by omega)
    have e := ev_none ev hx hy
    push_cast
    omega
theorem col_0 (h : Rect F m n) (hm : 1 ≤ m) : ∀ y : Nat, y < m → (gt (rowA F 0) 0 + ((rowsF F m).take y).sum) % 2 = gt (rowA F y) 0
  | 0, _ => by
    have := bitF h hm 0
    simp
    omega
  | y + 1, hy => by
    have ih := col_0 h hm y (by omega)
    have l : y < (rowsF F m).length := by unfold rowsF; simp; omega
    have st := sum_take (us := rowsF F m) (x := (y : Int)) (by omega) (by omega)
    rw [show ((y : Int) + 1).toNat = y + 1 by omega, Int.toNat_natCast] at st
    have g : gt (rowsF F m) y = (gt (rowA F y) 0 + gt (rowA F (y + 1)) 0) % 2 := by
      unfold rowsF
      rw [map_gt (by omega)]
    have b1 := bitF h hy 0
    have b0 := bitF h (y := y) (by omega) 0
    rw [st, g]
    omega
theorem back (h : Rect F m n) (hm : 1 ≤ m) (ev : evens F (m - 1) (n - 1) = []) {y : Nat} (hy : y < m) : ∀ x : Nat, x < n → colour (gt (rowA F 0) 0) (colsF F n) (rowsF F m) x y = gt (rowA F y) x
  | 0, _ => by
    have := col_0 h hm y hy
    unfold colour
    rw [Int.toNat_natCast, Int.toNat_natCast]
    simp
    exact this
  | x + 1, hx => by
    have ih := back h hm ev hy x (by omega)
    have sy := step_y h ev hx y hy
    have b1 := bitF h hy (x + 1)
    have b0 := bitF h hy x
    have l : x < (colsF F n).length := by unfold colsF; simp; omega
    have st := sum_take (us := colsF F n) (x := (x : Int)) (by omega) (by omega)
    unfold colour at ih ⊢
    rw [show ((x : Int) + 1).toNat = x + 1 by omega, Int.toNat_natCast] at st
    rw [Int.toNat_natCast, Int.toNat_natCast] at ih ⊢
    rw [st]
    have e : ((x + 1 : Nat) : Int) * (y : Int) = (x : Int) * y + y := by push_cast; rw [Int.add_mul, Int.one_mul]
    rw [e]
    generalize (x : Int) * (y : Int) = q at ih ⊢
    omega
end
end GD
namespace GD
open PySem L2 G
section
variable {us ls : List Int}
def gB (x : Sm1) (z : Pt) : Bool := decide (gN x.1 x.2 z.1 z.2 % 2 = 1)
def eB (x : Sm1) (u v : Pt) : Bool := decide (eN x.1 x.2 u v % 2 = 1)
theorem eN_sym (c : Bool) (l : List Pt) (u v : Pt) : eN c l u v = eN c l v u := su_congr fun k _ => by
  unfold eAt
  by_cases h : (seqW c l k, seqW c l (k + 1)) = (u, v) ∨ (seqW c l k, seqW c l (k + 1)) = (v, u)
  · rw [if_pos h, if_pos h.symm]
  · rw [if_neg h, if_neg fun e => h e.symm]
theorem gB_v {x : Sm1} (q : Sm.Seam (nb us ls) x.1 x.2) (a b : Int) : (gB x (a - 1, b) != gB x (a, b)) = eB x (a, b) (a, b + 1) := by
  unfold gB eB
  dsimp only
  rw [gN_v q a b]
  generalize gN x.1 x.2 (a - 1) b = m
  generalize eN x.1 x.2 (a, b) (a, b + 1) = n
  by_cases h1 : m % 2 = 1 <;> by_cases h2 : n % 2 = 1
  · rw [decide_eq_true h1, decide_eq_true h2, decide_eq_false (by omega)]; rfl
  · rw [decide_eq_true h1, decide_eq_false h2, decide_eq_true (by omega)]; rfl
  · rw [decide_eq_false h1, decide_eq_true h2, decide_eq_true (by omega)]; rfl
  · rw [decide_eq_false h1, decide_eq_false h2, decide_eq_false (by omega)]; rfl
theorem gB_h {x : Sm1} (q : Sm.Seam (nb us ls) x.1 x.2) {a b : Int} (ha : 0 ≤ a) (ha2 : a ≤ us.length) (hb : 1 ≤ b) (hb2 : b ≤ ls.length) : (gB x (a, b - 1) != gB x (a, b)) = eB x (a, b) (a + 1, b) := by
  have e := gN_h q ha ha2 hb hb2
  unfold gB eB
  dsimp only
  generalize gN x.1 x.2 a (b - 1) = m at *
  generalize gN x.1 x.2 a b = k at *
  generalize eN x.1 x.2 (a, b) (a + 1, b) = n at *
  by_cases h1 : m % 2 = 1 <;> by_cases h2 : k % 2 = 1
  · rw [decide_eq_true h1, decide_eq_true h2, decide_eq_false (by omega)]; rfl
  · rw [decide_eq_true h1, decide_eq_false h2, decide_eq_true (by omega)]; rfl
  · rw [decide_eq_false h1, decide_eq_true h2, decide_eq_true (by omega)]; rfl
  · rw [decide_eq_false h1, decide_eq_false h2, decide_eq_false (by omega)]; rfl
theorem seam_of {x : Sm1} (h : x ∈ seamsL us ls) : Sm.Seam (nb us ls) x.1 x.2 := (found_ev (seamsL_mem.mp h)).1
theorem su_pos {f : Pt × Pt → Nat} {w : Nat → Pt} : ∀ {n : Nat}, su f w n ≠ 0 → ∃ k, k < n ∧ f (w k, w (k + 1)) ≠ 0
  | 0, h => absurd rfl h
  | n + 1, h => by
    by_cases c : f (w n, w (n + 1)) = 0
    · have : su f w n ≠ 0 := fun e => h (by show su f w n + _ = 0; rw [e, c])
      obtain ⟨k, h1, h2⟩ := su_pos this
      exact ⟨k, by omega, h2⟩
    · exact ⟨n, by omega, c⟩
variable {s : Int}
end
end GD
namespace GD
open PySem L2 G
def Fit (a b : List Pt) : Prop := a.length < b.length ∧ minL a ∈ b
def Best (P : List (List Pt)) (a : List Pt) (k : Nat) (n : Int) : Prop := (n = -1 ∧ ∀ j b, j < k → P[j]? = some b → ¬ Fit a b) ∨
  ∃ (m : Nat) (b : List Pt), n = (m : Int) ∧ m < k ∧ P[m]? = some b ∧ Fit a b ∧ ∀ j c, j < k → P[j]? = some c → Fit a c → b.length < c.length ∨ (b.length = c.length ∧ m ≤ j)
theorem Best.start (P : List (List Pt)) (a : List Pt) : Best P a 0 (-1) := .inl ⟨rfl, fun j b h => by omega⟩
/-- one more patch is looked at -/
theorem Best.step {P : List (List Pt)} {a b : List Pt} {k : Nat} {n : Int} (h : Best P a k n) (hk : P[k]? = some b) {c : Bool} (hc : c = true ↔ Fit a b ∧ (n = -1 ∨ ∃ m, P[n.toNat]? = some m ∧ b.length < m.length)) : Best P a (k + 1) (if c = true then (k : Int) else n) := by
  rcases h with ⟨rfl, h⟩ | ⟨m, b', rfl, h1, h2, h3, h4⟩
  · by_cases f : Fit a b
    · rw [if_pos (hc.mpr ⟨f, .inl rfl⟩)]
      refine .inr ⟨k, b, rfl, by omega, hk, f, fun j d hj hd hf => ?_⟩
      by_cases e : j = k
      · subst e
        rw [hk] at hd
        cases hd
        exact .inr ⟨rfl, Nat.le_refl _⟩
      · exact absurd hf (h j d (by omega) hd)
    · rw [if_neg fun z => f (hc.mp z).1]
      refine .inl ⟨rfl, fun j d hj hd hf => ?_⟩
      by_cases e : j = k
      · subst e
        rw [hk] at hd
        cases hd
        exact f hf
      · exact h j d (by omega) hd hf
  · rw [Int.toNat_natCast, h2] at hc
    by_cases f : Fit a b ∧ b.length < b'.length
    · rw [if_pos (hc.mpr ⟨f.1, .inr ⟨b', rfl, f.2⟩⟩)]
      refine .inr ⟨k, b, rfl, by omega, hk, f.1, fun j d hj hd hf => ?_⟩
      by_cases e : j = k
      · subst e
        rw [hk] at hd
        cases hd
        exact .inr ⟨rfl, Nat.le_refl _⟩
      · have := h4 j d (by omega) hd hf
        left
        omega
    · rw [if_neg fun z => by
        obtain ⟨z1, z2⟩ := hc.mp z
        rcases z2 with z2 | ⟨w, z2, z3⟩
        · omega
        · cases z2
          exact f ⟨z1, z3⟩]
      refine .inr ⟨m, b', rfl, by omega, h2, h3, fun j d hj hd hf => ?_⟩
      by_cases e : j = k
      · subst e
        rw [hk] at hd
        cases hd
        have : ¬ b.length < b'.length := fun z => f ⟨hf, z⟩
        omega
      · exact h4 j d (by omega) hd hf
end GD
namespace GD
open PySem L2 G
section
variable {us ls : List Int}
/-- the parity is what within means -/
theorem seq_ptN {l : List Pt} (h : 0 < l.length) (k : Nat) : seqW true l (k + 1) = l.getD k (0, 0) ∧ seqW true l 0 = ptN l (l.length - 1) := by
  constructor
  · unfold seqW
    rw [if_pos rfl, if_neg (by omega), Nat.add_sub_cancel]
  · unfold seqW
    rw [if_pos rfl, if_pos rfl, ptN_lt (by omega)]
theorem sum_range_su (f : Pt × Pt → Nat) (w : Nat → Pt) : ∀ n : Nat, ((List.range n).map fun k => f (w k, w (k + 1))).sum = su f w n
  | 0 => rfl
  | n + 1 => by
    rw [List.range_succ, List.map_append, List.sum_append, sum_range_su f w n]
    simp [su]
theorem prs_seq {l : List Pt} (h : 0 < l.length) : prs l = (List.range l.length).map fun k => (seqW true l k, seqW true l (k + 1)) := by
  refine List.ext_getElem? fun j => ?_
  rw [List.getElem?_map]
  by_cases c : j < l.length
  · rw [List.getElem?_range c]
    have e : l[j]? = some (l.getD j (0, 0)) := getD_eq c
    obtain ⟨u, g1, g2⟩ := prs_get e
    rw [g1]
    have s1 := (seq_ptN h j).1
    show some (u, l.getD j (0, 0)) = some (seqW true l j, seqW true l (j + 1))
    rw [s1]
    congr 2
    rcases g2 with ⟨rfl, g2⟩ | ⟨i, rfl, g2⟩
    · rw [(seq_ptN h 0).2]
      rw [ptN_get (by omega)] at g2
      exact (Option.some.inj g2).symm
    · rw [(seq_ptN h i).1]
      rw [getD_eq (by omega)] at g2
      exact (Option.some.inj g2).symm
  · rw [List.getElem?_eq_none (by unfold prs; rw [prsF_len]; omega), List.getElem?_eq_none (by simp; omega)]
    rfl
theorem round_inner {l : List Pt} (q : Sm.Seam (nb us ls) true l) {z : Pt} (hz : z ∈ l) : 1 ≤ z.1 ∧ z.1 ≤ us.length ∧ 1 ≤ z.2 ∧ z.2 ≤ ls.length := by
  obtain ⟨j, hj⟩ := List.getElem?_of_mem hz
  have jl := (List.getElem?_eq_some_iff.mp hj).1
  have h3 := (q.shut rfl).1
  rw [ptN_get jl] at hj
  cases hj
  have key : ∀ i, i < l.length → (1 ≤ (ptN l (i + 1)).1 ∧ (ptN l (i + 1)).1 ≤ us.length ∧ 1 ≤ (ptN l (i + 1)).2 ∧ (ptN l (i + 1)).2 ≤ ls.length) := fun i hi => by
    have a1 := (adj_n q hi).2
    have t := alt_n q hi
    have a2 : ptN l (i + 2) ∈ nb us ls (ptN l (i + 1)) := by
      by_cases c : i + 1 < l.length
      · exact (adj_n q c).1
      · have e1 : ptN l (i + 1) = ptN l 0 := by rw [← ptN_per l 0]; congr 1; omega
        have e2 : ptN l (i + 2) = ptN l (0 + 1) := by rw [← ptN_per l (0 + 1)]; congr 1; omega
        rw [e1, e2]
        exact (adj_n q (by omega)).1
    have fin : ∀ u v : Pt, u ∈ rowN us ls (ptN l (i + 1)).1 (ptN l (i + 1)).2 → v ∈ colN us ls (ptN l (i + 1)).1 (ptN l (i + 1)).2 → (1 ≤ (ptN l (i + 1)).1 ∧ (ptN l (i + 1)).1 ≤ us.length ∧ 1 ≤ (ptN l (i + 1)).2 ∧ (ptN l (i + 1)).2 ≤ ls.length) := fun u v hu hv => by
      have := (mem_row.mp hu).1
      have := (mem_col.mp hv).1
      omega
    have ne : ptN l i ≠ ptN l (i + 2) := by
      by_cases c : i + 2 < l.length
      · exact inj_n q.nd (by omega) c
      · have e : ptN l (i + 2) = ptN l (i + 2 - l.length) := by
          rw [← ptN_per l (i + 2 - l.length)]
          congr 1
          omega
        rw [e]
        exact (inj_n q.nd (by omega) hi).symm
    rcases two_kinds a1 a2 ne with ⟨h1, h2⟩ | ⟨h1, h2⟩
    · exact fin _ _ h1 h2
    · exact fin _ _ h2 h1
  by_cases c : j = 0
  · subst c
    have := key (l.length - 1) (by omega)
    rw [show l.length - 1 + 1 = 0 + l.length by omega, ptN_per] at this
    exact this
  · have := key (j - 1) (by omega)
    rw [show j - 1 + 1 = j by omega] at this
    exact this
theorem wi_gB {l : List Pt} (q : Sm.Seam (nb us ls) true l) (x y : Int) : wi l x y = gB (true, l) (x, y) := by
  have h3 := (q.shut rfl).1
  have sn : stepsN true l = l.length := by unfold stepsN; simp; omega
  have e : cntI x (plc l y) = gN true l x y := by
    unfold plc ups
    rw [cnt_sum, prs_seq (by omega), List.map_map]
    have := sum_range_su (vp x y) (seqW true l) l.length
    show ((List.range l.length).map fun k => vp x y (seqW true l k, seqW true l (k + 1))).sum = _
    rw [this]
    unfold gN
    rw [sn]
    refine su_congr fun k hk => ?_
    have m1 := round_inner q (seq_mem q (k := k) (by omega))
    have m2 := round_inner q (seq_mem q (k := k + 1) (by omega))
    have : hq y (seqW true l k, seqW true l (k + 1)) = 0 := by
      unfold hq
      refine if_neg fun h => ?_
      dsimp only at h
      omega
    omega
  unfold wi gB
  dsimp only
  rw [e]
theorem four_q {x : Sm1} (q : Sm.Seam (nb us ls) x.1 x.2) {a b : Int} (h1 : 1 ≤ a) (h2 : a ≤ us.length) (h3 : 1 ≤ b) (h4 : b ≤ ls.length) :
    (gB x (a - 1, b) != gB x (a, b)) = eB x (a, b) (a, b + 1) ∧ (gB x (a - 1, b - 1) != gB x (a, b - 1)) = eB x (a, b - 1) (a, b) ∧ (gB x (a, b - 1) != gB x (a, b)) = eB x (a, b) (a + 1, b) ∧ (gB x (a - 1, b - 1) != gB x (a - 1, b)) = eB x (a - 1, b) (a, b) := by
  have e2 := gB_v q a (b - 1)
  have e4 := gB_h q (a := a - 1) (b := b) (by omega) (by omega) h3 h4
  rw [show b - 1 + 1 = b by omega] at e2
  rw [show a - 1 + 1 = a by omega] at e4
  exact ⟨gB_v q a b, e2, gB_h q (by omega) h2 h3 h4, e4⟩
theorem eB_t {x : Sm1} (q : Sm.Seam (nb us ls) x.1 x.2) {u v : Pt} (hu : u ∈ x.2) (hv : v ∈ nb us ls u) (hs : u ∈ nb us ls v) : eB x u v = true := by
  unfold eB
  rw [eN_one q hu hv hs]
  rfl
theorem eB_f {x : Sm1} (q : Sm.Seam (nb us ls) x.1 x.2) {u v : Pt} (hv : v ∉ nb us ls u) : eB x u v = false := by
  unfold eB
  rw [eN_not q hv]
  rfl
theorem eB_sym (x : Sm1) (u v : Pt) : eB x u v = eB x v u := by unfold eB; rw [eN_sym]
theorem flag_row {x : Sm1} (q : Sm.Seam (nb us ls) x.1 x.2) {a b : Int} (hz : (a, b) ∈ x.2) {e : Int} (he : e = 1 ∨ e = -1) (hv : (a + e, b) ∈ nb us ls (a, b)) (hs : (a, b) ∈ nb us ls (a + e, b)) :
    (e = 1 → eB x (a, b) (a + 1, b) = true ∧ eB x (a - 1, b) (a, b) = false) ∧ (e = -1 → eB x (a, b) (a + 1, b) = false ∧ eB x (a - 1, b) (a, b) = true) := by
  have r : (a + e, b) ∈ rowN us ls a b := by
    rcases mem_nb.mp hv with m | m
    · exact m
    · have := (col_step m).1
      dsimp only at this
      omega
  have o := (row_one (a := (a, b)) r).1
  dsimp only at o
  constructor
  · rintro rfl
    refine ⟨eB_t q hz hv hs, ?_⟩
    rw [eB_sym]
    refine eB_f q fun m => ?_
    rcases mem_nb.mp m with m | m
    · have := (row_one m).1
      dsimp only at this
      omega
    · have := (col_step m).1
      dsimp only at this
      omega
  · rintro rfl
    refine ⟨eB_f q fun m => ?_, ?_⟩
    · rcases mem_nb.mp m with m | m
      · have := (row_one m).1
        dsimp only at this
        omega
      · have := (col_step m).1
        dsimp only at this
        omega
    · rw [eB_sym]
      exact eB_t q hz hv hs
theorem flag_col {x : Sm1} (q : Sm.Seam (nb us ls) x.1 x.2) {a b : Int} (hz : (a, b) ∈ x.2) {e : Int} (he : e = 1 ∨ e = -1) (hv : (a, b + e) ∈ nb us ls (a, b)) (hs : (a, b) ∈ nb us ls (a, b + e)) :
    (e = 1 → eB x (a, b) (a, b + 1) = true ∧ eB x (a, b - 1) (a, b) = false) ∧ (e = -1 → eB x (a, b) (a, b + 1) = false ∧ eB x (a, b - 1) (a, b) = true) := by
  have r : (a, b + e) ∈ colN us ls a b := by
    rcases mem_nb.mp hv with m | m
    · have := (row_step m).2
      dsimp only at this
      omega
    · exact m
  have o := (col_one (a := (a, b)) r).1
  dsimp only at o
  constructor
  · rintro rfl
    refine ⟨eB_t q hz hv hs, ?_⟩
    rw [eB_sym]
    refine eB_f q fun m => ?_
    rcases mem_nb.mp m with m | m
    · have := (row_step m).2
      dsimp only at this
      omega
    · have := (col_one m).1
      dsimp only at this
      omega
  · rintro rfl
    refine ⟨eB_f q fun m => ?_, ?_⟩
    · rcases mem_nb.mp m with m | m
      · have := (row_step m).2
        dsimp only at this
        omega
      · have := (col_one m).1
        dsimp only at this
        omega
    · rw [eB_sym]
      exact eB_t q hz hv hs
def b2i (b : Bool) : Int := if b = true then 1 else 0
/-- the cells around a point, within -/
def ka (g : Pt → Bool) (a b : Int) : Int := b2i (g (a, b)) + b2i (g (a - 1, b)) + b2i (g (a, b - 1)) + b2i (g (a - 1, b - 1))
/-- potentials -/
structure PU (h v P U : Int → Int) : Prop where
  P : ∀ y, P y = P (y - 1) + h y
  U : ∀ x, U x = U (x - 1) + v x
/-- left of a step along a row: within, at the height M; right of it not -/
def LIH (g : Pt → Bool) (P U : Int → Int) (M : Int) (z : Pt) (e : Int) : Prop :=
  (e = 1 → g (z.1, z.2) = true ∧ g (z.1, z.2 - 1) = false ∧ P z.2 - U z.1 = M) ∧ (e = -1 → g (z.1 - 1, z.2 - 1) = true ∧ g (z.1 - 1, z.2) = false ∧ P (z.2 - 1) - U (z.1 - 1) = M)
def LIV (g : Pt → Bool) (P U : Int → Int) (M : Int) (z : Pt) (e : Int) : Prop :=
  (e = 1 → g (z.1 - 1, z.2) = true ∧ g (z.1, z.2) = false ∧ P z.2 - U (z.1 - 1) = M) ∧ (e = -1 → g (z.1, z.2 - 1) = true ∧ g (z.1 - 1, z.2 - 1) = false ∧ P (z.2 - 1) - U z.1 = M)
theorem bne_t {p q : Bool} (h : (p != q) = true) : q = !p := by cases p <;> cases q <;> simp_all
theorem bne_f {p q : Bool} (h : (p != q) = false) : q = p := by cases p <;> cases q <;> simp_all
theorem bne_t1 {p q : Bool} (h : (p != q) = true) : p = !q := by cases p <;> cases q <;> simp_all
/-- a corner, from a row to a column: from u by h to z, then on by v -/
theorem corner_hv {g : Pt → Bool} {P U h v : Int → Int} {M a b : Int} (pu : PU h v P U) (hh : h b = 1 ∨ h b = -1) (vv : v a = 1 ∨ v a = -1) {N S E W : Bool} (qN : (g (a - 1, b) != g (a, b)) = N) (qS : (g (a - 1, b - 1) != g (a, b - 1)) = S) (qE : (g (a, b - 1) != g (a, b)) = E) (qW : (g (a - 1, b - 1) != g (a - 1, b)) = W)
    (r1 : h b = 1 → E = false ∧ W = true) (r2 : h b = -1 → E = true ∧ W = false) (c1 : v a = 1 → N = true ∧ S = false) (c2 : v a = -1 → N = false ∧ S = true) (I : LIH g P U M (a - h b, b) (h b)) :
    LIV g P U M (a, b) (v a) ∧ ka g a b = 2 - h b * v a := by
  have pP := pu.P b
  have pU := pu.U a
  unfold LIH at I
  unfold LIV ka
  dsimp only at I ⊢
  rcases hh with e | e
  · obtain ⟨rfl, rfl⟩ := r1 e
    obtain ⟨i1, i2, i3⟩ := I.1 e
    rw [e] at i1 i2 i3 pP ⊢
    rw [i1, i2] at qW
    rcases vv with f | f
    · obtain ⟨rfl, rfl⟩ := c1 f
      rw [f] at pU ⊢
      have n1 := bne_t qN
      rw [i1] at n1
      have n2 := bne_f qS
      rw [i2] at n2
      rw [i1, i2, n1, n2]
      exact ⟨⟨fun _ => ⟨rfl, rfl, by omega⟩, fun z => by omega⟩, rfl⟩
    · obtain ⟨rfl, rfl⟩ := c2 f
      rw [f] at pU ⊢
      have n1 := bne_f qN
      rw [i1] at n1
      have n2 := bne_t qS
      rw [i2] at n2
      rw [i1, i2, n1, n2]
      exact ⟨⟨fun z => by omega, fun _ => ⟨rfl, rfl, by omega⟩⟩, rfl⟩
  · obtain ⟨rfl, rfl⟩ := r2 e
    obtain ⟨i1, i2, i3⟩ := I.2 e
    rw [e] at i1 i2 i3 pP ⊢
    rw [show a - -1 - 1 = a by omega] at i1 i2 i3
    rcases vv with f | f
    · obtain ⟨rfl, rfl⟩ := c1 f
      rw [f] at pU ⊢
      have n1 := bne_t1 qN
      rw [i2] at n1
      have n1 : g (a - 1, b) = true := n1
      have n2 := bne_f qS
      rw [i1] at n2
      rw [i1, i2, n1, ← n2]
      exact ⟨⟨fun _ => ⟨rfl, rfl, by omega⟩, fun z => by omega⟩, rfl⟩
    · obtain ⟨rfl, rfl⟩ := c2 f
      rw [f] at pU ⊢
      have n1 := bne_f qN
      rw [i2] at n1
      have n2 := bne_t1 qS
      rw [i1] at n2
      have n2 : g (a - 1, b - 1) = false := n2
      rw [i1, i2, ← n1, n2]
      exact ⟨⟨fun z => by omega, fun _ => ⟨rfl, rfl, by omega⟩⟩, rfl⟩
/-- .. from a column to a row -/
theorem corner_vh {g : Pt → Bool} {P U h v : Int → Int} {M a b : Int} (pu : PU h v P U) (hh : h b = 1 ∨ h b = -1) (vv : v a = 1 ∨ v a = -1) {N S E W : Bool} (qN : (g (a - 1, b) != g (a, b)) = N) (qS : (g (a - 1, b - 1) != g (a, b - 1)) = S) (qE : (g (a, b - 1) != g (a, b)) = E) (qW : (g (a - 1, b - 1) != g (a - 1, b)) = W)
    (r1 : h b = 1 → E = true ∧ W = false) (r2 : h b = -1 → E = false ∧ W = true) (c1 : v a = 1 → N = false ∧ S = true) (c2 : v a = -1 → N = true ∧ S = false) (I : LIV g P U M (a, b - v a) (v a)) :
    LIH g P U M (a, b) (h b) ∧ ka g a b = 2 + v a * h b := by
  have pP := pu.P b
  have pU := pu.U a
  unfold LIV at I
  unfold LIH ka
  dsimp only at I ⊢
  rcases vv with f | f
  · obtain ⟨rfl, rfl⟩ := c1 f
    obtain ⟨i1, i2, i3⟩ := I.1 f
    rw [f] at i1 i2 i3 pU ⊢
    rcases hh with e | e
    · obtain ⟨rfl, rfl⟩ := r1 e
      rw [e] at pP ⊢
      have n1 := bne_t qE
      rw [i2] at n1
      have n2 := bne_f qW
      rw [i1] at n2
      rw [i1, i2, n1, n2]
      exact ⟨⟨fun _ => ⟨rfl, rfl, by omega⟩, fun z => by omega⟩, rfl⟩
    · obtain ⟨rfl, rfl⟩ := r2 e
      rw [e] at pP ⊢
      have n1 := bne_f qE
      rw [i2] at n1
      have n2 := bne_t qW
      rw [i1] at n2
      rw [i1, i2, n1, n2]
      exact ⟨⟨fun z => by omega, fun _ => ⟨rfl, rfl, by omega⟩⟩, rfl⟩
  · obtain ⟨rfl, rfl⟩ := c2 f
    obtain ⟨i1, i2, i3⟩ := I.2 f
    rw [f] at i1 i2 i3 pU ⊢
    rw [show b - -1 - 1 = b by omega] at i1 i2 i3
    rcases hh with e | e
    · obtain ⟨rfl, rfl⟩ := r1 e
      rw [e] at pP ⊢
      have n1 := bne_t1 qE
      rw [i1] at n1
      have n1 : g (a, b - 1) = false := n1
      have n2 := bne_f qW
      rw [i2] at n2
      rw [i1, i2, n1, ← n2]
      exact ⟨⟨fun _ => ⟨rfl, rfl, by omega⟩, fun z => by omega⟩, rfl⟩
    · obtain ⟨rfl, rfl⟩ := r2 e
      rw [e] at pP ⊢
      have n1 := bne_f qE
      rw [i1] at n1
      have n2 := bne_t1 qW
      rw [i2] at n2
      have n2 : g (a - 1, b - 1) = true := n2
      rw [i1, i2, ← n1, n2]
      exact ⟨⟨fun z => by omega, fun _ => ⟨rfl, rfl, by omega⟩⟩, rfl⟩
/-- potentials of ways -/
def potF (h : Int → Int) (y : Int) : Int := Turn.pot (fun t => h (t + 1)) y
theorem potF_ok (h : Int → Int) (y : Int) : potF h y = potF h (y - 1) + h y := by
  have := Turn.pot_succ (fun t => h (t + 1)) (y - 1)
  rw [show y - 1 + 1 = y by omega] at this
  exact this
theorem pu_ok (h v : Int → Int) : PU h v (potF h) (potF v) := ⟨potF_ok h, potF_ok v⟩
structure Along (l : List Pt) (n : Nat) (h v P U : Int → Int) (M : Int) : Prop where
  hs : ∀ k, k < n → LIH (gB (true, l)) P U M (ptN l (2 * k)) (h (ptN l (2 * k)).2)
  vs : ∀ k, k < n → LIV (gB (true, l)) P U M (ptN l (2 * k + 1)) (v (ptN l (2 * k + 1)).1)
  k1 : ∀ k, k < n → ka (gB (true, l)) (ptN l (2 * k + 1)).1 (ptN l (2 * k + 1)).2 = 2 - h (ptN l (2 * k)).2 * v (ptN l (2 * k + 1)).1
  k2 : ∀ k, k < n → ka (gB (true, l)) (ptN l (2 * k + 2)).1 (ptN l (2 * k + 2)).2 = 2 + v (ptN l (2 * k + 1)).1 * h (ptN l (2 * k + 2)).2
theorem along {l : List Pt} (q : Sm.Seam (nb us ls) true l) {n : Nat} {h v P U : Int → Int} (R : Rn l n h v) (pu : PU h v P U) : ∃ M, Along l n h v P U M := by
  have len := R.len
  have two := R.two
  have Q : Sm.Seam (nb us ls) (true, l).1 (true, l).2 := q
  have per : ptN l (2 * n) = ptN l 0 := by
    rw [← ptN_per l 0, len]
    congr 1
    omega
  have inn := fun i => round_inner q (ptN_mem (l := l) (by omega) i)
  have mem := fun i => ptN_mem (l := l) (by omega) i
  -- the flags at the points
  have flr : ∀ k, k < n → (h (ptN l (2 * k)).2 = 1 → eB (true, l) (ptN l (2 * k)) ((ptN l (2 * k)).1 + 1, (ptN l (2 * k)).2) = true ∧ eB (true, l) ((ptN l (2 * k)).1 - 1, (ptN l (2 * k)).2) (ptN l (2 * k)) = false) ∧ (h (ptN l (2 * k)).2 = -1 → eB (true, l) (ptN l (2 * k)) ((ptN l (2 * k)).1 + 1, (ptN l (2 * k)).2) = false ∧ eB (true, l) ((ptN l (2 * k)).1 - 1, (ptN l (2 * k)).2) (ptN l (2 * k)) = true) := fun k hk => by
    have s := R.sH k hk
    have a := adj_n q (i := 2 * k) (by omega)
    have e : ptN l (2 * k + 1) = ((ptN l (2 * k)).1 + h (ptN l (2 * k)).2, (ptN l (2 * k)).2) := Prod.ext s.1 s.2
    rw [e] at a
    exact flag_row (a := (ptN l (2 * k)).1) (b := (ptN l (2 * k)).2) Q (mem (2 * k)) (R.hh _) a.1 a.2
  have flc : ∀ k, k < n → (v (ptN l (2 * k + 1)).1 = 1 → eB (true, l) (ptN l (2 * k + 1)) ((ptN l (2 * k + 1)).1, (ptN l (2 * k + 1)).2 + 1) = true ∧ eB (true, l) ((ptN l (2 * k + 1)).1, (ptN l (2 * k + 1)).2 - 1) (ptN l (2 * k + 1)) = false) ∧ (v (ptN l (2 * k + 1)).1 = -1 → eB (true, l) (ptN l (2 * k + 1)) ((ptN l (2 * k + 1)).1, (ptN l (2 * k + 1)).2 + 1) = false ∧ eB (true, l) ((ptN l (2 * k + 1)).1, (ptN l (2 * k + 1)).2 - 1) (ptN l (2 * k + 1)) = true) := fun k hk => by
    have s := R.sV k hk
    have a := adj_n q (i := 2 * k + 1) (by omega)
    have e : ptN l (2 * k + 1 + 1) = ((ptN l (2 * k + 1)).1, (ptN l (2 * k + 1)).2 + v (ptN l (2 * k + 1)).1) := Prod.ext s.1 s.2
    rw [e] at a
    exact flag_col (a := (ptN l (2 * k + 1)).1) (b := (ptN l (2 * k + 1)).2) Q (mem (2 * k + 1)) (R.vv _) a.1 a.2
  -- backwards, at the far end of a step
  have blr : ∀ k, k < n → (h (ptN l (2 * k + 1)).2 = 1 → eB (true, l) (ptN l (2 * k + 1)) ((ptN l (2 * k + 1)).1 + 1, (ptN l (2 * k + 1)).2) = false ∧ eB (true, l) ((ptN l (2 * k + 1)).1 - 1, (ptN l (2 * k + 1)).2) (ptN l (2 * k + 1)) = true) ∧ (h (ptN l (2 * k + 1)).2 = -1 → eB (true, l) (ptN l (2 * k + 1)) ((ptN l (2 * k + 1)).1 + 1, (ptN l (2 * k + 1)).2) = true ∧ eB (true, l) ((ptN l (2 * k + 1)).1 - 1, (ptN l (2 * k + 1)).2) (ptN l (2 * k + 1)) = false) := fun k hk => by
    have s := R.sH k hk
    have a := adj_n q (i := 2 * k) (by omega)
    have hh := R.hh (ptN l (2 * k)).2
    have e : ptN l (2 * k) = ((ptN l (2 * k + 1)).1 + (-(h (ptN l (2 * k + 1)).2)), (ptN l (2 * k + 1)).2) := Prod.ext (by rw [s.2]; omega) s.2.symm
    rw [← s.2] at hh
    have f := flag_row (a := (ptN l (2 * k + 1)).1) (b := (ptN l (2 * k + 1)).2) Q (mem (2 * k + 1)) (e := -(h (ptN l (2 * k + 1)).2)) (by omega) (by rw [← e]; exact a.2) (by rw [← e]; exact a.1)
    exact ⟨fun z => f.2 (by omega), fun z => f.1 (by omega)⟩
  have blc : ∀ k, k < n → (v (ptN l (2 * k + 2)).1 = 1 → eB (true, l) (ptN l (2 * k + 2)) ((ptN l (2 * k + 2)).1, (ptN l (2 * k + 2)).2 + 1) = false ∧ eB (true, l) ((ptN l (2 * k + 2)).1, (ptN l (2 * k + 2)).2 - 1) (ptN l (2 * k + 2)) = true) ∧ (v (ptN l (2 * k + 2)).1 = -1 → eB (true, l) (ptN l (2 * k + 2)) ((ptN l (2 * k + 2)).1, (ptN l (2 * k + 2)).2 + 1) = true ∧ eB (true, l) ((ptN l (2 * k + 2)).1, (ptN l (2 * k + 2)).2 - 1) (ptN l (2 * k + 2)) = false) := fun k hk => by
    have s := R.sV k hk
    have a := adj_n q (i := 2 * k + 1) (by omega)
    have vv := R.vv (ptN l (2 * k + 1)).1
    have e : ptN l (2 * k + 1) = ((ptN l (2 * k + 2)).1, (ptN l (2 * k + 2)).2 + (-(v (ptN l (2 * k + 2)).1))) := Prod.ext s.1.symm (by rw [s.1]; omega)
    rw [← s.1] at vv
    rw [show 2 * k + 1 + 1 = 2 * k + 2 by omega] at a
    have f := flag_col (a := (ptN l (2 * k + 2)).1) (b := (ptN l (2 * k + 2)).2) Q (mem (2 * k + 2)) (e := -(v (ptN l (2 * k + 2)).1)) (by omega) (by rw [← e]; exact a.2) (by rw [← e]; exact a.1)
    exact ⟨fun z => f.2 (by omega), fun z => f.1 (by omega)⟩
  have fq := fun i => four_q Q (inn i).1 (inn i).2.1 (inn i).2.2.1 (inn i).2.2.2
  -- the beginning
  have v0 : v (ptN l (2 * (n - 1) + 1)).1 = -1 := by
    have s := (R.sV (n - 1) (by omega)).2
    have l2 := R.l2
    rw [show 2 * (n - 1) + 2 = 2 * n by omega, per, show 2 * (n - 1) + 1 = 2 * n - 1 by omega] at s
    rw [show 2 * (n - 1) + 1 = 2 * n - 1 by omega]
    omega
  have h0 : h (ptN l 0).2 = 1 := by
    have s := (R.sH 0 (by omega)).1
    have f1 := R.f1
    rw [show 2 * 0 + 1 = 1 by omega, show 2 * 0 = 0 by omega] at s
    omega
  have base : LIH (gB (true, l)) P U (P (ptN l 0).2 - U (ptN l 0).1) (ptN l 0) (h (ptN l 0).2) := by
    have b := (blc (n - 1) (by omega)).2 (by
      rw [show 2 * (n - 1) + 2 = 2 * n by omega, per, ← R.l1, ← show 2 * (n - 1) + 1 = 2 * n - 1 by omega]
      exact v0)
    rw [show 2 * (n - 1) + 2 = 2 * n by omega, per] at b
    have f := ((flr 0 (by omega)).1 (by rw [show 2 * 0 = 0 by omega]; exact h0)).1
    rw [show 2 * 0 = 0 by omega] at f
    have q4 := fq 0
    have z0 : gB (true, l) ((ptN l 0).1 - 1, (ptN l 0).2) = false := by
      rw [← wi_gB q]
      unfold wi
      rw [cnt_zero fun z hz => by
        have := (ups_at (seam_rg q) (plc_mem.mp hz)).1
        obtain ⟨j, hj⟩ := List.getElem?_of_mem this
        have jl := (List.getElem?_eq_some_iff.mp hj).1
        rw [ptN_get jl] at hj
        have := R.least j
        rw [Option.some.inj hj] at this
        dsimp only at this
        omega]
      rfl
    have t1 : gB (true, l) ((ptN l 0).1, (ptN l 0).2) = true := by
      have := q4.1
      rw [b.1, z0] at this
      have := bne_t this
      exact this
    have t2 : gB (true, l) ((ptN l 0).1, (ptN l 0).2 - 1) = false := by
      have := q4.2.2.1
      rw [f, t1] at this
      revert this
      cases gB (true, l) ((ptN l 0).1, (ptN l 0).2 - 1) <;> simp
    unfold LIH
    rw [h0]
    exact ⟨fun _ => ⟨t1, t2, rfl⟩, fun z => by omega⟩
  generalize hM : P (ptN l 0).2 - U (ptN l 0).1 = M at base
  refine ⟨M, ?_⟩
  have sHV : ∀ k, k < n → LIH (gB (true, l)) P U M (ptN l (2 * k)) (h (ptN l (2 * k)).2) → LIV (gB (true, l)) P U M (ptN l (2 * k + 1)) (v (ptN l (2 * k + 1)).1) ∧ ka (gB (true, l)) (ptN l (2 * k + 1)).1 (ptN l (2 * k + 1)).2 = 2 - h (ptN l (2 * k)).2 * v (ptN l (2 * k + 1)).1 := fun k hk I => by
    have s := R.sH k hk
    have f := fq (2 * k + 1)
    have br := blr k hk
    have fc := flc k hk
    have e : ptN l (2 * k) = ((ptN l (2 * k + 1)).1 - h (ptN l (2 * k + 1)).2, (ptN l (2 * k + 1)).2) := Prod.ext (by rw [s.2]; omega) s.2.symm
    rw [← s.2]
    rw [e] at I
    dsimp only at I
    exact corner_hv pu (R.hh _) (R.vv _) f.1 f.2.1 f.2.2.1 f.2.2.2 br.1 br.2 fc.1 fc.2 I
  have sVH : ∀ k, k < n → LIV (gB (true, l)) P U M (ptN l (2 * k + 1)) (v (ptN l (2 * k + 1)).1) → LIH (gB (true, l)) P U M (ptN l (2 * k + 2)) (h (ptN l (2 * k + 2)).2) ∧ ka (gB (true, l)) (ptN l (2 * k + 2)).1 (ptN l (2 * k + 2)).2 = 2 + v (ptN l (2 * k + 1)).1 * h (ptN l (2 * k + 2)).2 := fun k hk I => by
    have s := R.sV k hk
    have f := fq (2 * k + 2)
    have bc := blc k hk
    have fr : (h (ptN l (2 * k + 2)).2 = 1 → eB (true, l) (ptN l (2 * k + 2)) ((ptN l (2 * k + 2)).1 + 1, (ptN l (2 * k + 2)).2) = true ∧ eB (true, l) ((ptN l (2 * k + 2)).1 - 1, (ptN l (2 * k + 2)).2) (ptN l (2 * k + 2)) = false) ∧ (h (ptN l (2 * k + 2)).2 = -1 → eB (true, l) (ptN l (2 * k + 2)) ((ptN l (2 * k + 2)).1 + 1, (ptN l (2 * k + 2)).2) = false ∧ eB (true, l) ((ptN l (2 * k + 2)).1 - 1, (ptN l (2 * k + 2)).2) (ptN l (2 * k + 2)) = true) := by
      by_cases c : k + 1 < n
      · have := flr (k + 1) c
        rw [show 2 * (k + 1) = 2 * k + 2 by omega] at this
        exact this
      · have := flr 0 (by omega)
        rw [show 2 * 0 = 0 by omega] at this
        rw [show 2 * k + 2 = 2 * n by omega, per]
        exact this
    have e : ptN l (2 * k + 1) = ((ptN l (2 * k + 2)).1, (ptN l (2 * k + 2)).2 - v (ptN l (2 * k + 2)).1) := Prod.ext s.1.symm (by rw [s.1]; omega)
    rw [← s.1]
    rw [e] at I
    dsimp only at I
    exact corner_vh pu (R.hh _) (R.vv _) f.1 f.2.1 f.2.2.1 f.2.2.2 fr.1 fr.2 bc.1 bc.2 I
  have hs : ∀ k, k < n → LIH (gB (true, l)) P U M (ptN l (2 * k)) (h (ptN l (2 * k)).2) := by
    intro k
    induction k with
    | zero => intro _; rw [show 2 * 0 = 0 by omega]; exact base
    | succ k ih =>
      intro hk
      have := (sVH k (by omega) (sHV k (by omega) (ih (by omega))).1).1
      rw [show 2 * (k + 1) = 2 * k + 2 by omega]
      exact this
  exact ⟨hs, fun k hk => (sHV k hk (hs k hk)).1, fun k hk => (sHV k hk (hs k hk)).2, fun k hk => (sVH k hk (sHV k hk (hs k hk)).1).2⟩
end
end GD
namespace GD
open PySem L2 G
theorem least9 {p : Nat → Prop} : ∀ n, p n → ∃ k, k ≤ n ∧ p k ∧ ∀ j, j < k → ¬ p j := by
  intro n
  induction n using Nat.strongRecOn with
  | ind n ih =>
    intro h
    rcases Classical.em (∃ j, j < n ∧ p j) with ⟨j, h1, h2⟩ | c
    · obtain ⟨k, a, b, d⟩ := ih j h1 h2
      exact ⟨k, by omega, b, d⟩
    · exact ⟨n, Nat.le_refl _, h, fun j hj hp => c ⟨j, hj, hp⟩⟩
theorem odd_width {q : Int → Int → Bool} {P U : Int → Int} {M lo hi : Int} (hU : ∀ x, U x = U (x - 1) + 1 ∨ U x = U (x - 1) - 1)
    (hR : ∀ x y, q x y = true → M ≤ P y - U (x + 1) → q (x + 1) y = true) (hL : ∀ x y, q x y = true → M ≤ P y - U (x - 1) → q (x - 1) y = true)
    (hout : ∀ x y, q x y = true → lo ≤ x ∧ x < hi) (hst : ∃ y, q lo y = true ∧ P y - U lo = M ∧ U lo = U (lo - 1) - 1)
    (hcr : ∀ c, lo ≤ c → c < hi → ∃ y, q c y = true ∧ P y - U c = M) : (hi - lo) % 2 = 1 := by
  obtain ⟨y0, a1, a2, a3⟩ := hst
  have lh := (hout _ _ a1).2
  have walk : ∀ n : Nat, (∀ t, lo ≤ t → t ≤ lo + n → U t ≤ U (lo - 1) - 1) → q (lo + n) y0 = true := by
    intro n
    induction n with
    | zero => intro _; rw [show lo + ((0 : Nat) : Int) = lo by omega]; exact a1
    | succ n ih =>
      intro h
      have b := ih fun t h1 h2 => h t h1 (by omega)
      have c := h (lo + ((n + 1 : Nat) : Int)) (by omega) (by omega)
      have d := hR (lo + n) y0 b (by rw [show lo + (n : Int) + 1 = lo + ((n + 1 : Nat) : Int) by omega]; omega)
      rw [show lo + (n : Int) + 1 = lo + ((n + 1 : Nat) : Int) by omega] at d
      exact d
  have ex : ∃ n : Nat, lo + n ≤ hi ∧ U (lo - 1) ≤ U (lo + n) := Classical.byContradiction fun no => by
    have w := walk (hi - lo).toNat fun t h1 h2 => Classical.byContradiction fun c => no ⟨(t - lo).toNat, by omega, by rw [show lo + (((t - lo).toNat : Nat) : Int) = t by omega]; omega⟩
    have := (hout _ _ w).2
    omega
  obtain ⟨n, hn⟩ := ex
  obtain ⟨k, hk1, hk2, hk3⟩ := least9 (p := fun n : Nat => lo + n ≤ hi ∧ U (lo - 1) ≤ U (lo + n)) n hn
  have k0 : k ≠ 0 := fun e => by
    subst e
    have := hk2.2
    rw [show lo + ((0 : Nat) : Int) = lo by omega] at this
    omega
  have below : ∀ t, lo ≤ t → t < lo + k → U t ≤ U (lo - 1) - 1 := fun t h1 h2 => Classical.byContradiction fun c => hk3 (t - lo).toNat (by omega) ⟨by have := hk2.1; omega, by rw [show lo + (((t - lo).toNat : Nat) : Int) = t by omega]; omega⟩
  have uk : U (lo + k) = U (lo - 1) := by
    have b := below (lo + k - 1) (by omega) (by omega)
    have s := hU (lo + k)
    have := hk2.2
    omega
  have par : ∀ j : Nat, (U (lo - 1 + j) - U (lo - 1) - j) % 2 = 0 := by
    intro j
    induction j with
    | zero => rw [show lo - 1 + ((0 : Nat) : Int) = lo - 1 by omega]; omega
    | succ j ih =>
      have s := hU (lo - 1 + ((j + 1 : Nat) : Int))
      rw [show lo - 1 + ((j + 1 : Nat) : Int) - 1 = lo - 1 + j by omega] at s
      omega
  have pk := par (k + 1)
  rw [show lo - 1 + ((k + 1 : Nat) : Int) = lo + k by omega, uk] at pk
  by_cases c : lo + (k : Int) = hi
  · omega
  · exfalso
    obtain ⟨y1, b1, b2⟩ := hcr (lo + k) (by omega) (by have := hk2.1; omega)
    have back : ∀ j : Nat, j ≤ k + 1 → q (lo + k - j) y1 = true := by
      intro j
      induction j with
      | zero => intro _; rw [show lo + (k : Int) - ((0 : Nat) : Int) = lo + k by omega]; exact b1
      | succ j ih =>
        intro hj
        have d := hL (lo + k - j) y1 (ih (by omega)) (by
          by_cases e : j = k
          · subst e
            rw [show lo + (j : Int) - j - 1 = lo - 1 by omega]
            omega
          · have := below (lo + k - j - 1) (by omega) (by omega)
            omega)
        rw [show lo + (k : Int) - ((j + 1 : Nat) : Int) = lo + k - j - 1 by omega]
        exact d
    have := (hout _ _ (back (k + 1) (Nat.le_refl _))).1
    omega
theorem cross9 {f : Nat → Int} {m : Nat} {c : Int} {i j : Nat} (hi : i ≤ m) (hj : j ≤ m) (h1 : f i ≤ c) (h2 : c < f j) : ∃ k, k < m ∧ ((f k ≤ c ∧ c < f (k + 1)) ∨ (c < f k ∧ f (k + 1) ≤ c)) := Classical.byContradiction fun no => by
  have all : ∀ k, k ≤ m → (f k ≤ c ↔ f 0 ≤ c) := by
    intro k
    induction k with
    | zero => intro _; exact Iff.rfl
    | succ k ih =>
      intro hk
      rw [← ih (by omega)]
      constructor
      · exact fun h => Classical.byContradiction fun n => no ⟨k, by omega, .inr ⟨by omega, h⟩⟩
      · exact fun h => Classical.byContradiction fun n => no ⟨k, by omega, .inl ⟨h, by omega⟩⟩
  have a := (all i hi).mp h1
  have b := (all j hj).mpr a
  omega
section
variable {us ls : List Int} {l : List Pt}
theorem step_of {n : Nat} (len : l.length = 2 * n) (two : 2 ≤ n) {u v : Pt} (h : eB (true, l) u v = true) : ∃ i, i < 2 * n ∧ ((ptN l i = u ∧ ptN l (i + 1) = v) ∨ (ptN l i = v ∧ ptN l (i + 1) = u)) := by
  unfold eB at h
  dsimp only at h
  have h := of_decide_eq_true h
  have sn : stepsN true l = l.length := by unfold stepsN; simp; omega
  obtain ⟨k, hk, ne⟩ := su_pos (n := stepsN true l) (f := eAt u v) (w := seqW true l) (by unfold eN at h; omega)
  unfold eAt at ne
  have e : (seqW true l k, seqW true l (k + 1)) = (u, v) ∨ (seqW true l k, seqW true l (k + 1)) = (v, u) := Classical.byContradiction fun c => ne (if_neg c)
  rw [sn] at hk
  have s1 := (seq_ptN (l := l) (by omega) k).1
  rw [← ptN_lt hk] at s1
  by_cases c : k = 0
  · subst c
    have s0 := (seq_ptN (l := l) (by omega) 0).2
    rw [s0, s1] at e
    refine ⟨l.length - 1, by omega, ?_⟩
    rw [show l.length - 1 + 1 = 0 + l.length by omega, ptN_per]
    rcases e with e | e <;> (injection e with e1 e2)
    · exact .inl ⟨e1, e2⟩
    · exact .inr ⟨e1, e2⟩
  · have s0 := (seq_ptN (l := l) (by omega) (k - 1)).1
    rw [← ptN_lt (by omega), show k - 1 + 1 = k by omega] at s0
    rw [s0, s1] at e
    refine ⟨k - 1, by omega, ?_⟩
    rw [show k - 1 + 1 = k by omega]
    rcases e with e | e <;> (injection e with e1 e2)
    · exact .inl ⟨e1, e2⟩
    · exact .inr ⟨e1, e2⟩
/-- a cell within stands between two upright steps of its row -/
theorem wi_box (R : Rg l) {x y : Int} (h : wi l x y = true) : ∃ x1 x2, x1 ≤ x ∧ x < x2 ∧ (x1, y) ∈ l ∧ (x1, y + 1) ∈ l ∧ (x2, y) ∈ l := by
  obtain ⟨x2, h1, h2⟩ := wi_right R h
  have h := of_decide_eq_true h
  have : ∃ z ∈ plc l y, z ≤ x := Classical.byContradiction fun n => by
    rw [cnt_zero fun z hz => Classical.byContradiction fun c => n ⟨z, hz, by omega⟩] at h
    omega
  obtain ⟨x1, g1, g2⟩ := this
  have := ups_at R (plc_mem.mp g1)
  exact ⟨x1, x2, g2, h1, this.1, this.2, (ups_at R h2).1⟩
theorem odd_box (q : Sm.Seam (nb us ls) true l) {n : Nat} {h v P U : Int → Int} {M : Int} (R : Rn l n h v) (pu : PU h v P U) (A : Along l n h v P U M) :
    (maxI (l.map (·.1)) - minI (l.map (·.1))) % 2 = 1 ∧ (maxI (l.map (·.2)) - minI (l.map (·.2))) % 2 = 1 := by
  have len := R.len
  have two := R.two
  have RG := seam_rg q
  have Q : Sm.Seam (nb us ls) (true, l).1 (true, l).2 := q
  have ne : l ≠ [] := fun e => by rw [e] at len; simp at len; omega
  have nx : l.map (·.1) ≠ [] := by simpa using ne
  have ny : l.map (·.2) ≠ [] := by simpa using ne
  have lx : ∀ z ∈ l, minI (l.map (·.1)) ≤ z.1 ∧ z.1 ≤ maxI (l.map (·.1)) := fun z hz => ⟨(minI_spec nx).2 _ (List.mem_map_of_mem (f := (·.1)) hz), (maxI_spec nx).2 _ (List.mem_map_of_mem (f := (·.1)) hz)⟩
  have ly : ∀ z ∈ l, minI (l.map (·.2)) ≤ z.2 ∧ z.2 ≤ maxI (l.map (·.2)) := fun z hz => ⟨(minI_spec ny).2 _ (List.mem_map_of_mem (f := (·.2)) hz), (maxI_spec ny).2 _ (List.mem_map_of_mem (f := (·.2)) hz)⟩
  have at_ : ∀ z ∈ l, ∃ i, i < 2 * n ∧ ptN l i = z := fun z hz => by
    obtain ⟨j, hj⟩ := List.getElem?_of_mem hz
    have jl := (List.getElem?_eq_some_iff.mp hj).1
    rw [ptN_get jl] at hj
    exact ⟨j, by omega, Option.some.inj hj⟩
  obtain ⟨zl, zl1, zl2⟩ := List.mem_map.mp (minI_spec nx).1
  obtain ⟨zr, zr1, zr2⟩ := List.mem_map.mp (maxI_spec nx).1
  obtain ⟨zb, zb1, zb2⟩ := List.mem_map.mp (minI_spec ny).1
  obtain ⟨zt, zt1, zt2⟩ := List.mem_map.mp (maxI_spec ny).1
  have m0 := lx _ (ptN_mem (l := l) (by omega) 0)
  obtain ⟨il, il1, il2⟩ := at_ zl zl1
  obtain ⟨ir, ir1, ir2⟩ := at_ zr zr1
  obtain ⟨ib, ib1, ib2⟩ := at_ zb zb1
  obtain ⟨it, it1, it2⟩ := at_ zt zt1
  have x0 : (ptN l 0).1 = minI (l.map (·.1)) := by
    have a := R.least il
    rw [il2] at a
    try dsimp only at zl2
    omega
  generalize minI (l.map (·.1)) = lo at *
  generalize maxI (l.map (·.1)) = hi at *
  generalize minI (l.map (·.2)) = bo at *
  generalize maxI (l.map (·.2)) = to at *
  have box : ∀ x y, gB (true, l) (x, y) = true → lo ≤ x ∧ x < hi ∧ bo ≤ y ∧ y < to ∧ 1 ≤ x ∧ x ≤ us.length ∧ 1 ≤ y ∧ y + 1 ≤ ls.length := fun x y g => by
    rw [← wi_gB q] at g
    obtain ⟨x1, x2, h1, h2, m1, m2, m3⟩ := wi_box RG g
    have a1 := lx _ m1
    have a2 := lx _ m3
    have a3 := ly _ m1
    have a4 := ly _ m2
    have b1 := round_inner q m1
    have b2 := round_inner q m3
    have b3 := round_inner q m2
    dsimp only at *
    omega
  -- the kinds of steps
  have hstep : ∀ i, i < 2 * n → (ptN l i).2 = (ptN l (i + 1)).2 → ∃ k, k < n ∧ i = 2 * k := fun i hi e => by
    rcases (by omega : i % 2 = 0 ∨ i % 2 = 1) with o | o
    · exact ⟨i / 2, by omega, by omega⟩
    · exfalso
      have s := (R.sV (i / 2) (by omega)).2
      have vv := R.vv (ptN l (2 * (i / 2) + 1)).1
      rw [show 2 * (i / 2) + 2 = i + 1 by omega, show 2 * (i / 2) + 1 = i by omega] at s
      rw [show 2 * (i / 2) + 1 = i by omega] at vv
      omega
  have vstep : ∀ i, i < 2 * n → (ptN l i).1 = (ptN l (i + 1)).1 → ∃ k, k < n ∧ i = 2 * k + 1 := fun i hi e => by
    rcases (by omega : i % 2 = 0 ∨ i % 2 = 1) with o | o
    · exfalso
      have s := (R.sH (i / 2) (by omega)).1
      have hh := R.hh (ptN l (2 * (i / 2))).2
      rw [show 2 * (i / 2) + 1 = i + 1 by omega, show 2 * (i / 2) = i by omega] at s
      rw [show 2 * (i / 2) = i by omega] at hh
      omega
    · exact ⟨i / 2, by omega, by omega⟩
  -- upright steps
  have ev : ∀ x y, eB (true, l) (x, y) (x, y + 1) = true → (v x = 1 ∧ gB (true, l) (x - 1, y) = true ∧ gB (true, l) (x, y) = false ∧ P y - U (x - 1) = M) ∨ (v x = -1 ∧ gB (true, l) (x, y) = true ∧ gB (true, l) (x - 1, y) = false ∧ P y - U x = M) := fun x y e => by
    obtain ⟨i, hi, st⟩ := step_of len two e
    rcases st with ⟨e1, e2⟩ | ⟨e1, e2⟩
    · obtain ⟨k, hk, rfl⟩ := vstep i hi (by rw [e1, e2])
      have s := (R.sV k hk).2
      rw [show 2 * k + 1 + 1 = 2 * k + 2 by omega] at e2
      rw [e1, e2] at s
      dsimp only at s
      have a := A.vs k hk
      rw [e1] at a
      obtain ⟨a1, a2, a3⟩ := a.1 (by dsimp only; omega)
      exact .inl ⟨by omega, a1, a2, a3⟩
    · obtain ⟨k, hk, rfl⟩ := vstep i hi (by rw [e1, e2])
      have s := (R.sV k hk).2
      rw [show 2 * k + 1 + 1 = 2 * k + 2 by omega] at e2
      rw [e1, e2] at s
      dsimp only at s
      have a := A.vs k hk
      rw [e1] at a
      obtain ⟨a1, a2, a3⟩ := a.2 (by dsimp only; omega)
      dsimp only at a1 a2 a3
      rw [show y + 1 - 1 = y by omega] at a1 a2 a3
      exact .inr ⟨by omega, a1, a2, a3⟩
  have eh : ∀ x y, eB (true, l) (x, y) (x + 1, y) = true → (h y = 1 ∧ gB (true, l) (x, y) = true ∧ gB (true, l) (x, y - 1) = false ∧ P y - U x = M) ∨ (h y = -1 ∧ gB (true, l) (x, y - 1) = true ∧ gB (true, l) (x, y) = false ∧ P (y - 1) - U x = M) := fun x y e => by
    obtain ⟨i, hi, st⟩ := step_of len two e
    rcases st with ⟨e1, e2⟩ | ⟨e1, e2⟩
    · obtain ⟨k, hk, rfl⟩ := hstep i hi (by rw [e1, e2])
      have s := (R.sH k hk).1
      rw [e1, e2] at s
      dsimp only at s
      have a := A.hs k hk
      rw [e1] at a
      obtain ⟨a1, a2, a3⟩ := a.1 (by dsimp only; omega)
      exact .inl ⟨by omega, a1, a2, a3⟩
    · obtain ⟨k, hk, rfl⟩ := hstep i hi (by rw [e1, e2])
      have s := (R.sH k hk).1
      rw [e1, e2] at s
      dsimp only at s
      have a := A.hs k hk
      rw [e1] at a
      obtain ⟨a1, a2, a3⟩ := a.2 (by dsimp only; omega)
      dsimp only at a1 a2 a3
      rw [show x + 1 - 1 = x by omega] at a1 a2 a3
      exact .inr ⟨by omega, a1, a2, a3⟩
  -- beside a cell within, as high: within
  have tR : ∀ x y, gB (true, l) (x, y) = true → M ≤ P y - U (x + 1) → gB (true, l) (x + 1, y) = true := fun x y g m => Classical.byContradiction fun c => by
    have c : gB (true, l) (x + 1, y) = false := by cases q : gB (true, l) (x + 1, y) <;> simp_all
    have e := gB_v Q (x + 1) y
    rw [show x + 1 - 1 = x by omega, g, c] at e
    have pu1 := pu.U (x + 1)
    rw [show x + 1 - 1 = x by omega] at pu1
    rcases ev (x + 1) y e.symm with ⟨a1, _, _, a4⟩ | ⟨_, a2, _, _⟩
    · rw [show x + 1 - 1 = x by omega] at a4
      omega
    · rw [c] at a2
      cases a2
  have tL : ∀ x y, gB (true, l) (x, y) = true → M ≤ P y - U (x - 1) → gB (true, l) (x - 1, y) = true := fun x y g m => Classical.byContradiction fun c => by
    have c : gB (true, l) (x - 1, y) = false := by cases q : gB (true, l) (x - 1, y) <;> simp_all
    have e := gB_v Q x y
    rw [g, c] at e
    have pu1 := pu.U x
    rcases ev x y e.symm with ⟨_, a2, _, _⟩ | ⟨a1, _, _, a4⟩
    · rw [c] at a2
      cases a2
    · omega
  have tU : ∀ x y, gB (true, l) (x, y) = true → M ≤ P (y + 1) - U x → gB (true, l) (x, y + 1) = true := fun x y g m => Classical.byContradiction fun c => by
    have c : gB (true, l) (x, y + 1) = false := by cases q : gB (true, l) (x, y + 1) <;> simp_all
    have b := box x y g
    have e := gB_h Q (a := x) (b := y + 1) (by omega) (by omega) (by omega) (by omega)
    rw [show y + 1 - 1 = y by omega, g, c] at e
    have pu1 := pu.P (y + 1)
    rw [show y + 1 - 1 = y by omega] at pu1
    rcases eh x (y + 1) e.symm with ⟨_, a2, _, _⟩ | ⟨a1, _, _, a4⟩
    · rw [c] at a2
      cases a2
    · rw [show y + 1 - 1 = y by omega] at a4
      omega
  have tD : ∀ x y, gB (true, l) (x, y) = true → M ≤ P (y - 1) - U x → gB (true, l) (x, y - 1) = true := fun x y g m => Classical.byContradiction fun c => by
    have c : gB (true, l) (x, y - 1) = false := by cases q : gB (true, l) (x, y - 1) <;> simp_all
    have b := box x y g
    have e := gB_h Q (a := x) (b := y) (by omega) (by omega) (by omega) (by omega)
    rw [g, c] at e
    have pu1 := pu.P y
    rcases eh x y e.symm with ⟨a1, _, _, a4⟩ | ⟨_, a2, _, _⟩
    · omega
    · rw [c] at a2
      cases a2
  have Ust : ∀ x, U x = U (x - 1) + 1 ∨ U x = U (x - 1) - 1 := fun x => by have := pu.U x; have := R.vv x; omega
  have Pst : ∀ y, P y = P (y - 1) + 1 ∨ P y = P (y - 1) - 1 := fun y => by have := pu.P y; have := R.hh y; omega
  constructor
  · refine odd_width (q := fun x y => gB (true, l) (x, y)) (P := P) (U := U) (M := M) Ust tR tL (fun x y g => ⟨(box x y g).1, (box x y g).2.1⟩) ?_ fun c h1 h2 => ?_
    · have s := (R.sV (n - 1) (by omega)).2
      have a := A.vs (n - 1) (by omega)
      have l1 := R.l1
      have l2 := R.l2
      have per : ptN l (2 * n) = ptN l 0 := by rw [← ptN_per l 0, len]; congr 1; omega
      rw [show 2 * (n - 1) + 2 = 2 * n by omega, per, show 2 * (n - 1) + 1 = 2 * n - 1 by omega] at s
      rw [show 2 * (n - 1) + 1 = 2 * n - 1 by omega] at a
      have v1 : v (ptN l (2 * n - 1)).1 = -1 := by omega
      obtain ⟨a1, a2, a3⟩ := a.2 v1
      rw [l1, x0] at a1 a3
      rw [l1, x0] at v1
      exact ⟨_, a1, a3, by have := pu.U lo; omega⟩
    · obtain ⟨k, hk, cr⟩ := cross9 (f := fun i => (ptN l i).1) (m := 2 * n) (c := c) (i := il) (j := ir) (by omega) (by omega) (by rw [il2]; (try dsimp only at zl2 ⊢); omega) (by rw [ir2]; (try dsimp only at zr2 ⊢); omega)
      try dsimp only at cr
      rcases (by omega : k % 2 = 0 ∨ k % 2 = 1) with o | o
      · have s := (R.sH (k / 2) (by omega)).1
        have hh := R.hh (ptN l (2 * (k / 2))).2
        have a := A.hs (k / 2) (by omega)
        rw [show 2 * (k / 2) + 1 = k + 1 by omega, show 2 * (k / 2) = k by omega] at s
        rw [show 2 * (k / 2) = k by omega] at hh a
        rcases hh with e | e
        · obtain ⟨a1, _, a3⟩ := a.1 e
          have : (ptN l k).1 = c := by omega
          rw [this] at a1 a3
          exact ⟨_, a1, a3⟩
        · obtain ⟨a1, _, a3⟩ := a.2 e
          have : (ptN l k).1 - 1 = c := by omega
          rw [this] at a1 a3
          exact ⟨_, a1, a3⟩
      · have s := (R.sV (k / 2) (by omega)).1
        rw [show 2 * (k / 2) + 2 = k + 1 by omega, show 2 * (k / 2) + 1 = k by omega] at s
        omega
  · refine odd_width (q := fun y x => gB (true, l) (x, y)) (P := fun x => -(U x)) (U := fun y => -(P y)) (M := M) (fun y => by (try dsimp only); have := Pst y; omega) (fun y x g m => tU x y g (by (try dsimp only at m); omega)) (fun y x g m => tD x y g (by (try dsimp only at m); omega)) (fun y x g => ⟨(box x y g).2.2.1, (box x y g).2.2.2.1⟩) ?_ fun c h1 h2 => ?_
    · have : ∃ k, k < n ∧ (ptN l (2 * k)).2 = bo := by
        rcases (by omega : ib % 2 = 0 ∨ ib % 2 = 1) with o | o
        · exact ⟨ib / 2, by omega, by rw [show 2 * (ib / 2) = ib by omega, ib2]; exact zb2⟩
        · have s := (R.sH (ib / 2) (by omega)).2
          rw [show 2 * (ib / 2) + 1 = ib by omega, ib2] at s
          exact ⟨ib / 2, by omega, by rw [← s]; exact zb2⟩
      obtain ⟨k, hk, e⟩ := this
      have a := A.hs k hk
      have hh := R.hh (ptN l (2 * k)).2
      rcases hh with e1 | e1
      · obtain ⟨a1, _, a3⟩ := a.1 e1
        rw [e] at a1 a3 e1
        have := pu.P bo
        exact ⟨_, a1, by (try dsimp only); omega, by (try dsimp only); omega⟩
      · obtain ⟨a1, _, _⟩ := a.2 e1
        rw [e] at a1
        have := box _ _ a1
        omega
    · obtain ⟨k, hk, cr⟩ := cross9 (f := fun i => (ptN l i).2) (m := 2 * n) (c := c) (i := ib) (j := it) (by omega) (by omega) (by rw [ib2]; (try dsimp only at zb2 ⊢); omega) (by rw [it2]; (try dsimp only at zt2 ⊢); omega)
      try dsimp only at cr
      rcases (by omega : k % 2 = 0 ∨ k % 2 = 1) with o | o
      · have s := (R.sH (k / 2) (by omega)).2
        rw [show 2 * (k / 2) + 1 = k + 1 by omega, show 2 * (k / 2) = k by omega] at s
        omega
      · have s := (R.sV (k / 2) (by omega)).2
        have vv := R.vv (ptN l (2 * (k / 2) + 1)).1
        have a := A.vs (k / 2) (by omega)
        rw [show 2 * (k / 2) + 2 = k + 1 by omega, show 2 * (k / 2) + 1 = k by omega] at s
        rw [show 2 * (k / 2) + 1 = k by omega] at vv a
        rcases vv with e | e
        · obtain ⟨a1, _, a3⟩ := a.1 e
          have : (ptN l k).2 = c := by omega
          rw [this] at a1 a3
          exact ⟨_, a1, by omega⟩
        · obtain ⟨a1, _, a3⟩ := a.2 e
          have : (ptN l k).2 - 1 = c := by omega
          rw [this] at a1 a3
          exact ⟨_, a1, by omega⟩
end
end GD
namespace GD
open PySem L2 G Sums
section
variable {us ls : List Int} {l : List Pt}
theorem in_box10 (q : Sm.Seam (nb us ls) true l) {z : Pt} (g : gB (true, l) z = true) : 1 ≤ z.1 ∧ z.1 + 1 ≤ us.length ∧ 1 ≤ z.2 ∧ z.2 + 1 ≤ ls.length := by
  obtain ⟨x, y⟩ := z
  rw [← wi_gB q] at g
  obtain ⟨x1, x2, h1, h2, m1, m2, m3⟩ := wi_box (seam_rg q) g
  have b1 := round_inner q m1
  have b2 := round_inner q m3
  have b3 := round_inner q m2
  dsimp only at *
  omega
def wI (l : List Pt) (z : Pt) : Int := b2i (gB (true, l) z)
theorem wI_out (q : Sm.Seam (nb us ls) true l) {z : Pt} (h : ¬ (1 ≤ z.1 ∧ z.1 + 1 ≤ us.length ∧ 1 ≤ z.2 ∧ z.2 + 1 ≤ ls.length)) : wI l z = 0 := by
  unfold wI b2i
  exact if_neg fun g => h (in_box10 q g)
theorem shift10 (f : Int → Int) (n : Nat) (h0 : f (-1) = 0) (h1 : f ((n : Int) + 1) = 0) : ((List.range (n + 2)).map fun x : Nat => f ((x : Int) - 1)).sum = ((List.range (n + 2)).map fun x : Nat => f (x : Int)).sum := by
  have e1 : ((List.range (n + 2)).map fun x : Nat => f ((x : Int) - 1)).sum = f (-1) + ((List.range (n + 1)).map fun x : Nat => f (x : Int)).sum := by
    rw [show n + 2 = (n + 1) + 1 by omega, List.range_succ_eq_map, List.map_cons, List.map_map, List.sum_cons]
    congr 2
    refine List.map_congr_left fun x _ => ?_
    show f (((x + 1 : Nat) : Int) - 1) = f (x : Int)
    rw [show ((x + 1 : Nat) : Int) - 1 = (x : Int) by omega]
  have e2 : ((List.range (n + 2)).map fun x : Nat => f (x : Int)).sum = ((List.range (n + 1)).map fun x : Nat => f (x : Int)).sum + f ((n : Int) + 1) := by
    rw [show n + 2 = (n + 1) + 1 by omega, List.range_succ, List.map_append, List.sum_append]
    simp
  rw [e1, e2, h0, h1]
  omega
abbrev TT (us ls : List Int) (F : Pt → Int) : Int := ((ptsC us ls).map F).sum
theorem TT_x {F : Pt → Int} (h0 : ∀ y, F (-1, y) = 0) (h1 : ∀ y, F ((us.length : Int) + 1, y) = 0) : TT us ls (fun z => F (z.1 - 1, z.2)) = TT us ls F := by
  unfold TT
  rw [pts_sumC, pts_sumC]
  exact shift10 (fun x => ((List.range (ls.length + 2)).map fun y : Nat => F (x, (y : Int))).sum) us.length (Sums.sum_zero (xs := List.range (ls.length + 2)) (f := fun y : Nat => F (-1, (y : Int))) fun y _ => h0 _) (Sums.sum_zero (xs := List.range (ls.length + 2)) (f := fun y : Nat => F ((us.length : Int) + 1, (y : Int))) fun y _ => h1 _)
theorem TT_y {F : Pt → Int} (h0 : ∀ x, F (x, -1) = 0) (h1 : ∀ x, F (x, (ls.length : Int) + 1) = 0) : TT us ls (fun z => F (z.1, z.2 - 1)) = TT us ls F := by
  unfold TT
  rw [pts_sumC, pts_sumC]
  exact sum_congr fun x _ => shift10 (fun y => F ((x : Int), y)) ls.length (h0 _) (h1 _)
theorem sum_in10 {L : List Pt} (nd : L.Nodup) (hL : ∀ z ∈ L, z ∈ ptsC us ls) (F : Pt → Int) : TT us ls (fun z => if z ∈ L then F z else 0) = (L.map F).sum := by
  have e1 : (((ptsC us ls).filter fun z => decide (z ∈ L)).map fun z => if z ∈ L then F z else 0).sum = TT us ls (fun z => if z ∈ L then F z else 0) := sum_filter fun z _ h => if_neg (of_decide_eq_false h)
  have e2 : (((ptsC us ls).filter fun z => decide (z ∈ L)).map fun z => if z ∈ L then F z else 0).sum = (((ptsC us ls).filter fun z => decide (z ∈ L)).map F).sum := sum_congr fun z hz => if_pos (of_decide_eq_true (List.mem_filter.mp hz).2)
  rw [← e1, e2]
  refine perm_sum (List.Perm.map F ?_)
  refine (List.perm_ext_iff_of_nodup (ptsC_nodup.filter _) nd).mpr fun z => ?_
  rw [List.mem_filter]
  exact ⟨fun h => of_decide_eq_true h.2, fun h => ⟨hL z h, decide_eq_true h⟩⟩
theorem sum_mod4 : ∀ {xs : List Int}, (∀ x ∈ xs, x % 4 = 0) → xs.sum % 4 = 0
  | [], _ => rfl
  | x :: xs, h => by
    have ih := sum_mod4 (xs := xs) fun y hy => h y (List.mem_cons_of_mem _ hy)
    have := h x List.mem_cons_self
    rw [List.sum_cons]
    omega
/-- four times the cells within: by the points -/
theorem ka_sum (q : Sm.Seam (nb us ls) true l) : TT us ls (fun z => ka (gB (true, l)) z.1 z.2) = 4 * TT us ls (wI l) := by
  have e : TT us ls (fun z => ka (gB (true, l)) z.1 z.2) = TT us ls (wI l) + TT us ls (fun z => wI l (z.1 - 1, z.2)) + TT us ls (fun z => wI l (z.1, z.2 - 1)) + TT us ls (fun z => (fun w => wI l (w.1 - 1, w.2)) (z.1, z.2 - 1)) := by
    unfold TT
    rw [← sum_add, ← sum_add, ← sum_add]
    exact sum_congr fun z _ => rfl
  have z1 : ∀ y, wI l (-1, y) = 0 := fun y => wI_out q (by dsimp only; omega)
  have z2 : ∀ y, wI l ((us.length : Int) + 1, y) = 0 := fun y => wI_out q (by dsimp only; omega)
  have z3 : ∀ x, wI l (x, -1) = 0 := fun y => wI_out q (by dsimp only; omega)
  have z4 : ∀ x, wI l (x, (ls.length : Int) + 1) = 0 := fun y => wI_out q (by dsimp only; omega)
  rw [e, TT_y (F := fun w => wI l (w.1 - 1, w.2)) (fun x => z3 _) (fun x => z4 _), TT_x z1 z2, TT_y z3 z4]
  omega
/-- at a point that is not on the line the four cells are alike -/
theorem ka_off (q : Sm.Seam (nb us ls) true l) {z : Pt} (hz : z ∉ l) : ka (gB (true, l)) z.1 z.2 = 4 * wI l z := by
  obtain ⟨a, b⟩ := z
  have Q : Sm.Seam (nb us ls) (true, l).1 (true, l).2 := q
  by_cases c : 1 ≤ a ∧ a ≤ us.length ∧ 1 ≤ b ∧ b ≤ ls.length
  · obtain ⟨f1, f2, f3, f4⟩ := four_q Q c.1 c.2.1 c.2.2.1 c.2.2.2
    have o : ∀ v, eB (true, l) (a, b) v = false := fun v => by
      unfold eB
      rw [eN_out q hz]
      rfl
    rw [o] at f1 f3
    rw [eB_sym, o] at f2 f4
    have e1 := bne_f f1
    have e2 := bne_f f3
    have e3 := bne_f f2
    unfold ka wI
    dsimp only
    rw [← e1, ← e3] at *
    have e4 := bne_f f4
    rw [e4] at *
    rw [← e2]
    rw [e1]
    generalize b2i (gB (true, l) (a, b)) = w at *
    generalize b2i (gB (true, l) (a - 1, b)) = w2 at *
    omega
  · have w0 : ∀ x y, (x = a ∨ x = a - 1) → (y = b ∨ y = b - 1) → gB (true, l) (x, y) = false := fun x y hx hy => by
      cases g : gB (true, l) (x, y) with
      | false => rfl
      | true =>
        have := in_box10 q g
        dsimp only at this
        omega
    unfold ka wI
    dsimp only
    rw [w0 a b (.inl rfl) (.inl rfl), w0 (a - 1) b (.inr rfl) (.inl rfl), w0 a (b - 1) (.inl rfl) (.inr rfl), w0 (a - 1) (b - 1) (.inr rfl) (.inr rfl)]
    rfl
theorem sm_sum (f : Nat → Int) : ∀ n : Nat, Turn.sm f n = ((List.range n).map f).sum
  | 0 => rfl
  | n + 1 => by
    rw [List.range_succ, List.map_append, List.sum_append, ← sm_sum f n]
    simp [Turn.sm]
theorem sm_shift (f : Nat → Int) : ∀ n : Nat, Turn.sm (fun i => f (i + 1)) n = Turn.sm f n + f n - f 0
  | 0 => by show (0 : Int) = 0 + f 0 - f 0; omega
  | n + 1 => by
    show Turn.sm (fun i => f (i + 1)) n + f (n + 1) = Turn.sm f n + f n + f (n + 1) - f 0
    rw [sm_shift f n]
    omega
theorem sm_const (c : Int) : ∀ n : Nat, Turn.sm (fun _ => c) n = n * c
  | 0 => by show (0 : Int) = _; simp
  | n + 1 => by
    show Turn.sm (fun _ => c) n + c = _
    rw [sm_const c n, show ((n + 1 : Nat) : Int) = (n : Int) + 1 by omega, Int.add_mul, Int.one_mul]
theorem list_ptN (l : List Pt) : l = (List.range l.length).map (ptN l) := by
  refine List.ext_getElem? fun j => ?_
  rw [List.getElem?_map]
  by_cases c : j < l.length
  · rw [List.getElem?_range c, ptN_get c]
    rfl
  · rw [List.getElem?_eq_none (by omega), List.getElem?_eq_none (by simp; omega)]
    rfl
/-- on the line: the turns -/
theorem ka_on (q : Sm.Seam (nb us ls) true l) {n : Nat} {h v P U : Int → Int} {M : Int} (R : Rn l n h v) (A : Along l n h v P U M) : (l.map fun z => ka (gB (true, l)) z.1 z.2).sum = 4 * n - 4 := by
  have len := R.len
  have e : (l.map fun z => ka (gB (true, l)) z.1 z.2).sum = Turn.sm (fun i => ka (gB (true, l)) (ptN l i).1 (ptN l i).2) (2 * n) := by
    rw [sm_sum, ← len]
    have key : ∀ F : Pt → Int, (l.map F).sum = ((List.range l.length).map fun i => F (ptN l i)).sum := fun F => by
      conv => lhs; rw [list_ptN l]
      rw [List.map_map]
      rfl
    exact key fun z => ka (gB (true, l)) z.1 z.2
  have per : ptN l (2 * n) = ptN l 0 := by rw [← ptN_per l 0, len]; congr 1; omega
  have s := sm_shift (fun i => ka (gB (true, l)) (ptN l i).1 (ptN l i).2) (2 * n)
  rw [per] at s
  have s2 := Turn.sm_two (fun i => ka (gB (true, l)) (ptN l (i + 1)).1 (ptN l (i + 1)).2) n
  have s3 : Turn.sm (fun k => ka (gB (true, l)) (ptN l (2 * k + 1)).1 (ptN l (2 * k + 1)).2 + ka (gB (true, l)) (ptN l (2 * k + 1 + 1)).1 (ptN l (2 * k + 1 + 1)).2) n = Turn.sm (fun k => (4 + (-1) * (h (ptN l (2 * k)).2 * v (ptN l (2 * k + 1)).1)) + v (ptN l (2 * k + 1)).1 * h (ptN l (2 * k + 2)).2) n := Turn.sm_congr fun k hk => by
    have a1 := A.k1 k hk
    have a2 := A.k2 k hk
    rw [show 2 * k + 1 + 1 = 2 * k + 2 by omega, a1, a2]
    omega
  rw [s3, Turn.sm_add, Turn.sm_add, sm_const] at s2
  have neg : ∀ (f : Nat → Int) (m : Nat), Turn.sm (fun k => (-1) * f k) m = - Turn.sm f m := fun f m => by
    induction m with
    | zero => rfl
    | succ m ih =>
      show Turn.sm (fun k => (-1) * f k) m + (-1) * f m = -(Turn.sm f m + f m)
      rw [ih]
      omega
  rw [neg, R.leave.2.1, R.leave.2.2] at s2
  rw [e]
  omega
/-- a seam clear of the line is all within or all outside -/
theorem wI_line (q : Sm.Seam (nb us ls) true l) {x : Sm1} (qx : Sm.Seam (nb us ls) x.1 x.2) (ap : ∀ z ∈ x.2, z ∉ l) : ∀ k, k ≤ stepsN x.1 x.2 → gB (true, l) (seqW x.1 x.2 k) = gB (true, l) (seqW x.1 x.2 0) := by
  intro k
  induction k with
  | zero => intro _; rfl
  | succ k ih =>
    intro hk
    rw [← ih (by omega)]
    have u := (seq_U qx (k := k) (by omega)).1
    have := wi_U (seam_rg q) u (ap _ (seq_mem qx (by omega))) (ap _ (seq_mem qx (by omega)))
    rw [wi_gB q, wi_gB q] at this
    exact this.symm
theorem seq_all {x : Sm1} (qx : Sm.Seam (nb us ls) x.1 x.2) {z : Pt} (hz : z ∈ x.2) : ∃ k, k ≤ stepsN x.1 x.2 ∧ seqW x.1 x.2 k = z := by
  obtain ⟨c, l'⟩ := x
  obtain ⟨j, hj⟩ := List.getElem?_of_mem hz
  have jl := (List.getElem?_eq_some_iff.mp hj).1
  have gj : l'.getD j (0, 0) = z := by rw [List.getD_eq_getElem?_getD, hj]; rfl
  dsimp only at *
  cases c with
  | false =>
    refine ⟨j, by unfold stepsN; simp; omega, ?_⟩
    unfold seqW
    simp
    rw [← gj]
    simp
  | true =>
    refine ⟨j + 1, by unfold stepsN; simp; omega, ?_⟩
    unfold seqW
    simp
    rw [← gj]
    simp
variable {s : Int}
theorem off_sum (hl : l ∈ roundsL us ls) : TT us ls (fun z => if z ∈ l then 0 else wI l z) % 4 = 0 := by
  have q := (roundsL_ev hl).1
  have ap := seamsL_apart (us := us) (ls := ls)
  have nd : (((seamsL us ls).map (·.2)).flatten).Nodup := by
    refine List.pairwise_flatten.mpr ⟨fun c hc => ?_, ?_⟩
    · obtain ⟨x, hx, rfl⟩ := List.mem_map.mp hc
      exact (seam_of hx).nd
    · exact List.pairwise_map.mpr (ap.imp fun {a b} h z hz w hw e => h z hz (by rw [e]; exact hw))
  have sub : ∀ z ∈ ((seamsL us ls).map (·.2)).flatten, z ∈ ptsC us ls := fun z hz => by
    obtain ⟨c, hc, hz⟩ := List.mem_flatten.mp hz
    obtain ⟨x, hx, rfl⟩ := List.mem_map.mp hc
    exact ptsC_mem.mpr ((found_ev (seamsL_mem.mp hx)).2 z hz)
  have e : TT us ls (fun z => if z ∈ l then 0 else wI l z) = TT us ls (fun z => if z ∈ ((seamsL us ls).map (·.2)).flatten then (if z ∈ l then 0 else wI l z) else 0) := sum_congr fun z hz => by
    by_cases m : z ∈ ((seamsL us ls).map (·.2)).flatten
    · rw [if_pos m]
    · rw [if_neg m]
      split
      · rfl
      · refine wI_out q fun b => m ?_
        have hC := ptsC_mem.mp hz
        have ne : nb us ls z ≠ [] := fun e => by
          have mr : (rx ls z.1 z.2, z.2) ∈ nb us ls z := mem_nb.mpr (.inl (mem_row.mpr ⟨⟨by omega, by omega, by unfold rx; split <;> omega, by unfold rx; split <;> omega⟩, rfl⟩))
          rw [e] at mr
          cases mr
        obtain ⟨x, hx, hzx⟩ := (found_inv us ls).2 z hC ne
        exact List.mem_flatten.mpr ⟨_, List.mem_map.mpr ⟨x, seamsL_mem.mpr hx, rfl⟩, hzx⟩
  rw [e, sum_in10 nd sub, flat_sum]
  refine sum_mod4 fun m hm => ?_
  obtain ⟨x, hx, rfl⟩ := List.mem_map.mp hm
  have hl' := roundsL_mem.mp hl
  by_cases c : x = (true, l)
  · subst c
    have z0 : (l.map fun z => if z ∈ l then 0 else wI l z).sum = 0 := Sums.sum_zero (xs := l) (f := fun z => if z ∈ l then 0 else wI l z) fun z hz => if_pos hz
    show (l.map fun z => if z ∈ l then 0 else wI l z).sum % 4 = 0
    rw [z0]
    rfl
  · have apx : ∀ z ∈ x.2, z ∉ l := by
      rw [List.pairwise_iff_getElem] at ap
      obtain ⟨i, hi⟩ := List.getElem?_of_mem hx
      obtain ⟨j, hj⟩ := List.getElem?_of_mem hl'
      obtain ⟨l1, e1⟩ := List.getElem?_eq_some_iff.mp hi
      obtain ⟨l2, e2⟩ := List.getElem?_eq_some_iff.mp hj
      have ne : i ≠ j := fun e => by
        subst e
        rw [hi] at hj
        exact c (Option.some.inj hj)
      rcases Nat.lt_or_gt_of_ne ne with h | h
      · have := ap i j l1 l2 h
        rw [e1, e2] at this
        exact this
      · have := ap j i l2 l1 h
        rw [e1, e2] at this
        exact fun z h1 h2 => this z h2 h1
    have qx := seam_of hx
    have all : ∀ z ∈ x.2, (if z ∈ l then 0 else wI l z) = b2i (gB (true, l) (seqW x.1 x.2 0)) := fun z hz => by
      rw [if_neg (apx z hz)]
      obtain ⟨k, hk, rfl⟩ := seq_all qx hz
      unfold wI
      rw [wI_line q qx apx k hk]
    rw [sum_congr all]
    cases g : gB (true, l) (seqW x.1 x.2 0) with
    | false =>
      rw [Sums.sum_zero (f := fun _ : Pt => b2i false) (xs := x.2) fun _ _ => rfl]
      rfl
    | true =>
      have ones : (x.2.map fun _ : Pt => b2i true).sum = x.2.length := by
        have : ∀ L : List Pt, (L.map fun _ : Pt => b2i true).sum = L.length := fun L => by
          induction L with
          | nil => rfl
          | cons z L ih =>
            rw [List.map_cons, List.sum_cons, ih, List.length_cons]
            show (1 : Int) + _ = _
            omega
        exact this _
      rw [ones]
      obtain ⟨cc, lx⟩ := x
      cases cc with
      | true =>
        have := round_four (roundsL_mem.mpr hx)
        dsimp only
        omega
      | false =>
        exfalso
        have b := in_box10 q g
        exact nb_one_edge (us := us) (ls := ls) (z := seqW (false, lx).1 (false, lx).2 0) (seq_end qx).1 ⟨b.1, by omega, b.2.2.1, by omega⟩
theorem area_four (hl : l ∈ roundsL us ls) : ((insL l).length : Int) % 4 = 1 := by
  have q := (roundsL_ev hl).1
  obtain ⟨n, e, R⟩ := round_rn hl
  obtain ⟨M, A⟩ := along q R (pu_ok _ _)
  have RG := seam_rg q
  have mI : ∀ z : Pt, z ∈ insL l ↔ gB (true, l) z = true := fun z => by
    obtain ⟨x, y⟩ := z
    rw [ins_mem RG, ← wi_gB q]
    exact ⟨fun h => decide_eq_true h, of_decide_eq_true⟩
  have a1 : TT us ls (wI l) = ((insL l).length : Int) := by
    have h := sum_in10 (us := us) (ls := ls) (ins_nodup RG) (fun z hz => ptsC_mem.mpr (by
      have b := in_box10 q ((mI z).mp hz)
      exact ⟨by omega, by omega, by omega, by omega⟩)) (fun _ => 1)
    have e1 : TT us ls (wI l) = TT us ls (fun z => if z ∈ insL l then 1 else 0) := sum_congr fun z _ => by
      unfold wI b2i
      by_cases m : z ∈ insL l
      · rw [if_pos m, if_pos ((mI z).mp m)]
      · rw [if_neg m, if_neg fun g => m ((mI z).mpr g)]
    rw [e1, h]
    have : ∀ L : List Pt, (L.map fun _ : Pt => (1 : Int)).sum = L.length := fun L => by
      induction L with
      | nil => rfl
      | cons z L ih =>
        rw [List.map_cons, List.sum_cons, ih, List.length_cons]
        omega
    exact this _
  have a2 := ka_sum q
  have a3 : TT us ls (fun z => ka (gB (true, l)) z.1 z.2) = TT us ls (fun z => if z ∈ l then ka (gB (true, l)) z.1 z.2 else 0) + 4 * TT us ls (fun z => if z ∈ l then 0 else wI l z) := by
    unfold TT
    rw [← sum_mul, ← sum_add]
    refine sum_congr fun z _ => ?_
    by_cases m : z ∈ l
    · rw [if_pos m, if_pos m]
      omega
    · rw [if_neg m, if_neg m, ka_off q m]
      omega
  have a4 := sum_in10 (us := us) (ls := ls) q.nd (fun z hz => ptsC_mem.mpr ((roundsL_ev hl).2 z hz)) (fun z => ka (gB (true, l)) z.1 z.2)
  have a5 := ka_on q R A
  have a6 := off_sum hl
  have n4 := R.leave.1
  rw [a4, a5] at a3
  rw [a1, a3] at a2
  generalize TT us ls (fun z => if z ∈ l then 0 else wI l z) = I at *
  omega
theorem box_odd (hl : l ∈ roundsL us ls) : (maxI (l.map (·.1)) - minI (l.map (·.1))) % 2 = 1 ∧ (maxI (l.map (·.2)) - minI (l.map (·.2))) % 2 = 1 := by
  have q := (roundsL_ev hl).1
  obtain ⟨n, e, R⟩ := round_rn hl
  obtain ⟨M, A⟩ := along q R (pu_ok _ _)
  exact odd_box q R (pu_ok _ _) A
end
end GD
namespace GD
open PySem L2 G PySem.W
section
variable {s : Int} {us ls : List Int}
/-- a comprehension over points that gives numbers -/
theorem lc_pts {tg : Tg} {e : ES} {ρ : Sl} (g : Pt → Int) (l : List Pt) (hl : l.length < SZ) (h : ∀ z : Pt, ∃ ρ1 kd, tgSet tg (ptD z) ρ = some ρ1 ∧ e ρ1 = .ok (.int (g z), kd) ∧ kd.solid = true) : lcA tg G.tYes e ρ [] (l.map ptD) = .ok ((l.map g).map D.int) := by
  have := lcA_of (tg := tg) (e := e) (ρ := ρ) (fun d => match d with
    | .tup [.int a, .int b] => .int (g (a, b))
    | _ => .non) (ds := l.map ptD) (by simpa using hl) fun j d hd => by
      obtain ⟨z, hz, rfl⟩ := map_get hd
      obtain ⟨ρ1, kd, h1, h2, h3⟩ := h z
      exact ⟨ρ1, kd, h1, h2, h3⟩
  rw [this, List.map_map, List.map_map]
  congr 1
theorem box_ok {l : List Pt} (h : l ≠ []) (hl : l.length < 5000) : R_box [.lst (l.map ptD)] = .ok (.tup [.int (minI (l.map (·.1))), .int (minI (l.map (·.2))), .int (maxI (l.map (·.1))), .int (maxI (l.map (·.2)))], false) := by
  have nx : l.map (·.1) ≠ [] := by simpa using h
  have ny : l.map (·.2) ≠ [] := by simpa using h
  have m1 := min_ints nx
  have m2 := min_ints ny
  have x1 := max_ints nx
  have x2 := max_ints ny
  have c1 := lc_pts (tg := .tup [.one 3, .one 4]) (e := eVar 3) (ρ := [.va (.lst (l.map ptD)), .un, .un, .un, .un]) (·.1) l (by unfold SZ; omega) fun z => ⟨[.va (.lst (l.map ptD)), .un, .un, .va (.int z.1), .va (.int z.2)], .sh, by simp [ptD], by simp, rfl⟩
  have c2 := fun A => lc_pts (tg := .tup [.one 3, .one 4]) (e := eVar 4) (ρ := [.va (.lst (l.map ptD)), .va (.lst A), .un, .un, .un]) (·.2) l (by unfold SZ; omega) fun z => ⟨[.va (.lst (l.map ptD)), .va (.lst A), .un, .va (.int z.1), .va (.int z.2)], .sh, by simp [ptD], by simp, rfl⟩
  generalize minI (l.map (·.1)) = a at *
  generalize minI (l.map (·.2)) = b at *
  generalize maxI (l.map (·.1)) = a2 at *
  generalize maxI (l.map (·.2)) = b2 at *
  generalize (l.map (·.1)).map D.int = X at *
  generalize (l.map (·.2)).map D.int = Y at *
  have c2 := c2 X
  generalize l.map ptD = M at *
  have sz : 4 ≤ SZ := by decide
  simp [R_box, denF, slots, S_box, sSeq_ap, eLc, wipeS, c1, c2, m1, m2, x1, x2, sz]
end
end GD
namespace GD
open PySem L2 G
section
variable {s : Int} {us ls : List Int}
theorem area_ok {l : List Pt} (R : Rg l) (hl : l.length < 5000) (hb : ∀ z ∈ l, 0 ≤ z.1 ∧ z.1 ≤ 50) : R_area [.lst (l.map ptD)] = .ok (.int (sortP (insL l)).length, false) := by
  have i := inside_ok R hl hb
  have n1 : oBi .len [.lst ((sortP (insL l)).map ptD)] = .ok (.int (sortP (insL l)).length, .sh) := by show shr (.int (((sortP (insL l)).map ptD).length : Nat)) = _; rw [List.length_map]; rfl
  generalize l.map ptD = M at *
  generalize (sortP (insL l)).map ptD = SM at *
  simp [R_area, denF, slots, S_area, i, n1]
end
end GD
namespace GD
open PySem L2 G
section
variable {s : Int} {us ls : List Int}
theorem k14_b1 (p : Plan s us ls) {l : List Pt} (hl : l ∈ roundsL us ls) {d0 d1 d2 : D} {s4 s5 s6 s7 s8 : Slot} : ∃ s4' s5' s6' s7' s8', S_law_k14_b1 [.va d0, .va d1, .va d2, .va (.lst (l.map ptD)), s4, s5, s6, s7, s8] = .nx [.va d0, .va d1, .va d2, .va (.lst (l.map ptD)), s4', s5', s6', s7', s8'] := by
  obtain ⟨q, hin⟩ := roundsL_ev hl
  have ln := seam_len p q hin
  have R := seam_rg q
  have hne : l ≠ [] := by
    intro e
    have := R.three
    rw [e] at this
    simp at this
  have hb := fun z hz => inC_50 p (hin z hz)
  have pa := patch_ok hne (by omega) hb
  rw [patch_eq R] at pa
  have ar := area_ok R (by omega) fun z hz => ⟨(hb z hz).1, (hb z hz).2.1⟩
  have bo := box_ok hne (by omega)
  have n1 : oBi .len [.lst ((sortP (insL l)).map ptD)] = .ok (.int (sortP (insL l)).length, .sh) := by show shr (.int (((sortP (insL l)).map ptD).length : Nat)) = _; rw [List.length_map]; rfl
  have a4 := area_four hl
  obtain ⟨o1, o2⟩ := box_odd hl
  rw [← sortP_len] at a4
  refine ⟨.va (.int (sortP (insL l)).length), .va (.int (minI (l.map (·.1)))), .va (.int (minI (l.map (·.2)))), .va (.int (maxI (l.map (·.1)))), .va (.int (maxI (l.map (·.2)))), ?_⟩
  generalize maxI (l.map (·.1)) = hi at *
  generalize minI (l.map (·.1)) = lo at *
  generalize maxI (l.map (·.2)) = to at *
  generalize minI (l.map (·.2)) = bot at *
  generalize ((sortP (insL l)).length : Int) = n at *
  generalize (sortP (insL l)).map ptD = SM at *
  generalize l.map ptD = LM at *
  simp [-oBi_lenL, S_law_k14_b1, sSeq_ap, ar, bo, pa, n1, a4, o1, o2]
theorem k14_plan {zs : List Int} (hz : 13 ≤ zs.length) : ∃ s us ls, Plan s us ls ∧ ∀ d0, S_law_k14_t1 [.va d0, .va (dI zs), .un, .un, .un, .un, .un, .un, .un] = S_law_k14_t3 [.va d0, .va (dI zs), .va (planD s us ls), .un, .un, .un, .un, .un, .un] := by
  obtain ⟨s, us, ls, p1, p⟩ := plan (us := zs) (by omega)
  have p1' : R__law_plan [dI zs] = .ok (planD s us ls, false) := p1
  have i29 : oIx (dI zs) (.int 12) = .ok (.int (gt zs 12), .sh) := oIx_i (by omega) (by omega)
  by_cases c : gt zs 12 % 4 = 1
  · have i3 : oIx (dI zs) (.int 3) = .ok (.int (gt zs 3), .sh) := oIx_i (by omega) (by omega)
    have c4 : oSl (dI zs) (some 4) none = .ok (.lst ((zs.drop 4).map .int), .fr) := by
      rw [show dI zs = .lst (zs.map .int) from rfl, oSl_l, cut_us (by omega) (by omega)]
      rfl
    have c8 : oSl (dI zs) (some 8) none = .ok (.lst ((zs.drop 8).map .int), .fr) := by
      rw [show dI zs = .lst (zs.map .int) from rfl, oSl_l, cut_us (by omega) (by omega)]
      rfl
    obtain ⟨as, r1, l1, b1⟩ := row (us := zs.drop 4) (many := 23) (by simp; omega) (by omega) (by omega)
    obtain ⟨bs, r2, l2, b2⟩ := row (us := zs.drop 8) (many := 23) (by simp; omega) (by omega) (by omega)
    refine ⟨gt zs 3 % 2, as, bs, ⟨mod2 _, b1, b2, by omega, by omega⟩, fun d0 => ?_⟩
    have sz3 : 3 ≤ SZ := by decide
    have ep : planD (gt zs 3 % 2) as bs = .tup [.int (gt zs 3 % 2), dI as, dI bs] := rfl
    rw [ep]
    generalize dI zs = ZS at *
    generalize D.lst ((zs.drop 4).map .int) = Z4 at *
    generalize D.lst ((zs.drop 8).map .int) = Z8 at *
    simp [S_law_k14_t1, S_law_k14_t2, sSeq_ap, p1', i29, c, i3, c4, c8, r1, r2, sz3]
  · refine ⟨s, us, ls, p, fun d0 => ?_⟩
    generalize dI zs = ZS at *
    generalize planD s us ls = PL at *
    simp [S_law_k14_t1, S_law_k14_t2, sSeq_ap, p1', i29, c]
theorem law_k14 {ns : List Int} (hns : ns.length ≤ 63) : R_law_k14 [.frl ns] = .ok (.bl true, false) := by
  obtain ⟨zs, d1, d2, d3⟩ := draws (n := 13) hns (by omega) (by omega)
  obtain ⟨s, us, ls, p, t1⟩ := k14_plan (zs := zs) (by omega)
  have m := made p
  have ro := roundsC_ok p
  obtain ⟨ρ', g1, s3, s4, s5, s6, s7, s8, rfl⟩ := forL_nx (tg := .one 3) (a := S_law_k14_b1) (I := fun _ ρ => ∃ s3 s4 s5 s6 s7 s8, ρ = [.va (.frl ns), .va (dI zs), .va (planD s us ls), s3, s4, s5, s6, s7, s8])
    (ds := (roundsL us ls).map lD) (k := 0) (ρ := [.va (.frl ns), .va (dI zs), .va (planD s us ls), .un, .un, .un, .un, .un, .un]) ⟨.un, .un, .un, .un, .un, .un, rfl⟩ (fun j d ρ hd ⟨s3, s4, s5, s6, s7, s8, e⟩ => by
    subst e
    obtain ⟨l, hl, rfl⟩ := map_get hd
    obtain ⟨s4', s5', s6', s7', s8', g⟩ := k14_b1 p (List.mem_of_getElem? hl) (d0 := .frl ns) (d1 := dI zs) (d2 := planD s us ls) (s4 := s4) (s5 := s5) (s6 := s6) (s7 := s7) (s8 := s8)
    exact ⟨_, _, rfl, .inl g, .va (.lst (l.map ptD)), s4', s5', s6', s7', s8', rfl⟩)
  have m' : R__law_made [planD s us ls] = .ok (cl s us ls, true) := m
  have d1' : R__law_draws [.frl ns, .int 13] = .ok (dI zs, true) := d1
  clear m d1
  generalize (roundsL us ls).map lD = F at *
  generalize planD s us ls = PL at *
  generalize cl s us ls = C at *
  generalize dI zs = ZS at *
  simp [R_law_k14, denF, slots, S_law_k14, sSeq_ap, d1', t1, S_law_k14_t3, S_law_k14_t4, sFor_ap, m', ro, g1]
end
end GD
namespace K14
open PySem L2 G
theorem main (ns : List Int) (h : ns.length ≤ 63) : GD.R_law_k14 [.frl ns] = .ok (.bl true, false) := GD.law_k14 h
end K14
open PySem PySem.W PySem.Calls PyProof.Rows
theorem PySem.Challenge.cw_sashiko_k14_whole_areas_leave_one_holds : PySem.Challenge.rw_sashiko_k14_whole_areas_leave_one.Holds := by
  w_on; o_law
  refine HandSHeadRun.head_any (r := OpenLaw.row PySem.Challenge.rw_sashiko_k14_whole_areas_leave_one) (q := view (OpenLaw.row PySem.Challenge.rw_sashiko_k14_whole_areas_leave_one).prog [34]) (H := K14.hk) (ob := K14.ob) (M := 6000) (loose := K14.loose) (d := HandSHeadRun.topDef (OpenLaw.row PySem.Challenge.rw_sashiko_k14_whole_areas_leave_one).prog 34) (kwd := []) K14.ob_eq
    (by kernel_rfl) (fun s => by kernel_rfl) K14.run (by kernel_rfl) (by kernel_rfl) (by kernel_rfl) (by rfl) (by first | assumption | decide +kernel) (by decide +kernel) ⟨rfl, rfl, rfl, rfl, rfl, by decide +kernel⟩ ?hw ?hc
  case hw => w_witness2
  case hc =>
    refine L2.walk_ofE (l := PySem.Challenge.rw_sashiko_k14_whole_areas_leave_one) (n := 63) (k := 10) (x := "_law_script") (CX := G.CXW (PySem.Challenge.rw_sashiko_k14_whole_areas_leave_one).prog) rfl (by decide) (by kernel_rfl) ⟨rfl, by decide, by decide⟩ ?F G.cxw_never
    intro w mg fa h Y G hmg0
    obtain ⟨K, KX, c⟩ := Y
    have hmg : mg ("law" : PySem.Str) = some (.ref fa) := by
      have e : (HandSHeadRun.topDef (OpenLaw.row PySem.Challenge.rw_sashiko_k14_whole_areas_leave_one).prog 34).name = ("law" : PySem.Str) := by kernel_rfl
      rw [← e]
      exact hmg0
    obtain ⟨fd, sp, hb, h1, hF⟩ := K14.pre K14.main w mg fa h K KX G c hmg
    exact ⟨K, fd, sp, KX, hb, h1, hF⟩
