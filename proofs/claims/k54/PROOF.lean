import PyProof.Rows.All
import Wide.All
import OpenK.AllK
import Wide.FinOn
import KE.KStateDown
import Lean
import HandS.ForExc
import HandS.ForMost
import HandS.ExcCtx
import HandS.TupAny
import HandS.IsInst
import HandS.TupLen
import HandS.Zip
import HandS.Small
import HandS.ExcInit
import HandS.Defaults
import HandS.WordsDict
import HandS.HeadHook1
import HandS.HeadHook2
import HandS.Style
import HandS.ExcIs
import HandS.HotCalls
import HandS.SuiteRaise
import HandS.Head0
import HandS.Head1
import HandS.Head2
import HandS.HeadEnd
import KE.SortData
import KE.DataMinMax
import HandS.Deep
import HandS.SetFor
import KE.SortKeyHeap
import KE.KSortKey
import HandS.SortKw
import HandS.SetKeys
import PyProof.DictMoreH
import HandS.Conv
import PyProof.Rows.TupDisplay
import HandS.Iter
import HandS.ExcField
import HandS.More
import HandS.Wide
import HandS.RaiseFrom
import HandS.Text
import PySem.Challenge.RW_sashiko_k54_cloths_as_texts
set_option Elab.async false
set_option autoImplicit false
set_option linter.all false
set_option maxRecDepth 100000
set_option maxHeartbeats 4000000
namespace G
open PySem L2
/-- a pure value -/
inductive D where
  | non | bl (b : Bool) | int (i : Int) | str (s : Str)
  | lst (xs : List D) | tup (xs : List D)
  | dK (ks : List Key) (vs : List D) | dT (ks : List (List Key)) (vs : List D)
  | obj (c : Nat) (fs : List D) | frl (ns : List Int) | hx
/-- how a value lies: shared (frozen), a fresh root, the own object of slot i -/
inductive Kd where
  | sh | fr | at (i : Nat) | tr (n : Nat)
  deriving DecidableEq
inductive Out (α : Type) where
  | ok (a : α) | ex (c : Nat) (fs : List D) | no
def Out.bind {α β : Type} : Out α → (α → Out β) → Out β
  | .ok a, f => f a
  | .ex c fs, _ => .ex c fs
  | .no, _ => .no
/-- no instance -/
def notObj : D → Bool
  | .obj _ _ => false
  | _ => true
/-- which nodes of a value are a slot's own: the root, its items by their places, .. -/
inductive Sh where
  | lf | nd (k : Nat → Sh)
  /-- lent: the root is the one that was handed in -/
  | ln (k : Nat → Sh)
  /-- the second thing lent -/
  | l2 (k : Nat → Sh)
inductive Slot where
  | un | va (d : D) | ow (d : D) | me (c : Nat) (ds : List D) | xc
  /-- an own tree of objects -/
  | pv (k : Sh) (d : D)
/-- own lists, n deep -/
def shn : Nat → Sh
  | 0 => .lf
  | n + 1 => .nd fun _ => shn n
abbrev Sl := List Slot
abbrev ES := Sl → Out (D × Kd)
/-- what the defs give: by number and arguments; the Bool: a fresh root -/
abbrev Gam := Nat → List D → Out (D × Bool)
abbrev SZ : Nat := 16777216
def Kd.solid : Kd → Bool
  | .at _ => false
  | _ => true
def flat : D → Bool
  | .non => true
  | .bl _ => true
  | .int _ => true
  | .str _ => true
  | _ => false
/-- nothing of it lies in older objects -/
def clean (d : D) (k : Kd) : Bool := flat d || (match d, k with
  | .lst ds, .fr => ds.all flat
  | .dK _ ds, .fr => ds.all flat
  | .dT _ ds, .fr => ds.all flat
  | _, _ => false)
@[simp] theorem bind_ok {α β : Type} (a : α) (f : α → Out β) : (Out.ok a).bind f = f a := rfl
@[simp] theorem bind_ex {α β : Type} (c : Nat) (fs : List D) (f : α → Out β) : (Out.ex c fs : Out α).bind f = .ex c fs := rfl
@[simp] theorem bind_no {α β : Type} (f : α → Out β) : (Out.no : Out α).bind f = .no := rfl
def eVar (i : Nat) : ES := fun ρ => match ρ[i]? with
  | some (.va d) => .ok (d, .sh)
  | some (.ow d) => .ok (d, .at i)
  | _ => .no
def eC (d : D) : ES := fun _ => .ok (d, .sh)
def eBin (op : D → D → Out (D × Kd)) (f g : ES) : ES := fun ρ => (f ρ).bind fun x => (g ρ).bind fun y => op x.1 y.1
def eUn (op : D → Out (D × Kd)) (f : ES) : ES := fun ρ => (f ρ).bind fun x => op x.1
def eArgs : List ES → Sl → Out (List (D × Kd))
  | [], _ => .ok []
  | f :: fs, ρ => (f ρ).bind fun x => (eArgs fs ρ).bind fun xs => .ok (x :: xs)
def shr (d : D) : Out (D × Kd) := .ok (d, .sh)
def oAdd : D → D → Out (D × Kd)
  | .int i, .int j => shr (.int (i + j))
  | .str x, .str y => if x.length + y.length ≤ SZ then shr (.str (x ++ y)) else .no
  | .lst xs, .lst ys => if xs.length + ys.length ≤ SZ then .ok (.lst (xs ++ ys), .fr) else .no
  | .tup xs, .tup ys => if xs.length + ys.length ≤ SZ then shr (.tup (xs ++ ys)) else .no
  | _, _ => .no
def oSub : D → D → Out (D × Kd)
  | .int i, .int j => shr (.int (i - j))
  | _, _ => .no
def smallI (i : Int) : Bool := decide (-(2 ^ 64) < i ∧ i < 2 ^ 64)
def oMul : D → D → Out (D × Kd)
  | .int i, .int j => if smallI i || smallI j then shr (.int (i * j)) else .no
  | .lst xs, .int k => if -(2 ^ 63) ≤ k ∧ k < 2 ^ 63 ∧ xs.length * k.toNat ≤ SZ then .ok (.lst (List.replicate k.toNat xs).flatten, .fr) else .no
  | _, _ => .no
def oMod : D → D → Out (D × Kd)
  | .int i, .int j => if 0 < j then shr (.int (i % j)) else .no
  | _, _ => .no
def oDiv : D → D → Out (D × Kd)
  | .int i, .int j => if 0 < j ∧ j < 1073741824 then shr (.int (i / j)) else .no
  | _, _ => .no
def oPow : D → D → Out (D × Kd)
  | .int i, .int j => if 0 ≤ j ∧ j ≤ 1000000 ∧ i.natAbs < 2 ^ 64 then shr (.int (i ^ j.toNat)) else .no
  | _, _ => .no
def oNeg : D → Out (D × Kd)
  | .int i => shr (.int (-i))
  | _ => .no
end G
namespace G
open PySem L2
def intsOf : List D → Option (List Int)
  | [] => some []
  | .int i :: r => (intsOf r).map (i :: ·)
  | _ :: _ => none
@[simp] theorem intsOf_map : ∀ ns : List Int, intsOf (ns.map D.int) = some ns
  | [] => rfl
  | n :: ns => by simp [intsOf, intsOf_map ns]
theorem intsOf_eq : ∀ {ds : List D} {ns : List Int}, intsOf ds = some ns → ds = ns.map D.int
  | [], ns, h => by cases h; rfl
  | d :: r, ns, h => by
    cases d with
    | int i =>
      unfold intsOf at h
      cases q : intsOf r with
      | none => rw [q] at h; cases h
      | some ms =>
        rw [q] at h
        cases h
        rw [intsOf_eq q]
        rfl
    | _ => cases h
mutual
def toPy : D → Option PyData
  | .non => some .none
  | .bl b => some (.bool b)
  | .int i => some (.int i)
  | .str s => some (.str s)
  | .lst xs => (toPys xs).map .list
  | .tup xs => (toPys xs).map .tuple
  | _ => none
def toPys : List D → Option (List PyData)
  | [] => some []
  | x :: xs => (toPy x).bind fun p => (toPys xs).map (p :: ·)
end
/-- == of scalars -/
def scalEq : D → D → Option Bool
  | .non, .non => some true
  | .non, .int _ => some false
  | .int _, .non => some false
  | .non, .str _ => some false
  | .str _, .non => some false
  | .int i, .int j => some (decide (i = j))
  | .bl i, .bl j => some (decide (i = j))
  | .str i, .str j => some (decide (i = j))
  | _, _ => none
def eqD (d e : D) : Option Bool := match scalEq d e with
  | some b => some b
  | none => match toPy d, toPy e with
    | some p, some q => if SeqAt.shaped p && SeqAt.shaped q then some (PyData.eqv p q) else none
    | _, _ => none
def obl : Option Bool → Out (D × Kd)
  | some b => shr (.bl b)
  | none => .no
def oEq (d e : D) : Out (D × Kd) := obl (eqD d e)
def oNe (d e : D) : Out (D × Kd) := obl ((eqD d e).map (!·))
def oLt : D → D → Out (D × Kd)
  | .int i, .int j => shr (.bl (decide (i < j)))
  | .tup xs, .tup ys => match intsOf xs, intsOf ys with
    | some ns, some ms => shr (.bl (HT.lexLt ns ms))
    | _, _ => .no
  | _, _ => .no
def oLe : D → D → Out (D × Kd)
  | .int i, .int j => shr (.bl (decide (i ≤ j)))
  | _, _ => .no
def oGt : D → D → Out (D × Kd)
  | .int i, .int j => shr (.bl (decide (j < i)))
  | _, _ => .no
def oGe : D → D → Out (D × Kd)
  | .int i, .int j => shr (.bl (decide (j ≤ i)))
  | _, _ => .no
def isNon : D → Bool
  | .non => true
  | _ => false
/-- a op b op' c, b asked once -/
def eChain (op op' : D → D → Out (D × Kd)) (f g h : ES) : ES := fun ρ => (f ρ).bind fun x => (g ρ).bind fun y => (op x.1 y.1).bind fun z => match z.1 with
  | .bl true => (h ρ).bind fun w => op' y.1 w.1
  | .bl false => shr (.bl false)
  | _ => .no
def oBl : D → Out Bool
  | .bl b => .ok b
  | _ => .no
/-- and, or of truth values -/
def eAnd (f g : ES) : ES := fun ρ => (f ρ).bind fun x => (oBl x.1).bind fun b => if b = true then g ρ else shr (.bl false)
def eOr (f g : ES) : ES := fun ρ => (f ρ).bind fun x => (oBl x.1).bind fun b => if b = true then shr (.bl true) else g ρ
def oNot (d : D) : Out (D × Kd) := (oBl d).bind fun b => shr (.bl (!b))
abbrev TSm := Sl → Out Bool
def oTru : D → Out Bool
  | .non => .ok false
  | .bl b => .ok b
  | .int i => .ok (i != 0)
  | .lst xs => .ok (!xs.isEmpty)
  | .tup xs => .ok (!xs.isEmpty)
  | _ => .no
def tBl (f : ES) : TSm := fun ρ => (f ρ).bind fun x => oBl x.1
def tTru (f : ES) : TSm := fun ρ => (f ρ).bind fun x => oTru x.1
def tAnd (f g : TSm) : TSm := fun ρ => (f ρ).bind fun b => if b = true then g ρ else .ok false
def tOr (f g : TSm) : TSm := fun ρ => (f ρ).bind fun b => if b = true then .ok true else g ρ
def tNot (f : TSm) : TSm := fun ρ => (f ρ).bind fun b => .ok (!b)
def eIf (t : TSm) (f g : ES) : ES := fun ρ => (t ρ).bind fun b => if b = true then f ρ else g ρ
def allSolid (xs : List (D × Kd)) : Bool := xs.all fun x => x.2.solid
def eTup (fs : List ES) : ES := fun ρ => (eArgs fs ρ).bind fun xs => if allSolid xs = true ∧ xs.length ≤ SZ then shr (.tup (xs.map (·.1))) else .no
def eLst (fs : List ES) : ES := fun ρ => (eArgs fs ρ).bind fun xs => if allSolid xs = true ∧ xs.length ≤ SZ then .ok (.lst (xs.map (·.1)), .fr) else .no
/-- a key, of ints and texts; of tuples of them -/
def keyOf : D → Option Key
  | .int i => some (.inl i)
  | .str s => some (.inr s)
  | _ => none
def keysOf : List D → Option (List Key)
  | [] => some []
  | d :: r => (keyOf d).bind fun k => (keysOf r).map (k :: ·)
def tkeyOf : D → Option (List Key)
  | .tup xs => keysOf xs
  | _ => none
def lookK {κ : Type} [DecidableEq κ] : List κ → List D → κ → Option D
  | k :: ks, d :: ds, x => if k = x then some d else lookK ks ds x
  | _, _, _ => none
/-- what a dict holds at a key; the outer option: the key is of its kind -/
def dGet : D → D → Option (Option D)
  | .dK ks ds, k => (keyOf k).map fun x => lookK ks ds x
  | .dT ks ds, k => (tkeyOf k).map fun x => lookK ks ds x
  | _, _ => none
def oIx : D → D → Out (D × Kd)
  | .lst xs, .int i => match atI xs i with
    | some d => shr d
    | none => .no
  | .tup xs, .int i => match atI xs i with
    | some d => shr d
    | none => .no
  | .str z, .int i => if z.length ≤ SZ then (match atI z.cps.toList i with
    | some c => shr (.str ⟨#[c]⟩)
    | none => .no) else .no
  | d, k => match dGet d k with
    | some (some v) => shr v
    | _ => .no
def cutD (xs : List D) (lo hi : Option Int) : List D := (xs.drop (HT.sIx xs.length 0 lo)).take (HT.sIx xs.length xs.length hi - HT.sIx xs.length 0 lo)
def oSl : D → Option Int → Option Int → Out (D × Kd)
  | .lst xs, lo, hi => .ok (.lst (cutD xs lo hi), .fr)
  | .tup xs, lo, hi => shr (.tup (cutD xs lo hi))
  | _, _, _ => .no
def ePart : Option ES → Sl → Out (Option Int)
  | none, _ => .ok none
  | some f, ρ => (f ρ).bind fun x => match x.1 with
    | .int i => .ok (some i)
    | _ => .no
def eSl (f : ES) (lo hi : Option ES) : ES := fun ρ => (f ρ).bind fun x => (ePart lo ρ).bind fun l => (ePart hi ρ).bind fun h => oSl x.1 l h
/-- fields: by the class and the name, the place -/
def oFld (fx : Nat → Option Nat) : D → Out (D × Kd)
  | .obj c ds => match fx c with
    | some i => match ds[i]? with
      | some d => shr d
      | none => .no
    | none => .no
  | _ => .no
end G
namespace G
open PySem L2
def tyName : D → Option String
  | .non => some "NoneType"
  | .bl _ => some "bool"
  | .int _ => some "int"
  | .str _ => some "str"
  | .lst _ => some "list"
  | .tup _ => some "tuple"
  | .dK _ _ => some "dict"
  | _ => none
def isiT (T : String) (S : String) : Bool := decide (S = T) || (decide (S = "bool") && decide (T = "int"))
def oIsi (T : String) (d : D) : Out (D × Kd) := match tyName d with
  | some S => shr (.bl (isiT T S))
  | none => .no
/-- built-in functions of one or two arguments -/
inductive Bi where
  | len | abs | int | sum | list | max2 | min2 | all | str | min1 | max1
  deriving DecidableEq
def boolsOf : List D → Option (List Bool)
  | [] => some []
  | .bl i :: r => (boolsOf r).map (i :: ·)
  | _ :: _ => none
def minI : List Int → Int
  | [] => 0
  | [a] => a
  | a :: r => min a (minI r)
def maxI : List Int → Int
  | [] => 0
  | [a] => a
  | a :: r => max a (maxI r)
def oBi : Bi → List D → Out (D × Kd)
  | .len, [.lst xs] => shr (.int xs.length)
  | .len, [.tup xs] => shr (.int xs.length)
  | .len, [.str x] => if x.length ≤ SZ then shr (.int x.length) else .no
  | .len, [.dK ks _] => shr (.int ks.length)
  | .len, [.dT ks _] => shr (.int ks.length)
  | .abs, [.int i] => shr (.int (if i < 0 then -i else i))
  | .int, [.int i] => shr (.int i)
  | .int, [.bl k] => shr (.int (if k then 1 else 0))
  | .sum, [.lst xs] => match intsOf xs with
    | some ns => shr (.int ns.sum)
    | none => .no
  | .min1, [.lst xs] => match intsOf xs with
    | some ns => if ns ≠ [] then shr (.int (minI ns)) else .no
    | none => .no
  | .max1, [.lst xs] => match intsOf xs with
    | some ns => if ns ≠ [] then shr (.int (maxI ns)) else .no
    | none => .no
  | .list, [.lst xs] => .ok (.lst xs, .fr)
  | .list, [.tup xs] => .ok (.lst xs, .fr)
  | .max2, [.int i, .int j] => shr (.int (if j > i then j else i))
  | .min2, [.int i, .int j] => shr (.int (if j < i then j else i))
  | .all, [.lst xs] => match boolsOf xs with
    | some bs => shr (.bl (bs.all id))
    | none => .no
  | .str, [.int i] => if i.natAbs.log2 < 1920 then shr (.str (toString i)) else .no
  | _, _ => .no
def eBi (b : Bi) (fs : List ES) : ES := fun ρ => (eArgs fs ρ).bind fun xs => oBi b (xs.map (·.1))
def okArgs (xs : List (D × Kd)) : Bool := xs.all fun x => x.2.solid || notObj x.1
/-- a fresh one of these has nothing of the arguments -/
def newD : D → Bool
  | .obj _ _ => true
  | .lst ds => ds.all flat
  | _ => false
def eCall (Γ : Gam) (n : Nat) (fs : List ES) : ES := fun ρ => (eArgs fs ρ).bind fun xs => match Γ n (xs.map (·.1)) with
  | .ok (d, b) => if allSolid xs then .ok (d, if b then .fr else .sh) else if flat d && okArgs xs then shr d else if (b && newD d) && okArgs xs then .ok (d, .fr) else .no
  | .ex c gs => if allSolid xs || (gs.isEmpty && okArgs xs) then .ex c gs else .no
  | .no => .no
/-- a method of an instance: by the class's number, the def's number; a receiver that raises is not served -/
def eMeth (Γ : Gam) (mx : Nat → Option Nat) (f : ES) (fs : List ES) : ES := fun ρ => match f ρ with
  | .ok (.obj c ds, k) => match mx c with
    | some n => if k.solid then eCall Γ n (eC (.obj c ds) :: fs) ρ else .no
    | none => .no
  | _ => .no
end G
namespace G
open PySem L2
abbrev IS := Sl → Out (List D)
def itemsOf : D → Option (List D)
  | .lst xs => some xs
  | .tup xs => some xs
  | .frl ns => some (ns.map D.int)
  | .str s => some (s.cps.toList.map fun c => D.str ⟨#[c]⟩)
  | _ => none
/-- st: in a for statement (a slot's own list is not walked there) -/
def itE (st : Bool) (f : ES) : IS := fun ρ => (f ρ).bind fun x => if st && !x.2.solid then .no else match itemsOf x.1 with
  | some ds => .ok ds
  | none => .no
def in62 (i : Int) : Bool := decide (i.natAbs < 4611686018427387904)
def rngD (lo hi : Int) : List D := (List.range (hi - lo).toNat).map fun k => D.int (lo + (k : Nat))
def itR1 (f : ES) : IS := fun ρ => (f ρ).bind fun x => match x.1 with
  | .int j => if in62 j then .ok (rngD 0 j) else .no
  | _ => .no
def itR2 (f g : ES) : IS := fun ρ => (f ρ).bind fun x => (g ρ).bind fun y => match x.1, y.1 with
  | .int i, .int j => if in62 i && in62 j then .ok (rngD i j) else .no
  | _, _ => .no
def zipD : List D → List D → List D
  | x :: xs, y :: ys => .tup [x, y] :: zipD xs ys
  | _, _ => []
def itZip (st : Bool) (f g : ES) : IS := fun ρ => (f ρ).bind fun x => (g ρ).bind fun y => if st && !(x.2.solid && y.2.solid) then .no else match x.1, y.1 with
  | .lst xs, .lst ys => .ok (zipD xs ys)
  | .tup xs, .tup ys => .ok (zipD xs ys)
  | _, _ => .no
inductive Tg where
  | one (i : Nat) | tup (ts : List Tg)
mutual
def tgSet : Tg → D → Sl → Option Sl
  | .one i, d, ρ => if i < ρ.length then some (ρ.set i (.va d)) else none
  | .tup ts, .tup ds, ρ => tgSets ts ds ρ
  | .tup ts, .lst ds, ρ => tgSets ts ds ρ
  | _, _, _ => none
def tgSets : List Tg → List D → Sl → Option Sl
  | [], [], ρ => some ρ
  | t :: ts, d :: ds, ρ => (tgSet t d ρ).bind fun ρ' => tgSets ts ds ρ'
  | _, _, _ => none
end
mutual
def tgIdx : Tg → List Nat
  | .one i => [i]
  | .tup ts => tgIdxs ts
def tgIdxs : List Tg → List Nat
  | [] => []
  | t :: ts => tgIdx t ++ tgIdxs ts
end
def wipeS (ρ : Sl) : List Nat → Sl
  | [] => ρ
  | v :: vs => (wipeS ρ vs).set v .un
def tYes : TSm := fun _ => .ok true
/-- one turn behind another: ρ the slots as the block has them -/
def lcA (tg : Tg) (t : TSm) (e : ES) (ρ : Sl) : List D → List D → Out (List D)
  | acc, [] => .ok acc
  | acc, d :: ds => match tgSet tg d ρ with
    | none => .no
    | some ρ1 => match t ρ1 with
      | .ok true => match e ρ1 with
        | .ok (y, k) => if k.solid && decide (acc.length < SZ) then lcA tg t e ρ (acc ++ [y]) ds else .no
        | _ => .no
      | .ok false => lcA tg t e ρ acc ds
      | _ => .no
def eLc (it : IS) (tg : Tg) (t : TSm) (e : ES) (vs : List Nat) : ES := fun ρ => (it ρ).bind fun ds => (lcA tg t e (wipeS ρ vs) [] ds).bind fun r => .ok (.lst r, .fr)
end G
namespace G
open PySem L2
inductive Fl where
  | nx (ρ : Sl) | bk (ρ : Sl) | ct (ρ : Sl) | rt (d : D) (k : Kd) (ρ : Sl) | ex (n : Nat) (fs : List D) (ρ : Sl) | no
abbrev SS := Sl → Fl
def sSkip : SS := fun ρ => .nx ρ
def sSeq (f g : SS) : SS := fun ρ => match f ρ with
  | .nx ρ' => g ρ'
  | o => o
def sIf (t : TSm) (f g : SS) : SS := fun ρ => match t ρ with
  | .ok b => if b = true then f ρ else g ρ
  | .ex n fs => .ex n fs ρ
  | .no => .no
/-- what an expression gives, then a statement's end -/
def sWith {α : Type} (o : Out α) (ρ : Sl) (k : α → Fl) : Fl := match o with
  | .ok a => k a
  | .ex n fs => .ex n fs ρ
  | .no => .no
def sDrop (f : ES) : SS := fun ρ => sWith (f ρ) ρ fun _ => .nx ρ
/-- x = e; own: a fresh root is x's own -/
def asg (own : Bool) (i : Nat) (x : D × Kd) (ρ : Sl) : Fl := if i < ρ.length then (match x.2 with
  | .sh => .nx (ρ.set i (.va x.1))
  | .fr => if own then (if notObj x.1 then .nx (ρ.set i (.ow x.1)) else .no) else .nx (ρ.set i (.va x.1))
  | .tr _ => .no
  | .at _ => .no) else .no
def sAsg (own : Bool) (i : Nat) (f : ES) : SS := fun ρ => sWith (f ρ) ρ fun x => asg own i x ρ
def sTg (t : Tg) (f : ES) : SS := fun ρ => sWith (f ρ) ρ fun x => if x.2.solid then (match tgSet t x.1 ρ with
  | some ρ' => .nx ρ'
  | none => .no) else .no
def sRet (f : ES) : SS := fun ρ => sWith (f ρ) ρ fun x => .rt x.1 x.2 ρ
def sRetN : SS := fun ρ => .rt .non .sh ρ
def forL (t : Tg) (b : SS) : List D → SS
  | [], ρ => .nx ρ
  | d :: ds, ρ => match tgSet t d ρ with
    | none => .no
    | some ρ1 => match b ρ1 with
      | .nx ρ2 => forL t b ds ρ2
      | .ct ρ2 => forL t b ds ρ2
      | .bk ρ2 => .nx ρ2
      | o => o
def sFor (s : IS) (t : Tg) (b : SS) : SS := fun ρ => sWith (s ρ) ρ fun ds => forL t b ds ρ
def whileL (t : TSm) (b : SS) : Nat → SS
  | 0, _ => .no
  | n + 1, ρ => match t ρ with
    | .ok true => (match b ρ with
      | .nx ρ2 => whileL t b n ρ2
      | .ct ρ2 => whileL t b n ρ2
      | .bk ρ2 => .nx ρ2
      | o => o)
    | .ok false => .nx ρ
    | .ex n fs => .ex n fs ρ
    | .no => .no
/-- turns enough -/
@[irreducible] def FU : Nat := 1000000000
def sWhile (t : TSm) (b : SS) : SS := whileL t b FU
/-- self.f = e in __init__ -/
def sFld (fx : Nat → Nat → Bool) (i : Nat) (f : ES) : SS := fun ρ => sWith (f ρ) ρ fun x => if clean x.1 x.2 then (match ρ[i]? with
  | some (.me c ds) => if fx c ds.length then .nx (ρ.set i (.me c (ds ++ [x.1]))) else .no
  | _ => .no) else .no
end G
namespace G
open PySem PySem.Spec L2
/-- the written part, the handled exception, the classes' addresses and their fields -/
structure Th where
  K : PySem.W.Frag
  xa : Option Addr
  C : Nat → Addr
  fld : Nat → List Str
  xb : Option Addr
mutual
inductive Rep (θ : Th) (F : Hp) : D → V → Prop
  | non : Rep θ F .non .non
  | bl (b : Bool) : Rep θ F (.bl b) (.bl b)
  | int (i : Int) : Rep θ F (.int i) (.int i)
  | str (s : Str) : Rep θ F (.str s) (.str s)
  | lst {a : Addr} {xs : List V} {ds : List D} : F a = some (.lst xs) → RepL θ F ds xs → Rep θ F (.lst ds) (.ref a)
  | tup {a : Addr} {xs : List V} {ds : List D} : F a = some (.tup xs) → RepL θ F ds xs → Rep θ F (.tup ds) (.ref a)
  | dK {a : Addr} {ks : List Key} {xs : List V} {ds : List D} : F a = some (.dK (ks.zip xs)) → ks.length = ds.length → RepL θ F ds xs → Rep θ F (.dK ks ds) (.ref a)
  | dT {a : Addr} {ks : List (List Key)} {xs : List V} {ds : List D} : F a = some (.dT (ks.zip xs)) → ks.length = ds.length → RepL θ F ds xs → Rep θ F (.dT ks ds) (.ref a)
  | obj {a dx : Addr} {c : Nat} {xs : List V} {ds : List D} : F a = some (.ins (θ.C c) dx ((θ.fld c).zip xs)) → (θ.fld c).length = ds.length → RepL θ F ds xs → Rep θ F (.obj c ds) (.ref a)
  | frl {a : Addr} {ns : List Int} : SqL θ.K F a (ns.map V.int) → Rep θ F (.frl ns) (.ref a)
inductive RepL (θ : Th) (F : Hp) : List D → List V → Prop
  | nil : RepL θ F [] []
  | cons {d : D} {v : V} {ds : List D} {vs : List V} : Rep θ F d v → RepL θ F ds vs → RepL θ F (d :: ds) (v :: vs)
end
/-- the root of an object that is not in the frozen part -/
inductive Root (θ : Th) (F : Hp) : D → HO → Prop
  | lst {xs : List V} {ds : List D} : RepL θ F ds xs → Root θ F (.lst ds) (.lst xs)
  | dK {ks : List Key} {xs : List V} {ds : List D} : ks.length = ds.length → RepL θ F ds xs → Root θ F (.dK ks ds) (.dK (ks.zip xs))
  | dT {ks : List (List Key)} {xs : List V} {ds : List D} : ks.length = ds.length → RepL θ F ds xs → Root θ F (.dT ks ds) (.dT (ks.zip xs))
  /-- an instance, its first fields stored -/
  | obj {c : Nat} {dx : Addr} {xs : List V} {ds : List D} : ds.length ≤ (θ.fld c).length → RepL θ F ds xs → Root θ F (.obj c ds) (.ins (θ.C c) dx (((θ.fld c).take ds.length).zip xs))
/-- all fields are there -/
def Full (θ : Th) : D → Prop
  | .obj c ds => ds.length = (θ.fld c).length
  | _ => True
section
variable {θ : Th} {F F' H H' : Hp}
theorem RepL.length : ∀ {ds : List D} {xs : List V}, RepL θ F ds xs → xs.length = ds.length
  | [], _, h => by cases h; rfl
  | d :: ds, _, h => by
    cases h with
    | cons a b => simp [RepL.length b]
mutual
theorem Rep.mono (e : Same F F') : ∀ {d : D} {v : V}, Rep θ F d v → Rep θ F' d v
  | _, _, .non => .non
  | _, _, .bl b => .bl b
  | _, _, .int b => .int b
  | _, _, .str b => .str b
  | _, _, .lst h r => .lst (e _ _ h) (RepL.mono e r)
  | _, _, .tup h r => .tup (e _ _ h) (RepL.mono e r)
  | _, _, .dK h l r => .dK (e _ _ h) l (RepL.mono e r)
  | _, _, .dT h l r => .dT (e _ _ h) l (RepL.mono e r)
  | _, _, .obj h l r => .obj (e _ _ h) l (RepL.mono e r)
  | _, _, .frl h => .frl (e.seq h)
theorem RepL.mono (e : Same F F') : ∀ {ds : List D} {vs : List V}, RepL θ F ds vs → RepL θ F' ds vs
  | _, _, .nil => .nil
  | _, _, .cons h r => .cons (Rep.mono e h) (RepL.mono e r)
end
theorem Root.mono (e : Same F F') {d : D} {o : HO} : Root θ F d o → Root θ F' d o
  | .lst r => .lst (r.mono e)
  | .dK l r => .dK l (r.mono e)
  | .dT l r => .dT l (r.mono e)
  | .obj l r => .obj l (r.mono e)
theorem RepL.append : ∀ {ds es : List D} {xs ys : List V}, RepL θ F ds xs → RepL θ F es ys → RepL θ F (ds ++ es) (xs ++ ys)
  | _, _, _, _, .nil, s => s
  | _, _, _, _, .cons r t, s => .cons r (RepL.append t s)
theorem RepL.get : ∀ {ds : List D} {xs : List V} {i : Nat} {d : D}, RepL θ F ds xs → ds[i]? = some d → ∃ v, xs[i]? = some v ∧ Rep θ F d v
  | _, _, _, _, .nil, e => by simp at e
  | _, _, 0, _, .cons r _, e => by
    simp at e
    subst e
    exact ⟨_, rfl, r⟩
  | _, _, i + 1, d, .cons _ t, e => by
    obtain ⟨u, h1, h2⟩ := RepL.get (i := i) (d := d) t (by simpa using e)
    exact ⟨u, by simpa using h1, h2⟩
theorem RepL.take : ∀ {ds : List D} {xs : List V} (n : Nat), RepL θ F ds xs → RepL θ F (ds.take n) (xs.take n)
  | _, _, 0, _ => .nil
  | _, _, _ + 1, .nil => .nil
  | _, _, n + 1, .cons r t => .cons r (RepL.take n t)
theorem RepL.drop : ∀ {ds : List D} {xs : List V} (n : Nat), RepL θ F ds xs → RepL θ F (ds.drop n) (xs.drop n)
  | _, _, 0, r => r
  | _, _, _ + 1, .nil => .nil
  | _, _, n + 1, .cons _ t => RepL.drop n t
theorem RepL.set : ∀ {ds : List D} {xs : List V} {d : D} {v : V} (n : Nat), RepL θ F ds xs → Rep θ F d v → RepL θ F (ds.set n d) (xs.set n v)
  | _, _, _, _, _, .nil, _ => .nil
  | _, _, _, _, 0, .cons _ t, q => .cons q t
  | _, _, _, _, n + 1, .cons r t, q => .cons r (RepL.set n t q)
theorem RepL.ints : ∀ {ns : List Int} {xs : List V}, RepL θ F (ns.map D.int) xs → xs = ns.map V.int
  | [], _, h => by cases h; rfl
  | n :: ns, _, h => by
    cases h with
    | cons a b =>
      cases a
      rw [RepL.ints b]
      rfl
/-- flat values lean on no heap -/
theorem Rep.flat {d : D} {v : V} (h : G.flat d = true) (r : Rep θ F d v) : Rep θ F' d v := by
  cases r with
  | non => exact .non
  | bl b => exact .bl b
  | int b => exact .int b
  | str b => exact .str b
  | _ => cases h
/-- a root put into the frozen part -/
theorem Root.frozen {a : Addr} {o : HO} {d : D} (n : F a = none) (r : Root θ F d o) (fu : Full θ d) : Rep θ (upd F a o) d (.ref a) := by
  have e : Same F (upd F a o) := fun b u h => by rw [upd_ne (ne_of_none h n)]; exact h
  cases r with
  | lst r => exact .lst upd_same (r.mono e)
  | dK l r => exact .dK upd_same l (r.mono e)
  | dT l r => exact .dT upd_same l (r.mono e)
  | @obj c dx xs ds l r =>
    have fu : ds.length = (θ.fld c).length := fu
    have r2 := r.mono e
    rw [fu, List.take_length] at r2 ⊢
    exact .obj upd_same fu.symm r2
end
def IsDict : HO → Prop
  | .dK _ => True
  | .dT _ => True
  | _ => False
/-- F stands in H (a dict that a loop walks is locked there) -/
def Sub (F H : Hp) : Prop := ∀ a u, F a = some u → H a = some u ∨ (IsDict u ∧ ∃ o, H a = some (.frz o u))
/-- what an expression leaves: all as it was, F' further -/
structure Ext (F H F' H' : Hp) : Prop where
  sub : Sub F' H'
  ff : Same F F'
  hh : Same H H'
  nw : ∀ a u, F' a = some u → F a = some u ∨ H a = none ∨ ∃ xs, u = .tup xs
section
variable {θ : Th} {F F' F2 H H' H2 : Hp}
theorem Ext.refl (s : Sub F H) : Ext F H F H := ⟨s, .refl _, .refl _, fun _ _ h => .inl h⟩
theorem Ext.trans (a : Ext F H F' H') (b : Ext F' H' F2 H2) : Ext F H F2 H2 := by
  refine ⟨b.sub, a.ff.trans b.ff, a.hh.trans b.hh, fun c u h => ?_⟩
  rcases b.nw c u h with z | z | z
  · exact a.nw c u z
  · exact .inr (.inl (a.hh.free z))
  · exact .inr (.inr z)
/-- a new object laid, not frozen -/
theorem Sub.lay {a : Addr} {o : HO} (s : Sub F H) (n : H a = none) : Sub F (upd H a o) := fun b u h => by
  have nb : b ≠ a := fun e => by
    subst e
    rcases s b u h with z | ⟨_, _, z⟩ <;> (rw [n] at z; cases z)
  rw [upd_ne nb]
  exact s b u h
theorem Sub.tup0 {a : Addr} {xs : List V} (s : Sub F H) (h : F a = some (.tup xs)) : H a = some (.tup xs) := by
  rcases s _ _ h with z | ⟨z, _⟩
  · exact z
  · cases z
theorem Sub.free {a : Addr} (s : Sub F H) (n : H a = none) : F a = none := by
  cases q : F a with
  | none => rfl
  | some u => rcases s a u q with z | ⟨_, _, z⟩ <;> (rw [n] at z; cases z)
theorem Same.lay {a : Addr} {o : HO} (n : H a = none) : Same H (upd H a o) := fun b u h => by rw [upd_ne (ne_of_none h n)]; exact h
theorem Ext.lay {a : Addr} {o : HO} (s : Sub F H) (n : H a = none) : Ext F H F (upd H a o) := ⟨s.lay n, .refl _, Same.lay n, fun _ _ h => .inl h⟩
/-- .. and frozen -/
theorem Ext.freeze {a : Addr} {o : HO} (s : Sub F H) (h : H a = some o) (n : F a = none) (h0 : Hp) (k : Same h0 H) (n0 : h0 a = none) (F0 : Hp) (e : Ext F0 h0 F H) : Ext F0 h0 (upd F a o) H := by
  refine ⟨fun b u q => ?_, e.ff.trans (Same.lay n), e.hh, fun b u q => ?_⟩
  · by_cases hb : b = a
    · subst hb
      rw [upd_same] at q
      cases q
      exact .inl h
    · rw [upd_ne hb] at q
      exact s b u q
  · by_cases hb : b = a
    · subst hb
      exact .inr (.inl n0)
    · rw [upd_ne hb] at q
      exact e.nw b u q
/-- what of F is not in H -/
def onlyN (F H : Hp) : Hp := fun b => match H b with
  | none => F b
  | some _ => none
theorem onlyN_le {F H : Hp} : Same (onlyN F H) F := fun b u h => by
  unfold onlyN at h
  cases q : H b with
  | none => rw [q] at h; exact h
  | some w => rw [q] at h; cases h
theorem onlyN_at {F H : Hp} {a : Addr} {u : HO} (h : F a = some u) (n : H a = none) : onlyN F H a = some u := by
  unfold onlyN
  rw [n]
  exact h
theorem onlyN_mono {F F' H H' : Hp} (e : Same F F') (hn : ∀ b, H b = none → H' b = none) : Same (onlyN F H) (onlyN F' H') := fun b u h => by
  unfold onlyN at h ⊢
  cases q : H b with
  | none => rw [q] at h; rw [hn b q]; exact e b u h
  | some w => rw [q] at h; cases h
/-- an instance that is new is new through and through -/
def Nw (θ : Th) (F' H : Hp) (d : D) (o : HO) : Prop := notObj d = false → Root θ (onlyN F' H) d o
theorem Nw.mono {θ : Th} {F F' H H' : Hp} {d : D} {o : HO} (h : Nw θ F H d o) (e : Same F F') (hn : ∀ b, H b = none → H' b = none) : Nw θ F' H' d o := fun z => (h z).mono (onlyN_mono e hn)
theorem Nw.of {θ : Th} {F H : Hp} {d : D} {o : HO} (h : notObj d = true) : Nw θ F H d o := fun z => by rw [h] at z; cases z
theorem Full.of {θ : Th} {d : D} (h : notObj d = true) : Full θ d := by cases d <;> first | trivial | cases h
/-- a fresh root behind an expression -/
def FrV (θ : Th) (F' H H' : Hp) (d : D) (v : V) : Prop := Full θ d ∧ ∃ a o, v = .ref a ∧ H a = none ∧ H' a = some o ∧ F' a = none ∧ Root θ F' d o ∧ Nw θ F' H d o
theorem FrV.freeze {d : D} {v : V} (e : Ext F H F' H') (f : FrV θ F' H H' d v) : ∃ F2, Ext F H F2 H' ∧ Same F' F2 ∧ Rep θ F2 d v := by
  obtain ⟨fu, a, o, rfl, n, h, nf, r, _⟩ := f
  exact ⟨upd F' a o, Ext.freeze e.sub h nf H e.hh n F e, Same.lay nf, r.frozen nf fu⟩
end
mutual
/-- d lies at v as a tree whose objects at S are nobody else's; its leaves are frozen -/
inductive Tr (θ : Th) (B F H : Hp) : Sh → D → V → List Addr → Prop
  | lf {d : D} {v : V} : Rep θ F d v → Tr θ B F H .lf d v []
  | fl {k : Nat → Sh} {d : D} {v : V} : flat d = true → Rep θ F d v → Tr θ B F H (.nd k) d v []
  | lst {k : Nat → Sh} {a : Addr} {xs : List V} {ds : List D} {S : List Addr} : H a = some (.lst xs) → TrL θ B F H k 0 ds xs S → Tr θ B F H (.nd k) (.lst ds) (.ref a) (a :: S)
  | tup {k : Nat → Sh} {a : Addr} {xs : List V} {ds : List D} {S : List Addr} : H a = some (.tup xs) → True → TrL θ B F H k 0 ds xs S → Tr θ B F H (.nd k) (.tup ds) (.ref a) S
  | dK {k : Nat → Sh} {a : Addr} {ks : List Key} {xs : List V} {ds : List D} {S : List Addr} : H a = some (.dK (ks.zip xs)) → ks.length = ds.length → TrL θ B F H k 0 ds xs S → Tr θ B F H (.nd k) (.dK ks ds) (.ref a) (a :: S)
  | dT {k : Nat → Sh} {a : Addr} {ks : List (List Key)} {xs : List V} {ds : List D} {S : List Addr} : H a = some (.dT (ks.zip xs)) → ks.length = ds.length → TrL θ B F H k 0 ds xs S → Tr θ B F H (.nd k) (.dT ks ds) (.ref a) (a :: S)
  | obj {k : Nat → Sh} {a dx : Addr} {c : Nat} {xs : List V} {ds : List D} {S : List Addr} : H a = some (.ins (θ.C c) dx ((θ.fld c).zip xs)) → (θ.fld c).length = ds.length → TrL θ B F H k 0 ds xs S → Tr θ B F H (.nd k) (.obj c ds) (.ref a) (a :: S)
  /-- lent: at the address that the def was given -/
  | fll {k : Nat → Sh} {d : D} {v : V} : flat d = true → Rep θ F d v → Tr θ B F H (.ln k) d v []
  | f2l {k : Nat → Sh} {d : D} {v : V} : flat d = true → Rep θ F d v → Tr θ B F H (.l2 k) d v []
  | ln {k : Nat → Sh} {a : Addr} {d : D} {S : List Addr} : θ.xa = some a → Tr θ B F H (.nd k) d (.ref a) S → Tr θ B F H (.ln k) d (.ref a) S
  | l2 {k : Nat → Sh} {a : Addr} {d : D} {S : List Addr} : θ.xb = some a → Tr θ B F H (.nd k) d (.ref a) S → Tr θ B F H (.l2 k) d (.ref a) S
inductive TrL (θ : Th) (B F H : Hp) : (Nat → Sh) → Nat → List D → List V → List Addr → Prop
  | nil {k : Nat → Sh} {n : Nat} : TrL θ B F H k n [] [] []
  | cons {k : Nat → Sh} {n : Nat} {d : D} {v : V} {ds : List D} {vs : List V} {S1 S2 : List Addr} : Tr θ B F H (k n) d v S1 → TrL θ B F H k (n + 1) ds vs S2 → TrL θ B F H k n (d :: ds) (v :: vs) (S1 ++ S2)
end
section
variable {θ : Th} {B F F' H H' : Hp}
theorem TrL.length : ∀ {k : Nat → Sh} {n : Nat} {ds : List D} {vs : List V} {S : List Addr}, TrL θ B F H k n ds vs S → vs.length = ds.length
  | _, _, _, _, _, .nil => rfl
  | _, _, _, _, _, .cons _ t => by rw [List.length_cons, List.length_cons, TrL.length t]
mutual
theorem Tr.keep (ff : Same F F') (tp : ∀ b xs, H b = some (.tup xs) → H' b = some (.tup xs)) : ∀ {k : Sh} {d : D} {v : V} {S : List Addr}, (∀ b ∈ S, H' b = H b) → Tr θ B F H k d v S → Tr θ B F' H' k d v S
  | _, _, _, _, _, .lf r => .lf (r.mono ff)
  | _, _, _, _, _, .fl h r => .fl h (r.mono ff)
  | _, _, _, _, hk, .lst h t => .lst ((hk _ List.mem_cons_self).trans h) (TrL.keep ff tp (fun b hb => hk b (List.mem_cons_of_mem _ hb)) t)
  | _, _, _, _, hk, .tup h hb t => .tup (tp _ _ h) hb (TrL.keep ff tp hk t)
  | _, _, _, _, hk, .dK h l t => .dK ((hk _ List.mem_cons_self).trans h) l (TrL.keep ff tp (fun b hb => hk b (List.mem_cons_of_mem _ hb)) t)
  | _, _, _, _, hk, .dT h l t => .dT ((hk _ List.mem_cons_self).trans h) l (TrL.keep ff tp (fun b hb => hk b (List.mem_cons_of_mem _ hb)) t)
  | _, _, _, _, hk, .obj h l t => .obj ((hk _ List.mem_cons_self).trans h) l (TrL.keep ff tp (fun b hb => hk b (List.mem_cons_of_mem _ hb)) t)
  | _, _, _, _, _, .fll h r => .fll h (r.mono ff)
  | _, _, _, _, _, .f2l h r => .f2l h (r.mono ff)
  | _, _, _, _, hk, .ln h t => .ln h (Tr.keep ff tp hk t)
  | _, _, _, _, hk, .l2 h t => .l2 h (Tr.keep ff tp hk t)
theorem TrL.keep (ff : Same F F') (tp : ∀ b xs, H b = some (.tup xs) → H' b = some (.tup xs)) : ∀ {k : Nat → Sh} {n : Nat} {ds : List D} {vs : List V} {S : List Addr}, (∀ b ∈ S, H' b = H b) → TrL θ B F H k n ds vs S → TrL θ B F' H' k n ds vs S
  | _, _, _, _, _, _, .nil => .nil
  | _, _, _, _, _, hk, .cons h t => .cons (Tr.keep ff tp (fun b hb => hk b (List.mem_append_left _ hb)) h) (TrL.keep ff tp (fun b hb => hk b (List.mem_append_right _ hb)) t)
end
mutual
theorem Tr.some : ∀ {k : Sh} {d : D} {v : V} {S : List Addr}, Tr θ B F H k d v S → ∀ b ∈ S, ∃ o, H b = some o ∧ ∀ xs, o ≠ .tup xs
  | _, _, _, _, .lf r, b, hb => by cases hb
  | _, _, _, _, .fl h r, b, hb => by cases hb
  | _, _, _, _, .lst h t, b, hb => by
    rcases List.mem_cons.mp hb with rfl | hb
    · exact ⟨_, h, fun _ z => by cases z⟩
    · exact TrL.some t b hb
  | _, _, _, _, .tup h hB t, b, hb => TrL.some t b hb
  | _, _, _, _, .dK h l t, b, hb => by
    rcases List.mem_cons.mp hb with rfl | hb
    · exact ⟨_, h, fun _ z => by cases z⟩
    · exact TrL.some t b hb
  | _, _, _, _, .dT h l t, b, hb => by
    rcases List.mem_cons.mp hb with rfl | hb
    · exact ⟨_, h, fun _ z => by cases z⟩
    · exact TrL.some t b hb
  | _, _, _, _, .obj h l t, b, hb => by
    rcases List.mem_cons.mp hb with rfl | hb
    · exact ⟨_, h, fun _ z => by cases z⟩
    · exact TrL.some t b hb
  | _, _, _, _, .fll h r, b, hb => by cases hb
  | _, _, _, _, .f2l h r, b, hb => by cases hb
  | _, _, _, _, .ln h t, b, hb => Tr.some t b hb
  | _, _, _, _, .l2 h t, b, hb => Tr.some t b hb
theorem TrL.some : ∀ {k : Nat → Sh} {n : Nat} {ds : List D} {vs : List V} {S : List Addr}, TrL θ B F H k n ds vs S → ∀ b ∈ S, ∃ o, H b = some o ∧ ∀ xs, o ≠ .tup xs
  | _, _, _, _, _, .nil, b, hb => by cases hb
  | _, _, _, _, _, .cons h t, b, hb => (List.mem_append.mp hb).elim (Tr.some h b) (TrL.some t b)
end
mutual
theorem Tr.nofrz : ∀ {k : Sh} {d : D} {v : V} {S : List Addr}, Tr θ B F H k d v S → ∀ b ∈ S, ∀ o w, H b ≠ Option.some (.frz o w)
  | _, _, _, _, .lf r, b, hb => by cases hb
  | _, _, _, _, .fl h r, b, hb => by cases hb
  | _, _, _, _, .lst h t, b, hb => by
    rcases List.mem_cons.mp hb with rfl | hb
    · rw [h]; intro _ _ z; cases z
    · exact TrL.nofrz t b hb
  | _, _, _, _, .tup h hB t, b, hb => TrL.nofrz t b hb
  | _, _, _, _, .dK h l t, b, hb => by
    rcases List.mem_cons.mp hb with rfl | hb
    · rw [h]; intro _ _ z; cases z
    · exact TrL.nofrz t b hb
  | _, _, _, _, .dT h l t, b, hb => by
    rcases List.mem_cons.mp hb with rfl | hb
    · rw [h]; intro _ _ z; cases z
    · exact TrL.nofrz t b hb
  | _, _, _, _, .obj h l t, b, hb => by
    rcases List.mem_cons.mp hb with rfl | hb
    · rw [h]; intro _ _ z; cases z
    · exact TrL.nofrz t b hb
  | _, _, _, _, .fll h r, b, hb => by cases hb
  | _, _, _, _, .f2l h r, b, hb => by cases hb
  | _, _, _, _, .ln h t, b, hb => Tr.nofrz t b hb
  | _, _, _, _, .l2 h t, b, hb => Tr.nofrz t b hb
theorem TrL.nofrz : ∀ {k : Nat → Sh} {n : Nat} {ds : List D} {vs : List V} {S : List Addr}, TrL θ B F H k n ds vs S → ∀ b ∈ S, ∀ o w, H b ≠ Option.some (.frz o w)
  | _, _, _, _, _, .nil, b, hb => by cases hb
  | _, _, _, _, _, .cons h t, b, hb => (List.mem_append.mp hb).elim (Tr.nofrz h b) (TrL.nofrz t b)
end
theorem zip_inj {α : Type} : ∀ {ks : List α} {xs ys : List V}, ks.length = xs.length → ks.length = ys.length → ks.zip xs = ks.zip ys → xs = ys
  | [], [], [], _, _, _ => rfl
  | [], _ :: _, _, h, _, _ => by cases h
  | [], [], _ :: _, _, h, _ => by cases h
  | _ :: _, [], _, h, _, _ => by cases h
  | _ :: _, _ :: _, [], _, h, _ => by cases h
  | k :: ks, x :: xs, y :: ys, h1, h2, h => by
    rw [List.zip_cons_cons, List.zip_cons_cons] at h
    injection h with h3 h4
    injection h3 with _ h5
    rw [h5, zip_inj (by simpa using h1) (by simpa using h2) h4]
mutual
/-- where the objects of a tree lie is not open -/
theorem Tr.det : ∀ {k : Sh} {d : D} {v : V} {S S' : List Addr}, Tr θ B F H k d v S → Tr θ B F H k d v S' → S = S'
  | _, _, _, _, _, .lf _, g => by cases g; rfl
  | _, _, _, _, _, .fl h _, g => by
    cases g with
    | fl _ _ => rfl
    | lst _ _ => cases h
    | tup _ _ _ => cases h
    | dK _ _ _ => cases h
    | dT _ _ _ => cases h
    | obj _ _ _ => cases h
  | _, _, _, _, _, .lst h t, g => by
    cases g with
    | fl z _ => cases z
    | lst h2 t2 =>
      rw [h] at h2
      cases h2
      rw [TrL.det t t2]
  | _, _, _, _, _, .tup h hB t, g => by
    cases g with
    | fl z _ => cases z
    | tup h2 _ t2 =>
      rw [h] at h2
      cases h2
      exact TrL.det t t2
  | _, _, _, _, _, .dK h l t, g => by
    cases g with
    | fl z _ => cases z
    | dK h2 l2 t2 =>
      rw [h] at h2
      injection h2 with h2
      injection h2 with h2
      have e := zip_inj (by rw [t.length]; exact l) (by rw [t2.length]; exact l) h2
      subst e
      rw [TrL.det t t2]
  | _, _, _, _, _, .dT h l t, g => by
    cases g with
    | fl z _ => cases z
    | dT h2 l2 t2 =>
      rw [h] at h2
      injection h2 with h2
      injection h2 with h2
      have e := zip_inj (by rw [t.length]; exact l) (by rw [t2.length]; exact l) h2
      subst e
      rw [TrL.det t t2]
  | _, _, _, _, _, .obj h l t, g => by
    cases g with
    | fl z _ => cases z
    | obj h2 l2 t2 =>
      rw [h] at h2
      injection h2 with h2
      injection h2 with _ _ h2
      have e := zip_inj (by rw [t.length]; exact l) (by rw [t2.length]; exact l) h2
      subst e
      rw [TrL.det t t2]
  | _, _, _, _, _, .fll h r, g => by
    cases g with
    | fll _ _ => rfl
    | ln h2 t2 =>
      cases r with
      | lst _ _ => cases h
      | tup _ _ => cases h
      | dK _ _ _ => cases h
      | dT _ _ _ => cases h
      | obj _ _ _ => cases h
      | frl _ => cases h
  | _, _, _, _, _, .ln h t, g => by
    cases g with
    | fll h2 r =>
      cases r with
      | lst _ _ => cases h2
      | tup _ _ => cases h2
      | dK _ _ _ => cases h2
      | dT _ _ _ => cases h2
      | obj _ _ _ => cases h2
      | frl _ => cases h2
    | ln h2 t2 => exact Tr.det t t2
  | _, _, _, _, _, .f2l h r, g => by
    cases g with
    | f2l _ _ => rfl
    | l2 h2 t2 =>
      cases r with
      | lst _ _ => cases h
      | tup _ _ => cases h
      | dK _ _ _ => cases h
      | dT _ _ _ => cases h
      | obj _ _ _ => cases h
      | frl _ => cases h
  | _, _, _, _, _, .l2 h t, g => by
    cases g with
    | f2l h2 r =>
      cases r with
      | lst _ _ => cases h2
      | tup _ _ => cases h2
      | dK _ _ _ => cases h2
      | dT _ _ _ => cases h2
      | obj _ _ _ => cases h2
      | frl _ => cases h2
    | l2 h2 t2 => exact Tr.det t t2
theorem TrL.det : ∀ {k : Nat → Sh} {n : Nat} {ds : List D} {vs : List V} {S S' : List Addr}, TrL θ B F H k n ds vs S → TrL θ B F H k n ds vs S' → S = S'
  | _, _, _, _, _, _, .nil, g => by cases g; rfl
  | _, _, _, _, _, _, .cons h t, g => by
    cases g with
    | cons h2 t2 => rw [Tr.det h h2, TrL.det t t2]
end
end
/-- the slot's own is one object -/
def Owner (ρ : Sl) (j : Nat) : Prop := (∃ d, ρ[j]? = some (.ow d)) ∨ ∃ k ds, ρ[j]? = some (.me k ds)
/-- the own trees: at Z i that of slot i -/
def PvAll (θ : Th) (B F H : Hp) (σ : St) (ρ : Sl) (Z : Nat → List Addr) : Prop := ∀ (i : Nat) (k : Sh) (d : D), ρ[i]? = some (.pv k d) →
  (∃ v, σ[i]? = some (some v) ∧ Tr θ B F H k d v (Z i)) ∧ (Z i).Nodup ∧ (∀ b ∈ Z i, F b = none ∧ B b = none) ∧ (∀ (j : Nat) (b : Addr), Owner ρ j → σ[j]? = some (some (.ref b)) → b ∉ Z i) ∧
  ∀ (j : Nat) (k' : Sh) (d' : D), j ≠ i → ρ[j]? = some (.pv k' d') → ∀ z ∈ Z j, z ∉ Z i
theorem PvAll.step {θ : Th} {B F F' H H' : Hp} {σ σ' : St} {ρ ρ' : Sl} {Z : Nat → List Addr} (h : PvAll θ B F H σ ρ Z) (ff : Same F F') (tp : ∀ b xs, H b = some (.tup xs) → H' b = some (.tup xs))
    (st : ∀ (i : Nat) (k : Sh) (d : D), ρ'[i]? = some (.pv k d) → ρ[i]? = some (.pv k d) ∧ σ'[i]? = σ[i]? ∧ ∀ b ∈ Z i, H' b = H b ∧ F' b = none)
    (ow : ∀ (i : Nat) (k : Sh) (d : D) (j : Nat) (b : Addr), ρ'[i]? = some (.pv k d) → Owner ρ' j → σ'[j]? = some (some (.ref b)) → b ∉ Z i) : PvAll θ B F' H' σ' ρ' Z := fun i k d hi => by
  obtain ⟨g1, g2, g3⟩ := st i k d hi
  obtain ⟨⟨v, h1, h2⟩, h3, h4, h5, h6⟩ := h i k d g1
  refine ⟨⟨v, by rw [g2]; exact h1, h2.keep ff tp fun b hb => (g3 b hb).1⟩, h3, fun b hb => ⟨(g3 b hb).2, (h4 b hb).2⟩, fun j b ho hs => ow i k d j b hi ho hs, fun j k' d' hj hp => h6 j k' d' hj (st j k' d' hp).1⟩
/-- no own trees -/
theorem PvAll.empty {θ : Th} {B F H : Hp} {σ : St} {ρ : Sl} (h : ∀ (i : Nat) (k : Sh) (d : D), ρ[i]? ≠ some (.pv k d)) : PvAll θ B F H σ ρ fun _ => [] := fun i k d hi => absurd hi (h i k d)
/-- a new tree behind an expression -/
def TrV (θ : Th) (F' H H' : Hp) (n : Nat) (d : D) (v : V) : Prop := ∃ S, Tr θ H F' H' (shn n) d v S ∧ S.Nodup ∧ ∀ b ∈ S, H b = none ∧ F' b = none
section
variable {θ : Th} {B B' F F' H H' : Hp}
mutual
theorem Tr.base (hn : ∀ b, B b = none → B' b = none) : ∀ {k : Sh} {d : D} {v : V} {S : List Addr}, Tr θ B F H k d v S → Tr θ B' F H k d v S
  | _, _, _, _, .lf r => .lf r
  | _, _, _, _, .fl h r => .fl h r
  | _, _, _, _, .lst h t => .lst h (TrL.base hn t)
  | _, _, _, _, .tup h hb t => .tup h hb (TrL.base hn t)
  | _, _, _, _, .dK h l t => .dK h l (TrL.base hn t)
  | _, _, _, _, .dT h l t => .dT h l (TrL.base hn t)
  | _, _, _, _, .obj h l t => .obj h l (TrL.base hn t)
  | _, _, _, _, .fll h r => .fll h r
  | _, _, _, _, .f2l h r => .f2l h r
  | _, _, _, _, .ln h t => .ln h (Tr.base hn t)
  | _, _, _, _, .l2 h t => .l2 h (Tr.base hn t)
theorem TrL.base (hn : ∀ b, B b = none → B' b = none) : ∀ {k : Nat → Sh} {n : Nat} {ds : List D} {vs : List V} {S : List Addr}, TrL θ B F H k n ds vs S → TrL θ B' F H k n ds vs S
  | _, _, _, _, _, .nil => .nil
  | _, _, _, _, _, .cons h t => .cons (Tr.base hn h) (TrL.base hn t)
end
end
section
variable {θ : Th} {F0 B F F' H H' : Hp}
mutual
theorem frz_tr : ∀ {k : Sh} {d : D} {v : V} {S : List Addr}, Tr θ B F H k d v S → ∃ N : List Addr, (∀ b ∈ N, b ∈ S ∨ (True ∧ ∃ xs, H b = some (.tup xs))) ∧ ∀ F', Same F F' → (∀ b ∈ N, ∀ u, H b = some u → F' b = some u) → Rep θ F' d v
  | _, _, _, _, .lf r => ⟨[], (fun _ h => by cases h), fun _ e _ => r.mono e⟩
  | _, _, _, _, .fl _ r => ⟨[], (fun _ h => by cases h), fun _ e _ => r.mono e⟩
  | _, _, _, _, .lst (a := a) h t => by
    obtain ⟨N, h1, h2⟩ := frz_trl t
    refine ⟨a :: N, fun b hb => ?_, fun F' e hN => .lst (hN a List.mem_cons_self _ h) (h2 F' e fun b hb => hN b (List.mem_cons_of_mem _ hb))⟩
    rcases List.mem_cons.mp hb with rfl | hb
    · exact .inl List.mem_cons_self
    · exact (h1 b hb).imp (List.mem_cons_of_mem _) id
  | _, _, _, _, .tup (a := a) h hB t => by
    obtain ⟨N, h1, h2⟩ := frz_trl t
    refine ⟨a :: N, fun b hb => ?_, fun F' e hN => .tup (hN a List.mem_cons_self _ h) (h2 F' e fun b hb => hN b (List.mem_cons_of_mem _ hb))⟩
    rcases List.mem_cons.mp hb with rfl | hb
    · exact .inr ⟨hB, _, h⟩
    · exact h1 b hb
  | _, _, _, _, .dK (a := a) h l t => by
    obtain ⟨N, h1, h2⟩ := frz_trl t
    refine ⟨a :: N, fun b hb => ?_, fun F' e hN => .dK (hN a List.mem_cons_self _ h) l (h2 F' e fun b hb => hN b (List.mem_cons_of_mem _ hb))⟩
    rcases List.mem_cons.mp hb with rfl | hb
    · exact .inl List.mem_cons_self
    · exact (h1 b hb).imp (List.mem_cons_of_mem _) id
  | _, _, _, _, .dT (a := a) h l t => by
    obtain ⟨N, h1, h2⟩ := frz_trl t
    refine ⟨a :: N, fun b hb => ?_, fun F' e hN => .dT (hN a List.mem_cons_self _ h) l (h2 F' e fun b hb => hN b (List.mem_cons_of_mem _ hb))⟩
    rcases List.mem_cons.mp hb with rfl | hb
    · exact .inl List.mem_cons_self
    · exact (h1 b hb).imp (List.mem_cons_of_mem _) id
  | _, _, _, _, .obj (a := a) h l t => by
    obtain ⟨N, h1, h2⟩ := frz_trl t
    refine ⟨a :: N, fun b hb => ?_, fun F' e hN => .obj (hN a List.mem_cons_self _ h) l (h2 F' e fun b hb => hN b (List.mem_cons_of_mem _ hb))⟩
    rcases List.mem_cons.mp hb with rfl | hb
    · exact .inl List.mem_cons_self
    · exact (h1 b hb).imp (List.mem_cons_of_mem _) id
  | _, _, _, _, .fll _ r => ⟨[], (fun _ h => by cases h), fun _ e _ => r.mono e⟩
  | _, _, _, _, .f2l _ r => ⟨[], (fun _ h => by cases h), fun _ e _ => r.mono e⟩
  | _, _, _, _, .ln h t => frz_tr t
  | _, _, _, _, .l2 h t => frz_tr t
theorem frz_trl : ∀ {k : Nat → Sh} {n : Nat} {ds : List D} {vs : List V} {S : List Addr}, TrL θ B F H k n ds vs S → ∃ N : List Addr, (∀ b ∈ N, b ∈ S ∨ (True ∧ ∃ xs, H b = some (.tup xs))) ∧ ∀ F', Same F F' → (∀ b ∈ N, ∀ u, H b = some u → F' b = some u) → RepL θ F' ds vs
  | _, _, _, _, _, .nil => ⟨[], (fun _ h => by cases h), fun _ _ _ => .nil⟩
  | _, _, _, _, _, .cons h t => by
    obtain ⟨N, h1, h2⟩ := frz_tr h
    obtain ⟨M, g1, g2⟩ := frz_trl t
    refine ⟨N ++ M, fun b hb => ?_, fun F' e hN => .cons (h2 F' e fun b hb => hN b (List.mem_append_left _ hb)) (g2 F' e fun b hb => hN b (List.mem_append_right _ hb))⟩
    rcases List.mem_append.mp hb with hb | hb
    · exact (h1 b hb).imp (List.mem_append_left _) id
    · exact (g1 b hb).imp (List.mem_append_right _) id
end
open Classical in
/-- F with the objects at N -/
noncomputable def addN (F H : Hp) (N : List Addr) : Hp := fun b => match F b with
  | some u => some u
  | none => if b ∈ N then H b else none
theorem addN_same {N : List Addr} : Same F (addN F H N) := fun b u h => by
  unfold addN
  rw [h]
theorem addN_some {N : List Addr} {b : Addr} {u : HO} (h : addN F H N b = some u) : F b = some u ∨ (F b = none ∧ b ∈ N ∧ H b = some u) := by
  unfold addN at h
  cases q : F b with
  | some w => rw [q] at h; exact .inl h
  | none =>
    rw [q] at h
    dsimp only at h
    by_cases m : b ∈ N
    · rw [if_pos m] at h
      exact .inr ⟨rfl, m, h⟩
    · rw [if_neg m] at h
      cases h
theorem addN_at {N : List Addr} {b : Addr} {u : HO} (s : Sub F H) (m : b ∈ N) (hu : H b = some u) (hd : ∀ o w, u ≠ .frz o w) : addN F H N b = some u := by
  unfold addN
  cases q : F b with
  | some w =>
    rcases s b w q with z | ⟨_, o, z⟩
    · rw [hu] at z; exact z.symm
    · rw [hu] at z; cases z; exact absurd rfl (hd _ _)
  | none =>
    dsimp only
    rw [if_pos m]
    exact hu
theorem TrV.freeze {n : Nat} {d : D} {v : V} (e : Ext F H F' H') (f : TrV θ F' H H' n d v) : ∃ F2, Ext F H F2 H' ∧ Same F' F2 ∧ Rep θ F2 d v := by
  obtain ⟨S, t, nd, fr⟩ := f
  obtain ⟨N, hN, rep⟩ := frz_tr t
  refine ⟨addN F' H' N, ⟨fun b u h => ?_, e.ff.trans addN_same, e.hh, fun b u h => ?_⟩, addN_same, rep _ addN_same fun b hb u hu => addN_at e.sub hb hu fun o w z => ?_⟩
  · rcases addN_some h with z | ⟨_, _, z⟩
    · exact e.sub b u z
    · exact .inl z
  · rcases addN_some h with z | ⟨_, z, hz⟩
    · exact e.nw b u z
    · rcases hN b z with g | ⟨_, xs, g⟩
      · exact .inr (.inl (fr b g).1)
      · rw [g] at hz
        exact .inr (.inr ⟨xs, (Option.some.inj hz).symm⟩)
  · subst z
    rcases hN b hb with g | ⟨_, xs, g⟩
    · exact t.nofrz b g o w hu
    · rw [hu] at g; cases g
end
/-- F0, B: the frozen part and the heap at the def's entry; L: the dicts that its loops have locked -/
structure Rel (θ : Th) (F0 B : Hp) (L : List Addr) (F H : Hp) (σ : St) (ρ : Sl) : Prop where
  sub : Sub F H
  kp : ∀ a u, B a = some u → H a = some u ∨ (a ∈ L ∧ IsDict u ∧ ∃ o, H a = some (.frz o u))
  f0 : Same F0 F
  fn : ∀ a u, F a = some u → F0 a = some u ∨ B a = none ∨ ∃ xs, u = .tup xs
  len : σ.length = ρ.length
  va : ∀ (i : Nat) (d : D), ρ[i]? = some (.va d) → ∃ v, σ[i]? = some (some v) ∧ Rep θ F d v
  ow : ∀ (i : Nat) (d : D), ρ[i]? = some (.ow d) → ∃ a o, σ[i]? = some (some (.ref a)) ∧ H a = some o ∧ F a = none ∧ B a = none ∧ Root θ F d o
  fu : ∀ (i : Nat) (d : D), ρ[i]? = some (.ow d) → notObj d = true
  dj : ∀ (i j : Nat) (d e : D) (a : Addr), i ≠ j → ρ[i]? = some (.ow d) → ρ[j]? = some (.ow e) → σ[i]? = some (some (.ref a)) → σ[j]? ≠ some (some (.ref a))
  /-- an instance that is being made -/
  me : ∀ (i k : Nat) (ds : List D), ρ[i]? = some (.me k ds) → (∃ a o, σ[i]? = some (some (.ref a)) ∧ H a = some o ∧ F a = none ∧ B a = none ∧ Root θ (onlyN F B) (.obj k ds) o ∧ a ∈ L ∧ ∀ (j : Nat) (d : D), ρ[j]? = some (.ow d) → σ[j]? ≠ some (some (.ref a))) ∧
    ∀ (j k' : Nat) (ds' : List D), j ≠ i → ρ[j]? ≠ some (.me k' ds')
  /-- the handled exception -/
  xc : ∀ i : Nat, ρ[i]? = some .xc → ∃ a, L.head? = some a ∧ σ[i]? = some (some (.ref a))
  /-- the own trees -/
  pv : ∃ Z, PvAll θ B F H σ ρ Z
section
variable {θ : Th} {F0 B F F' H H' : Hp} {L : List Addr} {σ : St} {ρ : Sl}
theorem PvAll.ext {Z : Nat → List Addr} (hZ : PvAll θ B F H σ ρ Z) (e : Ext F H F' H') : PvAll θ B F' H' σ ρ Z :=
  hZ.step e.ff (fun b xs h => e.hh _ _ h) (fun i k d h => ⟨h, rfl, fun b hb => by
    obtain ⟨⟨v, _, t⟩, _, f, _⟩ := hZ i k d h
    obtain ⟨o, ho, hnt⟩ := t.some b hb
    refine ⟨by rw [e.hh _ _ ho, ho], ?_⟩
    cases q : F' b with
    | none => rfl
    | some u =>
      rcases e.nw b u q with z | z | ⟨xs, z⟩
      · rw [(f b hb).1] at z; cases z
      · rw [ho] at z; cases z
      · subst z
        have := Sub.tup0 e.sub q
        rw [e.hh _ _ ho] at this
        exact absurd (Option.some.inj this) (hnt xs)⟩) fun i k d j b h ho hs => (hZ i k d h).2.2.2.1 j b ho hs
theorem Root.noTup {θ : Th} {F : Hp} {d : D} {o : HO} (r : Root θ F d o) : ∀ xs, o ≠ .tup xs := by
  cases r <;> (intro _ z; cases z)
theorem Rel.ext (R : Rel θ F0 B L F H σ ρ) (e : Ext F H F' H') : Rel θ F0 B L F' H' σ ρ := by
  have own : ∀ {a : Addr} {o : HO}, (∀ xs, o ≠ .tup xs) → H a = some o → F a = none → F' a = none := fun {a o} hnt h2 h3 => by
    cases q : F' a with
    | none => rfl
    | some u =>
      rcases e.nw a u q with z | z | ⟨xs, z⟩
      · rw [h3] at z; cases z
      · rw [h2] at z; cases z
      · subst z
        have := Sub.tup0 e.sub q
        rw [e.hh _ _ h2] at this
        exact absurd (Option.some.inj this) (hnt xs)
  refine ⟨e.sub, fun a u h => ?_, R.f0.trans e.ff, fun a u h => ?_, R.len, fun i d h => ?_, fun i d h => ?_, R.fu, R.dj, fun i k ds h => ?_, R.xc, ?_⟩
  rotate_right
  · obtain ⟨Z, hZ⟩ := R.pv
    exact ⟨Z, hZ.ext e⟩
  · rcases R.kp a u h with z | ⟨z1, z2, o, z⟩
    · exact .inl (e.hh _ _ z)
    · exact .inr ⟨z1, z2, o, e.hh _ _ z⟩
  · rcases e.nw a u h with z | z | z
    · exact R.fn a u z
    rotate_left
    · exact .inr (.inr z)
    · refine .inr (.inl ?_)
      cases q : B a with
      | none => rfl
      | some o => rcases R.kp a o q with y | ⟨_, _, _, y⟩ <;> (rw [z] at y; cases y)
  · obtain ⟨v, h1, h2⟩ := R.va i d h
    exact ⟨v, h1, h2.mono e.ff⟩
  · obtain ⟨a, o, h1, h2, h3, h4, h5⟩ := R.ow i d h
    exact ⟨a, o, h1, e.hh _ _ h2, own h5.noTup h2 h3, h4, h5.mono e.ff⟩
  · obtain ⟨⟨a, o, h1, h2, h3, h4, h5, h6⟩, h7⟩ := R.me i k ds h
    exact ⟨⟨a, o, h1, e.hh _ _ h2, own h5.noTup h2 h3, h4, h5.mono (onlyN_mono e.ff fun _ z => z), h6⟩, h7⟩
end
/-- own trees lie where they lay -/
theorem Rel.pvOld {θ : Th} {F0 B F F1 H H1 : Hp} {L : List Addr} {σ : St} {ρ : Sl} (R : Rel θ F0 B L F H σ ρ) (e : Ext F H F1 H1) {Z : Nat → List Addr} (hZ : PvAll θ B F1 H1 σ ρ Z) {j : Nat} {k : Sh} {d : D} (hp : ρ[j]? = some (.pv k d)) {b : Addr} (hb : b ∈ Z j) : ∃ o, H b = some o := by
  obtain ⟨Z0, h0⟩ := R.pv
  obtain ⟨⟨v, h1, t⟩, _⟩ := h0 j k d hp
  obtain ⟨⟨v1, g1, t1⟩, _⟩ := (h0.ext e) j k d hp
  obtain ⟨⟨v2, g2, t2⟩, _⟩ := hZ j k d hp
  rw [g1] at g2
  cases g2
  rw [← t1.det t2] at hb
  obtain ⟨o, ho, _⟩ := t.some b hb
  exact ⟨o, ho⟩
/-- the value that an expression gives, by its kind -/
def Val (θ : Th) (F' H H' : Hp) (σ : St) (ρ : Sl) (d : D) (k : Kd) (v : V) : Prop := match k with
  | .sh => Rep θ F' d v
  | .fr => FrV θ F' H H' d v
  | .at i => σ[i]? = some (some v) ∧ ρ[i]? = some (.ow d)
  | .tr n => TrV θ F' H H' n d v
/-- how an exception's value lies: its class, its dict -/
def ExV (θ : Th) (c : Nat) (fs : List D) (cls : Value) (dd : Option Addr) (F' H' : Hp) : Prop := cls = .ref (θ.C c) ∧ match fs with
  | [] => dd = none
  | _ => ∃ dx xs, dd = some dx ∧ F' dx = some (.xd ((θ.fld c).zip xs)) ∧ (θ.fld c).length = fs.length ∧ RepL θ F' fs xs
/-- the fixed part of a def's readings -/
structure Cn where
  θ : Th
  F0 : Hp
  B : Hp
/-- «f gives it»: Q of the value, W of the exception -/
def tEv (c : Cn) (L : List Addr) (W : WX) (f : ES) : TE := fun σ H Q => ∃ F ρ, Rel c.θ c.F0 c.B L F H σ ρ ∧ match f ρ with
  | .ok (d, k) => ∀ v F' H', Ext F H F' H' → Val c.θ F' H H' σ ρ d k v → Q v H'
  | .ex n fs => ∀ cls dd F' H', Ext F H F' H' → ExV c.θ n fs cls dd F' H' → W cls dd σ H'
  | .no => False
/-- what may be read of a value whose kind is any: the value itself, or its root -/
def Rd1 (θ : Th) (F H : Hp) (d : D) (v : V) : Prop := Rep θ F d v ∨ ∃ a o, v = .ref a ∧ H a = some o ∧ Root θ F d o
end G
namespace G
open PySem PySem.Spec L2
/-- what is asked of an outcome -/
def Res (c : Cn) (W : WX) (σ : L2.St) (ρ : Sl) (F H : Hp) (Q : VK) : Out (D × Kd) → Prop
  | .ok (d, k) => ∀ v F' H', Ext F H F' H' → Val c.θ F' H H' σ ρ d k v → Q v H'
  | .ex n fs => ∀ cls dd F' H', Ext F H F' H' → ExV c.θ n fs cls dd F' H' → W cls dd σ H'
  | .no => False
section
variable {c : Cn} {L : List Addr} {W : WX} {σ : L2.St} {ρ : Sl} {F F1 F2 H H1 H2 : Hp} {Q : VK} {f g : ES} {P : V → Hp → Prop}
theorem tEv_of (R : Rel c.θ c.F0 c.B L F H σ ρ) (h : Res c W σ ρ F H Q (f ρ)) : tEv c L W f σ H Q := by
  refine ⟨F, ρ, R, ?_⟩
  revert h
  cases f ρ with
  | ok x => obtain ⟨d, k⟩ := x; exact id
  | ex n fs => exact id
  | no => exact id
theorem of_tEv (h : tEv c L W f σ H Q) : ∃ F ρ, Rel c.θ c.F0 c.B L F H σ ρ ∧ Res c W σ ρ F H Q (f ρ) := by
  obtain ⟨F, ρ, R, h⟩ := h
  refine ⟨F, ρ, R, ?_⟩
  revert h
  cases f ρ with
  | ok x => obtain ⟨d, k⟩ := x; exact id
  | ex n fs => exact id
  | no => exact id
theorem FrV.back {θ : Th} {d : D} {v : V} (e : Ext F H F1 H1) (f : FrV θ F2 H1 H2 d v) : FrV θ F2 H H2 d v := by
  obtain ⟨fu, a, o, rfl, n, h1, h2, h3, h4⟩ := f
  exact ⟨fu, a, o, rfl, e.hh.free n, h1, h2, h3, h4.mono (.refl _) fun _ z => e.hh.free z⟩
theorem TrV.back {θ : Th} {n : Nat} {d : D} {v : V} (e : Ext F H F1 H1) (f : TrV θ F2 H1 H2 n d v) : TrV θ F2 H H2 n d v := by
  obtain ⟨S, t, nd, fr⟩ := f
  exact ⟨S, t.base fun _ z => e.hh.free z, nd, fun b hb => ⟨e.hh.free (fr b hb).1, (fr b hb).2⟩⟩
theorem Val.back {d : D} {k : Kd} {v : V} (e : Ext F H F1 H1) (h : Val c.θ F2 H1 H2 σ ρ d k v) : Val c.θ F2 H H2 σ ρ d k v := by
  cases k with
  | sh => exact h
  | fr => exact FrV.back e h
  | «at» i => exact h
  | tr n => exact TrV.back e h
theorem Res.mono {o : Out (D × Kd)} (h : Res c W σ ρ F H Q o) (e : Ext F H F1 H1) : Res c W σ ρ F1 H1 Q o := by
  cases o with
  | ok x =>
    obtain ⟨d, k⟩ := x
    intro v F' H' e' hv
    exact h v F' H' (e.trans e') (Val.back e hv)
  | ex n fs =>
    intro cls dd F' H' e' hv
    exact h cls dd F' H' (e.trans e') hv
  | no => exact h
theorem Rd1.ext {θ : Th} {d : D} {v : V} (e : Ext F H F1 H1) (h : Rd1 θ F H d v) : Rd1 θ F1 H1 d v := by
  rcases h with h | ⟨a, o, rfl, h, r⟩
  · exact .inl (h.mono e.ff)
  · exact .inr ⟨a, o, rfl, e.hh _ _ h, r.mono e.ff⟩
/-- the operand is used: frozen where it is fresh, read where it is a slot's own -/
theorem Val.use {d : D} {k : Kd} {v : V} (R : Rel c.θ c.F0 c.B L F H σ ρ) (e : Ext F H F1 H1) (h : Val c.θ F1 H H1 σ ρ d k v) :
    ∃ F2, Ext F H F2 H1 ∧ Same F1 F2 ∧ Rd1 c.θ F2 H1 d v ∧ (k.solid = true → Rep c.θ F2 d v) := by
  cases k with
  | sh => exact ⟨F1, e, .refl _, .inl h, fun _ => h⟩
  | fr =>
    obtain ⟨F2, e2, s, r⟩ := FrV.freeze e h
    exact ⟨F2, e2, s, .inl r, fun _ => r⟩
  | tr n =>
    obtain ⟨F2, e2, s, r⟩ := TrV.freeze e h
    exact ⟨F2, e2, s, .inl r, fun _ => r⟩
  | «at» i =>
    obtain ⟨h1, h2⟩ := h
    obtain ⟨a, o, h3, h4, _, _, h5⟩ := R.ow i d h2
    rw [h1] at h3
    cases h3
    exact ⟨F1, e, .refl _, .inr ⟨a, o, rfl, e.hh _ _ h4, h5.mono e.ff⟩, fun z => by cases z⟩
/-- an operand, then what follows -/
theorem ev_bind {g : D × Kd → Out (D × Kd)} (R : Rel c.θ c.F0 c.B L F H σ ρ) (h : Res c W σ ρ F H Q ((f ρ).bind g))
    (hp : ∀ d k x F1 H1, f ρ = .ok (d, k) → Ext F H F1 H1 → Rd1 c.θ F1 H1 d x → (k.solid = true → Rep c.θ F1 d x) → Rel c.θ c.F0 c.B L F1 H1 σ ρ → Res c W σ ρ F1 H1 Q (g (d, k)) → P x H1) : tEv c L W f σ H P := by
  refine ⟨F, ρ, R, ?_⟩
  cases hf : f ρ with
  | ok x =>
    obtain ⟨d, k⟩ := x
    rw [hf] at h
    intro v F' H' e hv
    obtain ⟨F2, e2, _, rd, so⟩ := Val.use R e hv
    exact hp d k v F2 H' hf e2 rd so (R.ext e2) (Res.mono (show Res c W σ ρ F H Q (g (d, k)) from h) e2)
  | ex n fs =>
    rw [hf] at h
    exact h
  | no =>
    rw [hf] at h
    exact h
end
section
variable {θ : Th} {F H : Hp} {v : V}
theorem Rd1.int {i : Int} (h : Rd1 θ F H (.int i) v) : v = .int i := by
  rcases h with h | ⟨a, o, rfl, h, r⟩
  · cases h; rfl
  · cases r
theorem Rd1.str {i : Str} (h : Rd1 θ F H (.str i) v) : v = .str i := by
  rcases h with h | ⟨a, o, rfl, h, r⟩
  · cases h; rfl
  · cases r
theorem Rd1.bl {i : Bool} (h : Rd1 θ F H (.bl i) v) : v = .bl i := by
  rcases h with h | ⟨a, o, rfl, h, r⟩
  · cases h; rfl
  · cases r
theorem Rd1.non (h : Rd1 θ F H .non v) : v = .non := by
  rcases h with h | ⟨a, o, rfl, h, r⟩
  · cases h; rfl
  · cases r
theorem Sub.lst {a : Addr} {xs : List V} (s : Sub F H) (h : F a = some (.lst xs)) : H a = some (.lst xs) := by
  rcases s a _ h with z | ⟨z, _⟩
  · exact z
  · cases z
theorem Sub.tup {a : Addr} {xs : List V} (s : Sub F H) (h : F a = some (.tup xs)) : H a = some (.tup xs) := by
  rcases s a _ h with z | ⟨z, _⟩
  · exact z
  · cases z
theorem Sub.ins {a C dx : Addr} {fs : List (Str × V)} (s : Sub F H) (h : F a = some (.ins C dx fs)) : H a = some (.ins C dx fs) := by
  rcases s a _ h with z | ⟨z, _⟩
  · exact z
  · cases z
theorem Rd1.lst {ds : List D} (s : Sub F H) (h : Rd1 θ F H (.lst ds) v) : ∃ a xs, v = .ref a ∧ H a = some (.lst xs) ∧ RepL θ F ds xs := by
  rcases h with h | ⟨a, o, rfl, h, r⟩
  · cases h with
    | lst h r => exact ⟨_, _, rfl, s.lst h, r⟩
  · cases r with
    | lst r => exact ⟨_, _, rfl, h, r⟩
theorem Rd1.tup {ds : List D} (s : Sub F H) (h : Rd1 θ F H (.tup ds) v) : ∃ a xs, v = .ref a ∧ H a = some (.tup xs) ∧ RepL θ F ds xs ∧ Rep θ F (.tup ds) v := by
  rcases h with h | ⟨a, o, rfl, h, r⟩
  · cases h with
    | tup h r => exact ⟨_, _, rfl, s.tup h, r, .tup h r⟩
  · cases r
theorem Sub.seq {K : PySem.W.Frag} {a : Addr} {xs : List V} (s : Sub F H) (h : SqL K F a xs) : SqL K H a xs := by
  rcases h with (h | ⟨o, h⟩) | h
  · exact .inl (.inl (s.lst h))
  · rcases s a _ h with z | ⟨z, _⟩
    · exact .inl (.inr ⟨o, z⟩)
    · cases z
  · exact .inr h
theorem Rd1.frl {ns : List Int} (s : Sub F H) (h : Rd1 θ F H (.frl ns) v) : ∃ a, v = .ref a ∧ SqL θ.K H a (ns.map V.int) := by
  rcases h with h | ⟨a, o, rfl, h, r⟩
  · cases h with
    | frl h => exact ⟨_, rfl, s.seq h⟩
  · cases r
theorem SZ_le : SZ ≤ sizeLine := by rw [sizeLine_eq]; exact Nat.le_refl _
end
section
variable {c : Cn} {L : List Addr} {W : WX} {σ : L2.St} {ρ : Sl} {F F1 H H1 : Hp} {Q : VK}
theorem Res.sh {d : D} {v : V} (h : Res c W σ ρ F H Q (shr d)) (s : Sub F H) (r : Rep c.θ F d v) : Q v H := h v F H (Ext.refl s) r
theorem Res.bl {b : Bool} (h : Res c W σ ρ F H Q (shr (.bl b))) (s : Sub F H) : Q (.bl b) H := h.sh s (.bl b)
theorem Res.int {b : Int} (h : Res c W σ ρ F H Q (shr (.int b))) (s : Sub F H) : Q (.int b) H := h.sh s (.int b)
theorem Res.str {b : Str} (h : Res c W σ ρ F H Q (shr (.str b))) (s : Sub F H) : Q (.str b) H := h.sh s (.str b)
theorem Res.ite {p : Prop} [Decidable p] {o : Out (D × Kd)} (h : Res c W σ ρ F H Q (if p then o else .no)) : p ∧ Res c W σ ρ F H Q o := by
  by_cases q : p
  · rw [if_pos q] at h
    exact ⟨q, h⟩
  · rw [if_neg q] at h
    exact h.elim
/-- a new list -/
theorem Res.lay {d : D} {o : HO} (h : Res c W σ ρ F H Q (.ok (d, .fr))) (s : Sub F H) (r : Root c.θ F d o) {p : Addr} (n : H p = none) (no : notObj d = true := by rfl) : Q (.ref p) (upd H p o) :=
  h _ F _ (Ext.lay s n) ⟨Full.of no, p, o, rfl, n, upd_same, s.free n, r, Nw.of no⟩
/-- a new tuple -/
theorem Res.layT {ds : List D} {xs : List V} (h : Res c W σ ρ F H Q (shr (.tup ds))) (s : Sub F H) (r : RepL c.θ F ds xs) {p : Addr} (n : H p = none) : Q (.ref p) (upd H p (.tup xs)) := by
  have nf := s.free n
  have e : Ext F H (upd F p (.tup xs)) (upd H p (.tup xs)) := Ext.freeze (s.lay n) upd_same nf H (Same.lay n) n F (Ext.lay s n)
  exact h _ _ _ e (.tup upd_same (r.mono (Same.lay nf)))
end
section
variable {X : Cx} {c : Cn} {L : List Addr} {W : WX} {f g : ES} {a b : Expr} {pos : Pos}
theorem pe_ev {e : Expr} {t : TE} (h : PE X e t) (hi : ∀ (σ : L2.St) (H : Hp) (Q : VK), tEv c L W f σ H Q → t σ H Q) : PE X e (tEv c L W f) := ⟨fun pins s σ H Q I hw => h.run pins s σ H Q I (hi σ H Q hw)⟩
theorem pg_var {i : Nat} {x : Str} (hN : X.N[i]? = some x) (hv : Vis X.env.scope x) (hd : (x == ("__debug__" : Str)) = false) (hcd : (x == ("__classdict__" : Str)) = false) : PE X (.Name x pos) (tEv c L W (eVar i)) := by
  refine pe_ev (pe_var hN hv hd hcd) fun σ H Q h => ?_
  obtain ⟨F, ρ, R, h⟩ := of_tEv h
  unfold eVar at h
  cases q : ρ[i]? with
  | none => rw [q] at h; exact h.elim
  | some sl =>
    rw [q] at h
    cases sl with
    | un => exact h.elim
    | va d =>
      obtain ⟨v, h1, h2⟩ := R.va i d q
      exact ⟨v, h1, h v F H (Ext.refl R.sub) h2⟩
    | ow d =>
      obtain ⟨a, o, h1, h2, _⟩ := R.ow i d q
      exact ⟨_, h1, h _ F H (Ext.refl R.sub) ⟨h1, q⟩⟩
    | me k ds => exact h.elim
    | xc => exact h.elim
    | pv k d => exact h.elim
theorem pg_const {e : Expr} {v : V} {d : D} (h : PE X e (tC v)) (r : ∀ θ F, Rep θ F d v) : PE X e (tEv c L W (eC d)) := by
  refine pe_ev h fun σ H Q h => ?_
  obtain ⟨F, ρ, R, h⟩ := of_tEv h
  exact h v F H (Ext.refl R.sub) (r _ _)
/-- the operator's rule by pure values -/
def OpD (c : Cn) (W : WX) (op : D → D → Out (D × Kd)) (r : V → V → Hp → VK → Prop) : Prop := ∀ (σ : L2.St) (ρ : Sl) (F H : Hp) (Q : VK) (x y : V) (d e : D), Sub F H → Rd1 c.θ F H d x → Rd1 c.θ F H e y → Res c W σ ρ F H Q (op d e) → r x y H Q
theorem pg_bin {o : Operator} {op : D → D → Out (D × Kd)} {r : V → V → Hp → VK → Prop} (ho : OpR X (binaryOp o) r) (hd : OpD c W op r) (ha : PE X a (tEv c L W f)) (hb : PE X b (tEv c L W g)) : PE X (.BinOp a o b pos) (tEv c L W (eBin op f g)) := by
  refine pe_ev (pe_op ho ha hb) fun σ H Q h => ?_
  obtain ⟨F, ρ, R, h⟩ := of_tEv h
  refine ev_bind R h fun d k x F1 H1 _ e1 rd1 _ R1 h1 => ?_
  exact ev_bind R1 h1 fun d2 k2 y F2 H2 _ e2 rd2 _ R2 h2 => hd σ ρ F2 H2 Q x y d d2 R2.sub (rd1.ext e2) rd2 h2
theorem pg_cmp {o : CmpOp} {op : D → D → Out (D × Kd)} {r : V → V → Hp → VK → Prop} (ho : OpR X (compareOp o) r) (hm : behindInMarks o b = false) (hd : OpD c W op r) (ha : PE X a (tEv c L W f)) (hb : PE X b (tEv c L W g)) : PE X (.Compare a [o] [b] pos) (tEv c L W (eBin op f g)) := by
  refine pe_ev (pe_cmpR ho ha hb hm) fun σ H Q h => ?_
  obtain ⟨F, ρ, R, h⟩ := of_tEv h
  refine ev_bind R h fun d k x F1 H1 _ e1 rd1 _ R1 h1 => ?_
  exact ev_bind R1 h1 fun d2 k2 y F2 H2 _ e2 rd2 _ R2 h2 => hd σ ρ F2 H2 Q x y d d2 R2.sub (rd1.ext e2) rd2 h2
theorem od_add : OpD c W oAdd (fun x y H Q => rI0 (fun i j => .int (i + j)) x y H Q ∨ (∃ i j, x = .str i ∧ y = .str j ∧ i.length + j.length ≤ sizeLine ∧ Q (.str (i ++ j)) H) ∨ rCat x y H Q ∨ rCatA c.θ.K x y H Q) := by
  intro σ ρ F H Q x y d e s rx ry h
  cases d <;> cases e <;> first | exact h.elim | skip
  · cases rx.int; cases ry.int
    exact .inl ⟨_, _, rfl, rfl, h.int s⟩
  · cases rx.str; cases ry.str
    obtain ⟨hl, h⟩ := Res.ite h
    exact .inr (.inl ⟨_, _, rfl, rfl, Nat.le_trans hl SZ_le, h.str s⟩)
  · obtain ⟨p, xs, rfl, hp, r1⟩ := rx.lst s
    obtain ⟨q, ys, rfl, hq, r2⟩ := ry.lst s
    obtain ⟨hl, h⟩ := Res.ite h
    refine .inr (.inr (.inl ⟨p, q, xs, ys, rfl, rfl, hp, hq, ?_, fun l hl => h.lay s (.lst (r1.append r2)) hl⟩))
    rw [r1.length, r2.length]
    exact Nat.le_trans hl SZ_le
  · obtain ⟨p, xs, rfl, hp, r1, z1⟩ := rx.tup s
    obtain ⟨q, ys, rfl, hq, r2, z2⟩ := ry.tup s
    obtain ⟨hl, h⟩ := Res.ite h
    refine .inr (.inr (.inr ⟨p, q, xs, ys, rfl, rfl, .inl (.inl hp), .inl (.inl hq), ?_, fun e => ?_, fun _ e => ?_, fun _ _ l hl => h.layT s (r1.append r2) hl⟩))
    · rw [r1.length, r2.length]
      exact Nat.le_trans hl SZ_le
    · subst e
      cases r1
      exact h.sh s z2
    · subst e
      cases r2
      rw [List.append_nil] at h
      exact h.sh s z1
end
end G
namespace G
open PySem PySem.Spec L2
section
variable {X : Cx} {c : Cn} {L : List Addr} {W : WX} {f g h : ES} {a b e : Expr} {pos : Pos}
theorem od_sub : OpD c W oSub (rI0 fun i j => .int (i - j)) := by
  intro σ ρ F H Q x y d e s rx ry h
  cases d <;> cases e <;> first | exact h.elim | skip
  cases rx.int; cases ry.int
  exact ⟨_, _, rfl, rfl, h.int s⟩
theorem smallI_ok {i : Int} (h : smallI i = true) : -(2 ^ 64) < i ∧ i < 2 ^ 64 := of_decide_eq_true h
theorem od_mul : OpD c W oMul (fun x y H Q => rI CMul (fun i j => .int (i * j)) x y H Q ∨ rRep x y H Q) := by
  intro σ ρ F H Q x y d e s rx ry h
  cases d <;> cases e <;> first | exact h.elim | skip
  · cases rx.int; cases ry.int
    obtain ⟨hl, h⟩ := Res.ite h
    refine .inl ⟨_, _, rfl, rfl, ?_, h.int s⟩
    rcases Bool.or_eq_true_iff.mp hl with z | z
    · exact .inl (smallI_ok z)
    · exact .inr (smallI_ok z)
  · obtain ⟨p, xs, rfl, hp, r1⟩ := rx.lst s
    cases ry.int
    obtain ⟨⟨h1, h2, h3⟩, h⟩ := Res.ite h
    refine .inr ⟨p, _, xs, rfl, rfl, hp, h1, h2, ?_, fun l hl => h.lay s (.lst ?_) hl⟩
    · rw [r1.length]
      exact Nat.le_trans h3 SZ_le
    · have key : ∀ n : Nat, RepL c.θ F (List.replicate n _).flatten (List.replicate n xs).flatten := fun n => by
        induction n with
        | zero => exact .nil
        | succ n ih =>
          rw [List.replicate_succ, List.replicate_succ, List.flatten_cons, List.flatten_cons]
          exact r1.append ih
      exact key _
theorem od_mod : OpD c W oMod (rI (fun _ j => 0 < j) fun i j => .int (i % j)) := by
  intro σ ρ F H Q x y d e s rx ry h
  cases d <;> cases e <;> first | exact h.elim | skip
  cases rx.int; cases ry.int
  obtain ⟨hl, h⟩ := Res.ite h
  exact ⟨_, _, rfl, rfl, hl, h.int s⟩
theorem od_div : OpD c W oDiv (rI CDiv fun i j => .int (i / j)) := by
  intro σ ρ F H Q x y d e s rx ry h
  cases d <;> cases e <;> first | exact h.elim | skip
  cases rx.int; cases ry.int
  obtain ⟨hl, h⟩ := Res.ite h
  exact ⟨_, _, rfl, rfl, hl, h.int s⟩
theorem od_pow : OpD c W oPow (rI CPow fun i j => .int (i ^ j.toNat)) := by
  intro σ ρ F H Q x y d e s rx ry h
  cases d <;> cases e <;> first | exact h.elim | skip
  cases rx.int; cases ry.int
  obtain ⟨hl, h⟩ := Res.ite h
  exact ⟨_, _, rfl, rfl, hl, h.int s⟩
theorem pg_neg (ha : PE X a (tEv c L W f)) : PE X (.UnaryOp .USub a pos) (tEv c L W (eUn oNeg f)) := by
  refine pe_ev (pe_un un_neg ha) fun σ H Q h => ?_
  obtain ⟨F, ρ, R, h⟩ := of_tEv h
  refine ev_bind R h fun d k x F1 H1 _ e1 rd1 _ R1 h1 => ?_
  cases d <;> first | exact h1.elim | skip
  cases rd1.int
  exact ⟨_, rfl, h1.int R1.sub⟩
mutual
theorem rep_py {θ : Th} {F H : Hp} (s : Sub F H) : ∀ {d : D} {v : V} {p : PyData}, Rep θ F d v → toPy d = some p → Dp θ.K H v p
  | _, _, _, .non, h => by cases h; exact .non
  | _, _, _, .bl b, h => by cases h; exact .bl b
  | _, _, _, .int b, h => by cases h; exact .int b
  | _, _, _, .str b, h => by cases h; exact .str b
  | .lst ds, _, _, .lst e r, h => by
    unfold toPy at h
    cases q : toPys ds with
    | none => rw [q] at h; cases h
    | some ps =>
      rw [q] at h
      cases h
      exact .lst (.inl (.inl (s.lst e))) (repl_py s r q)
  | .tup ds, _, _, .tup e r, h => by
    unfold toPy at h
    cases q : toPys ds with
    | none => rw [q] at h; cases h
    | some ps =>
      rw [q] at h
      cases h
      exact .tup (.inl (.inl (s.tup e))) (repl_py s r q)
  | _, _, _, .dK _ _ _, h => by cases h
  | _, _, _, .dT _ _ _, h => by cases h
  | _, _, _, .obj _ _ _, h => by cases h
  | _, _, _, .frl _, h => by cases h
theorem repl_py {θ : Th} {F H : Hp} (s : Sub F H) : ∀ {ds : List D} {vs : List V} {ps : List PyData}, RepL θ F ds vs → toPys ds = some ps → DpAll θ.K H vs ps
  | _, _, _, .nil, h => by cases h; exact .nil
  | d :: ds, _, _, .cons r rs, h => by
    unfold toPys at h
    cases q : toPy d with
    | none => rw [q] at h; cases h
    | some p =>
      rw [q] at h
      cases q2 : toPys ds with
      | none => rw [q2] at h; cases h
      | some ps =>
        rw [q2] at h
        cases h
        exact .cons (rep_py s r q) (repl_py s rs q2)
end
theorem rd_py {θ : Th} {F H : Hp} (s : Sub F H) {d : D} {v : V} {p : PyData} (r : Rd1 θ F H d v) (h : toPy d = some p) : Dp θ.K H v p := by
  rcases r with r | ⟨a, o, rfl, ha, r⟩
  · exact rep_py s r h
  · cases r with
    | @lst xs ds r =>
      unfold toPy at h
      cases q : toPys ds with
      | none => rw [q] at h; cases h
      | some ps =>
        rw [q] at h
        cases h
        exact .lst (.inl (.inl ha)) (repl_py s r q)
    | dK => cases h
    | dT => cases h
    | obj => cases h
theorem dec_eq {α β : Type} [DecidableEq α] [DecidableEq β] {f : α → β} (hf : ∀ x y, f x = f y → x = y) (i j : α) : decide (f i = f j) = decide (i = j) := by
  by_cases e : i = j
  · rw [decide_eq_true e, decide_eq_true (congrArg f e)]
  · rw [decide_eq_false e, decide_eq_false fun z => e (hf _ _ z)]
theorem scal_ok {θ : Th} {F H : Hp} {d e : D} {x y : V} {b : Bool} (h : scalEq d e = some b) (rx : Rd1 θ F H d x) (ry : Rd1 θ F H e y) : scal x y = true ∧ decide (x = y) = b := by
  cases d <;> cases e <;> first | cases h | skip
  all_goals first
    | (cases rx.non; cases ry.non; exact ⟨rfl, rfl⟩)
    | (cases rx.int; cases ry.non; exact ⟨rfl, rfl⟩)
    | (cases rx.non; cases ry.int; exact ⟨rfl, rfl⟩)
    | (cases rx.str; cases ry.non; exact ⟨rfl, rfl⟩)
    | (cases rx.non; cases ry.str; exact ⟨rfl, rfl⟩)
    | (cases rx.int; cases ry.int; exact ⟨rfl, dec_eq (f := V.int) (fun _ _ z => V.int.inj z) _ _⟩)
    | (cases rx.bl; cases ry.bl; exact ⟨rfl, dec_eq (f := V.bl) (fun _ _ z => V.bl.inj z) _ _⟩)
    | (cases rx.str; cases ry.str; exact ⟨rfl, dec_eq (f := V.str) (fun _ _ z => V.str.inj z) _ _⟩)
theorem eqD_cases {d e : D} {b : Bool} (h : eqD d e = some b) : scalEq d e = some b ∨ ∃ p q, toPy d = some p ∧ toPy e = some q ∧ SeqAt.shaped p = true ∧ SeqAt.shaped q = true ∧ PyData.eqv p q = b := by
  unfold eqD at h
  cases s : scalEq d e with
  | some b' =>
    rw [s] at h
    exact .inl h
  | none =>
    rw [s] at h
    cases q1 : toPy d with
    | none => rw [q1] at h; cases h
    | some p =>
      rw [q1] at h
      cases q2 : toPy e with
      | none => rw [q2] at h; cases h
      | some q =>
        rw [q2] at h
        have h' : (if (SeqAt.shaped p && SeqAt.shaped q) = true then some (PyData.eqv p q) else none) = some b := h
        by_cases z : (SeqAt.shaped p && SeqAt.shaped q) = true
        · rw [if_pos z] at h'
          obtain ⟨z1, z2⟩ := Bool.and_eq_true_iff.mp z
          exact .inr ⟨p, q, rfl, rfl, z1, z2, Option.some.inj h'⟩
        · rw [if_neg z] at h'
          cases h'
theorem od_eq : OpD c W oEq (fun x y H Q => rEq x y H Q ∨ rEqD c.θ.K x y H Q) := by
  intro σ ρ F H Q x y d e s rx ry h
  have h : Res c W σ ρ F H Q (obl (eqD d e)) := h
  cases q : eqD d e with
  | none => rw [q] at h; exact h.elim
  | some b =>
    rw [q] at h
    rcases eqD_cases q with z | ⟨p, q, z1, z2, z3, z4, z5⟩
    · obtain ⟨h1, h2⟩ := scal_ok z rx ry
      refine .inl ⟨h1, ?_⟩
      rw [h2]
      exact h.bl s
    · refine .inr ⟨p, q, rd_py s rx z1, rd_py s ry z2, z3, z4, ?_⟩
      rw [z5]
      exact h.bl s
theorem od_ne : OpD c W oNe (fun x y H Q => rNe x y H Q ∨ rNeD c.θ.K x y H Q) := by
  intro σ ρ F H Q x y d e s rx ry h
  have h : Res c W σ ρ F H Q (obl ((eqD d e).map (!·))) := h
  cases q : eqD d e with
  | none => rw [q] at h; exact h.elim
  | some b =>
    rw [q] at h
    rcases eqD_cases q with z | ⟨p, q, z1, z2, z3, z4, z5⟩
    · obtain ⟨h1, h2⟩ := scal_ok z rx ry
      refine .inl ⟨h1, ?_⟩
      rw [h2]
      exact h.bl s
    · refine .inr ⟨p, q, rd_py s rx z1, rd_py s ry z2, z3, z4, ?_⟩
      rw [z5]
      exact h.bl s
theorem od_gt : OpD c W oGt (rI0 fun i j => .bl (decide (j < i))) := by
  intro σ ρ F H Q x y d e s rx ry h
  cases d <;> cases e <;> first | exact h.elim | skip
  cases rx.int; cases ry.int
  exact ⟨_, _, rfl, rfl, h.bl s⟩
theorem od_ge : OpD c W oGe (rI0 fun i j => .bl (decide (j ≤ i))) := by
  intro σ ρ F H Q x y d e s rx ry h
  cases d <;> cases e <;> first | exact h.elim | skip
  cases rx.int; cases ry.int
  exact ⟨_, _, rfl, rfl, h.bl s⟩
theorem od_lt : OpD c W oLt (fun x y H Q => rI0 (fun i j => .bl (decide (i < j))) x y H Q ∨ rLtT c.θ.K x y H Q) := by
  intro σ ρ F H Q x y d e s rx ry h
  cases d <;> cases e <;> first | exact h.elim | skip
  · cases rx.int; cases ry.int
    exact .inl ⟨_, _, rfl, rfl, h.bl s⟩
  · rename_i ds es
    obtain ⟨p, xs, rfl, hp, r1, _⟩ := rx.tup s
    obtain ⟨q, ys, rfl, hq, r2, _⟩ := ry.tup s
    have hh : Res c W σ ρ F H Q (match intsOf ds, intsOf es with
      | some ns, some ms => shr (.bl (HT.lexLt ns ms))
      | _, _ => .no) := h
    cases q1 : intsOf ds with
    | none => rw [q1] at hh; exact hh.elim
    | some ns =>
      cases q2 : intsOf es with
      | none => rw [q1, q2] at hh; exact hh.elim
      | some ms =>
        rw [q1, q2] at hh
        cases intsOf_eq q1
        cases intsOf_eq q2
        cases r1.ints
        cases r2.ints
        exact .inr ⟨p, q, ns, ms, rfl, rfl, .inl (.inl hp), .inl (.inl hq), hh.bl s⟩
end
end G
namespace G
open PySem PySem.Spec L2
section
variable {X : Cx} {c : Cn} {L : List Addr} {W : WX} {f g h : ES} {a b e : Expr} {pos : Pos} {es : List Expr}
theorem bind_assoc' {α β γ : Type} (o : Out α) (f : α → Out β) (g : β → Out γ) : (o.bind f).bind g = o.bind fun a => (f a).bind g := by cases o <;> rfl
theorem oBl_ok {d : D} {k : Bool} (h : oBl d = .ok k) : d = .bl k := by
  cases d <;> first | (cases h; rfl) | cases h
/-- an operand that is a truth value -/
theorem ev_bool {σ : L2.St} {ρ : Sl} {F H : Hp} {Q : VK} {k : D × Kd → Bool → Out (D × Kd)} {P : V → Hp → Prop} (R : Rel c.θ c.F0 c.B L F H σ ρ) (h : Res c W σ ρ F H Q ((f ρ).bind fun x => (oBl x.1).bind (k x)))
    (hp : ∀ x b F1 H1, Ext F H F1 H1 → Rel c.θ c.F0 c.B L F1 H1 σ ρ → Res c W σ ρ F1 H1 Q (k x b) → P (.bl b) H1) : tEv c L W f σ H P := by
  refine ev_bind R h fun d kd x F1 H1 _ e1 rd1 _ R1 h1 => ?_
  cases q : oBl d with
  | no => rw [q] at h1; exact h1.elim
  | ex n fs => cases d <;> cases q
  | ok b =>
    cases oBl_ok q
    cases rd1.bl
    exact hp (.bl b, kd) b F1 H1 e1 R1 h1
theorem pg_and {rest : List Expr} (ha : PE X a (tEv c L W f)) (hb : PE X (.BoolOp .And (b :: rest) pos) (tEv c L W g)) : PE X (.BoolOp .And (a :: b :: rest) pos) (tEv c L W (eAnd f g)) := by
  refine pe_ev (pe_and ha hb) fun σ H Q h => ?_
  obtain ⟨F, ρ, R, h⟩ := of_tEv h
  refine ev_bool (k := fun _ b => if b = true then g ρ else shr (.bl false)) R h fun x b F1 H1 e1 R1 h1 => ⟨b, rfl, ?_⟩
  cases b with
  | true => exact iteT (tEv_of R1 h1)
  | false => exact iteF (Res.bl (b := false) h1 R1.sub)
theorem pg_or {rest : List Expr} (ha : PE X a (tEv c L W f)) (hb : PE X (.BoolOp .Or (b :: rest) pos) (tEv c L W g)) : PE X (.BoolOp .Or (a :: b :: rest) pos) (tEv c L W (eOr f g)) := by
  refine pe_ev (pe_or ha hb) fun σ H Q h => ?_
  obtain ⟨F, ρ, R, h⟩ := of_tEv h
  refine ev_bool (k := fun _ b => if b = true then shr (.bl true) else g ρ) R h fun x b F1 H1 e1 R1 h1 => ⟨b, rfl, ?_⟩
  cases b with
  | true => exact iteT (Res.bl (b := true) h1 R1.sub)
  | false => exact iteF (tEv_of R1 h1)
def tTv (c : Cn) (L : List Addr) (W : WX) (f : TSm) : TT := fun σ H Q => ∃ F ρ, Rel c.θ c.F0 c.B L F H σ ρ ∧ match f ρ with
  | .ok b => ∀ F' H', Ext F H F' H' → Q b H'
  | .ex n fs => ∀ cls dd F' H', Ext F H F' H' → ExV c.θ n fs cls dd F' H' → W cls dd σ H'
  | .no => False
def ResT (c : Cn) (W : WX) (σ : L2.St) (F H : Hp) (Q : Bool → Hp → Prop) : Out Bool → Prop
  | .ok b => ∀ F' H', Ext F H F' H' → Q b H'
  | .ex n fs => ∀ cls dd F' H', Ext F H F' H' → ExV c.θ n fs cls dd F' H' → W cls dd σ H'
  | .no => False
section
variable {σ : L2.St} {ρ : Sl} {F F1 H H1 : Hp} {Q : Bool → Hp → Prop} {t u : TSm}
theorem tTv_of (R : Rel c.θ c.F0 c.B L F H σ ρ) (h : ResT c W σ F H Q (t ρ)) : tTv c L W t σ H Q := by
  refine ⟨F, ρ, R, ?_⟩
  revert h
  cases t ρ <;> exact id
theorem of_tTv (h : tTv c L W t σ H Q) : ∃ F ρ, Rel c.θ c.F0 c.B L F H σ ρ ∧ ResT c W σ F H Q (t ρ) := by
  obtain ⟨F, ρ, R, h⟩ := h
  refine ⟨F, ρ, R, ?_⟩
  revert h
  cases t ρ <;> exact id
theorem ResT.mono {o : Out Bool} (h : ResT c W σ F H Q o) (e : Ext F H F1 H1) : ResT c W σ F1 H1 Q o := by
  cases o with
  | ok b => exact fun F' H' e' => h F' H' (e.trans e')
  | ex n fs => exact fun cls dd F' H' e' hv => h cls dd F' H' (e.trans e') hv
  | no => exact h
/-- an operand of a test -/
theorem tv_bind {k : D × Kd → Out Bool} {P : V → Hp → Prop} (R : Rel c.θ c.F0 c.B L F H σ ρ) (h : ResT c W σ F H Q ((f ρ).bind k))
    (hp : ∀ d kd x F1 H1, f ρ = .ok (d, kd) → Ext F H F1 H1 → Rd1 c.θ F1 H1 d x → (kd.solid = true → Rep c.θ F1 d x) → Rel c.θ c.F0 c.B L F1 H1 σ ρ → ResT c W σ F1 H1 Q (k (d, kd)) → P x H1) : tEv c L W f σ H P := by
  refine ⟨F, ρ, R, ?_⟩
  cases hf : f ρ with
  | ok x =>
    obtain ⟨d, kd⟩ := x
    rw [hf] at h
    intro v F' H' e hv
    obtain ⟨F2, e2, _, rd, so⟩ := Val.use R e hv
    exact hp d kd v F2 H' hf e2 rd so (R.ext e2) (ResT.mono (show ResT c W σ F H Q (k (d, kd)) from h) e2)
  | ex n fs =>
    rw [hf] at h
    exact h
  | no =>
    rw [hf] at h
    exact h
/-- a test, then what follows -/
theorem tt_bind {k : Bool → Out Bool} {P : Bool → Hp → Prop} (R : Rel c.θ c.F0 c.B L F H σ ρ) (h : ResT c W σ F H Q ((t ρ).bind k))
    (hp : ∀ b F1 H1, Ext F H F1 H1 → Rel c.θ c.F0 c.B L F1 H1 σ ρ → ResT c W σ F1 H1 Q (k b) → P b H1) : tTv c L W t σ H P := by
  refine ⟨F, ρ, R, ?_⟩
  cases hf : t ρ with
  | ok b =>
    rw [hf] at h
    exact fun F' H' e => hp b F' H' e (R.ext e) (ResT.mono (show ResT c W σ F H Q (k b) from h) e)
  | ex n fs =>
    rw [hf] at h
    exact h
  | no =>
    rw [hf] at h
    exact h
end
theorem pt_ev {e : Expr} {t : TT} {f : TSm} (h : PT X e t) (hi : ∀ (σ : L2.St) (H : Hp) (Q : Bool → Hp → Prop), tTv c L W f σ H Q → t σ H Q) : PT X e (tTv c L W f) := ⟨fun pins s σ H Q I hw => h.run pins s σ H Q I (hi σ H Q hw)⟩
theorem pw_ev {e : Expr} {t : TT} {f : TSm} (h : PW X e t) (hi : ∀ (σ : L2.St) (H : Hp) (Q : Bool → Hp → Prop), tTv c L W f σ H Q → t σ H Q) : PW X e (tTv c L W f) := ⟨fun wh pins s σ H Q I hw => h.run wh pins s σ H Q I (hi σ H Q hw)⟩
/-- a comparison as a test -/
theorem bl_of_oBl {θ : Th} {F H : Hp} {d : D} {x : V} {b : Bool} (q : oBl d = .ok b) (rd : Rd1 θ F H d x) : x = .bl b := by
  cases oBl_ok q
  exact rd.bl
theorem pgt_of_bool {e : Expr} {t : TE} (h : PT X e (tTest t)) (hi : ∀ (σ : L2.St) (H : Hp) (Q : VK), tEv c L W f σ H Q → t σ H Q) : PT X e (tTv c L W (tBl f)) := by
  refine pt_ev h fun σ H Q hq => hi σ H _ ?_
  obtain ⟨F, ρ, R, hq⟩ := of_tTv hq
  refine tv_bind R hq fun d kd x F1 H1 _ e1 rd1 _ R1 h1 => ?_
  cases q : oBl d with
  | no => rw [q] at h1; exact h1.elim
  | ex n fs => cases d <;> cases q
  | ok b =>
    rw [q] at h1
    exact ⟨b, bl_of_oBl q rd1, h1 F1 H1 (Ext.refl R1.sub)⟩
theorem pgt_cmp {o : CmpOp} {op : D → D → Out (D × Kd)} {r : V → V → Hp → VK → Prop} (ho : OpR X (compareOp o) r) (hm : behindInMarks o b = false) (hd : OpD c W op r) (ha : PE X a (tEv c L W f)) (hb : PE X b (tEv c L W g)) : PT X (.Compare a [o] [b] pos) (tTv c L W (tBl (eBin op f g))) := by
  refine pgt_of_bool (pt_cmpR ho ha hb hm) fun σ H Q h => ?_
  obtain ⟨F, ρ, R, h⟩ := of_tEv h
  refine ev_bind R h fun d k x F1 H1 _ e1 rd1 _ R1 h1 => ?_
  exact ev_bind R1 h1 fun d2 k2 y F2 H2 _ e2 rd2 _ R2 h2 => hd σ ρ F2 H2 Q x y d d2 R2.sub (rd1.ext e2) rd2 h2
/-- any expression's value as a test -/
theorem pgt_tru (ha : PE X a (tEv c L W f)) (he : ∀ whole, isTrue a X.env whole = (do let v ← whole; standAt a.pos; holding [v] (truthy v))) (hK : X.K = c.θ.K) : PT X a (tTv c L W (tTru f)) := by
  refine pt_ev (pt_truth ha he) fun σ H Q h => ?_
  obtain ⟨F, ρ, R, h⟩ := of_tTv h
  refine tv_bind R h fun d k x F1 H1 _ e1 rd1 _ R1 h1 => ?_
  have s := R1.sub
  have fin : ∀ b : Bool, TruV X.K x H1 b → ResT c W σ F1 H1 Q (.ok b) → ∃ k, TruV X.K x H1 k ∧ Q k H1 := fun b t z => ⟨b, t, z F1 H1 (Ext.refl s)⟩
  cases d <;> first | exact (show False from h1).elim | skip
  · cases rd1.non
    exact fin _ rfl h1
  · cases rd1.bl
    exact fin _ rfl h1
  · cases rd1.int
    exact fin _ rfl h1
  · obtain ⟨p, xs, rfl, hp, r⟩ := rd1.lst s
    refine fin _ (.inl ⟨xs, .inl (.inl hp), ?_⟩) h1
    cases r <;> rfl
  · obtain ⟨p, xs, rfl, hp, r, _⟩ := rd1.tup s
    refine fin _ (.inr (.inl ⟨xs, .inl (.inl hp), ?_⟩)) h1
    cases r <;> rfl
theorem pgt_not {t : TSm} (ha : PT X a (tTv c L W t)) : PT X (.UnaryOp .Not a pos) (tTv c L W (G.tNot t)) := by
  refine pt_ev (pt_not ha) fun σ H Q h => ?_
  obtain ⟨F, ρ, R, h⟩ := of_tTv h
  exact tt_bind R h fun b F1 H1 e1 R1 h1 => h1 F1 H1 (Ext.refl R1.sub)
theorem pgw_and {t u : TSm} {rest : List Expr} (ha : PT X a (tTv c L W t)) (hb : PW X (.BoolOp .And (b :: rest) pos) (tTv c L W u)) : PW X (.BoolOp .And (a :: b :: rest) pos) (tTv c L W (G.tAnd t u)) := by
  refine pw_ev (pw_and ha hb) fun σ H Q h => ?_
  obtain ⟨F, ρ, R, h⟩ := of_tTv h
  refine tt_bind (k := fun b => if b = true then u ρ else .ok false) R h fun b F1 H1 e1 R1 h1 => ?_
  cases b with
  | true => exact iteT (tTv_of R1 h1)
  | false => exact iteF ((show ResT c W σ F1 H1 Q (.ok false) from h1) F1 H1 (Ext.refl R1.sub))
theorem pgw_or {t u : TSm} {rest : List Expr} (ha : PT X a (tTv c L W t)) (hb : PW X (.BoolOp .Or (b :: rest) pos) (tTv c L W u)) : PW X (.BoolOp .Or (a :: b :: rest) pos) (tTv c L W (G.tOr t u)) := by
  refine pw_ev (pw_or ha hb) fun σ H Q h => ?_
  obtain ⟨F, ρ, R, h⟩ := of_tTv h
  refine tt_bind (k := fun b => if b = true then .ok true else u ρ) R h fun b F1 H1 e1 R1 h1 => ?_
  cases b with
  | true => exact iteT ((show ResT c W σ F1 H1 Q (.ok true) from h1) F1 H1 (Ext.refl R1.sub))
  | false => exact iteF (tTv_of R1 h1)
end
end G
namespace G
open PySem PySem.Spec L2
inductive ArgR (θ : Th) (F H : Hp) : List (D × Kd) → List V → Prop
  | nil : ArgR θ F H [] []
  | cons {d : D} {k : Kd} {v : V} {xs : List (D × Kd)} {vs : List V} : Rd1 θ F H d v → (k.solid = true → Rep θ F d v) → ArgR θ F H xs vs → ArgR θ F H ((d, k) :: xs) (v :: vs)
theorem ArgR.ext {θ : Th} {F H F1 H1 : Hp} (e : Ext F H F1 H1) : ∀ {xs : List (D × Kd)} {vs : List V}, ArgR θ F H xs vs → ArgR θ F1 H1 xs vs
  | _, _, .nil => .nil
  | _, _, .cons r s t => .cons (r.ext e) (fun z => (s z).mono e.ff) (ArgR.ext e t)
theorem ArgR.solid {θ : Th} {F H : Hp} : ∀ {xs : List (D × Kd)} {vs : List V}, ArgR θ F H xs vs → allSolid xs = true → RepL θ F (xs.map (·.1)) vs
  | _, _, .nil, _ => .nil
  | _, _, .cons r s t, h => by
    obtain ⟨h1, h2⟩ := Bool.and_eq_true_iff.mp (show (Kd.solid _ && allSolid _) = true from h)
    exact .cons (s h1) (ArgR.solid t h2)
def tAv (c : Cn) (L : List Addr) (W : WX) (fs : List ES) : TA := fun σ H Q => ∃ F ρ, Rel c.θ c.F0 c.B L F H σ ρ ∧ match eArgs fs ρ with
  | .ok xs => ∀ vs F' H', Ext F H F' H' → ArgR c.θ F' H' xs vs → Q vs H'
  | .ex n fs => ∀ cls dd F' H', Ext F H F' H' → ExV c.θ n fs cls dd F' H' → W cls dd σ H'
  | .no => False
section
variable {X : Cx} {c : Cn} {L : List Addr} {W : WX} {f g h : ES} {a b e : Expr} {pos : Pos} {es : List Expr} {fs : List ES}
theorem pga_nil : PA X [] (tAv c L W []) := by
  refine ⟨fun pos pins s σ H Q I h => pa_nil.run pos pins s σ H Q I ?_⟩
  obtain ⟨F, ρ, R, h⟩ := h
  exact h [] F H (Ext.refl R.sub) .nil
theorem pga_cons (ha : PE X e (tEv c L W f)) (hr : PA X es (tAv c L W fs)) (hs : starEach (e :: es) X.env = (false, eval e X.env) :: starEach es X.env) : PA X (e :: es) (tAv c L W (f :: fs)) := by
  refine ⟨fun pos pins s σ H Q I h => (pa_cons ha hr hs).run pos pins s σ H Q I ?_⟩
  obtain ⟨F, ρ, R, h⟩ := h
  refine ⟨F, ρ, R, ?_⟩
  unfold eArgs at h
  cases hf : f ρ with
  | no => rw [hf] at h; exact h
  | ex n fs => rw [hf] at h; exact h
  | ok x =>
    obtain ⟨d, k⟩ := x
    rw [hf] at h
    intro v F1 H1 e1 hv
    obtain ⟨F2, e2, _, rd, so⟩ := Val.use R e1 hv
    refine ⟨F2, ρ, R.ext e2, ?_⟩
    have h : match (eArgs fs ρ).bind fun xs => Out.ok ((d, k) :: xs) with
      | .ok xs => ∀ vs F' H', Ext F H F' H' → ArgR c.θ F' H' xs vs → Q vs H'
      | .ex n fs => ∀ cls dd F' H', Ext F H F' H' → ExV c.θ n fs cls dd F' H' → W cls dd σ H'
      | .no => False := h
    cases hg : eArgs fs ρ with
    | no => rw [hg] at h; exact h
    | ex n gs =>
      rw [hg] at h
      exact fun cls dd F' H' e3 => h cls dd F' H' (e2.trans e3)
    | ok xs =>
      rw [hg] at h
      exact fun vs F' H' e3 hr => h (v :: vs) F' H' (e2.trans e3) (.cons (rd.ext e3) (fun z => (so z).mono e3.ff) hr)
/-- arguments, then what follows -/
theorem av_bind {σ : L2.St} {ρ : Sl} {F H : Hp} {Q : VK} {k : List (D × Kd) → Out (D × Kd)} {P : List V → Hp → Prop} (R : Rel c.θ c.F0 c.B L F H σ ρ) (h : Res c W σ ρ F H Q ((eArgs fs ρ).bind k))
    (hp : ∀ xs vs F1 H1, eArgs fs ρ = .ok xs → Ext F H F1 H1 → ArgR c.θ F1 H1 xs vs → Rel c.θ c.F0 c.B L F1 H1 σ ρ → Res c W σ ρ F1 H1 Q (k xs) → P vs H1) : tAv c L W fs σ H P := by
  refine ⟨F, ρ, R, ?_⟩
  cases hf : eArgs fs ρ with
  | ok xs =>
    rw [hf] at h
    exact fun vs F' H' e hv => hp xs vs F' H' hf e hv (R.ext e) (Res.mono (show Res c W σ ρ F H Q (k xs) from h) e)
  | ex n fs =>
    rw [hf] at h
    exact h
  | no =>
    rw [hf] at h
    exact h
theorem pg_tup {x1 : Nat} (ha : PA X es (tAv c L W fs)) : PE X (.Tuple es x1 pos) (tEv c L W (eTup fs)) := by
  refine pe_ev (pe_tup ha) fun σ H Q h => ?_
  obtain ⟨F, ρ, R, h⟩ := of_tEv h
  refine av_bind R h fun xs vs F1 H1 _ e1 ar R1 h1 => ?_
  obtain ⟨⟨h2, h3⟩, h1⟩ := Res.ite h1
  have r := ar.solid h2
  refine ⟨?_, fun p hp => h1.layT R1.sub r hp⟩
  rw [r.length, List.length_map]
  exact Nat.le_trans h3 SZ_le
theorem pg_lst (ha : PA X es (tAv c L W fs)) : PE X (.List es pos) (tEv c L W (eLst fs)) := by
  refine pe_ev (pe_lst ha) fun σ H Q h => ?_
  obtain ⟨F, ρ, R, h⟩ := of_tEv h
  refine av_bind R h fun xs vs F1 H1 _ e1 ar R1 h1 => ?_
  obtain ⟨⟨h2, h3⟩, h1⟩ := Res.ite h1
  have r := ar.solid h2
  refine ⟨?_, fun p hp => h1.lay R1.sub (.lst r) hp⟩
  rw [r.length, List.length_map]
  exact Nat.le_trans h3 SZ_le
theorem atI_rep {θ : Th} {F : Hp} {ds : List D} {xs : List V} {i : Int} {d : D} (r : RepL θ F ds xs) (h : atI ds i = some d) : ∃ v, atI xs i = some v ∧ Rep θ F d v := by
  unfold atI at h ⊢
  rw [r.length]
  cases q : ixN ds.length i with
  | none => rw [q] at h; cases h
  | some j =>
    rw [q] at h
    exact r.get h
theorem keyOf_kV {d : D} {k : Key} (h : keyOf d = some k) : ∀ {θ : Th} {F H : Hp} {v : V}, Rd1 θ F H d v → v = kV k := by
  intro θ F H v r
  cases d <;> first | cases h | skip
  · exact r.int
  · exact r.str
theorem keysOf_kV {θ : Th} {F : Hp} : ∀ {ds : List D} {ks : List Key} {vs : List V}, keysOf ds = some ks → RepL θ F ds vs → vs = ks.map kV
  | [], _, _, h, r => by cases h; cases r; rfl
  | d :: ds, _, _, h, r => by
    unfold keysOf at h
    cases q : keyOf d with
    | none => rw [q] at h; cases h
    | some k =>
      rw [q] at h
      cases q2 : keysOf ds with
      | none => rw [q2] at h; cases h
      | some ks =>
        rw [q2] at h
        cases h
        cases r with
        | cons a b =>
          rw [keysOf_kV q2 b, keyOf_kV (H := F) q (.inl a)]
          rfl
def InD {κ : Type} [DecidableEq κ] (θ : Th) (F : Hp) (kvs : List (κ × V)) (k : κ) : Option D → Prop
  | some d => ∃ v, valV kvs k = some v ∧ Rep θ F d v
  | none => valV kvs k = none
theorem valV_zip {κ : Type} [DecidableEq κ] {θ : Th} {F : Hp} : ∀ {ks : List κ} {ds : List D} {xs : List V} (k : κ), RepL θ F ds xs → ks.length = ds.length → InD θ F (ks.zip xs) k (lookK ks ds k)
  | [], [], _, k, .nil, l => rfl
  | [], _ :: _, _, _, _, l => by simp at l
  | _ :: _, [], _, _, .nil, l => by simp at l
  | k' :: ks, d :: ds, v :: vs, k, .cons a b, l => by
    have ih := valV_zip (ks := ks) k b (by simpa using l)
    unfold lookK
    by_cases q : k' = k
    · rw [if_pos q]
      refine ⟨v, ?_, a⟩
      unfold valV
      rw [List.zip_cons_cons, List.find?_cons_of_pos (by simpa using q)]
      rfl
    · rw [if_neg q]
      have e : valV ((k' :: ks).zip (v :: vs)) k = valV (ks.zip vs) k := by
        unfold valV
        rw [List.zip_cons_cons, List.find?_cons_of_neg (by simpa using q)]
      unfold InD
      rw [e]
      exact ih
/-- a dict is read -/
def GotD (θ : Th) (F H : Hp) (a : Addr) (y : V) : Option D → Prop
  | some x => ∃ z, DGet H a y (some z) ∧ Rep θ F x z
  | none => DGet H a y none
theorem Rd1.dict {θ : Th} {F H : Hp} {d k : D} {v y : V} {o : Option D} (s : Sub F H) (rd : Rd1 θ F H d v) (rk : Rd1 θ F H k y) (h : dGet d k = some o) : ∃ a, v = .ref a ∧ IsD H a ∧ GotD θ F H a y o := by
  have rdk : ∀ {a : Addr} {u : HO}, IsDict u → (F a = some u ∨ H a = some u) → Rd H a u := fun {a u} iu z => by
    rcases z with z | z
    · rcases s a u z with z | ⟨_, o, z⟩
      · exact .inl z
      · exact .inr ⟨o, z⟩
    · exact .inl z
  cases d <;> first | cases h | skip
  · rename_i ks ds
    cases q : keyOf k with
    | none => rw [show dGet (.dK ks ds) k = (keyOf k).map fun x => lookK ks ds x from rfl, q] at h; cases h
    | some x =>
      rw [show dGet (.dK ks ds) k = (keyOf k).map fun x => lookK ks ds x from rfl, q] at h
      have ey := keyOf_kV q rk
      obtain ⟨a, xs, e, l, r, rh⟩ : ∃ a xs, v = .ref a ∧ ks.length = ds.length ∧ RepL θ F ds xs ∧ Rd H a (.dK (ks.zip xs)) := by
        rcases rd with rd | ⟨a, o, e, ha, rd⟩
        · cases rd with
          | dK e l r => exact ⟨_, _, rfl, l, r, rdk True.intro (.inl e)⟩
        · cases rd with
          | dK l r => exact ⟨a, _, e, l, r, rdk True.intro (.inr ha)⟩
      have z := valV_zip x r l
      have eo : lookK ks ds x = o := Option.some.inj h
      rw [eo] at z
      refine ⟨a, e, .inl ⟨_, rh⟩, ?_⟩
      cases o with
      | some w =>
        obtain ⟨u, z1, z2⟩ := z
        exact ⟨u, .inl ⟨_, x, rh, ey, z1.symm⟩, z2⟩
      | none => exact .inl ⟨_, x, rh, ey, z.symm⟩
  · rename_i ks ds
    cases q : tkeyOf k with
    | none => rw [show dGet (.dT ks ds) k = (tkeyOf k).map fun x => lookK ks ds x from rfl, q] at h; cases h
    | some x =>
      rw [show dGet (.dT ks ds) k = (tkeyOf k).map fun x => lookK ks ds x from rfl, q] at h
      obtain ⟨ts, rfl⟩ : ∃ ts, k = .tup ts := by cases k <;> first | exact ⟨_, rfl⟩ | cases q
      obtain ⟨t, zs, ey, ht, rt, _⟩ := rk.tup s
      have ez := keysOf_kV (show keysOf ts = some x from q) rt
      obtain ⟨a, xs, e, l, r, rh⟩ : ∃ a xs, v = .ref a ∧ ks.length = ds.length ∧ RepL θ F ds xs ∧ Rd H a (.dT (ks.zip xs)) := by
        rcases rd with rd | ⟨a, o, e, ha, rd⟩
        · cases rd with
          | dT e l r => exact ⟨_, _, rfl, l, r, rdk True.intro (.inl e)⟩
        · cases rd with
          | dT l r => exact ⟨a, _, e, l, r, rdk True.intro (.inr ha)⟩
      have z := valV_zip x r l
      have eo : lookK ks ds x = o := Option.some.inj h
      rw [eo] at z
      rw [ez] at ht
      refine ⟨a, e, .inr ⟨_, rh⟩, ?_⟩
      cases o with
      | some w =>
        obtain ⟨u, z1, z2⟩ := z
        exact ⟨u, .inr ⟨_, x, t, rh, ey, ht, z1.symm⟩, z2⟩
      | none => exact .inr ⟨_, x, t, rh, ey, ht, z.symm⟩
theorem od_row {σ : L2.St} {ρ : Sl} {F H : Hp} {Q : VK} {x y : V} {d e : D} (n1 : ∀ ks ds, d ≠ .dK ks ds) (n2 : ∀ ks ds, d ≠ .dT ks ds) (s : Sub F H) (rx : Rd1 c.θ F H d x) (ry : Rd1 c.θ F H e y) (h : Res c W σ ρ F H Q (oIx d e)) : rIx c.θ.K x y H Q := by
  cases d <;> first | exact absurd rfl (n1 _ _) | exact absurd rfl (n2 _ _) | exact (show False from h).elim | skip
  · rename_i z
    cases e <;> first | exact (show False from h).elim | skip
    rename_i i
    cases rx.str; cases ry.int
    obtain ⟨hl, h⟩ := Res.ite h
    cases q : atI z.cps.toList i with
    | none => rw [q] at h; exact h.elim
    | some v =>
      rw [q] at h
      exact .inr (.inr ⟨z, i, v, rfl, rfl, Nat.le_trans hl SZ_le, q, h.str s⟩)
  · rename_i ds
    cases e <;> first | exact (show False from h).elim | skip
    rename_i i
    obtain ⟨p, xs, rfl, hp, r⟩ := rx.lst s
    cases ry.int
    have h : Res c W σ ρ F H Q (match atI ds i with
      | some d => shr d
      | none => .no) := h
    cases q : atI ds i with
    | none => rw [q] at h; exact h.elim
    | some v =>
      rw [q] at h
      obtain ⟨z, z1, z2⟩ := atI_rep r q
      exact .inl ⟨p, xs, i, z, rfl, rfl, .inl (.inl hp), z1, h.sh s z2⟩
  · rename_i ds
    cases e <;> first | exact (show False from h).elim | skip
    rename_i i
    obtain ⟨p, xs, rfl, hp, r, _⟩ := rx.tup s
    cases ry.int
    have h : Res c W σ ρ F H Q (match atI ds i with
      | some d => shr d
      | none => .no) := h
    cases q : atI ds i with
    | none => rw [q] at h; exact h.elim
    | some v =>
      rw [q] at h
      obtain ⟨z, z1, z2⟩ := atI_rep r q
      exact .inr (.inl ⟨p, xs, i, z, rfl, rfl, .inl (.inl hp), z1, h.sh s z2⟩)
theorem pg_ix (hu : X.A.units + 1 < cLine) (hK : X.K = c.θ.K) (ha : PE X a (tEv c L W f)) (hb : PE X b (tEv c L W g)) (hs : PlainIx b) : PE X (.Subscript a b pos) (tEv c L W (eBin oIx f g)) := by
  refine ⟨fun pins s σ H Q I h => ?_⟩
  obtain ⟨F, ρ, R, h⟩ := of_tEv h
  -- a dict, or a row
  have dct : (∀ d k, f ρ = .ok (d, k) → (∃ ks ds, d = .dK ks ds) ∨ ∃ ks ds, d = .dT ks ds) → wpAny (model X.prog X.w) X.A (eval (.Subscript a b pos) X.env) (EP X pins σ Q) X.xe s := fun hd => by
    refine (pe_dget hu ha hb hs).run pins s σ H Q I ?_
    refine ev_bind R h fun d k x F1 H1 ef e1 rd1 _ R1 h1 => ?_
    refine ev_bind R1 h1 fun d2 k2 y F2 H2 _ e2 rd2 _ R2 h2 => ?_
    have h2 : Res c W σ ρ F2 H2 Q (oIx d d2) := h2
    have key : oIx d d2 = match dGet d d2 with
      | some (some v) => shr v
      | _ => .no := by
      rcases hd d k ef with ⟨ks, ds, rfl⟩ | ⟨ks, ds, rfl⟩ <;> rfl
    rw [key] at h2
    cases q : dGet d d2 with
    | none => rw [q] at h2; exact h2.elim
    | some o =>
      cases o with
      | none => rw [q] at h2; exact h2.elim
      | some v =>
        rw [q] at h2
        obtain ⟨p, e, _, z, hz, rz⟩ := Rd1.dict R2.sub (rd1.ext e2) rd2 q
        exact ⟨p, z, e, hz, h2.sh R2.sub rz⟩
  have row : (∀ d k, f ρ = .ok (d, k) → (∀ ks ds, d ≠ .dK ks ds) ∧ ∀ ks ds, d ≠ .dT ks ds) → wpAny (model X.prog X.w) X.A (eval (.Subscript a b pos) X.env) (EP X pins σ Q) X.xe s := fun hd => by
    refine (pe_ix ix_seq ha hb hs).run pins s σ H Q I ?_
    refine ev_bind R h fun d k x F1 H1 ef e1 rd1 _ R1 h1 => ?_
    refine ev_bind R1 h1 fun d2 k2 y F2 H2 _ e2 rd2 _ R2 h2 => ?_
    rw [hK]
    obtain ⟨n1, n2⟩ := hd d k ef
    exact od_row n1 n2 R2.sub (rd1.ext e2) rd2 h2
  cases hf : f ρ with
  | ok x =>
    obtain ⟨d, k⟩ := x
    by_cases q : (∃ ks ds, d = .dK ks ds) ∨ ∃ ks ds, d = .dT ks ds
    · refine dct fun d' k' e => ?_
      rw [hf] at e
      cases e
      exact q
    · refine row fun d' k' e => ?_
      rw [hf] at e
      cases e
      exact ⟨fun ks ds e => q (.inl ⟨ks, ds, e⟩), fun ks ds e => q (.inr ⟨ks, ds, e⟩)⟩
  | ex n fs => exact row fun d' k' e => by rw [hf] at e; cases e
  | no => exact row fun d' k' e => by rw [hf] at e; cases e
def ResP (c : Cn) (W : WX) (σ : L2.St) (F H : Hp) (Q : Option Int → Hp → Prop) : Out (Option Int) → Prop
  | .ok i => ∀ F' H', Ext F H F' H' → Q i H'
  | .ex n fs => ∀ cls dd F' H', Ext F H F' H' → ExV c.θ n fs cls dd F' H' → W cls dd σ H'
  | .no => False
def tPo (c : Cn) (L : List Addr) (W : WX) (o : Option ES) : TO := fun σ H Q => ∃ F ρ, Rel c.θ c.F0 c.B L F H σ ρ ∧ ResP c W σ F H Q (ePart o ρ)
theorem pgo_none : PO X none (tPo c L W none) := ⟨fun pins s σ H Q I h => po_none.run pins s σ H Q I (by
  obtain ⟨F, ρ, R, h⟩ := h
  exact h F H (Ext.refl R.sub))⟩
def oPart : D × Kd → Out (Option Int) := fun x => match x.1 with
  | .int i => .ok (some i)
  | _ => .no
theorem pgo_some (ha : PE X a (tEv c L W f)) : PO X (some a) (tPo c L W (some f)) := ⟨fun pins s σ H Q I h => (po_some ha).run pins s σ H Q I (by
  obtain ⟨F, ρ, R, h⟩ := h
  replace h : ResP c W σ F H Q ((f ρ).bind oPart) := h
  refine ⟨F, ρ, R, ?_⟩
  cases hf : f ρ with
  | no => rw [hf] at h; exact h
  | ex n fs => rw [hf] at h; exact h
  | ok x =>
    obtain ⟨d, k⟩ := x
    rw [hf] at h
    intro v F1 H1 e1 hv
    obtain ⟨F2, e2, _, rd, _⟩ := Val.use R e1 hv
    cases d <;> first | exact (show False from h).elim | skip
    cases rd.int
    exact ⟨_, rfl, h F2 H1 e2⟩)⟩
/-- a part of a slice, then what follows -/
theorem po_bind {o : Option ES} {σ : L2.St} {ρ : Sl} {F H : Hp} {Q : VK} {k : Option Int → Out (D × Kd)} {P : Option Int → Hp → Prop} (R : Rel c.θ c.F0 c.B L F H σ ρ) (h : Res c W σ ρ F H Q ((ePart o ρ).bind k))
    (hp : ∀ i F1 H1, Ext F H F1 H1 → Rel c.θ c.F0 c.B L F1 H1 σ ρ → Res c W σ ρ F1 H1 Q (k i) → P i H1) : tPo c L W o σ H P := by
  refine ⟨F, ρ, R, ?_⟩
  cases hf : ePart o ρ with
  | ok i =>
    rw [hf] at h
    exact fun F' H' e => hp i F' H' e (R.ext e) (Res.mono (show Res c W σ ρ F H Q (k i) from h) e)
  | ex n fs =>
    rw [hf] at h
    exact h
  | no =>
    rw [hf] at h
    exact h
theorem cut_rep {θ : Th} {F : Hp} {ds : List D} {xs : List V} (r : RepL θ F ds xs) (lo hi : Option Int) : RepL θ F (cutD ds lo hi) (cutV xs lo hi) := by
  unfold cutD cutV
  rw [r.length]
  exact (r.drop _).take _
theorem pg_sl {p2 : Pos} {lo hi : Option Expr} {fl fh : Option ES} (hK : X.K = c.θ.K) (ha : PE X a (tEv c L W f)) (hl : PO X lo (tPo c L W fl)) (hh : PO X hi (tPo c L W fh)) : PE X (.Subscript a (.Slice lo hi none p2) pos) (tEv c L W (eSl f fl fh)) := by
  refine pe_ev (pe_slice (SlR.or sl_list sl_tupA) ha hl hh) fun σ H Q h => ?_
  obtain ⟨F, ρ, R, h⟩ := of_tEv h
  refine ev_bind R h fun d k x F1 H1 ef e1 rd1 so R1 h1 => ?_
  refine po_bind R1 h1 fun l F2 H2 e2 R2 h2 => ?_
  refine po_bind R2 h2 fun u F3 H3 e3 R3 h3 => ?_
  have rd := (rd1.ext e2).ext e3
  replace h3 : Res c W σ ρ F3 H3 Q (oSl d l u) := h3
  clear h h1 h2 so ef
  cases d <;> first | exact (show False from h3).elim | skip
  · obtain ⟨p, xs, rfl, hp, r⟩ := rd.lst R3.sub
    exact .inl ⟨p, xs, rfl, .inl (.inl hp), fun q hq => h3.lay R3.sub (.lst (cut_rep r l u)) hq⟩
  · rename_i ds
    obtain ⟨p, xs, rfl, hp, r, z⟩ := rd.tup R3.sub
    refine .inr ⟨p, xs, rfl, .inl (.inl hp), fun ⟨e1, e2⟩ => ?_, fun _ q hq => h3.layT R3.sub (cut_rep r l u) hq⟩
    have e : cutD ds l u = ds := by
      unfold cutD
      rw [r.length] at e1 e2
      rw [e1, e2, List.drop_zero, Nat.sub_zero, List.take_length]
    have h4 : Res c W σ ρ F3 H3 Q (shr (.tup (cutD ds l u))) := h3
    rw [e] at h4
    exact h4.sh R3.sub z
theorem zip_lookup {θ : Th} {F : Hp} : ∀ {names : List Str} {ds : List D} {xs : List V} {i : Nat} {n : Str} {d : D}, names.Nodup → RepL θ F ds xs → names[i]? = some n → ds[i]? = some d → ∃ v, (names.zip xs).lookup n = some v ∧ Rep θ F d v
  | [], _, _, _, _, _, _, _, h, _ => by simp at h
  | _ :: _, _, _, _, _, _, _, .nil, _, h => by simp at h
  | m :: names, _, _, 0, n, d, nd, .cons a b, h1, h2 => by
    simp at h1 h2
    subst h1 h2
    exact ⟨_, by rw [List.zip_cons_cons, List.lookup_cons, beq_self_eq_true], a⟩
  | m :: names, _, _, i + 1, n, d, nd, .cons a b, h1, h2 => by
    have h1' : names[i]? = some n := by simpa using h1
    obtain ⟨v, e, r⟩ := zip_lookup (i := i) (List.nodup_cons.mp nd).2 b h1' (by simpa using h2)
    refine ⟨v, ?_, r⟩
    have ne : (n == m) = false := beq_eq_false_iff_ne.mpr fun z => by
      subst z
      exact (List.nodup_cons.mp nd).1 (List.mem_of_getElem? h1')
    rw [List.zip_cons_cons, List.lookup_cons, ne]
    exact e
/-- what of the text a field's reading leans on: of class n -/
structure FldOk (c : Cn) (x : Str) (fx : Nat → Option Nat) : Prop where
  ok : ∀ n i, fx n = some i → Cls c.θ.K (c.θ.C n) ∧ NoAttr c.θ.K (c.θ.C n) x ∧ (c.θ.fld n)[i]? = some x ∧ (c.θ.fld n).Nodup
theorem pg_fld {x : Str} {fx : Nat → Option Nat} (T : FldOk c x fx) (hK : X.K = c.θ.K) (ha : PE X a (tEv c L W f)) (hb : attributeBase a x X.env (eval a X.env) = eval a X.env) : PE X (.Attribute a x pos) (tEv c L W (eUn (oFld fx) f)) := by
  refine pe_ev (pe_fld ha hb) fun σ H Q h => ?_
  obtain ⟨F, ρ, R, h⟩ := of_tEv h
  refine ev_bind R h fun d k v F1 H1 ef e1 rd so R1 h1 => ?_
  clear h so ef
  replace h1 : Res c W σ ρ F1 H1 Q (oFld fx d) := h1
  cases d <;> first | exact (show False from h1).elim | skip
  rename_i n ds
  replace h1 : Res c W σ ρ F1 H1 Q (match fx n with
    | some i => match ds[i]? with
      | some d => shr d
      | none => .no
    | none => .no) := h1
  cases q : fx n with
  | none => rw [q] at h1; exact h1.elim
  | some i =>
    rw [q] at h1
    replace h1 : Res c W σ ρ F1 H1 Q (match ds[i]? with
      | some d => shr d
      | none => .no) := h1
    cases q2 : ds[i]? with
    | none => rw [q2] at h1; exact h1.elim
    | some d =>
      rw [q2] at h1
      obtain ⟨z1, z2, z3, z4⟩ := T.ok n i q
      rcases rd with rd | ⟨p, o, rfl, ho, rd⟩
      · cases rd with
        | obj e l r =>
          obtain ⟨w, lw, rw'⟩ := zip_lookup z4 r z3 q2
          rw [hK]
          exact ⟨_, _, _, _, w, rfl, R1.sub.ins e, z1, z2, lw, h1.sh R1.sub rw'⟩
      · cases rd with
        | obj l r =>
          have hi : i < ds.length := (List.getElem?_eq_some_iff.mp q2).1
          obtain ⟨w, lw, rw'⟩ := zip_lookup (z4.sublist (List.take_sublist _ _)) r (by rw [List.getElem?_take_of_lt hi]; exact z3) q2
          rw [hK]
          exact ⟨_, _, _, _, w, rfl, ho, z1, z2, lw, h1.sh R1.sub rw'⟩
end
end G
namespace G
open PySem PySem.Spec L2
section
variable {X : Cx} {c : Cn} {L : List Addr} {W : WX} {f g h : ES} {a b e : Expr} {pos : Pos} {es : List Expr} {fs : List ES}
abbrev tyNames : List String := ["NoneType", "bool", "int", "str", "list", "tuple", "dict"]
abbrev isNames : List String := ["bool", "int", "str", "list", "tuple"]
theorem kit_tab : ∀ S ∈ tyNames, ∀ T ∈ isNames, kitB S T = some (isiT T S) := by decide +kernel
theorem tyName_mem {d : D} {S : String} (h : tyName d = some S) : S ∈ tyNames := by
  cases d <;> first | cases h | skip
  all_goals decide
theorem ty_of {θ : Th} {F H : Hp} {d : D} {x : V} {S : String} (s : Sub F H) (rd : Rd1 θ F H d x) (h : tyName d = some S) : TyX θ.K H x (.type S) := by
  cases d <;> first | cases h | skip
  · cases rd.non; exact .base .non
  · cases rd.bl; exact .base (.bl _)
  · cases rd.int; exact .base (.int _)
  · cases rd.str; exact .base (.str _)
  · obtain ⟨a, xs, rfl, ha, _⟩ := rd.lst s
    exact .base (.lst ha)
  · obtain ⟨a, xs, rfl, ha, _⟩ := rd.tup s
    exact .base (.tup ha)
  · rcases rd with rd | ⟨a, o, rfl, ha, rd⟩
    · cases rd with
      | dK e l r =>
        rcases s _ _ e with z | ⟨_, o, z⟩
        · exact .base (.dK z)
        · exact .fDict z
    · cases rd with
      | dK l r => exact .base (.dK ha)
theorem pg_isi {T : Str} {S : String} {p p2 : Pos} (hK : X.K = c.θ.K) (hg : Gl X "isinstance") (hm : X.mg "isinstance" = none) (hg2 : Gl X T) (hm2 : X.mg T = none) (hv : bootBuiltins T = some (.type S)) (hT : T ≠ "__name__") (hd : (T == ("__debug__" : Str)) = false) (hS : S ∈ isNames)
    (hst : starEach [a, .Name T p2] X.env = (false, eval a X.env) :: starEach [.Name T p2] X.env) (ha : PE X a (tEv c L W f)) : PE X (.Call (.Name "isinstance" p) [a, .Name T p2] [] pos) (tEv c L W (eUn (oIsi S) f)) := by
  refine pe_ev (pe_callB call_isi hg hm (by decide +kernel) (pa_cons ha (pa_cons (pe_bltn (v := .ty S) hg2 hm2 hv rfl hT hd) pa_nil) hst) (he := hst)) fun σ H Q h => ?_
  obtain ⟨F, ρ, R, h⟩ := of_tEv h
  refine ev_bind R h fun d k x F1 H1 ef e1 rd so R1 h1 => ?_
  replace h1 : Res c W σ ρ F1 H1 Q (match tyName d with
    | some U => shr (.bl (isiT S U))
    | none => .no) := h1
  cases q : tyName d with
  | none => rw [q] at h1; exact h1.elim
  | some U =>
    rw [q] at h1
    rw [hK]
    exact ⟨x, .ty S, .type U, .type S, _, rfl, .ty S, ty_of R1.sub rd q, kit_ty (kit_tab U (tyName_mem q) S hS), h1.bl R1.sub⟩
def BiD (c : Cn) (W : WX) (b : Bi) (r : List V → Hp → VK → Prop) : Prop := ∀ (σ : L2.St) (ρ : Sl) (F H : Hp) (Q : VK) (xs : List (D × Kd)) (vs : List V), Sub F H → ArgR c.θ F H xs vs → Res c W σ ρ F H Q (oBi b (xs.map (·.1))) → r vs H Q
theorem pg_bi {b : Bi} {id : String} {x : Str} {p : Pos} {r : List V → Hp → VK → Prop} (hc : CallR X (.builtin id) r) (hd : BiD c W b r) (hg : Gl X x) (hm : X.mg x = none) (hv : bootBuiltins x = some (.builtin id)) (ha : PA X (e :: es) (tAv c L W fs)) (hn : x ≠ "__name__") (hdb : (x == ("__debug__" : Str)) = false)
    (he : starEach (e :: es) X.env = (false, eval e X.env) :: starEach es X.env) (hpl : (backTo pos (starEach es X.env)).any (·.1) = false) : PE X (.Call (.Name x p) (e :: es) [] pos) (tEv c L W (eBi b fs)) := by
  refine pe_ev (pe_callB hc hg hm hv ha hn hdb he hpl) fun σ H Q h => ?_
  obtain ⟨F, ρ, R, h⟩ := of_tEv h
  exact av_bind R h fun xs vs F1 H1 _ e1 ar R1 h1 => hd σ ρ F1 H1 Q xs vs R1.sub ar h1
theorem pg_biTy {b : Bi} {id : String} {x : Str} {p : Pos} {r : List V → Hp → VK → Prop} (hc : CallR X (.type id) r) (hd : BiD c W b r) (hg : Gl X x) (hm : X.mg x = none) (hv : bootBuiltins x = some (.type id)) (ha : PA X (e :: es) (tAv c L W fs)) (hn : x ≠ "__name__") (hdb : (x == ("__debug__" : Str)) = false)
    (he : starEach (e :: es) X.env = (false, eval e X.env) :: starEach es X.env) (hpl : (backTo pos (starEach es X.env)).any (·.1) = false) : PE X (.Call (.Name x p) (e :: es) [] pos) (tEv c L W (eBi b fs)) := by
  refine pe_ev (pe_callTy hc hg hm hv ha hn hdb he hpl) fun σ H Q h => ?_
  obtain ⟨F, ρ, R, h⟩ := of_tEv h
  exact av_bind R h fun xs vs F1 H1 _ e1 ar R1 h1 => hd σ ρ F1 H1 Q xs vs R1.sub ar h1
/-- one argument, two -/
theorem bi1 {b : Bi} {r : List V → Hp → VK → Prop} (h0 : ∀ d e l, oBi b (d :: e :: l) = .no) (hn : oBi b [] = .no)
    (h : ∀ (σ : L2.St) (ρ : Sl) (F H : Hp) (Q : VK) (d : D) (v : V), Sub F H → Rd1 c.θ F H d v → Res c W σ ρ F H Q (oBi b [d]) → r [v] H Q) : BiD c W b r := by
  intro σ ρ F H Q xs vs s ar hr
  cases ar with
  | nil => rw [List.map_nil, hn] at hr; exact hr.elim
  | cons rd so t =>
    cases t with
    | nil => exact h σ ρ F H Q _ _ s rd hr
    | cons rd2 so2 t =>
      rw [List.map_cons, List.map_cons, h0] at hr
      exact hr.elim
theorem Rd1.dK {θ : Th} {F H : Hp} {ks : List Key} {ds : List D} {v : V} (s : Sub F H) (rd : Rd1 θ F H (.dK ks ds) v) : ∃ a xs, v = .ref a ∧ ks.length = ds.length ∧ RepL θ F ds xs ∧ Rd H a (.dK (ks.zip xs)) := by
  rcases rd with rd | ⟨a, o, rfl, ha, rd⟩
  · cases rd with
    | dK e l r =>
      rcases s _ _ e with z | ⟨_, o, z⟩
      · exact ⟨_, _, rfl, l, r, .inl z⟩
      · exact ⟨_, _, rfl, l, r, .inr ⟨o, z⟩⟩
  · cases rd with
    | dK l r => exact ⟨a, _, rfl, l, r, .inl ha⟩
theorem Rd1.dT {θ : Th} {F H : Hp} {ks : List (List Key)} {ds : List D} {v : V} (s : Sub F H) (rd : Rd1 θ F H (.dT ks ds) v) : ∃ a xs, v = .ref a ∧ ks.length = ds.length ∧ RepL θ F ds xs ∧ Rd H a (.dT (ks.zip xs)) := by
  rcases rd with rd | ⟨a, o, rfl, ha, rd⟩
  · cases rd with
    | dT e l r =>
      rcases s _ _ e with z | ⟨_, o, z⟩
      · exact ⟨_, _, rfl, l, r, .inl z⟩
      · exact ⟨_, _, rfl, l, r, .inr ⟨o, z⟩⟩
  · cases rd with
    | dT l r => exact ⟨a, _, rfl, l, r, .inl ha⟩
theorem bd_len : BiD c W .len (fun xs H Q => (∃ x n, xs = [x] ∧ LenV c.θ.K x H n ∧ Q (.int n) H) ∨ (∃ a kvs, xs = [V.ref a] ∧ Rd H a (.dK kvs) ∧ Q (.int (kvs.length : Nat)) H) ∨ (∃ a kvs, xs = [V.ref a] ∧ Rd H a (.dT kvs) ∧ Q (.int (kvs.length : Nat)) H)) := by
  refine bi1 (fun d e l => by cases d <;> rfl) rfl fun σ ρ F H Q d v s rd h => ?_
  cases d <;> first | exact (show False from h).elim | skip
  · cases rd.str
    obtain ⟨hl, h⟩ := Res.ite h
    exact .inl ⟨_, _, rfl, ⟨Nat.le_trans hl SZ_le, rfl⟩, h.int s⟩
  · obtain ⟨a, xs, rfl, ha, r⟩ := rd.lst s
    refine .inl ⟨_, xs.length, rfl, .inl ⟨xs, .inl (.inl ha), rfl⟩, ?_⟩
    rw [r.length]
    exact Res.int h s
  · obtain ⟨a, xs, rfl, ha, r, _⟩ := rd.tup s
    refine .inl ⟨_, xs.length, rfl, .inr ⟨xs, .inl (.inl ha), rfl⟩, ?_⟩
    rw [r.length]
    exact Res.int h s
  · obtain ⟨a, xs, rfl, l, r, ha⟩ := rd.dK s
    refine .inr (.inl ⟨a, _, rfl, ha, ?_⟩)
    rw [List.length_zip, r.length, ← l, Nat.min_self]
    exact Res.int h s
  · obtain ⟨a, xs, rfl, l, r, ha⟩ := rd.dT s
    refine .inr (.inr ⟨a, _, rfl, ha, ?_⟩)
    rw [List.length_zip, r.length, ← l, Nat.min_self]
    exact Res.int h s
theorem bd_abs : BiD c W .abs (fun xs H Q => ∃ i, xs = [.int i] ∧ Q (.int (if i < 0 then -i else i)) H) := by
  refine bi1 (fun d e l => by cases d <;> rfl) rfl fun σ ρ F H Q d v s rd h => ?_
  cases d <;> first | exact (show False from h).elim | skip
  cases rd.int
  exact ⟨_, rfl, Res.int h s⟩
theorem bd_str : BiD c W .str (fun xs H Q => ∃ i : Int, xs = [.int i] ∧ i.natAbs.log2 < 1920 ∧ Q (.str (toString i)) H) := by
  refine bi1 (fun d e l => by cases d <;> rfl) rfl fun σ ρ F H Q d v s rd h => ?_
  cases d <;> first | exact (show False from h).elim | skip
  cases rd.int
  obtain ⟨hl, h⟩ := Res.ite h
  exact ⟨_, rfl, hl, Res.str h s⟩
theorem boolsOf_eq : ∀ {ds : List D} {ns : List Bool}, boolsOf ds = some ns → ds = ns.map D.bl
  | [], ns, h => by cases h; rfl
  | d :: r, ns, h => by
    cases d with
    | bl i =>
      unfold boolsOf at h
      cases q : boolsOf r with
      | none => rw [q] at h; cases h
      | some ms =>
        rw [q] at h
        cases h
        rw [boolsOf_eq q]
        rfl
    | _ => cases h
theorem RepL.bools {θ : Th} {F : Hp} : ∀ {ns : List Bool} {xs : List V}, RepL θ F (ns.map D.bl) xs → xs = ns.map V.bl
  | [], _, h => by cases h; rfl
  | n :: ns, _, h => by
    cases h with
    | cons a b =>
      cases a
      rw [RepL.bools b]
      rfl
theorem bd_all : BiD c W .all (rAll c.θ.K) := by
  refine bi1 (fun d e l => by cases d <;> rfl) rfl fun σ ρ F H Q d v s rd h => ?_
  cases d <;> first | exact (show False from h).elim | skip
  rename_i ds
  obtain ⟨a, xs, rfl, ha, r⟩ := rd.lst s
  replace h : Res c W σ ρ F H Q (match boolsOf ds with
    | some bs => shr (.bl (bs.all id))
    | none => .no) := h
  cases q : boolsOf ds with
  | none => rw [q] at h; exact h.elim
  | some ns =>
    rw [q] at h
    rw [boolsOf_eq q] at r
    cases r.bools
    exact ⟨a, ns, rfl, .inl (.inl ha), h.bl s⟩
theorem bd_list : BiD c W .list (fun xs H Q => ∃ p ys, xs = [.ref p] ∧ (SqL c.θ.K H p ys ∨ SqT c.θ.K H p ys) ∧ ∀ l, H l = none → Q (.ref l) (upd H l (.lst ys))) := by
  refine bi1 (fun d e l => by cases d <;> rfl) rfl fun σ ρ F H Q d v s rd h => ?_
  cases d <;> first | exact (show False from h).elim | skip
  · obtain ⟨a, xs, rfl, ha, r⟩ := rd.lst s
    exact ⟨a, xs, rfl, .inl (.inl (.inl ha)), fun l hl => Res.lay h s (.lst r) hl⟩
  · obtain ⟨a, xs, rfl, ha, r, _⟩ := rd.tup s
    exact ⟨a, xs, rfl, .inr (.inl (.inl ha)), fun l hl => Res.lay h s (.lst r) hl⟩
end
end G
namespace G
open PySem PySem.Spec L2
/-- old objects as they were frozen ahead -/
noncomputable def newN (F F' H : Hp) : Hp := fun b => match H b with
  | none => F' b
  | some _ => F b
theorem newN_ext {F F2 F' H H' : Hp} (s : Sub F H) (s2 : Same F F2) (e : Ext F2 H F' H') : Ext F H (newN F F' H) H' := by
  refine ⟨fun b u h => ?_, fun b u h => ?_, e.hh, fun b u h => ?_⟩
  · unfold newN at h
    cases q : H b with
    | none => rw [q] at h; exact e.sub b u h
    | some w =>
      rw [q] at h
      exact e.sub b u (e.ff _ _ (s2 _ _ h))
  · have : ∃ w, H b = some w := by
      rcases s b u h with z | ⟨_, _, z⟩ <;> exact ⟨_, z⟩
    obtain ⟨w, hw⟩ := this
    unfold newN
    rw [hw]
    exact h
  · unfold newN at h
    cases q : H b with
    | none => exact .inr (.inl rfl)
    | some w => rw [q] at h; exact .inl h
theorem repl_flatF {θ : Th} {F F' : Hp} : ∀ {ds : List D} {vs : List V}, ds.all flat = true → RepL θ F ds vs → RepL θ F' ds vs
  | _, _, _, .nil => .nil
  | _, _, h, .cons r t => by
    rw [List.all_cons, Bool.and_eq_true] at h
    exact .cons (r.flat h.1) (repl_flatF h.2 t)
theorem FrV.new {θ : Th} {F F' H H' : Hp} {d : D} {v : V} (hd : newD d = true) (f : FrV θ F' H H' d v) : FrV θ (newN F F' H) H H' d v := by
  obtain ⟨fu, a, o, rfl, n, ha, nf, ro, nw⟩ := f
  have nf2 : newN F F' H a = none := by unfold newN; rw [n]; exact nf
  have le : Same (onlyN F' H) (newN F F' H) := fun b u h => by
    unfold onlyN at h
    unfold newN
    cases q : H b with
    | none => rw [q] at h; exact h
    | some w => rw [q] at h; cases h
  have le2 : Same (onlyN F' H) (onlyN (newN F F' H) H) := fun b u h => by
    have h2 := le b u h
    unfold onlyN at h ⊢
    cases q : H b with
    | none => exact h2
    | some w => rw [q] at h; cases h
  cases d with
  | lst ds =>
    cases ro with
    | lst rl => exact ⟨trivial, a, _, rfl, n, ha, nf2, .lst (repl_flatF hd rl), Nw.of rfl⟩
  | obj k ds => exact ⟨fu, a, o, rfl, n, ha, nf2, (nw rfl).mono le, fun z => (nw z).mono le2⟩
  | _ => cases hd
theorem FrV.notFlat {θ : Th} {F' H H' : Hp} {d : D} {v : V} (f : FrV θ F' H H' d v) (h : flat d = true) : False := by
  obtain ⟨_, _, _, _, _, _, _, ro, _⟩ := f
  cases ro <;> cases h
theorem TrV.flat {θ : Th} {F F' H H' : Hp} {n : Nat} {d : D} {v : V} (h : G.flat d = true) (f : TrV θ F' H H' n d v) : Rep θ F d v := by
  obtain ⟨S, t, _⟩ := f
  cases n with
  | zero =>
    cases t with
    | lf r => exact r.flat h
  | succ n =>
    cases t with
    | fl _ r => exact r.flat h
    | lst _ _ => cases h
    | tup _ _ _ => cases h
    | dK _ _ _ => cases h
    | dT _ _ _ => cases h
    | obj _ _ _ => cases h
def ResF (θ : Th) (F H : Hp) (Q : VK) (E : XK) : Out (D × Bool) → Prop
  | .ok (d, true) => ∀ v F' H', Ext F H F' H' → FrV θ F' H H' d v → Q v H'
  | .ok (d, false) => ∀ v F' H', Ext F H F' H' → Rep θ F' d v → Q v H'
  | .ex n fs => ∀ cls dd F' H', Ext F H F' H' → ExV θ n fs cls dd F' H' → E cls dd H'
  | .no => False
/-- a def whose value on ds is S ds -/
def spOf (θ : Th) (m : Nat) (S : List D → Out (D × Bool)) : Sp := fun vs H Q E => vs.length = m ∧ ∃ F ds, Sub F H ∧ RepL θ F ds vs ∧ ResF θ F H Q E (S ds)
/-- an __init__ of class k: what it makes of its arguments -/
def spInit (θ : Th) (m k : Nat) (S : List D → Out (D × Bool)) : Sp := fun vs H Q E => vs.length = m + 1 ∧ ∃ F ds H0 x dx us, vs = .ref x :: us ∧ H0 x = none ∧ H0 dx = none ∧ dx ≠ x ∧ H = upd (upd H0 dx (.own x)) x (.ins (θ.C k) dx []) ∧ Sub F H0 ∧ RepL θ F ds us ∧
  ResF θ F H0 (fun v H' => v = .ref x → Q .non H') E (S ds)
/-- own roots among the arguments are frozen for the call -/
theorem ArgR.freeze {θ : Th} {F H : Hp} : ∀ {xs : List (D × Kd)} {vs : List V}, Sub F H → ArgR θ F H xs vs → okArgs xs = true → ∃ F2, Same F F2 ∧ Sub F2 H ∧ RepL θ F2 (xs.map (·.1)) vs
  | _, _, s, .nil, _ => ⟨F, .refl _, s, .nil⟩
  | _, _, s, .cons (d := d) (k := k) (v := v) rd so t, hf => by
    obtain ⟨hf1, hf2⟩ := Bool.and_eq_true_iff.mp (show ((k.solid || notObj d) && okArgs _) = true from hf)
    obtain ⟨F2, e, s2, r⟩ := ArgR.freeze s t hf2
    by_cases sol : k.solid = true
    · exact ⟨F2, e, s2, .cons ((so sol).mono e) r⟩
    rcases rd with rd | ⟨a, o, rfl, ha, ro⟩
    · exact ⟨F2, e, s2, .cons (rd.mono e) r⟩
    · have fu : Full θ d := by
        rcases Bool.or_eq_true_iff.mp hf1 with z | z
        · exact absurd z sol
        · cases d <;> first | trivial | cases z
      cases q : F2 a with
      | none =>
        have e2 : Same F2 (upd F2 a o) := Same.lay q
        refine ⟨upd F2 a o, e.trans e2, fun b u h => ?_, .cons ((ro.mono e).frozen q fu) (r.mono e2)⟩
        by_cases hb : b = a
        · subst hb
          rw [upd_same] at h
          cases h
          exact .inl ha
        · rw [upd_ne hb] at h
          exact s2 b u h
      | some u =>
        have eu : u = o := by
          rcases s2 a u q with z | ⟨_, o', z⟩
          · rw [ha] at z
            exact (Option.some.inj z).symm
          · rw [ha] at z
            cases z
            cases ro
        subst eu
        refine ⟨F2, e, s2, .cons ?_ r⟩
        have ro := ro.mono e
        cases ro with
        | lst r => exact .lst q r
        | dK l r => exact .dK q l r
        | dT l r => exact .dT q l r
        | @obj c dx xs ds l r =>
          have fu : ds.length = (θ.fld c).length := fu
          rw [fu, List.take_length] at q
          exact .obj q fu.symm r
section
variable {X : Cx} {c : Cn} {L : List Addr} {W : WX} {f g h : ES} {a b e : Expr} {pos : Pos} {es : List Expr} {fs : List ES}
theorem eArgs_length : ∀ {fs : List ES} {ρ : Sl} {xs : List (D × Kd)}, eArgs fs ρ = .ok xs → xs.length = fs.length
  | [], _, _, h => by cases h; rfl
  | f :: fs, ρ, xs, h => by
    unfold eArgs at h
    cases q : f ρ with
    | no => rw [q] at h; cases h
    | ex n gs => rw [q] at h; cases h
    | ok x =>
      rw [q] at h
      cases q2 : eArgs fs ρ with
      | no => rw [bind_ok, q2] at h; cases h
      | ex n gs => rw [bind_ok, q2] at h; cases h
      | ok ys =>
        rw [bind_ok, q2] at h
        cases h
        rw [List.length_cons, List.length_cons, eArgs_length q2]
/-- what the call's outcome says of the def -/
theorem call_core {Γ : Gam} {n : Nat} {σ : L2.St} {ρ : Sl} {F H : Hp} {Q : VK} {xs : List (D × Kd)} {vs : List V} (s : Sub F H) (ar : ArgR c.θ F H xs vs)
    (h : Res c W σ ρ F H Q (match Γ n (xs.map (·.1)) with
      | .ok (d, b) => if allSolid xs then .ok (d, if b then .fr else .sh) else if flat d && okArgs xs then shr d else if (b && newD d) && okArgs xs then .ok (d, .fr) else .no
      | .ex c gs => if allSolid xs || (gs.isEmpty && okArgs xs) then .ex c gs else .no
      | .no => .no)) : ∃ F2, Same F F2 ∧ Sub F2 H ∧ RepL c.θ F2 (xs.map (·.1)) vs ∧ ResF c.θ F2 H Q (WE W σ) (Γ n (xs.map (·.1))) := by
  by_cases q : allSolid xs = true
  · refine ⟨F, .refl _, s, ar.solid q, ?_⟩
    cases hg : Γ n (xs.map (·.1)) with
    | no => rw [hg] at h; exact h
    | ex k gs =>
      rw [hg] at h
      replace h : Res c W σ ρ F H Q (if (allSolid xs || (gs.isEmpty && okArgs xs)) = true then .ex k gs else .no) := h
      exact (Res.ite h).2
    | ok z =>
      obtain ⟨d, b⟩ := z
      rw [hg] at h
      replace h : Res c W σ ρ F H Q (if allSolid xs = true then .ok (d, if b then .fr else .sh) else if (flat d && okArgs xs) = true then shr d else if ((b && newD d) && okArgs xs) = true then .ok (d, .fr) else .no) := h
      rw [if_pos q] at h
      cases b with
      | true => exact h
      | false => exact h
  · have go : okArgs xs = true → ∃ F2, Same F F2 ∧ Sub F2 H ∧ RepL c.θ F2 (xs.map (·.1)) vs := ar.freeze s
    have back : ∀ {F2 F' H' : Hp}, Same F F2 → Ext F2 H F' H' → Ext F H F H' := fun {F2 F' H'} e x => ⟨fun a u z => x.sub a u (x.ff _ _ (e _ _ z)), .refl _, x.hh, fun _ _ z => .inl z⟩
    cases hg : Γ n (xs.map (·.1)) with
    | no => rw [hg] at h; exact h.elim
    | ex k gs =>
      rw [hg] at h
      replace h : Res c W σ ρ F H Q (if (allSolid xs || (gs.isEmpty && okArgs xs)) = true then .ex k gs else .no) := h
      obtain ⟨h1, h2⟩ := Res.ite h
      rcases Bool.or_eq_true_iff.mp h1 with z | z
      · exact absurd z q
      obtain ⟨z1, z2⟩ := Bool.and_eq_true_iff.mp z
      obtain ⟨F2, e, s2, r⟩ := go z2
      have eg : gs = [] := List.isEmpty_iff.mp z1
      subst eg
      exact ⟨F2, e, s2, r, fun cls dd F' H' x hv => h2 cls dd F H' (back e x) hv⟩
    | ok z =>
      obtain ⟨d, b⟩ := z
      rw [hg] at h
      replace h : Res c W σ ρ F H Q (if allSolid xs = true then .ok (d, if b then .fr else .sh) else if (flat d && okArgs xs) = true then shr d else if ((b && newD d) && okArgs xs) = true then .ok (d, .fr) else .no) := h
      rw [if_neg q] at h
      by_cases h1 : (flat d && okArgs xs) = true
      rotate_left
      · rw [if_neg h1] at h
        obtain ⟨h1, h2⟩ := Res.ite h
        obtain ⟨z1, z2⟩ := Bool.and_eq_true_iff.mp h1
        obtain ⟨z0, z1⟩ := Bool.and_eq_true_iff.mp z1
        subst z0
        obtain ⟨F2, e, s2, r⟩ := go z2
        exact ⟨F2, e, s2, r, fun v F' H' x hv => h2 v _ H' (newN_ext s e x) (hv.new z1)⟩
      rw [if_pos h1] at h
      have h2 := h
      obtain ⟨z1, z2⟩ := Bool.and_eq_true_iff.mp h1
      obtain ⟨F2, e, s2, r⟩ := go z2
      refine ⟨F2, e, s2, r, ?_⟩
      cases b with
      | true =>
        intro v F' H' x hv
        exact (hv.notFlat z1).elim
      | false => exact fun v F' H' x hv => h2 v F H' (back e x) (hv.flat z1)
theorem ResF.imp {θ : Th} {F H : Hp} {Q Q' : VK} {E : XK} {o : Out (D × Bool)} (h : ResF θ F H Q E o) (k : ∀ v H', Q v H' → Q' v H') : ResF θ F H Q' E o := by
  cases o with
  | no => exact h
  | ex n fs => exact h
  | ok z =>
    obtain ⟨d, b⟩ := z
    cases b with
    | true => exact fun v F' H' x hv => k _ _ (h v F' H' x hv)
    | false => exact fun v F' H' x hv => k _ _ (h v F' H' x hv)
/-- f(..) -/
theorem pg_call {Γ : Gam} {n k m : Nat} {fa : Addr} {fd : FuncData} {ps : List Str} {x : Str} {p : Pos} (F : FnOk X.prog X.w X.K X.mg X.base (L2N.CX X.prog X.w) k fa fd ps (spOf c.θ m (Γ n))) (hr : Room k X.A) (hg : Gl X x) (hm : X.mg x = some (.ref fa))
    (hk : PySem.W.keepIn X.K (.ref fa) = true) (hb : Binds X.K fd ps []) (tk : L2N.Takes X W) (ha : PA X (e :: es) (tAv c L W fs)) (hl : fs.length = m) (hdb : (x == ("__debug__" : Str)) = false) (he : starEach (e :: es) X.env = (false, eval e X.env) :: starEach es X.env)
    (hpl : (backTo pos (starEach es X.env)).any (·.1) = false) : PE X (.Call (.Name x p) (e :: es) [] pos) (tEv c L W (eCall Γ n fs)) := by
  refine pe_ev (pe_callS (E := WE W) F hr hg hm hk hb (fun σ => L2N.passAt tk σ) ha hdb he hpl) fun σ H Q h => ?_
  obtain ⟨F, ρ, R, h⟩ := of_tEv h
  refine av_bind R h fun xs vs F1 H1 ef e1 ar R1 h1 => ?_
  obtain ⟨F2, _, s2, r, hf⟩ := call_core R1.sub ar h1
  refine ⟨?_, F2, _, s2, r, hf⟩
  rw [r.length, List.length_map, ← hl]
  exact eArgs_length ef
end
end G
namespace G
open PySem PySem.Spec L2
section
variable {X : Cx} {CX : CXT} {k : Nat} {f C : Addr} {fd : FuncData} {ps : List Str} {sp : Sp} {E : L2.St → XK} {x m : Str} {p pos apos : Pos} {e o : Expr} {es : List Expr} {ta : TE} {t : TA}
def tMethS (C : Addr) (m : Str) (sp : Sp) (E : L2.St → XK) (ta : TE) (t : TA) : TE := fun σ H Q => ta σ H fun x H1 => ∃ a dx fs, x = .ref a ∧ H1 a = some (.ins C dx fs) ∧ fs.lookup m = none ∧ t σ H1 fun vs H2 => sp (x :: vs) H2 Q (E σ)
theorem pe_methS0 {pl : Sem Bool} (he : PE X o ta) (c : Cls X.K C) (hm : Meth X.K C m f) (F : FnOk X.prog X.w X.K X.mg X.base CX k f fd ps sp) (hr : Room k X.A) (hb : Binds X.K fd ps []) (hx : ∀ σ, PassesAt CX X σ (E σ))
    (ht : eval (.Call (.Attribute o m apos) [] [] pos) X.env = (do
      let ov ← eval o X.env
      standAt apos.atName
      let (f, first) ← holding [ov] (getMethod ov m pl)
      callWith pos f first (backTo pos (starEach [] X.env)) (backToKw pos (keywordEach [] X.env)))) :
    PE X (.Call (.Attribute o m apos) [] [] pos) (tMethS C m sp E ta tNil) := by
  refine ⟨fun pins s σ H Q I h => ?_⟩
  refine PySem.W.methodCall_KW (pl := pl) (thn (he.run pins s σ H _ I h) fun u s1 ⟨x, H1, I1, rx, a, dx, fs, ex, ea, l, q⟩ => ?_) ht
  subst ex
  obtain rfl : u = Value.ref a := rx
  refine getmeth_ok I1 ea c hm l ?_
  exact PySem.W.callWith_K0 (first := [.ref a]) I1.kIn hm.kp (run_fnS (us := [.ref a]) (vs := [.ref a]) F hr hb (hx σ) I1 (.cons rfl .nil) q)
def tMakeS (C : Addr) (sp : Sp) (E : L2.St → XK) (t : TA) : TE := fun σ H Q => t σ H fun vs H1 => ∀ x dx, H1 x = none → H1 dx = none → dx ≠ x → sp (.ref x :: vs) (upd (upd H1 dx (.own x)) x (.ins C dx [])) (fun v H2 => v = .non ∧ Q (.ref x) H2) (E σ)
theorem run_makeS {pins : List (Addr × Obj)} {σ : L2.St} {H : Hp} {s : Shared} {Q : VK} {us : List Value} {vs : List V} (M : Mk X.K C f) (F : FnOk X.prog X.w X.K X.mg X.base CX k f fd ps sp) (hr : Room (k + 1) X.A) (hb : Binds X.K fd ps [])
    (hx : PassesAt CX X σ (E σ)) (I : Inv X pins σ H s) (r : Vals vs us)
    (h : ∀ x dx, H x = none → H dx = none → dx ≠ x → sp (.ref x :: vs) (upd (upd H dx (.own x)) x (.ins C dx [])) (fun v H2 => v = .non ∧ Q (.ref x) H2) (E σ)) :
    wpAny (model X.prog X.w) X.A (call (.ref C) us) (EP X pins σ Q) X.xe s := by
  have hq := h (s.heap.objs.size + 1) s.heap.objs.size (I.hok.fresh (Nat.le_succ _)) (I.hok.fresh (Nat.le_refl _)) (Nat.ne_of_lt (Nat.lt_succ_self _))
  have I2 := Inv.made (C := C) I
  have r2 : Vals (V.ref (s.heap.objs.size + 1) :: vs) (Value.ref (s.heap.objs.size + 1) :: us) := .cons rfl r
  have hl : (Value.ref (s.heap.objs.size + 1) :: us).length = ps.length := by
    have e := r2.length
    rw [F.len _ _ _ _ hq] at e
    exact e.symm
  have b := hb s (Value.ref (s.heap.objs.size + 1) :: us)
  refine wpAny_call (make_map (f := f) I.kIn M.makes M.init (beq_iff_eq.mp M.fn) (codeAny_mono (F.run _ X.stack _ _ ⟨Value.ref (s.heap.objs.size + 1) :: us, []⟩ (Value.ref (s.heap.objs.size + 1) :: us) _ _ (E σ) (hr.make C us [])
    (I2.env0.make C us []) ?_ r2 hq) fun r s' hq' => ?_))
  · have b := hb _ (Value.ref (s.heap.objs.size + 1) :: us) I2.kIn (by rw [List.append_nil]; exact hl)
    rw [List.append_nil] at b
    exact b
  cases r with
  | error e => exact hx pins _ _ e s' I2 hq'
  | ok fl =>
    cases fl with
    | ret u =>
      obtain ⟨v, H', I3, rv, ev, q3⟩ := I2.after hq'
      subst ev
      exact ⟨rv, ⟨V.ref (s.heap.objs.size + 1), H', I3, rfl, q3⟩⟩
    | next => exact False.elim hq'
    | brk => exact False.elim hq'
    | cont => exact False.elim hq'
theorem pe_makeS (M : Mk X.K C f) (F : FnOk X.prog X.w X.K X.mg X.base CX k f fd ps sp) (hr : Room (k + 1) X.A) (hg : Gl X x) (hm : X.mg x = some (.ref C)) (hb : Binds X.K fd ps []) (hx : ∀ σ, PassesAt CX X σ (E σ))
    (ha : PA X (e :: es) t) (hdb : (x == ("__debug__" : Str)) = false) (he : starEach (e :: es) X.env = (false, eval e X.env) :: starEach es X.env) (hpl : (backTo pos (starEach es X.env)).any (·.1) = false) :
    PE X (.Call (.Name x p) (e :: es) [] pos) (tMakeS C sp E t) := by
  refine ⟨fun pins s σ H Q I h => ?_⟩
  refine wpAny_Call_Name_kw (ld_glob I hg hm ?_ hdb)
  refine PySem.W.callWith_K (h₀ := X.base) I.ok.mod.kin M.kp (thn (ha.run pos pins s σ H _ I h) fun us s1 ⟨vs, H1, I1, r, q⟩ => ⟨I1.kIn, ?_⟩) he hpl
  exact run_makeS M F hr hb (hx σ) I1 r q
end
section
variable {X : Cx} {c : Cn} {L : List Addr} {W : WX} {f g h : ES} {a b e o : Expr} {pos apos : Pos} {es : List Expr} {fs : List ES} {x m : Str} {p : Pos}
/-- C(..) -/
theorem pg_make {Γ : Gam} {n k m cn : Nat} {fa : Addr} {fd : FuncData} {ps : List Str} (M : Mk X.K (c.θ.C cn) fa) (F : FnOk X.prog X.w X.K X.mg X.base (L2N.CX X.prog X.w) k fa fd ps (spInit c.θ m cn (Γ n))) (hr : Room (k + 1) X.A) (hg : Gl X x) (hm : X.mg x = some (.ref (c.θ.C cn)))
    (hb : Binds X.K fd ps []) (tk : L2N.Takes X W) (ha : PA X (e :: es) (tAv c L W fs)) (hl : fs.length = m) (hdb : (x == ("__debug__" : Str)) = false) (he : starEach (e :: es) X.env = (false, eval e X.env) :: starEach es X.env)
    (hpl : (backTo pos (starEach es X.env)).any (·.1) = false) : PE X (.Call (.Name x p) (e :: es) [] pos) (tEv c L W (eCall Γ n fs)) := by
  refine pe_ev (pe_makeS (E := WE W) M F hr hg hm hb (fun σ => L2N.passAt tk σ) ha hdb he hpl) fun σ H Q h => ?_
  obtain ⟨F, ρ, R, h⟩ := of_tEv h
  refine av_bind R h fun xs vs F1 H1 ef e1 ar R1 h1 => ?_
  obtain ⟨F2, _, s2, r, hf⟩ := call_core R1.sub ar h1
  intro y dx ny nd ne
  refine ⟨?_, F2, _, H1, y, dx, vs, rfl, ny, nd, ne, rfl, s2, r, hf.imp fun v H' q ev => ⟨rfl, ?_⟩⟩
  · rw [List.length_cons, r.length, List.length_map, ← hl, eArgs_length ef]
  · rw [← ev]
    exact q
/-- what stands behind a method's name: by the receiver's class -/
structure MethOk (X : Cx) (c : Cn) (Γ : Gam) (m : Str) (mx : Nat → Option Nat) (l : Nat) : Prop where
  ok : ∀ k n, mx k = some n → ∃ fa fd ps kk, FnOk X.prog X.w X.K X.mg X.base (L2N.CX X.prog X.w) kk fa fd ps (spOf c.θ (l + 1) (Γ n)) ∧ Room kk X.A ∧ Cls X.K (c.θ.C k) ∧ Meth X.K (c.θ.C k) m fa ∧ Binds X.K fd ps [] ∧ m ∉ c.θ.fld k
theorem zip_no {m : Str} : ∀ {names : List Str} {xs : List V}, m ∉ names → (names.zip xs).lookup m = none
  | [], _, _ => rfl
  | _ :: _, [], _ => rfl
  | n :: names, x :: xs, h => by
    have ne : (m == n) = false := beq_eq_false_iff_ne.mpr fun z => h (z ▸ List.mem_cons_self)
    rw [List.zip_cons_cons, List.lookup_cons, ne]
    exact zip_no fun z => h (List.mem_cons_of_mem _ z)
theorem meth_core {Γ : Gam} {mx : Nat → Option Nat} {σ : L2.St} {ρ : Sl} {F H : Hp} {Q : VK} (h : Res c W σ ρ F H Q (eMeth Γ mx f fs ρ)) : ∃ k ds kd n, f ρ = .ok (.obj k ds, kd) ∧ mx k = some n ∧ kd.solid = true ∧ Res c W σ ρ F H Q (eCall Γ n (eC (.obj k ds) :: fs) ρ) := by
  unfold eMeth at h
  cases q : f ρ with
  | no => rw [q] at h; exact h.elim
  | ex n gs => rw [q] at h; exact h.elim
  | ok z =>
    obtain ⟨d, kd⟩ := z
    rw [q] at h
    cases d <;> first | exact (show False from h).elim | skip
    rename_i k ds
    replace h : Res c W σ ρ F H Q (match mx k with
      | some n => if kd.solid = true then eCall Γ n (eC (.obj k ds) :: fs) ρ else .no
      | none => .no) := h
    cases q2 : mx k with
    | none => rw [q2] at h; exact h.elim
    | some n =>
      rw [q2] at h
      obtain ⟨h1, h2⟩ := Res.ite h
      exact ⟨k, ds, kd, n, rfl, q2, h1, h2⟩
theorem meth_args {Γ : Gam} {n : Nat} {d : D} {ρ : Sl} : eCall Γ n (eC d :: fs) ρ = (eArgs fs ρ).bind fun xs => match Γ n (((d, Kd.sh) :: xs).map (·.1)) with
      | .ok (d', b) => if allSolid ((d, Kd.sh) :: xs) then .ok (d', if b then .fr else .sh) else if flat d' && okArgs ((d, Kd.sh) :: xs) then shr d' else if (b && newD d') && okArgs ((d, Kd.sh) :: xs) then .ok (d', .fr) else .no
      | .ex c gs => if allSolid ((d, Kd.sh) :: xs) || (gs.isEmpty && okArgs ((d, Kd.sh) :: xs)) then .ex c gs else .no
      | .no => .no := by
  unfold eCall
  show (((eC d ρ).bind fun x => (eArgs fs ρ).bind fun xs => .ok (x :: xs)).bind _) = _
  show (((eArgs fs ρ).bind fun xs => .ok ((d, Kd.sh) :: xs)).bind _) = _
  rw [bind_assoc']
  rfl
theorem pg_meth0 {Γ : Gam} {mx : Nat → Option Nat} {pl : Sem Bool} (T : MethOk X c Γ m mx 0) (tk : L2N.Takes X W) (ho : PE X o (tEv c L W f))
    (ht : eval (.Call (.Attribute o m apos) [] [] pos) X.env = (do
      let ov ← eval o X.env
      standAt apos.atName
      let (f, first) ← holding [ov] (getMethod ov m pl)
      callWith pos f first (backTo pos (starEach [] X.env)) (backToKw pos (keywordEach [] X.env)))) : PE X (.Call (.Attribute o m apos) [] [] pos) (tEv c L W (eMeth Γ mx f [])) := by
  refine ⟨fun pins s σ H Q I h => ?_⟩
  obtain ⟨F, ρ, R, h⟩ := of_tEv h
  obtain ⟨k, ds, kd, n, ef, em, es, h⟩ := meth_core h
  obtain ⟨fa, fd, ps, kk, t1, t2, t3, t4, t5, t6⟩ := T.ok k n em
  refine (pe_methS0 (E := WE W) (pl := pl) ho t3 t4 t1 t2 t5 (fun σ => L2N.passAt tk σ) ht).run pins s σ H Q I ?_
  refine ev_bind (g := fun _ => eCall Γ n [eC (.obj k ds)] ρ) R (by rw [ef]; exact h) fun d' k' x F1 H1 ef' e1 rd so R1 h1 => ?_
  rw [ef] at ef'
  cases ef'
  have rep := so es
  cases rep with
  | obj ho l r =>
    refine ⟨_, _, _, rfl, R1.sub.ins ho, zip_no t6, ?_⟩
    have ar2 : ArgR c.θ F1 H1 [(.obj k ds, Kd.sh)] _ := .cons rd (fun _ => so es) .nil
    obtain ⟨F3, _, s3, r3, hf⟩ := call_core R1.sub ar2 h1
    exact ⟨rfl, F3, _, s3, r3, hf⟩
end
end G
namespace G
open PySem PySem.Spec L2
/-- J walks ds, wherever F goes on and the heap keeps H (st = false) -/
structure Walks (θ : Th) (st : Bool) (J : It) (F H : Hp) (ds : List D) : Prop where
  go : ∀ (F2 H2 : Hp) (i : Nat) (d : D), Same F F2 → Sub F2 H2 → (st = false → Same H H2) → ds[i]? = some d → J.go i H2 ∧ ∀ x H', J.yld i H2 x H' → ∃ F3, Ext F2 H2 F3 H' ∧ Rep θ F3 d x
  stop : ∀ (F2 H2 : Hp), Same F F2 → Sub F2 H2 → (st = false → Same H H2) → J.stop ds.length H2
def ResI (c : Cn) (W : WX) (σ : L2.St) (st : Bool) (F H : Hp) (R : It → Hp → Prop) : Out (List D) → Prop
  | .ok ds => ∀ J F' H', Ext F H F' H' → Walks c.θ st J F' H' ds → R J H'
  | .ex n fs => ∀ cls dd F' H', Ext F H F' H' → ExV c.θ n fs cls dd F' H' → W cls dd σ H'
  | .no => False
def tIv (c : Cn) (L : List Addr) (W : WX) (st : Bool) (s : IS) : TI := fun σ H R => ∃ F ρ, Rel c.θ c.F0 c.B L F H σ ρ ∧ ResI c W σ st F H R (s ρ)
section
variable {X : Cx} {c : Cn} {L : List Addr} {W : WX} {st : Bool} {f g : ES} {a b e tg iter : Expr} {pos p : Pos} {s : IS}
theorem ResI.mono {σ : L2.St} {F F1 H H1 : Hp} {R : It → Hp → Prop} {o : Out (List D)} (h : ResI c W σ st F H R o) (e : Ext F H F1 H1) : ResI c W σ st F1 H1 R o := by
  cases o with
  | ok b => exact fun J F' H' e' w => h J F' H' (e.trans e') w
  | ex n fs => exact fun cls dd F' H' e' hv => h cls dd F' H' (e.trans e') hv
  | no => exact h
theorem iv_bind {σ : L2.St} {ρ : Sl} {F H : Hp} {R : It → Hp → Prop} {k : D × Kd → Out (List D)} {P : V → Hp → Prop} (Rl : Rel c.θ c.F0 c.B L F H σ ρ) (h : ResI c W σ st F H R ((f ρ).bind k))
    (hp : ∀ d kd x F1 H1, f ρ = .ok (d, kd) → Ext F H F1 H1 → Rd1 c.θ F1 H1 d x → (kd.solid = true → Rep c.θ F1 d x) → Rel c.θ c.F0 c.B L F1 H1 σ ρ → ResI c W σ st F1 H1 R (k (d, kd)) → P x H1) : tEv c L W f σ H P := by
  refine ⟨F, ρ, Rl, ?_⟩
  cases hf : f ρ with
  | ok x =>
    obtain ⟨d, kd⟩ := x
    rw [hf] at h
    intro v F' H' e hv
    obtain ⟨F2, e2, _, rd, so⟩ := Val.use Rl e hv
    exact hp d kd v F2 H' hf e2 rd so (Rl.ext e2) (ResI.mono (show ResI c W σ st F H R (k (d, kd)) from h) e2)
  | ex n fs =>
    rw [hf] at h
    exact h
  | no =>
    rw [hf] at h
    exact h
theorem pi_ev {t : TI} (h : PI X tg iter t) (hi : ∀ (σ : L2.St) (H : Hp) (R : It → Hp → Prop), tIv c L W st s σ H R → t σ H R) : PI X tg iter (tIv c L W st s) := ⟨fun pins s' σ H R I hw => h.run pins s' σ H R I (hi σ H R hw)⟩
/-- a list that is read stays so -/
theorem keepL {θ : Th} {F H : Hp} {d : D} {k : Kd} {x : V} {ds : List D} (hd : d = .lst ds) (s : Sub F H) (rd : Rd1 θ F H d x) (so : k.solid = true → Rep θ F d x) (hs : (st && !k.solid) = false) :
    ∃ a xs, x = .ref a ∧ H a = some (.lst xs) ∧ RepL θ F ds xs ∧ ∀ (F2 H2 : Hp), Same F F2 → Sub F2 H2 → (st = false → Same H H2) → H2 a = some (.lst xs) := by
  subst hd
  by_cases q : k.solid = true
  · cases so q with
    | lst e r => exact ⟨_, _, rfl, s.lst e, r, fun F2 H2 h1 h2 _ => h2.lst (h1 _ _ e)⟩
  · have e : st = false := by
      cases st with
      | false => rfl
      | true => simp [q] at hs
    obtain ⟨a, xs, rfl, ha, r⟩ := rd.lst s
    exact ⟨a, xs, rfl, ha, r, fun F2 H2 _ _ h3 => h3 e _ _ ha⟩
theorem keepT {θ : Th} {F H : Hp} {x : V} {ds : List D} (s : Sub F H) (rd : Rd1 θ F H (.tup ds) x) :
    ∃ a xs, x = .ref a ∧ H a = some (.tup xs) ∧ RepL θ F ds xs ∧ ∀ (F2 H2 : Hp), Same F F2 → Sub F2 H2 → H2 a = some (.tup xs) := by
  rcases rd with rd | ⟨_, _, _, _, rd⟩
  · cases rd with
    | tup e r => exact ⟨_, _, rfl, s.tup e, r, fun F2 H2 h1 h2 => h2.tup (h1 _ _ e)⟩
  · cases rd
theorem RepL.getD {θ : Th} {F F2 : Hp} {ds : List D} {xs : List V} {i : Nat} {d : D} {x : V} (r : RepL θ F ds xs) (e : Same F F2) (h : ds[i]? = some d) (hx : xs[i]? = some x) : Rep θ F2 d x := by
  obtain ⟨v, h1, h2⟩ := r.get h
  rw [hx] at h1
  cases h1
  exact h2.mono e
theorem RepL.ix {θ : Th} {F : Hp} {ds : List D} {xs : List V} {i : Nat} {d : D} (r : RepL θ F ds xs) (h : ds[i]? = some d) : ∃ x, xs[i]? = some x := by
  obtain ⟨v, h1, _⟩ := r.get h
  exact ⟨v, h1⟩
theorem walk_l {θ : Th} {F H : Hp} {a : Addr} {ds : List D} {xs : List V} (r : RepL θ F ds xs) (k : ∀ (F2 H2 : Hp), Same F F2 → Sub F2 H2 → (st = false → Same H H2) → H2 a = some (.lst xs)) : Walks θ st (Itl θ.K a) F H ds where
  go := fun F2 H2 i d h1 h2 h3 hd => by
    have q := k F2 H2 h1 h2 h3
    obtain ⟨x, hx⟩ := r.ix hd
    refine ⟨⟨xs, x, .inl (.inl q), hx⟩, fun y H' hy => ?_⟩
    obtain ⟨rfl, hy⟩ := hy
    exact ⟨F2, Ext.refl h2, r.getD h1 hd (hy xs (.inl (.inl q)))⟩
  stop := fun F2 H2 h1 h2 h3 => ⟨xs, .inl (.inl (k F2 H2 h1 h2 h3)), by rw [r.length]; exact Nat.le_refl _⟩
theorem walk_t {θ : Th} {F H : Hp} {a : Addr} {ds : List D} {xs : List V} (r : RepL θ F ds xs) (k : ∀ (F2 H2 : Hp), Same F F2 → Sub F2 H2 → H2 a = some (.tup xs)) : Walks θ st (Itt θ.K a) F H ds where
  go := fun F2 H2 i d h1 h2 h3 hd => by
    have q := k F2 H2 h1 h2
    obtain ⟨x, hx⟩ := r.ix hd
    refine ⟨⟨xs, x, .inl (.inl q), hx⟩, fun y H' hy => ?_⟩
    obtain ⟨rfl, hy⟩ := hy
    exact ⟨F2, Ext.refl h2, r.getD h1 hd (hy xs (.inl (.inl q)))⟩
  stop := fun F2 H2 h1 h2 h3 => ⟨xs, .inl (.inl (k F2 H2 h1 h2)), by rw [r.length]; exact Nat.le_refl _⟩
theorem walk_s {θ : Th} {F H : Hp} (z : Str) : Walks θ st (Its z) F H (z.cps.toList.map fun c => D.str ⟨#[c]⟩) where
  go := fun F2 H2 i d h1 h2 h3 hd => by
    rw [List.getElem?_map] at hd
    cases q : z.cps.toList[i]? with
    | none => rw [q] at hd; cases hd
    | some w =>
      rw [q] at hd
      cases hd
      have q' : z.cps[i]? = some w := by simpa using q
      refine ⟨(Array.getElem?_eq_some_iff.mp q').1, fun y H' hy => ?_⟩
      obtain ⟨rfl, w', hw, rfl⟩ := hy
      rw [q'] at hw
      cases hw
      exact ⟨F2, Ext.refl h2, .str _⟩
  stop := fun F2 H2 h1 h2 h3 => by
    show z.cps.size ≤ _
    simp
/-- a row is walked -/
theorem gi_list (hK : X.K = c.θ.K) (ha : PE X iter (tEv c L W f)) : PI X tg iter (tIv c L W st (itE st f)) := by
  refine ⟨fun pins s' σ H R I hw => ?_⟩
  obtain ⟨F, ρ, Rl, h⟩ := hw
  have txt : (∀ d k, f ρ = .ok (d, k) → ∃ z, d = .str z) → wpAny (model X.prog X.w) X.A (eval iter X.env) (fun v s1 => wpAny (model X.prog X.w) X.A (pyIter v) (PIE X pins σ tg R) X.xe s1) X.xe s' := fun hd => by
    refine (pi_str ha).run pins s' σ H R I ?_
    refine iv_bind Rl h fun d k x F1 H1 ef e1 rd so R1 h1 => ?_
    obtain ⟨z, rfl⟩ := hd d k ef
    replace h1 : ResI c W σ st F1 H1 R (if (st && !k.solid) = true then .no else .ok _) := h1
    by_cases q : (st && !k.solid) = true
    · rw [if_pos q] at h1; exact h1.elim
    · rw [if_neg q] at h1
      exact ⟨z, rd.str, h1 _ F1 H1 (Ext.refl R1.sub) (walk_s z)⟩
  have tup : (∀ d k, f ρ = .ok (d, k) → ∃ z, d = .tup z) → wpAny (model X.prog X.w) X.A (eval iter X.env) (fun v s1 => wpAny (model X.prog X.w) X.A (pyIter v) (PIE X pins σ tg R) X.xe s1) X.xe s' := fun hd => by
    refine (pi_tup ha).run pins s' σ H R I ?_
    refine iv_bind Rl h fun d k x F1 H1 ef e1 rd so R1 h1 => ?_
    obtain ⟨z, rfl⟩ := hd d k ef
    replace h1 : ResI c W σ st F1 H1 R (if (st && !k.solid) = true then .no else .ok _) := h1
    by_cases q : (st && !k.solid) = true
    · rw [if_pos q] at h1; exact h1.elim
    · rw [if_neg q] at h1
      obtain ⟨a, xs, rfl, ha, r, kp⟩ := keepT R1.sub rd
      rw [hK]
      exact ⟨a, rfl, ⟨xs, .inl (.inl ha)⟩, h1 _ F1 H1 (Ext.refl R1.sub) (walk_t r kp)⟩
  have lst : (∀ d k, f ρ = .ok (d, k) → (∀ z, d ≠ .str z) ∧ ∀ z, d ≠ .tup z) → wpAny (model X.prog X.w) X.A (eval iter X.env) (fun v s1 => wpAny (model X.prog X.w) X.A (pyIter v) (PIE X pins σ tg R) X.xe s1) X.xe s' := fun hd => by
    refine (pi_list ha).run pins s' σ H R I ?_
    refine iv_bind Rl h fun d k x F1 H1 ef e1 rd so R1 h1 => ?_
    obtain ⟨n1, n2⟩ := hd d k ef
    clear ef
    replace h1 : ResI c W σ st F1 H1 R (if (st && !k.solid) = true then .no else match itemsOf d with
      | some ds => .ok ds
      | none => .no) := h1
    by_cases q : (st && !k.solid) = true
    · rw [if_pos q] at h1; exact h1.elim
    rw [if_neg q] at h1
    have q' : (st && !k.solid) = false := by simpa using q
    rw [hK]
    cases d <;> first | exact absurd rfl (n1 _) | exact absurd rfl (n2 _) | exact (show False from h1).elim | skip
    · rename_i ds
      obtain ⟨a, xs, rfl, ha, r, kp⟩ := keepL (st := st) rfl R1.sub rd so q'
      exact ⟨a, rfl, ⟨xs, .inl (.inl ha)⟩, h1 _ F1 H1 (Ext.refl R1.sub) (walk_l r kp)⟩
    · rename_i ns
      rcases rd with rd | ⟨_, _, _, _, rd⟩
      · cases rd with
        | @frl a _ sq =>
          refine ⟨a, rfl, ⟨_, R1.sub.seq sq⟩, h1 _ F1 H1 (Ext.refl R1.sub) ⟨fun F2 H2 i d e1 e2 e3 hd => ?_, fun F2 H2 e1 e2 e3 => ⟨_, e2.seq (e1.seq sq), by simp⟩⟩⟩
          have q2 := e2.seq (e1.seq sq)
          rw [List.getElem?_map] at hd
          cases z : ns[i]? with
          | none => rw [z] at hd; cases hd
          | some w =>
            rw [z] at hd
            cases hd
            have hw : (ns.map V.int)[i]? = some (.int w) := by rw [List.getElem?_map, z]; rfl
            refine ⟨⟨_, _, q2, hw⟩, fun y H' hy => ?_⟩
            obtain ⟨rfl, hy⟩ := hy
            have := hy _ q2
            rw [hw] at this
            cases this
            exact ⟨F2, Ext.refl e2, .int w⟩
      · cases rd
  cases hf : f ρ with
  | ok x =>
    obtain ⟨d, k⟩ := x
    by_cases q : ∃ z, d = .str z
    · exact txt fun d' k' e => by rw [hf] at e; cases e; exact q
    · by_cases q2 : ∃ z, d = .tup z
      · exact tup fun d' k' e => by rw [hf] at e; cases e; exact q2
      · exact lst fun d' k' e => by rw [hf] at e; cases e; exact ⟨fun z e => q ⟨z, e⟩, fun z e => q2 ⟨z, e⟩⟩
  | ex n fs => exact lst fun d' k' e => by rw [hf] at e; cases e
  | no => exact lst fun d' k' e => by rw [hf] at e; cases e
theorem in62_ok {i : Int} (h : in62 i = true) : -(2 ^ 62) ≤ i ∧ i < 2 ^ 62 := by
  have h2 : i.natAbs < 4611686018427387904 := of_decide_eq_true h
  omega
theorem walk_r {θ : Th} {F H : Hp} (lo hi : Int) : Walks θ st (Itr lo (hi - lo).toNat) F H (rngD lo hi) where
  go := fun F2 H2 i d h1 h2 h3 hd => by
    unfold rngD at hd
    rw [List.getElem?_map] at hd
    have hi' : i < (hi - lo).toNat := by
      cases q : (List.range (hi - lo).toNat)[i]? with
      | none => rw [q] at hd; cases hd
      | some w =>
        have := (List.getElem?_eq_some_iff.mp q).1
        simpa using this
    rw [List.getElem?_range hi'] at hd
    cases hd
    refine ⟨hi', fun y H' hy => ?_⟩
    obtain ⟨rfl, rfl⟩ := hy
    exact ⟨F2, Ext.refl h2, .int _⟩
  stop := fun F2 H2 h1 h2 h3 => by
    show _ ≤ _
    unfold rngD
    simp
theorem gi_r1 (hg : Gl X "range") (hm : X.mg "range" = none) (ha : PE X a (tEv c L W f)) (hs : starEach [a] X.env = (false, eval a X.env) :: starEach [] X.env) : PI X tg (.Call (.Name "range" p) [a] [] pos) (tIv c L W st (itR1 f)) := by
  refine pi_ev (pi_range1 hg hm (pa_cons ha pa_nil hs) hs) fun σ H R h => ?_
  obtain ⟨F, ρ, Rl, h⟩ := h
  refine iv_bind Rl h fun d k x F1 H1 ef e1 rd so R1 h1 => ?_
  clear ef so h
  cases d <;> first | exact (show False from h1).elim | skip
  rename_i j
  cases rd.int
  replace h1 : ResI c W σ st F1 H1 R (if in62 j = true then .ok (rngD 0 j) else .no) := h1
  by_cases q : in62 j = true
  · rw [if_pos q] at h1
    obtain ⟨q1, q2⟩ := in62_ok q
    have w := walk_r (st := st) (θ := c.θ) (F := F1) (H := H1) 0 j
    rw [Int.sub_zero] at w
    exact ⟨j, rfl, q1, q2, h1 _ F1 H1 (Ext.refl R1.sub) w⟩
  · rw [if_neg q] at h1; exact h1.elim
end
end G
namespace G
open PySem PySem.Spec L2
section
variable {X : Cx} {c : Cn} {L : List Addr} {W : WX} {st : Bool} {f g : ES} {a b e tg iter : Expr} {pos p : Pos} {s : IS}
theorem zipD_get : ∀ {xs ys : List D} {i : Nat} {d : D}, (zipD xs ys)[i]? = some d → ∃ x y, xs[i]? = some x ∧ ys[i]? = some y ∧ d = .tup [x, y]
  | [], _, _, _, h => by simp [zipD] at h
  | _ :: _, [], _, _, h => by simp [zipD] at h
  | x :: xs, y :: ys, 0, d, h => by
    simp [zipD] at h
    exact ⟨x, y, rfl, rfl, h.symm⟩
  | x :: xs, y :: ys, i + 1, d, h => by
    obtain ⟨u, v, h1, h2, h3⟩ := zipD_get (xs := xs) (ys := ys) (i := i) (d := d) (by simpa [zipD] using h)
    exact ⟨u, v, by simpa using h1, by simpa using h2, h3⟩
theorem zipD_len : ∀ (xs ys : List D), (zipD xs ys).length = min xs.length ys.length
  | [], _ => by simp [zipD]
  | _ :: _, [] => by simp [zipD]
  | x :: xs, y :: ys => by
    simp only [zipD, List.length_cons, zipD_len xs ys]
    omega
/-- a tuple that the walk has just made -/
theorem new_tup {θ : Th} {F H : Hp} {ds : List D} {xs : List V} {T : Addr} (s : Sub F H) (n : H T = none) (r : RepL θ F ds xs) : ∃ F3, Ext F H F3 (upd H T (.tup xs)) ∧ Rep θ F3 (.tup ds) (.ref T) := by
  have nf := s.free n
  exact ⟨upd F T (.tup xs), Ext.freeze (s.lay n) upd_same nf H (Same.lay n) n F (Ext.lay s n), .tup upd_same (r.mono (Same.lay nf))⟩
theorem stS {d : Bool} {k1 k2 : Kd} (h : (st && !(k1.solid && k2.solid)) = false) : (st && !k1.solid) = false ∧ (st && !k2.solid) = false := by
  cases st <;> cases hk : k1.solid <;> cases hk2 : k2.solid <;> simp_all
theorem gi_zip {e1 e2 : Expr} {elts : List Expr} {kk : Nat} {tpos : Pos} (hK : X.K = c.θ.K) (hg : Gl X "zip") (hm : X.mg "zip" = none) (ha : PE X e1 (tEv c L W f)) (hb : PE X e2 (tEv c L W g))
    (hs : starEach [e1, e2] X.env = (false, eval e1 X.env) :: starEach [e2] X.env) (hs2 : starEach [e2] X.env = (false, eval e2 X.env) :: starEach [] X.env) (hpl : (backTo pos (starEach [e2] X.env)).any (·.1) = false) :
    PI X (.Tuple elts kk tpos) (.Call (.Name "zip" p) [e1, e2] [] pos) (tIv c L W st (itZip st f g)) := by
  refine pi_ev (RZ.pi_zipA hg hm (pa_cons ha (pa_cons hb pa_nil hs2) hs) hs hpl) fun σ H R h => ?_
  obtain ⟨F, ρ, Rl, h⟩ := h
  refine iv_bind Rl h fun d k x F1 H1 ef x1 rd so R1 h1 => ?_
  refine iv_bind R1 h1 fun d2 k2 y F2 H2 ef2 x2 rd2 so2 R2 h2 => ?_
  clear ef ef2 h h1
  have rd := rd.ext x2
  have so : k.solid = true → Rep c.θ F2 d x := fun z => (so z).mono x2.ff
  replace h2 : ResI c W σ st F2 H2 R (if (st && !(k.solid && k2.solid)) = true then .no else match (generalizing := false) d, d2 with
    | .lst xs, .lst ys => .ok (zipD xs ys)
    | .tup xs, .tup ys => .ok (zipD xs ys)
    | _, _ => .no) := h2
  by_cases q : (st && !(k.solid && k2.solid)) = true
  · rw [if_pos q] at h2; exact h2.elim
  rw [if_neg q] at h2
  obtain ⟨q1, q2⟩ := stS (d := true) (by simpa using q : (st && !(k.solid && k2.solid)) = false)
  rw [hK]
  cases d <;> first | exact (show False from h2).elim | skip
  · cases d2 <;> first | exact (show False from h2).elim | skip
    rename_i ds es
    obtain ⟨a, xs, rfl, ha, r, kp⟩ := keepL (st := st) rfl R2.sub rd so q1
    obtain ⟨b, ys, rfl, hb, r2, kp2⟩ := keepL (st := st) rfl R2.sub rd2 so2 q2
    refine ⟨a, b, xs, ys, rfl, .inl ⟨.inl (.inl ha), .inl (.inl hb), h2 _ F2 H2 (Ext.refl R2.sub) ⟨fun F3 H3 i d e1 e2 e3 hd => ?_, fun F3 H3 e1 e2 e3 => ⟨xs, ys, .inl (.inl (kp F3 H3 e1 e2 e3)), .inl (.inl (kp2 F3 H3 e1 e2 e3)), ?_⟩⟩⟩⟩
    · obtain ⟨u, v, h3, h4, rfl⟩ := zipD_get hd
      obtain ⟨x, hx⟩ := r.ix h3
      obtain ⟨y, hy⟩ := r2.ix h4
      have z1 : SqL c.θ.K H3 a xs := .inl (.inl (kp F3 H3 e1 e2 e3))
      have z2 : SqL c.θ.K H3 b ys := .inl (.inl (kp2 F3 H3 e1 e2 e3))
      refine ⟨⟨xs, ys, x, y, z1, z2, hx, hy⟩, fun w H' hw => ?_⟩
      obtain ⟨T, x', y', rfl, hT, rfl, h5, h6⟩ := hw
      exact new_tup e2 hT (.cons (r.getD e1 h3 (h5 xs z1)) (.cons (r2.getD e1 h4 (h6 ys z2)) .nil))
    · rw [zipD_len, r.length, r2.length]
      omega
  · cases d2 <;> first | exact (show False from h2).elim | skip
    rename_i ds es
    obtain ⟨a, xs, rfl, ha, r, kp⟩ := keepT R2.sub rd
    obtain ⟨b, ys, rfl, hb, r2, kp2⟩ := keepT R2.sub rd2
    refine ⟨a, b, xs, ys, rfl, .inr ⟨.inl (.inl ha), .inl (.inl hb), h2 _ F2 H2 (Ext.refl R2.sub) ⟨fun F3 H3 i d e1 e2 e3 hd => ?_, fun F3 H3 e1 e2 e3 => ⟨xs, ys, .inl (.inl (kp F3 H3 e1 e2)), .inl (.inl (kp2 F3 H3 e1 e2)), ?_⟩⟩⟩⟩
    · obtain ⟨u, v, h3, h4, rfl⟩ := zipD_get hd
      obtain ⟨x, hx⟩ := r.ix h3
      obtain ⟨y, hy⟩ := r2.ix h4
      have z1 : SqT c.θ.K H3 a xs := .inl (.inl (kp F3 H3 e1 e2))
      have z2 : SqT c.θ.K H3 b ys := .inl (.inl (kp2 F3 H3 e1 e2))
      refine ⟨⟨xs, ys, x, y, z1, z2, hx, hy⟩, fun w H' hw => ?_⟩
      obtain ⟨T, x', y', rfl, hT, rfl, h5, h6⟩ := hw
      exact new_tup e2 hT (.cons (r.getD e1 h3 (h5 xs z1)) (.cons (r2.getD e1 h4 (h6 ys z2)) .nil))
    · rw [zipD_len, r.length, r2.length]
      omega
/-- a slot changes; what it then holds is said; the others stay -/
theorem Rel.put {θ : Th} {F0 B F F' H H' : Hp} {σ : L2.St} {ρ : Sl} {i : Nat} {sl : Slot} {v : V} (R : Rel θ F0 B L F H σ ρ) (s : Sub F' H') (kp : ∀ a u, B a = some u → H' a = some u ∨ (a ∈ L ∧ IsDict u ∧ ∃ o, H' a = some (.frz o u))) (ff : Same F F') (fn : ∀ a u, F' a = some u → F0 a = some u ∨ B a = none ∨ ∃ xs, u = .tup xs)
    (oth : ∀ (j : Nat) (a : Addr) (o : HO), j ≠ i → ((∃ d, ρ[j]? = some (.ow d)) ∨ ∃ k ds, ρ[j]? = some (.me k ds)) → σ[j]? = some (some (.ref a)) → H a = some o → F a = none → H' a = some o ∧ F' a = none)
    (va : ∀ d, sl = .va d → Rep θ F' d v)
    (ow : ∀ d, sl = .ow d → notObj d = true ∧ ∃ a o, v = .ref a ∧ H' a = some o ∧ F' a = none ∧ B a = none ∧ Root θ F' d o ∧ ∀ (j : Nat), j ≠ i → ((∃ d, ρ[j]? = some (.ow d)) ∨ ∃ k ds, ρ[j]? = some (.me k ds)) → σ[j]? ≠ some (some (.ref a)))
    (me : ∀ k ds, sl = .me k ds → (∃ a o, v = .ref a ∧ H' a = some o ∧ F' a = none ∧ B a = none ∧ Root θ (onlyN F' B) (.obj k ds) o ∧ a ∈ L ∧ ∀ (j : Nat), j ≠ i → (∃ d, ρ[j]? = some (.ow d)) → σ[j]? ≠ some (some (.ref a))) ∧ ∀ (j k' : Nat) (ds' : List D), j ≠ i → ρ[j]? ≠ some (.me k' ds'))
    (pvk : ∀ Z, PvAll θ B F H σ ρ Z → ∀ (j : Nat) (k : Sh) (d : D), j ≠ i → ρ[j]? = some (.pv k d) → ∀ b ∈ Z j, H' b = H b ∧ F' b = F b ∧ (((∃ d, sl = .ow d) ∨ ∃ k ds, sl = .me k ds) → v ≠ .ref b))
    (tp : ∀ b xs, H b = some (.tup xs) → H' b = some (.tup xs) := by exact fun _ _ h => h) (nxc : sl ≠ .xc := by exact fun h => by cases h) (npv : ∀ k d, sl ≠ .pv k d := by exact fun _ _ h => by cases h) :
    Rel θ F0 B L F' H' (σ.set i (some v)) (ρ.set i sl) := by
  have atσ : i < ρ.length → (σ.set i (some v))[i]? = some (some v) := fun hi => List.getElem?_set_self (by rw [R.len]; exact hi)
  have at_ : ∀ {j : Nat} {x : Slot}, (ρ.set i sl)[j]? = some x → (j = i ∧ x = sl ∧ i < ρ.length) ∨ (j ≠ i ∧ ρ[j]? = some x) := fun {j x} h => by
    by_cases q : i = j
    · subst q
      have hi : i < ρ.length := by
        have := (List.getElem?_eq_some_iff.mp h).1
        simpa using this
      rw [List.getElem?_set_self hi] at h
      exact .inl ⟨rfl, (Option.some.inj h).symm, hi⟩
    · rw [List.getElem?_set_ne q] at h
      exact .inr ⟨fun e => q e.symm, h⟩
  have ne : ∀ {j : Nat}, j ≠ i → (σ.set i (some v))[j]? = σ[j]? := fun {j} h => List.getElem?_set_ne fun e => h e.symm
  refine ⟨s, kp, R.f0.trans ff, fn, by simpa using R.len, fun j d h => ?_, fun j d h => ?_, fun j d h => ?_, fun j k d e a hn h1 h2 h3 => ?_, fun j k ds h => ?_, fun j h => ?_, ?_⟩
  rotate_right
  · obtain ⟨Z, hZ⟩ := R.pv
    have own : ∀ {j : Nat}, Owner (ρ.set i sl) j → (j = i ∧ ((∃ d, sl = .ow d) ∨ ∃ k ds, sl = .me k ds) ∧ i < ρ.length) ∨ (j ≠ i ∧ Owner ρ j) := fun {j} ho => by
      rcases ho with ⟨d, hd⟩ | ⟨k, ds, hd⟩
      · rcases at_ hd with ⟨rfl, e, hi⟩ | ⟨q, h⟩
        · exact .inl ⟨rfl, .inl ⟨d, e.symm⟩, hi⟩
        · exact .inr ⟨q, .inl ⟨d, h⟩⟩
      · rcases at_ hd with ⟨rfl, e, hi⟩ | ⟨q, h⟩
        · exact .inl ⟨rfl, .inr ⟨k, ds, e.symm⟩, hi⟩
        · exact .inr ⟨q, .inr ⟨k, ds, h⟩⟩
    refine ⟨Z, hZ.step ff tp (fun j k d h => ?_) fun j k d l b h ho hs => ?_⟩
    · rcases at_ h with ⟨rfl, e, hi⟩ | ⟨q, h⟩
      · exact absurd e.symm (npv k d)
      · refine ⟨h, ne q, fun b hb => ?_⟩
        obtain ⟨z1, z2, _⟩ := pvk Z hZ j k d q h b hb
        exact ⟨z1, by rw [z2]; exact ((hZ j k d h).2.2.1 b hb).1⟩
    · rcases at_ h with ⟨rfl, e, hi⟩ | ⟨q, g⟩
      · exact absurd e.symm (npv k d)
      · rcases own ho with ⟨rfl, os, hi⟩ | ⟨ql, ho⟩
        · rw [atσ hi] at hs
          have ev : v = .ref b := Option.some.inj (Option.some.inj hs)
          intro hb
          exact (pvk Z hZ j k d q g b hb).2.2 os ev
        · rw [ne ql] at hs
          exact (hZ j k d g).2.2.2.1 l b ho hs
  rotate_right
  · rcases at_ h with ⟨rfl, e, hi⟩ | ⟨q, h⟩
    · exact absurd e.symm nxc
    · rw [ne q]
      exact R.xc j h
  · rcases at_ h with ⟨rfl, e, hi⟩ | ⟨q, h⟩
    · exact ⟨v, atσ hi, va d e.symm⟩
    · rw [ne q]
      obtain ⟨w, h1, h2⟩ := R.va j d h
      exact ⟨w, h1, h2.mono ff⟩
  · rcases at_ h with ⟨rfl, e, hi⟩ | ⟨q, h⟩
    · obtain ⟨_, a, o, rfl, h1, h2, h3, h4, _⟩ := ow d e.symm
      exact ⟨a, o, atσ hi, h1, h2, h3, h4⟩
    · rw [ne q]
      obtain ⟨a, o, h1, h2, h3, h4, h5⟩ := R.ow j d h
      obtain ⟨z1, z2⟩ := oth j a o q (.inl ⟨d, h⟩) h1 h2 h3
      exact ⟨a, o, h1, z1, z2, h4, h5.mono ff⟩
  · rcases at_ h with ⟨rfl, e, hi⟩ | ⟨q, h⟩
    · exact (ow d e.symm).1
    · exact R.fu j d h
  · rcases at_ h1 with ⟨rfl, e1, hi⟩ | ⟨q1, g1⟩
    · rcases at_ h2 with ⟨rfl, e2, hi2⟩ | ⟨q2, g2⟩
      · exact absurd rfl hn
      · rw [atσ hi] at h3
        obtain ⟨_, a', o, ev, _, _, _, _, h6⟩ := ow d e1.symm
        subst ev
        cases h3
        rw [ne q2]
        exact h6 k q2 (.inl ⟨e, g2⟩)
    · rw [ne q1] at h3
      rcases at_ h2 with ⟨rfl, e2, hi2⟩ | ⟨q2, g2⟩
      · rw [atσ hi2]
        intro z
        obtain ⟨_, a', o, ev, _, _, _, _, h6⟩ := ow e e2.symm
        subst ev
        cases z
        exact h6 j q1 (.inl ⟨d, g1⟩) h3
      · rw [ne q2]
        exact R.dj j k d e a hn g1 g2 h3
  · rcases at_ h with ⟨rfl, e, hi⟩ | ⟨q, gm⟩
    · obtain ⟨⟨a, o, ev, h1, h2, h3, h4, hm, h5⟩, h6⟩ := me k ds e.symm
      subst ev
      refine ⟨⟨a, o, atσ hi, h1, h2, h3, h4, hm, fun l d hl => ?_⟩, fun l k' ds' hl z => ?_⟩
      · rcases at_ hl with ⟨rfl, e2, _⟩ | ⟨ql, hl⟩
        · rw [← e] at e2; cases e2
        · rw [ne ql]
          exact h5 l ql ⟨d, hl⟩
      · rcases at_ z with ⟨q, _, _⟩ | ⟨_, z⟩
        · exact hl q
        · exact h6 l k' ds' hl z
    · obtain ⟨⟨a, o, h1, h2, h3, h4, h5, hm, h6⟩, h7⟩ := R.me j k ds gm
      obtain ⟨z1, z2⟩ := oth j a o q (.inr ⟨k, ds, gm⟩) h1 h2 h3
      refine ⟨⟨a, o, by rw [ne q]; exact h1, z1, z2, h4, h5.mono (onlyN_mono ff fun _ z => z), hm, fun l d hl => ?_⟩, fun l k' ds' hl z => ?_⟩
      · rcases at_ hl with ⟨rfl, e2, hi⟩ | ⟨ql, hl⟩
        · rw [atσ hi]
          intro z
          obtain ⟨_, a', o', ev, _, _, _, _, h8⟩ := ow d e2.symm
          subst ev
          cases z
          exact h8 j q (.inr ⟨k, ds, gm⟩) h1
        · rw [ne ql]
          exact h6 l d hl
      · rcases at_ z with ⟨rfl, e2, hi⟩ | ⟨ql, z⟩
        · exact (me k' ds' e2.symm).2 j k ds q gm
        · exact h7 l k' ds' hl z
theorem Rel.set {θ : Th} {F0 B F H : Hp} {σ : L2.St} {ρ : Sl} {i : Nat} {d : D} {v : V} (R : Rel θ F0 B L F H σ ρ) (r : Rep θ F d v) : Rel θ F0 B L F H (σ.set i (some v)) (ρ.set i (.va d)) :=
  R.put R.sub R.kp (.refl _) R.fn (fun _ _ _ _ _ _ h n => ⟨h, n⟩) (fun e h => by cases h; exact r) (fun _ h => by cases h) (fun _ _ h => by cases h) fun _ _ _ _ _ _ _ _ _ => ⟨rfl, rfl, fun z => by rcases z with ⟨_, z⟩ | ⟨_, _, z⟩ <;> cases z⟩
/-- σ' differs from σ at the places is alone -/
def Agree (is : List Nat) (σ σ' : L2.St) : Prop := σ'.length = σ.length ∧ ∀ j : Nat, j ∉ is → σ'[j]? = σ[j]?
theorem Agree.refl (σ : L2.St) (is : List Nat) : Agree is σ σ := ⟨rfl, fun _ _ => rfl⟩
theorem Agree.trans {is js : List Nat} {σ σ1 σ2 : L2.St} (a : Agree is σ σ1) (b : Agree js σ1 σ2) : Agree (is ++ js) σ σ2 :=
  ⟨b.1.trans a.1, fun j h => (b.2 j fun z => h (List.mem_append_right _ z)).trans (a.2 j fun z => h (List.mem_append_left _ z))⟩
theorem Agree.set {σ : L2.St} {i : Nat} {v : Option V} : Agree [i] σ (σ.set i v) := ⟨by simp, fun j h => by
  rw [List.getElem?_set_ne]
  rintro rfl
  exact h (by simp)⟩
theorem wipe_get {σ : L2.St} : ∀ {vs : List Nat} {j : Nat}, (wipe σ vs)[j]? = if j ∈ vs then (σ[j]?).map (fun _ => none) else σ[j]?
  | [], j => by simp [wipe]
  | v :: vs, j => by
    unfold wipe
    by_cases q : v = j
    · subst q
      rw [if_pos List.mem_cons_self]
      have l := wipe_length σ vs
      by_cases hv : v < σ.length
      · rw [List.getElem?_set_self (by rw [l]; exact hv), List.getElem?_eq_getElem hv]
        rfl
      · rw [List.getElem?_eq_none (by rw [List.length_set, l]; omega), List.getElem?_eq_none (by omega)]
        rfl
    · rw [List.getElem?_set_ne q, wipe_get (vs := vs)]
      by_cases m : j ∈ vs
      · rw [if_pos m, if_pos (List.mem_cons_of_mem _ m)]
      · rw [if_neg m, if_neg (fun z => (List.mem_cons.mp z).elim (fun e => q e.symm) m)]
theorem Agree.wipe {is vs : List Nat} {σ σ' : L2.St} (a : Agree is σ σ') (h : ∀ i ∈ is, i ∈ vs) : L2.wipe σ' vs = L2.wipe σ vs := by
  refine List.ext_getElem? fun j => ?_
  rw [wipe_get, wipe_get]
  by_cases m : j ∈ vs
  · rw [if_pos m, if_pos m]
    have e : ∀ τ : L2.St, (τ[j]?).map (fun _ => (none : Option V)) = if j < τ.length then some none else none := fun τ => by
      by_cases q : j < τ.length
      · rw [if_pos q, List.getElem?_eq_getElem q]; rfl
      · rw [if_neg q, List.getElem?_eq_none (by omega)]; rfl
    rw [e, e, a.1]
  · rw [if_neg m, if_neg m]
    exact a.2 j fun z => m (h j z)
/-- a target's reading -/
def gTv (c : Cn) (L : List Addr) (t : Tg) : TG := fun v σ H Q => ∃ F ρ d ρ', Rel c.θ c.F0 c.B L F H σ ρ ∧ Rep c.θ F d v ∧ tgSet t d ρ = some ρ' ∧ ∀ σ', Rel c.θ c.F0 c.B L F H σ' ρ' → Agree (tgIdx t) σ σ' → Q σ' H
def gTvs (c : Cn) (L : List Addr) (ts : List Tg) : TGs := fun vs σ H Q => ∃ F ρ ds ρ', Rel c.θ c.F0 c.B L F H σ ρ ∧ RepL c.θ F ds vs ∧ tgSets ts ds ρ = some ρ' ∧ ∀ σ', Rel c.θ c.F0 c.B L F H σ' ρ' → Agree (tgIdxs ts) σ σ' → Q σ' H
theorem gg_name {i : Nat} {x : Str} (hN : X.N.Nodup) (hi : X.N[i]? = some x) (hx : Loc X.env.scope x) (hf : X.fn x = true ∨ X.env.scope.names.lookup x = some .local) : PG X (.Name x pos) (gTv c L (.one i)) := by
  refine ⟨fun pins s σ H v u Q I r h => (pg_name hN hi hx hf).run pins s σ H v u Q I r ?_⟩
  obtain ⟨F, ρ, d, ρ', R, rp, e, h⟩ := h
  replace e : (if i < ρ.length then some (ρ.set i (.va d)) else none) = some ρ' := e
  by_cases q : i < ρ.length
  · rw [if_pos q] at e
    cases e
    exact h _ (R.set rp) Agree.set
  · rw [if_neg q] at e
    cases e
theorem ggs_nil : PGs X [] (gTvs c L []) := by
  refine ⟨fun pins s σ H vs us Q I r h => pgs_nil.run pins s σ H vs us Q I r ?_⟩
  obtain ⟨F, ρ, ds, ρ', R, rp, e, h⟩ := h
  cases ds with
  | nil =>
    cases rp
    cases e
    exact ⟨rfl, h σ R (Agree.refl _ _)⟩
  | cons d ds => cases e
theorem ggs_cons {es : List Expr} {t : Tg} {ts : List Tg} (h1 : PG X e (gTv c L t)) (h2 : PGs X es (gTvs c L ts)) (hs : (assignEach (e :: es) X.env).map (·.2) = assign e X.env :: (assignEach es X.env).map (·.2)) : PGs X (e :: es) (gTvs c L (t :: ts)) := by
  refine ⟨fun pins s σ H vs us Q I r h => (pgs_cons h1 h2 hs).run pins s σ H vs us Q I r ?_⟩
  obtain ⟨F, ρ, ds, ρ', R, rp, e, h⟩ := h
  cases ds with
  | nil => cases e
  | cons d ds =>
    cases rp with
    | cons a b =>
      replace e : ((tgSet t d ρ).bind fun ρ' => tgSets ts ds ρ') = some ρ' := e
      cases q : tgSet t d ρ with
      | none => rw [q] at e; cases e
      | some ρ1 =>
        rw [q] at e
        exact ⟨_, _, rfl, F, ρ, d, ρ1, R, a, q, fun σ1 R1 a1 => ⟨F, ρ1, ds, ρ', R1, b, e, fun σ2 R2 a2 => h σ2 R2 (a1.trans a2)⟩⟩
theorem gg_tup {es : List Expr} {k n : Nat} {ts : List Tg} (hc : X.calm = true) (hK : X.K = c.θ.K) (h : PGs X es (gTvs c L ts)) (hn : (assignEach es X.env).length = n) (hst : (assignEach es X.env).findIdx? (·.1) = none) (hl : ts.length = n) : PG X (.Tuple es k pos) (gTv c L (.tup ts)) := by
  have len : ∀ {ts : List Tg} {ds : List D} {ρ ρ' : Sl}, tgSets ts ds ρ = some ρ' → ds.length = ts.length := by
    intro ts
    induction ts with
    | nil => intro ds ρ ρ' e; cases ds with
      | nil => rfl
      | cons d ds => cases e
    | cons t ts ih => intro ds ρ ρ' e; cases ds with
      | nil => cases e
      | cons d ds =>
        replace e : ((tgSet t d ρ).bind fun ρ' => tgSets ts ds ρ') = some ρ' := e
        cases q : tgSet t d ρ with
        | none => rw [q] at e; cases e
        | some ρ1 =>
          rw [q] at e
          rw [List.length_cons, List.length_cons, ih e]
  refine ⟨fun pins s σ H v u Q I r hw => ?_⟩
  obtain ⟨F, ρ, d, ρ', R, rp, e, hw⟩ := hw
  cases d <;> first | cases e | skip
  · rename_i ds
    cases rp with
    | lst hf rl =>
      refine (L2.pg_lst hc h hn hst).run pins s σ H _ u Q I r ⟨_, _, rfl, by rw [hK]; exact .inl (.inl (R.sub.lst hf)), ?_, F, ρ, ds, ρ', R, rl, e, hw⟩
      rw [rl.length, len e, hl]
  · rename_i ds
    cases rp with
    | tup hf rl =>
      refine (L2.pg_tup hc h hn hst).run pins s σ H _ u Q I r ⟨_, _, rfl, by rw [hK]; exact .inl (.inl (R.sub.tup hf)), ?_, F, ρ, ds, ρ', R, rl, e, hw⟩
      rw [rl.length, len e, hl]
theorem wipeS_length (ρ : Sl) : ∀ vs : List Nat, (wipeS ρ vs).length = ρ.length
  | [] => rfl
  | v :: vs => by unfold wipeS; rw [List.length_set, wipeS_length ρ vs]
theorem wipeS_some {ρ : Sl} {i : Nat} {x : Slot} (hx : x ≠ .un) : ∀ {vs : List Nat}, (wipeS ρ vs)[i]? = some x → ρ[i]? = some x ∧ i ∉ vs
  | [], h => ⟨h, by simp⟩
  | v :: vs, h => by
    unfold wipeS at h
    by_cases hi : v = i
    · subst hi
      by_cases hv : v < (wipeS ρ vs).length
      · rw [List.getElem?_set_self hv] at h
        exact absurd (Option.some.inj h).symm hx
      · rw [List.getElem?_eq_none (by rw [List.length_set]; omega)] at h; cases h
    · rw [List.getElem?_set_ne hi] at h
      obtain ⟨h1, h2⟩ := wipeS_some hx h
      exact ⟨h1, by simp only [List.mem_cons, not_or]; exact ⟨fun e => hi e.symm, h2⟩⟩
theorem Rel.wipe {θ : Th} {F0 B F H : Hp} {σ : L2.St} {ρ : Sl} (R : Rel θ F0 B L F H σ ρ) (vs : List Nat) : Rel θ F0 B L F H (L2.wipe σ vs) (wipeS ρ vs) := by
  have at_ : ∀ {i : Nat}, i ∉ vs → (L2.wipe σ vs)[i]? = σ[i]? := fun {i} h => by rw [wipe_get, if_neg h]
  refine ⟨R.sub, R.kp, R.f0, R.fn, by rw [wipe_length, wipeS_length]; exact R.len, fun i d h => ?_, fun i d h => ?_, fun i d h => R.fu i d (wipeS_some (by intro z; cases z) h).1, fun i j d e a hn h1 h2 h3 => ?_, fun i k ds h => ?_, fun i h => ?_, ?_⟩
  rotate_right
  · obtain ⟨Z, hZ⟩ := R.pv
    refine ⟨Z, hZ.step (.refl _) (fun _ _ h => h) (fun i k d h => ?_) fun i k d j b h ho hs => ?_⟩
    · obtain ⟨h1, h2⟩ := wipeS_some (by intro z; cases z) h
      exact ⟨h1, at_ h2, fun b hb => ⟨rfl, ((hZ i k d h1).2.2.1 b hb).1⟩⟩
    · obtain ⟨h1, h2⟩ := wipeS_some (by intro z; cases z) h
      rcases ho with ⟨d2, hd⟩ | ⟨k2, ds, hd⟩
      · obtain ⟨g1, g2⟩ := wipeS_some (by intro z; cases z) hd
        rw [at_ g2] at hs
        exact (hZ i k d h1).2.2.2.1 j b (.inl ⟨d2, g1⟩) hs
      · obtain ⟨g1, g2⟩ := wipeS_some (by intro z; cases z) hd
        rw [at_ g2] at hs
        exact (hZ i k d h1).2.2.2.1 j b (.inr ⟨k2, ds, g1⟩) hs
  rotate_right
  · obtain ⟨h1, h2⟩ := wipeS_some (by intro z; cases z) h
    rw [at_ h2]
    exact R.xc i h1
  · obtain ⟨h1, h2⟩ := wipeS_some (by intro z; cases z) h
    rw [at_ h2]
    exact R.va i d h1
  · obtain ⟨h1, h2⟩ := wipeS_some (by intro z; cases z) h
    rw [at_ h2]
    exact R.ow i d h1
  · obtain ⟨g1, g2⟩ := wipeS_some (by intro z; cases z) h1
    obtain ⟨g3, g4⟩ := wipeS_some (by intro z; cases z) h2
    rw [at_ g2] at h3
    rw [at_ g4]
    exact R.dj i j d e a hn g1 g3 h3
  · obtain ⟨g1, g2⟩ := wipeS_some (by intro z; cases z) h
    obtain ⟨⟨a, o, h1, h2, h3, h4, h5, hm, h6⟩, h7⟩ := R.me i k ds g1
    refine ⟨⟨a, o, by rw [at_ g2]; exact h1, h2, h3, h4, h5, hm, fun j d hj => ?_⟩, fun j k' ds' hj z => h7 j k' ds' hj (wipeS_some (by intro z; cases z) z).1⟩
    obtain ⟨g3, g4⟩ := wipeS_some (by intro z; cases z) hj
    rw [at_ g4]
    exact h6 j d g3
end
end G
namespace G
open PySem PySem.Spec L2
abbrev WF : WX := fun _ _ _ _ => False
theorem lcA_ex {tg : Tg} {t : TSm} {e : ES} {ρ : Sl} {n : Nat} {fs : List D} : ∀ {ds acc : List D}, lcA tg t e ρ acc ds ≠ .ex n fs
  | [], acc, h => by cases h
  | d :: ds, acc, h => by
    unfold lcA at h
    cases q : tgSet tg d ρ with
    | none => rw [q] at h; cases h
    | some ρ1 =>
      rw [q] at h
      dsimp only at h
      cases q2 : t ρ1 with
      | no => rw [q2] at h; cases h
      | ex => rw [q2] at h; cases h
      | ok b =>
        rw [q2] at h
        cases b with
        | false => exact lcA_ex h
        | true =>
          dsimp only at h
          cases q3 : e ρ1 with
          | no => rw [q3] at h; cases h
          | ex => rw [q3] at h; cases h
          | ok y =>
            rw [q3] at h
            dsimp only at h
            split at h
            · exact lcA_ex h
            · cases h
/-- a turn, read off its outcome -/
theorem lcA_turn {tg : Tg} {t : TSm} {e : ES} {ρ : Sl} {d : D} {ds acc r : List D} (h : lcA tg t e ρ acc (d :: ds) = .ok r) : ∃ ρ1 b, tgSet tg d ρ = some ρ1 ∧ t ρ1 = .ok b ∧
    ((b = false ∧ lcA tg t e ρ acc ds = .ok r) ∨ (b = true ∧ ∃ y k, e ρ1 = .ok (y, k) ∧ k.solid = true ∧ acc.length < SZ ∧ lcA tg t e ρ (acc ++ [y]) ds = .ok r)) := by
  unfold lcA at h
  cases q : tgSet tg d ρ with
  | none => rw [q] at h; cases h
  | some ρ1 =>
    rw [q] at h
    dsimp only at h
    cases q2 : t ρ1 with
    | no => rw [q2] at h; cases h
    | ex => rw [q2] at h; cases h
    | ok b =>
      rw [q2] at h
      refine ⟨ρ1, b, rfl, q2, ?_⟩
      cases b with
      | false => exact .inl ⟨rfl, h⟩
      | true =>
        dsimp only at h
        cases q3 : e ρ1 with
        | no => rw [q3] at h; cases h
        | ex => rw [q3] at h; cases h
        | ok y =>
          obtain ⟨y, k⟩ := y
          rw [q3] at h
          dsimp only at h
          split at h
          · rename_i z
            obtain ⟨z1, z2⟩ := Bool.and_eq_true_iff.mp z
            exact .inr ⟨rfl, y, k, rfl, z1, of_decide_eq_true z2, h⟩
          · cases h
theorem wipe_wipe (σ : L2.St) (vs : List Nat) : wipe (wipe σ vs) vs = wipe σ vs := by
  refine List.ext_getElem? fun j => ?_
  rw [wipe_get, wipe_get]
  by_cases m : j ∈ vs
  · rw [if_pos m, if_pos m, Option.map_map]
    rfl
  · rw [if_neg m, if_neg m]
theorem Ext.mut {F H F' H' : Hp} {a : Addr} {o : HO} (e : Ext F H F' H') (nf : F' a = none) (nh : H a = none) : Ext F H F' (upd H' a o) :=
  ⟨fun b u h => by rw [upd_ne (ne_of_none h nf)]; exact e.sub b u h, e.ff, fun b u h => by rw [upd_ne (ne_of_none h nh)]; exact e.hh b u h, e.nw⟩
theorem Ext.none {F H F' H' : Hp} {a : Addr} {o : HO} (e : Ext F H F' H') (nf : F a = none) (h : H a = some o) (nt : ∀ xs, o ≠ .tup xs := by intro _ z; cases z) : F' a = none := by
  cases q : F' a with
  | none => rfl
  | some u =>
    rcases e.nw a u q with z | z | ⟨xs, z⟩
    · rw [nf] at z; cases z
    · rw [h] at z; cases z
    · subst z
      have := Sub.tup0 e.sub q
      rw [e.hh _ _ h] at this
      exact absurd (Option.some.inj this) (nt xs)
section
variable {X : Cx} {c : Cn} {L : List Addr} {W : WX} {f g : ES} {a b e tg iter elt : Expr} {pos p : Pos} {s : IS} {t : Tg} {tst : TSm} {vs : List Nat}
theorem rd_lc (hv : ∀ i ∈ tgIdx t, i ∈ vs) {σ : L2.St} {H : Hp} {Q : VK} (h : tEv c L W (eLc s t tst f vs) σ H Q) : tLc (tIv c L W false s) (gTv c L t) (tTv c L WF tst) (tEv c L WF f) vs σ H Q := by
  obtain ⟨F, ρ, R, h⟩ := of_tEv h
  refine ⟨F, ρ, R, ?_⟩
  replace h : Res c W σ ρ F H Q ((s ρ).bind fun ds => (lcA t tst f (wipeS ρ vs) [] ds).bind fun r => .ok (.lst r, .fr)) := h
  cases q : s ρ with
  | no => rw [q] at h; exact h
  | ex n fs => rw [q] at h; exact h
  | ok ds =>
    rw [q] at h
    intro J F1 H1 e1 wk D hD
    rw [bind_ok] at h
    cases q2 : lcA t tst f (wipeS ρ vs) [] ds with
    | no => rw [q2] at h; exact h.elim
    | ex n fs => exact absurd q2 lcA_ex
    | ok r =>
      rw [q2] at h
      have h := Res.mono h e1
      refine ⟨fun i m H2 => m = ds.length - i ∧ i ≤ ds.length ∧ ∃ F2 acc ad, Ext F1 H1 F2 H2 ∧ H2 D = some (.lst acc) ∧ F2 D = none ∧ RepL c.θ F2 ad acc ∧ lcA t tst f (wipeS ρ vs) ad (ds.drop i) = .ok r,
        ⟨ds.length, rfl, Nat.zero_le _, F1, [], [], Ext.lay e1.sub hD, upd_same, e1.sub.free hD, .nil, q2⟩, ?_⟩
      rintro i m H2 ⟨rfl, hi, F2, acc, ad, e2, hacc, nf, rp, hl⟩
      by_cases lt : i < ds.length
      · have hd : ds[i]? = some ds[i] := List.getElem?_eq_getElem lt
        rw [List.drop_eq_getElem_cons lt] at hl
        obtain ⟨ρ1, b, t1, t2, t3⟩ := lcA_turn hl
        obtain ⟨g1, g2⟩ := wk.go F2 H2 i ds[i] e2.ff e2.sub (fun _ => e2.hh) hd
        refine .inr ⟨g1, fun H' => ∃ F2 acc ad, Ext F1 H1 F2 H' ∧ H' D = some (.lst acc) ∧ F2 D = none ∧ RepL c.θ F2 ad acc ∧ lcA t tst f (wipeS ρ vs) ad (ds.drop (i + 1)) = .ok r, fun H' nx => ⟨ds.length - (i + 1), by omega, rfl, lt, nx⟩, fun x H' hy => ?_⟩
        obtain ⟨F3, e3, r3⟩ := g2 x H' hy
        refine ⟨F3, wipeS ρ vs, ds[i], ρ1, ((R.wipe vs).ext ((e1.trans e2).trans e3)), r3, t1, fun σ2 R2 ag => ⟨(ag.wipe hv).trans (wipe_wipe σ vs), ?_⟩⟩
        refine tTv_of R2 ?_
        rw [t2]
        intro F4 H4 e4
        have e34 := e3.trans e4
        have nf4 : F4 D = none := e34.none nf hacc
        have acc4 : H4 D = some (.lst acc) := e34.hh _ _ hacc
        rcases t3 with ⟨rfl, t3⟩ | ⟨rfl, y, k, t4, t5, t6, t7⟩
        · exact iteF ⟨F4, acc, ad, e2.trans e34, acc4, nf4, rp.mono e34.ff, t3⟩
        · refine iteT (tEv_of (R2.ext e4) ?_)
          rw [t4]
          intro v F5 H5 e5 hv5
          obtain ⟨F6, e6, _, _, so⟩ := Val.use (R2.ext e4) e5 hv5
          refine ⟨acc, e6.hh _ _ acc4, ?_, F6, acc ++ [v], ad ++ [y], ((e2.trans e34).trans e6).mut (e6.none nf4 acc4) hD, upd_same, e6.none nf4 acc4, ((rp.mono e34.ff).mono e6.ff).append (.cons (so t5) .nil), t7⟩
          rw [rp.length]
          exact Nat.lt_of_lt_of_le t6 SZ_le
      · have ei : i = ds.length := by omega
        subst ei
        rw [List.drop_length] at hl
        cases hl
        exact .inl ⟨wk.stop F2 H2 e2.ff e2.sub (fun _ => e2.hh), h _ F2 H2 e2 ⟨trivial, D, _, rfl, hD, hacc, nf, .lst rp, Nw.of rfl⟩⟩
theorem pg_lc {ifs : List Expr} {scope : Scope} {own : List (Str × Nat)} (hv : ∀ i ∈ tgIdx t, i ∈ own.map (·.2)) (hc : X.calm = true) (hN : X.N.Nodup) (hi : PI X tg iter (tIv c L W false s)) (ok : BlkOk X.N X.env.scope scope own)
    (hg : ∀ (s : Shared) (H : Hp) (C : Addr) (cl : List (Str × Addr)) (fp : List Addr), PG (X.blk s H scope (compEnvC scope cl C X.env) fp) tg (gTv c L t)) (ht : ∀ (s : Shared) (H : Hp) (C : Addr) (cl : List (Str × Addr)) (fp : List Addr), PTs (X.blk s H scope (compEnvC scope cl C X.env) fp) ifs (tTv c L WF tst))
    (he : ∀ (s : Shared) (H : Hp) (C : Addr) (cl : List (Str × Addr)) (fp : List Addr), PE (X.blk s H scope (compEnvC scope cl C X.env) fp) elt (tEv c L WF f)) (hs : ∀ x, foldedSetIterable iter X.env x = pure x) : PE X (.ListComp elt [⟨tg, iter, ifs, 0⟩] scope pos) (tEv c L W (eLc s t tst f (own.map (·.2)))) :=
  pe_ev (pe_lc hc hN hi ok hg ht he hs) fun σ H Q h => rd_lc hv h
theorem pgts_nil : PTs X [] (tTv c L W tYes) := ⟨fun pins s σ H Q I h => pts_nil.run pins s σ H Q I (by
  obtain ⟨F, ρ, R, h⟩ := h
  exact h F H (Ext.refl R.sub))⟩
end
end G
namespace G
open PySem PySem.Spec L2
theorem vis_of {sc : Scope} {x : Str} (h : Loc sc x) : Vis sc x := h.elim .inl fun z => .inr (.inl z)
/-- how a value is given back: B the heap at the entry -/
def RtV (θ : Th) (B F' H' : Hp) (d : D) (k : Kd) (v : V) : Prop := match k with
  | .sh => Rep θ F' d v
  | .tr n => TrV θ F' B H' n d v
  | _ => FrV θ F' B H' d v
/-- what is asked of a statement's outcome -/
def ResS (c : Cn) (L : List Addr) (W : WX) (F : Hp) (E : Ends) : Fl → Prop
  | .nx ρ' => ∀ σ' F' H', Same F F' → Rel c.θ c.F0 c.B L F' H' σ' ρ' → E.nx σ' H'
  | .bk ρ' => ∀ σ' F' H', Same F F' → Rel c.θ c.F0 c.B L F' H' σ' ρ' → E.bk σ' H'
  | .ct ρ' => ∀ σ' F' H', Same F F' → Rel c.θ c.F0 c.B L F' H' σ' ρ' → E.ct σ' H'
  | .rt d k ρ' => ∀ v σ' F' H', Same F F' → Rel c.θ c.F0 c.B L F' H' σ' ρ' → RtV c.θ c.B F' H' d k v → E.rt v H'
  | .ex n fs ρ' => ∀ cls dd σ' F' H', Same F F' → Rel c.θ c.F0 c.B L F' H' σ' ρ' → ExV c.θ n fs cls dd F' H' → W cls dd σ' H'
  | .no => False
def tSv (c : Cn) (L : List Addr) (W : WX) (f : SS) : TS := fun E σ H => ∃ F ρ, Rel c.θ c.F0 c.B L F H σ ρ ∧ ResS c L W F E (f ρ)
section
variable {X : Cx} {c : Cn} {L : List Addr} {W : WX} {f g : ES} {a b e tg iter : Expr} {pos p : Pos} {s : IS} {t : Tg} {tst : TSm} {k : D × Kd → Fl} {F F1 H H1 : Hp} {σ : L2.St} {ρ : Sl} {En : Ends}
theorem ResS.ite {p : Prop} [Decidable p] {o : Fl} (h : ResS c L W F En (if p then o else .no)) : p ∧ ResS c L W F En o := by
  by_cases q : p
  · rw [if_pos q] at h
    exact ⟨q, h⟩
  · rw [if_neg q] at h
    exact h.elim
theorem ResS.mono {o : Fl} (h : ResS c L W F En o) (e : Same F F1) : ResS c L W F1 En o := by
  cases o with
  | nx ρ' => exact fun σ' F' H' e' => h σ' F' H' (e.trans e')
  | bk ρ' => exact fun σ' F' H' e' => h σ' F' H' (e.trans e')
  | ct ρ' => exact fun σ' F' H' e' => h σ' F' H' (e.trans e')
  | rt d k ρ1 => exact fun v σ' F' H' e' => h v σ' F' H' (e.trans e')
  | ex n fs ρ' => exact fun cls dd σ' F' H' e' => h cls dd σ' F' H' (e.trans e')
  | no => exact h
/-- an expression, then a statement's end -/
theorem sv_with {P : V → Hp → Prop} (R : Rel c.θ c.F0 c.B L F H σ ρ) (h : ResS c L W F En (sWith (f ρ) ρ k))
    (hp : ∀ d kd x F1 H1, f ρ = .ok (d, kd) → Ext F H F1 H1 → Val c.θ F1 H H1 σ ρ d kd x → Rel c.θ c.F0 c.B L F1 H1 σ ρ → ResS c L W F1 En (k (d, kd)) → P x H1) : tEv c L W f σ H P := by
  refine ⟨F, ρ, R, ?_⟩
  cases hf : f ρ with
  | ok x =>
    obtain ⟨d, kd⟩ := x
    rw [hf] at h
    exact fun v F' H' e hv => hp d kd v F' H' hf e hv (R.ext e) (ResS.mono (show ResS c L W F En (k (d, kd)) from h) e.ff)
  | ex n fs =>
    rw [hf] at h
    exact fun cls dd F' H' e hv => h cls dd σ F' H' e.ff (R.ext e) hv
  | no =>
    rw [hf] at h
    exact h
/-- .. frozen where it is fresh -/
theorem Val.sol {d : D} {kd : Kd} {x : V} (R : Rel c.θ c.F0 c.B L F H σ ρ) (e : Ext F H F1 H1) (h : Val c.θ F1 H H1 σ ρ d kd x) (hk : kd.solid = true) : ∃ F2, Ext F H F2 H1 ∧ Same F1 F2 ∧ Rep c.θ F2 d x := by
  obtain ⟨F2, e2, s, _, so⟩ := Val.use R e h
  exact ⟨F2, e2, s, so hk⟩
theorem ps_ev {st : Stmt} {t : TS} {u : SS} (h : PS X st t) (hi : ∀ (E : Ends) (σ : L2.St) (H : Hp), tSv c L W u E σ H → t E σ H) : PS X st (tSv c L W u) := ⟨fun pins s σ H D I hw => h.run pins s σ H D I (hi D σ H hw)⟩
theorem pss_ev {st : List Stmt} {t : TS} {u : SS} (h : PSs X st t) (hi : ∀ (E : Ends) (σ : L2.St) (H : Hp), tSv c L W u E σ H → t E σ H) : PSs X st (tSv c L W u) := ⟨fun pins s σ H D I hw => h.run pins s σ H D I (hi D σ H hw)⟩
theorem gss_nil : PSs X [] (tSv c L W sSkip) := pss_ev pss_nil fun E σ H h => by
  obtain ⟨F, ρ, R, h⟩ := h
  exact h σ F H (.refl _) R
theorem gss_one {st : Stmt} {u : SS} (h : PS X st (tSv c L W u)) : PSs X [st] (tSv c L W u) := pss_one h
theorem gss_cons {st : Stmt} {rest : List Stmt} {u v : SS} (h1 : PS X st (tSv c L W u)) (h2 : PSs X rest (tSv c L W v)) : PSs X (st :: rest) (tSv c L W (sSeq u v)) := by
  refine pss_ev (pss_cons h1 h2) fun E σ H h => ?_
  obtain ⟨F, ρ, R, h⟩ := h
  refine ⟨F, ρ, R, ?_⟩
  replace h : ResS c L W F E (match u ρ with
    | .nx ρ' => v ρ'
    | o => o) := h
  cases q : u ρ with
  | nx ρ' =>
    rw [q] at h
    exact fun σ' F' H' e' R' => ⟨F', ρ', R', ResS.mono h e'⟩
  | bk ρ' => rw [q] at h; exact h
  | ct ρ' => rw [q] at h; exact h
  | rt d k ρ1 => rw [q] at h; exact h
  | ex n fs ρ' => rw [q] at h; exact h
  | no => rw [q] at h; exact h
theorem gs_if {ss ts : List Stmt} {u v : SS} (ht : PT X e (tTv c L W tst)) (h1 : PSs X ss (tSv c L W u)) (h2 : PSs X ts (tSv c L W v)) : PS X (.If e ss ts pos) (tSv c L W (G.sIf tst u v)) := by
  refine ps_ev (ps_if ht h1 h2) fun E σ H h => ?_
  obtain ⟨F, ρ, R, h⟩ := h
  refine tTv_of R ?_
  replace h : ResS c L W F E (match tst ρ with
    | .ok b => if b = true then u ρ else v ρ
    | .ex n fs => .ex n fs ρ
    | .no => .no) := h
  cases q : tst ρ with
  | no => rw [q] at h; exact h
  | ex n fs =>
    rw [q] at h
    exact fun cls dd F' H' e' hv => h cls dd σ F' H' e'.ff (R.ext e') hv
  | ok b =>
    rw [q] at h
    intro F' H' e'
    have h := ResS.mono h e'.ff
    cases b with
    | true => exact iteT ⟨F', ρ, R.ext e', h⟩
    | false => exact iteF ⟨F', ρ, R.ext e', h⟩
theorem gs_drop (ha : PE X e (tEv c L W f)) (hs : swapsWith e none pos.line X.env = pure false := by rfl) : PS X (.Expr e pos) (tSv c L W (sDrop f)) := by
  refine ps_ev (ps_expr ha hs) fun E σ H h => ?_
  obtain ⟨F, ρ, R, h⟩ := h
  refine sv_with R h fun d kd x F1 H1 ef e1 hv R1 h1 => ?_
  exact h1 σ F1 H1 (.refl _) R1
theorem Rel.noneB {a : Addr} (R : Rel c.θ c.F0 c.B L F H σ ρ) (h : H a = none) : c.B a = none := by
  cases q : c.B a with
  | none => rfl
  | some o => rcases R.kp a o q with y | ⟨_, _, _, y⟩ <;> (rw [h] at y; cases y)
theorem FrV.toB {d : D} {v : V} (R : Rel c.θ c.F0 c.B L F H σ ρ) (f : FrV c.θ F1 H H1 d v) : FrV c.θ F1 c.B H1 d v := by
  obtain ⟨fu, a, o, rfl, n, h1, h2, h3, h4⟩ := f
  exact ⟨fu, a, o, rfl, R.noneB n, h1, h2, h3, h4.mono (.refl _) fun _ z => R.noneB z⟩
theorem TrV.toB {n : Nat} {d : D} {v : V} (R : Rel c.θ c.F0 c.B L F H σ ρ) (f : TrV c.θ F1 H H1 n d v) : TrV c.θ F1 c.B H1 n d v := by
  obtain ⟨S, t, nd, fr⟩ := f
  exact ⟨S, t.base fun _ z => R.noneB z, nd, fun b hb => ⟨R.noneB (fr b hb).1, (fr b hb).2⟩⟩
theorem gs_ret (ha : PE X e (tEv c L W f)) : PS X (.Return (some e) pos) (tSv c L W (sRet f)) := by
  refine ps_ev (ps_ret ha) fun E σ H h => ?_
  obtain ⟨F, ρ, R, h⟩ := h
  refine sv_with R h fun d kd x F1 H1 ef e1 hv R1 h1 => ?_
  refine h1 x σ F1 H1 (.refl _) R1 ?_
  cases kd with
  | sh => exact hv
  | fr => exact FrV.toB R hv
  | «at» i =>
    obtain ⟨z1, z2⟩ := hv
    obtain ⟨a, o, y1, y2, y3, y4, y5⟩ := R1.ow i d z2
    rw [z1] at y1
    cases y1
    exact ⟨Full.of (R1.fu i d z2), a, o, rfl, y4, y2, y3, y5, Nw.of (R1.fu i d z2)⟩
  | tr n => exact TrV.toB R hv
/-- a slot takes a fresh root as its own -/
theorem Rel.setOw {i : Nat} {d : D} {v : V} (R : Rel c.θ c.F0 c.B L F H σ ρ) (e : Ext F H F1 H1) (f : FrV c.θ F1 H H1 d v) (no : notObj d = true) : Rel c.θ c.F0 c.B L F1 H1 (σ.set i (some v)) (ρ.set i (.ow d)) := by
  have R1 := R.ext e
  obtain ⟨fu, a, o, rfl, n, h, nf, ro, _⟩ := f
  refine R1.put R1.sub R1.kp (.refl _) R1.fn (fun _ _ _ _ _ _ h n => ⟨h, n⟩) (fun e h => by cases h) (fun d' h => ?_) (fun _ _ h => by cases h) fun Z hZ j k d hj hp b hb => ⟨rfl, rfl, fun _ z => by cases z; obtain ⟨o, ho⟩ := R.pvOld e hZ hp hb; rw [n] at ho; cases ho⟩
  cases h
  refine ⟨no, a, o, rfl, h, nf, R.noneB n, ro, fun j hj ho => ?_⟩
  rcases ho with ⟨d2, hd⟩ | ⟨k, ds, hd⟩
  · obtain ⟨a2, o2, y1, y2, _⟩ := R.ow j d2 hd
    rw [y1]
    intro z
    cases z
    rw [n] at y2
    cases y2
  · obtain ⟨⟨a2, o2, y1, y2, _⟩, _⟩ := R.me j k ds hd
    rw [y1]
    intro z
    cases z
    rw [n] at y2
    cases y2
theorem asg_core {own : Bool} {i : Nat} {d : D} {kd : Kd} {x : V} (R : Rel c.θ c.F0 c.B L F H σ ρ) (e : Ext F H F1 H1) (hv : Val c.θ F1 H H1 σ ρ d kd x) (h : ResS c L W F1 En (G.asg own i (d, kd) ρ)) : En.nx (σ.set i (some x)) H1 := by
  unfold G.asg at h
  by_cases q : i < ρ.length
  · rw [if_pos q] at h
    cases kd with
    | sh => exact h _ F1 H1 (.refl _) ((R.ext e).set hv)
    | fr =>
      cases own with
      | true =>
        obtain ⟨no, h⟩ := ResS.ite (show ResS c L W F1 En (if notObj d = true then .nx (ρ.set i (.ow d)) else .no) from h)
        exact h _ F1 H1 (.refl _) (R.setOw e hv no)
      | false =>
        obtain ⟨F2, e2, s2, r⟩ := Val.sol R e hv rfl
        exact h _ F2 H1 s2 ((R.ext e2).set r)
    | «at» j => exact h.elim
    | tr n => exact h.elim
  · rw [if_neg q] at h
    exact h.elim
theorem gs_set {own : Bool} {i : Nat} {x : Str} {pos' : Pos} (hN : X.N.Nodup) (ha : PE X e (tEv c L W f)) (hx : Loc X.env.scope x) (hf : X.fn x = true ∨ X.env.scope.names.lookup x = some .local := by exact Or.inl rfl) (hi : X.N[i]? = some x := by rfl) (hs : swapsWith e (some (.Name x pos')) pos.line X.env = pure false := by rfl) :
    PS X (.Assign [.Name x pos'] e pos) (tSv c L W (G.sAsg own i f)) := by
  refine ps_ev (ps_set hN hi hx ha hs hf) fun E σ H h => ?_
  obtain ⟨F, ρ, R, h⟩ := h
  exact sv_with R h fun d kd x F1 H1 ef e1 hv R1 h1 => asg_core R e1 hv h1
theorem gs_setLc {own : Bool} {i : Nat} {y : Str} {py : Pos} {elt : Expr} {ifs : List Expr} {scope : Scope} {ow : List (Str × Nat)} {spos : Pos} (hv : ∀ j ∈ tgIdx t, j ∈ ow.map (·.2)) (hc : X.calm = true) (hN : X.N.Nodup) (hy : X.N[i]? = some y) (hyl : X.env.scope.names.lookup y = some .local)
    (hsw : swapsWith (.ListComp elt [⟨tg, iter, ifs, 0⟩] scope pos) (some (.Name y py)) spos.line X.env = pure true) (hi : PI X tg iter (tIv c L W false s)) (ok : BlkOk X.N X.env.scope scope ow)
    (hg : ∀ (s : Shared) (H : Hp) (C : Addr) (cl : List (Str × Addr)) (fp : List Addr), PG (X.blk s H scope (compEnvC scope cl C X.env) fp) tg (gTv c L t)) (ht : ∀ (s : Shared) (H : Hp) (C : Addr) (cl : List (Str × Addr)) (fp : List Addr), PTs (X.blk s H scope (compEnvC scope cl C X.env) fp) ifs (tTv c L WF tst))
    (he : ∀ (s : Shared) (H : Hp) (C : Addr) (cl : List (Str × Addr)) (fp : List Addr), PE (X.blk s H scope (compEnvC scope cl C X.env) fp) elt (tEv c L WF f)) (hs : ∀ x, foldedSetIterable iter X.env x = pure x) : PS X (.Assign [.Name y py] (.ListComp elt [⟨tg, iter, ifs, 0⟩] scope pos) spos) (tSv c L W (G.sAsg own i (eLc s t tst f (ow.map (·.2))))) := by
  refine ps_ev (ps_setLc hc hN hy hyl hsw hi ok hg ht he hs) fun E σ H h => ?_
  obtain ⟨F, ρ, R, h⟩ := h
  exact rd_lc hv (sv_with R h fun d kd x F1 H1 ef e1 hv R1 h1 => asg_core R e1 hv h1)
/-- for -/
theorem gs_for {body : List Stmt} {u : SS} (hp : PassesOwn (model X.prog X.w) X.A X.env X.xe) (hc : X.calm = true) (hi : PI X tg iter (tIv c L W true s)) (hg : PG X tg (gTv c L t)) (hb : PSs X body (tSv c L W u)) (hs : ∀ x, foldedSetIterable iter X.env x = pure x := by intro _; rfl) :
    PS X (.For tg iter body [] pos) (tSv c L W (G.sFor s t u)) := by
  refine ps_ev (ps_for hp hc hi hg hb hs) fun E σ H h => ?_
  obtain ⟨F, ρ, R, h⟩ := h
  refine ⟨F, ρ, R, ?_⟩
  replace h : ResS c L W F E (sWith (s ρ) ρ fun ds => forL t u ds ρ) := h
  cases q : s ρ with
  | no => rw [q] at h; exact h
  | ex n fs =>
    rw [q] at h
    exact fun cls dd F' H' e' hv => h cls dd σ F' H' e'.ff (R.ext e') hv
  | ok ds =>
    rw [q] at h
    intro J F1 H1 e1 wk
    replace h : ResS c L W F1 E (forL t u ds ρ) := ResS.mono (show ResS c L W F E (forL t u ds ρ) from h) e1.ff
    refine ⟨fun i m σ2 H2 => m = ds.length - i ∧ i ≤ ds.length ∧ ∃ F2 ρ2, Same F1 F2 ∧ Rel c.θ c.F0 c.B L F2 H2 σ2 ρ2 ∧ ResS c L W F2 E (forL t u (ds.drop i) ρ2),
      ⟨ds.length, rfl, Nat.zero_le _, F1, ρ, .refl _, R.ext e1, h⟩, ?_⟩
    rintro i m σ2 H2 ⟨rfl, hi, F2, ρ2, e2, R2, h2⟩
    by_cases lt : i < ds.length
    · have hd : ds[i]? = some ds[i] := List.getElem?_eq_getElem lt
      rw [List.drop_eq_getElem_cons lt] at h2
      obtain ⟨g1, g2⟩ := wk.go F2 H2 i ds[i] e2 R2.sub (fun z => by cases z) hd
      refine .inr ⟨g1, fun σ3 H3 => ∃ F3 ρ3, Same F1 F3 ∧ Rel c.θ c.F0 c.B L F3 H3 σ3 ρ3 ∧ ResS c L W F3 E (forL t u (ds.drop (i + 1)) ρ3), fun σ3 H3 nx => ⟨ds.length - (i + 1), by omega, rfl, lt, nx⟩, fun x H' hy => ?_⟩
      obtain ⟨F3, e3, r3⟩ := g2 x H' hy
      unfold forL at h2
      cases q1 : tgSet t ds[i] ρ2 with
      | none => rw [q1] at h2; exact h2.elim
      | some ρ3 =>
        rw [q1] at h2
        refine ⟨F3, ρ2, ds[i], ρ3, R2.ext e3, r3, q1, fun σ4 R4 _ => ⟨F3, ρ3, R4, ?_⟩⟩
        replace h2 : ResS c L W F2 E (match u ρ3 with
          | .nx ρ2 => forL t u (ds.drop (i + 1)) ρ2
          | .ct ρ2 => forL t u (ds.drop (i + 1)) ρ2
          | .bk ρ2 => .nx ρ2
          | o => o) := h2
        cases q3 : u ρ3 with
        | nx ρ4 =>
          rw [q3] at h2
          exact fun σ' F' H' e' R' => ⟨F', ρ4, (e2.trans e3.ff).trans e', R', ResS.mono h2 (e3.ff.trans e')⟩
        | ct ρ4 =>
          rw [q3] at h2
          exact fun σ' F' H' e' R' => ⟨F', ρ4, (e2.trans e3.ff).trans e', R', ResS.mono h2 (e3.ff.trans e')⟩
        | bk ρ4 =>
          rw [q3] at h2
          exact ResS.mono (o := .nx ρ4) h2 e3.ff
        | rt d k ρ1 => rw [q3] at h2; exact ResS.mono (o := .rt d k ρ1) h2 e3.ff
        | ex n fs ρ' => rw [q3] at h2; exact ResS.mono (o := .ex n fs ρ') h2 e3.ff
        | no => rw [q3] at h2; exact h2
    · have ei : i = ds.length := by omega
      subst ei
      rw [List.drop_length] at h2
      exact .inl ⟨wk.stop F2 H2 e2 R2.sub (fun z => by cases z), h2 σ2 F2 H2 (.refl _) R2⟩
/-- while -/
theorem gs_while {body : List Stmt} {u : SS} (hp : PassesOwn (model X.prog X.w) X.A X.env X.xe) (ht : PT X e (tTv c L W tst)) (hb : PSs X body (tSv c L W u)) : PS X (.While e body [] pos) (tSv c L W (G.sWhile tst u)) := by
  refine ps_ev (ps_while hp ht hb) fun E σ H h => ?_
  obtain ⟨F, ρ, R, h⟩ := h
  refine ⟨fun m σ2 H2 => ∃ F2 ρ2, Rel c.θ c.F0 c.B L F2 H2 σ2 ρ2 ∧ ResS c L W F2 E (whileL tst u m ρ2), ⟨FU, F, ρ, R, h⟩, ?_⟩
  rintro m σ2 H2 ⟨F2, ρ2, R2, h2⟩
  cases m with
  | zero => exact h2.elim
  | succ m =>
    refine tTv_of R2 ?_
    unfold whileL at h2
    cases q : tst ρ2 with
    | no => rw [q] at h2; exact h2
    | ex n fs =>
      rw [q] at h2
      exact fun cls dd F' H' e' hv => h2 cls dd σ2 F' H' e'.ff (R2.ext e') hv
    | ok b =>
      rw [q] at h2
      intro F' H' e'
      cases b with
      | false => exact iteF (h2 σ2 F' H' e'.ff (R2.ext e'))
      | true =>
        refine iteT ⟨fun σ3 H3 => ∃ F3 ρ3, Rel c.θ c.F0 c.B L F3 H3 σ3 ρ3 ∧ ResS c L W F3 E (whileL tst u m ρ3), fun σ3 H3 nx => ⟨m, Nat.lt_succ_self _, nx⟩, F', ρ2, R2.ext e', ?_⟩
        replace h2 : ResS c L W F2 E (match u ρ2 with
          | .nx ρ2 => whileL tst u m ρ2
          | .ct ρ2 => whileL tst u m ρ2
          | .bk ρ2 => .nx ρ2
          | o => o) := h2
        cases q3 : u ρ2 with
        | nx ρ4 =>
          rw [q3] at h2
          exact fun σ' F3 H' e3 R' => ⟨F3, ρ4, R', ResS.mono h2 (e'.ff.trans e3)⟩
        | ct ρ4 =>
          rw [q3] at h2
          exact fun σ' F3 H' e3 R' => ⟨F3, ρ4, R', ResS.mono h2 (e'.ff.trans e3)⟩
        | bk ρ4 =>
          rw [q3] at h2
          exact ResS.mono (o := .nx ρ4) h2 e'.ff
        | rt d k ρ1 => rw [q3] at h2; exact ResS.mono (o := .rt d k ρ1) h2 e'.ff
        | ex n fs ρ' => rw [q3] at h2; exact ResS.mono (o := .ex n fs ρ') h2 e'.ff
        | no => rw [q3] at h2; exact h2
end
end G
namespace G
open PySem PySem.Spec L2
/-- a, b = e, e' of two locals on a line -/
def sPar (o1 o2 : Bool) (i j : Nat) (f g : ES) : SS := fun ρ => sWith (f ρ) ρ fun x => sWith (g ρ) ρ fun y => match asg o1 i x ρ with
  | .nx ρ1 => asg o2 j y ρ1
  | o => o
/-- x.m(e), x.m() on a slot's own list -/
def sOwL (i : Nat) (k : List D → D → Option (List D)) (f : ES) : SS := fun ρ => match ρ[i]? with
  | some (.ow (.lst xs)) => sWith (f ρ) ρ fun y => if y.2.solid then (match k xs y.1 with
    | some ys => .nx (ρ.set i (.ow (.lst ys)))
    | none => .no) else .no
  | _ => .no
def sOwL0 (i : Nat) (k : List D → Option (List D)) : SS := fun ρ => match ρ[i]? with
  | some (.ow (.lst xs)) => (match k xs with
    | some ys => .nx (ρ.set i (.ow (.lst ys)))
    | none => .no)
  | _ => .no
def kAp (xs : List D) (y : D) : Option (List D) := if xs.length < SZ then some (xs ++ [y]) else none
/-- a slot's own object is no more its own: nothing is done -/
def sFrz (i : Nat) : SS := fun ρ => match ρ[i]? with
  | some (.ow d) => .nx (ρ.set i (.va d))
  | _ => .nx ρ
/-- ds with what stands at a key changed, or put at the end -/
def putD {κ : Type} [DecidableEq κ] (k : κ) (d : D) (ks : List κ) (ds : List D) : List κ × List D :=
  if k ∈ ks then (ks, List.zipWith (fun x y => if x = k then d else y) ks ds) else (ks ++ [k], ds ++ [d])
def kPut : D → D → D → Option D
  | .lst xs, .int n, v => (ixN xs.length n).map fun j => .lst (xs.set j v)
  | .dK ks ds, k, v => match keyOf k with
    | some x => if ks.length < SZ then some (.dK (putD x v ks ds).1 (putD x v ks ds).2) else none
    | none => none
  | .dT ks ds, k, v => match tkeyOf k with
    | some x => if ks.length < SZ then some (.dT (putD x v ks ds).1 (putD x v ks ds).2) else none
    | none => none
  | _, _, _ => none
/-- x[e] = e' on a slot's own object -/
def sPut (i : Nat) (fk fv : ES) : SS := fun ρ => sWith (fv ρ) ρ fun v => if v.2.solid then (match ρ[i]? with
  | some (.ow d) => sWith (fk ρ) ρ fun k => (match kPut d k.1 v.1 with
    | some d' => .nx (ρ.set i (.ow d'))
    | none => .no)
  | _ => .no) else .no
section
variable {X : Cx} {c : Cn} {L : List Addr} {W : WX} {f g : ES} {a b e tg iter : Expr} {pos p : Pos} {s : IS} {t : Tg} {tst : TSm} {F F1 H H1 : Hp} {σ : L2.St} {ρ : Sl} {En : Ends}
/-- a slot's own object, changed in place -/
theorem Rel.mut {i : Nat} {d d' : D} {a : Addr} {o' : HO} (R : Rel c.θ c.F0 c.B L F H σ ρ) (hs : ρ[i]? = some (.ow d)) (ha : σ[i]? = some (some (.ref a))) (hn : notObj d' = true) (r : Root c.θ F d' o') : Rel c.θ c.F0 c.B L F (upd H a o') σ (ρ.set i (.ow d')) := by
  obtain ⟨a2, o2, y1, y2, y3, y4, y5⟩ := R.ow i d hs
  rw [ha] at y1
  cases y1
  have keep : ∀ {b : Addr} {u : HO}, F b = some u → b ≠ a := fun h z => by
    subst z
    rw [y3] at h
    cases h
  have keepB : ∀ {b : Addr} {u : HO}, c.B b = some u → b ≠ a := fun h z => by
    subst z
    rw [y4] at h
    cases h
  have R2 := R.put (F' := F) (H' := upd H a o') (i := i) (v := .ref a) (sl := .ow d') (fun b u h => by rw [upd_ne (keep h)]; exact R.sub b u h) (fun b u h => by rw [upd_ne (keepB h)]; exact R.kp b u h) (.refl _) R.fn
    (fun j a3 o3 hj ho hs3 h3 n3 => ?_) (fun _ h => by cases h) (fun e h => ?_) (fun _ _ h => by cases h) (fun Z hZ j k d2 hj hp b hb => by
      have nb : b ≠ a := fun z => by
        subst z
        exact (hZ j k d2 hp).2.2.2.1 i b (.inl ⟨d, hs⟩) ha hb
      exact ⟨upd_ne nb, rfl, fun _ z => by cases z; exact nb rfl⟩) (tp := fun b xs h => by
      rw [upd_ne fun z => ?_]
      · exact h
      · subst z
        rw [y2] at h
        cases h
        cases y5)
  · have e : σ.set i (some (.ref a)) = σ := List.ext_getElem? fun j => by
      by_cases q : i = j
      · subst q
        rw [List.getElem?_set_self (List.getElem?_eq_some_iff.mp ha).1, ha]
      · rw [List.getElem?_set_ne q]
    rwa [e] at R2
  · have ne : a3 ≠ a := fun z => by
      subst z
      rcases ho with ⟨d3, hd⟩ | ⟨k, ds, hd⟩
      · exact R.dj i j d d3 a3 hj.symm hs hd ha hs3
      · obtain ⟨⟨a4, _, z1, _, _, _, _, _, z6⟩, _⟩ := R.me j k ds hd
        rw [hs3] at z1
        cases z1
        exact z6 i d hs ha
    exact ⟨by rw [upd_ne ne]; exact h3, n3⟩
  · cases h
    refine ⟨?_, a, o', rfl, upd_same, y3, y4, r, fun j hj ho hs3 => ?_⟩
    · cases d' <;> first | trivial | cases hn
    · rcases ho with ⟨d3, hd⟩ | ⟨k, ds, hd⟩
      · exact R.dj i j d d3 a hj.symm hs hd ha hs3
      · obtain ⟨⟨a4, _, z1, _, _, _, _, _, z6⟩, _⟩ := R.me j k ds hd
        rw [hs3] at z1
        cases z1
        exact z6 i d hs ha
/-- the slot's own object as a value -/
theorem ow_val {i : Nat} {d : D} (R : Rel c.θ c.F0 c.B L F H σ ρ) (hs : ρ[i]? = some (.ow d)) : ∃ a o, σ[i]? = some (some (.ref a)) ∧ H a = some o ∧ F a = none ∧ Root c.θ F d o := by
  obtain ⟨a, o, y1, y2, y3, _, y5⟩ := R.ow i d hs
  exact ⟨a, o, y1, y2, y3, y5⟩
/-- .. is frozen -/
theorem Rel.frz {i : Nat} {d : D} (R : Rel c.θ c.F0 c.B L F H σ ρ) (hs : ρ[i]? = some (.ow d)) : ∃ F2, Same F F2 ∧ Rel c.θ c.F0 c.B L F2 H σ (ρ.set i (.va d)) := by
  obtain ⟨a, o, y1, y2, y3, y4, y5⟩ := R.ow i d hs
  have e2 : Same F (upd F a o) := Same.lay y3
  refine ⟨upd F a o, e2, ?_⟩
  have R2 := R.put (F' := upd F a o) (H' := H) (i := i) (v := .ref a) (sl := .va d) (fun b u h => ?_) R.kp e2 (fun b u h => ?_) (fun j a3 o3 hj ho hs3 h3 n3 => ⟨h3, ?_⟩) (fun e h => ?_) (fun _ h => by cases h) (fun _ _ h => by cases h) (fun Z hZ j k d2 hj hp b hb => by
      have nb : b ≠ a := fun z => by
        subst z
        exact (hZ j k d2 hp).2.2.2.1 i b (.inl ⟨d, hs⟩) y1 hb
      exact ⟨rfl, upd_ne nb, fun z => by rcases z with ⟨_, z⟩ | ⟨_, _, z⟩ <;> cases z⟩)
  · have e : σ.set i (some (.ref a)) = σ := List.ext_getElem? fun j => by
      by_cases q : i = j
      · subst q
        rw [List.getElem?_set_self (List.getElem?_eq_some_iff.mp y1).1, y1]
      · rw [List.getElem?_set_ne q]
    rwa [e] at R2
  · by_cases hb : b = a
    · subst hb
      rw [upd_same] at h
      cases h
      exact .inl y2
    · rw [upd_ne hb] at h
      exact R.sub b u h
  · by_cases hb : b = a
    · subst hb
      exact .inr (.inl y4)
    · rw [upd_ne hb] at h
      exact R.fn b u h
  · have ne : a3 ≠ a := fun z => by
      subst z
      rcases ho with ⟨d3, hd⟩ | ⟨k, ds, hd⟩
      · exact R.dj i j d d3 a3 hj.symm hs hd y1 hs3
      · obtain ⟨⟨a4, _, z1, _, _, _, _, _, z6⟩, _⟩ := R.me j k ds hd
        rw [hs3] at z1
        cases z1
        exact z6 i d hs y1
    rw [upd_ne ne]
    exact n3
  · cases h
    exact y5.frozen y3 (Full.of (R.fu i d hs))
theorem gs_frz {st : Stmt} {u : SS} (i : Nat) (h : PS X st (tSv c L W u)) : PS X st (tSv c L W (sSeq (sFrz i) u)) := by
  refine ps_ev h fun E σ H h => ?_
  obtain ⟨F, ρ, R, h⟩ := h
  replace h : ResS c L W F E (match sFrz i ρ with
    | .nx ρ' => u ρ'
    | o => o) := h
  unfold sFrz at h
  cases q : ρ[i]? with
  | none => rw [q] at h; exact ⟨F, ρ, R, h⟩
  | some sl =>
    rw [q] at h
    cases sl with
    | ow d =>
      obtain ⟨F2, e, R2⟩ := R.frz q
      exact ⟨F2, _, R2, ResS.mono h e⟩
    | un => exact ⟨F, ρ, R, h⟩
    | va d => exact ⟨F, ρ, R, h⟩
    | me n ds => exact ⟨F, ρ, R, h⟩
    | xc => exact ⟨F, ρ, R, h⟩
    | pv k d => exact ⟨F, ρ, R, h⟩
theorem rd_owL {i : Nat} {k : List D → D → Option (List D)} {r : V → List V → Hp → VK → Prop} {K : PySem.W.Frag}
    (hr : ∀ (F H : Hp) (a : Addr) (xs : List V) (ds es : List D) (y : D) (v : V) (Q : VK), H a = some (.lst xs) → RepL c.θ F ds xs → Rep c.θ F y v → k ds y = some es → (∀ ys, RepL c.θ F es ys → Q .non (upd H a (.lst ys))) → r (.ref a) [v] H Q)
    {E : Ends} (h : tSv c L W (sOwL i k f) E σ H) : tDrop (tBM K "list" r (tVar i) (tCons (tEv c L W f) tNil)) E σ H := by
  obtain ⟨F, ρ, R, h⟩ := h
  unfold sOwL at h
  cases q : ρ[i]? with
  | none => rw [q] at h; exact h.elim
  | some sl =>
    rw [q] at h
    cases sl with
    | ow d =>
      cases d <;> first | exact (show False from h).elim | skip
      rename_i ds
      obtain ⟨a, o, h1, h2, h3, ro⟩ := ow_val R q
      cases ro with
      | @lst xs _ rl =>
      refine ⟨_, h1, .inl ⟨rfl, xs, .inl (.inl h2)⟩, ?_⟩
      refine sv_with R h fun d kd x F1 H1 ef e1 hv R1 h1' => ?_
      replace h1' : ResS c L W F1 E (if kd.solid = true then (match (generalizing := false) k ds d with
          | some ys => .nx (ρ.set i (.ow (.lst ys)))
          | none => .no) else .no) := h1'
      by_cases so : kd.solid = true
      · rw [if_pos so] at h1'
        obtain ⟨F2, e2, s2, rp⟩ := Val.sol R e1 hv so
        cases q2 : k ds d with
        | none => rw [q2] at h1'; exact h1'.elim
        | some ys =>
          rw [q2] at h1'
          exact hr F2 H1 a xs ds ys d x _ (e2.hh _ _ h2) (rl.mono e2.ff) rp q2 fun zs rz => h1' σ F2 _ s2 ((R.ext e2).mut q h1 rfl (.lst rz))
      · rw [if_neg so] at h1'
        exact h1'.elim
    | un => exact h.elim
    | va d => exact h.elim
    | me n ds => exact h.elim
    | xc => exact h.elim
    | pv k d => exact h.elim
theorem gs_append {i : Nat} {x : Str} {apos cpos : Pos} (ha : PE X e (tEv c L W f)) (hx : Loc X.env.scope x) (hf : X.fn x = true ∨ X.env.scope.names.lookup x = some .local := by exact Or.inl rfl) (hi : X.N[i]? = some x := by rfl) (hd : (x == ("__debug__" : Str)) = false := by decide) (hcd : (x == ("__classdict__" : Str)) = false := by decide)
    (hs : swapsWith (.Call (.Attribute (.Name x p) "append" apos) [e] [] cpos) none pos.line X.env = pure false := by rfl)
    (hbase : attributeBase (.Name x p) "append" X.env (eval (.Name x p) X.env) = eval (.Name x p) X.env := by rfl)
    (hfew : ((backTo cpos (starEach [e] X.env)).all (fun x => !x.1) && (backToKw cpos (keywordEach [] X.env)).all (fun x => x.1.isSome)
      && decide ([e].length + ([] : List Keyword).length + (if ([] : List Keyword).isEmpty then 0 else 1) < 30)) = true := by rfl)
    (hline : (apos.endLine == cpos.line) = true := by rfl) (hst : starEach [e] X.env = (false, eval e X.env) :: starEach [] X.env := by rfl) : PS X (.Expr (.Call (.Attribute (.Name x p) "append" apos) [e] [] cpos) pos) (tSv c L W (sOwL i kAp f)) := by
  refine ps_ev (ps_expr (pe_bm PySem.F.plainAttrs_list PySem.F.slot_list_append PySem.F.type_list_append mt_append (pe_var hi (vis_of hx) hd hcd) (pa_cons ha pa_nil hst) hbase hfew hline hst rfl) hs) fun E σ H h => ?_
  refine rd_owL (fun F H a xs ds es y v Q h1 h2 h3 h4 h5 => ?_) h
  unfold kAp at h4
  by_cases q : ds.length < SZ
  · rw [if_pos q] at h4
    cases h4
    exact ⟨a, xs, v, rfl, rfl, h1, by rw [h2.length]; exact Nat.lt_of_lt_of_le q SZ_le, h5 _ (h2.append (.cons h3 .nil))⟩
  · rw [if_neg q] at h4
    cases h4
end
end G
namespace G
open PySem PySem.Spec L2
/-- x op= e of ints -/
def sAugI (op : Int → Int → Int) (i : Nat) (f : ES) : SS := fun ρ => match ρ[i]? with
  | some (.va (.int a)) => sWith (f ρ) ρ fun y => (match y.1 with
    | .int b => .nx (ρ.set i (.va (.int (op a b))))
    | _ => .no)
  | _ => .no
/-- raise C() -/
def sRaise (n : Nat) : SS := fun ρ => .ex n [] ρ
section
variable {X : Cx} {c : Cn} {L : List Addr} {W : WX} {f g : ES} {a b e tg iter : Expr} {pos p : Pos} {s : IS} {t : Tg} {tst : TSm} {F F1 H H1 : Hp} {σ : L2.St} {ρ : Sl} {En : Ends}
theorem Owner.va {i l : Nat} {d : D} (h : Owner (ρ.set i (.va d)) l) : l ≠ i ∧ Owner ρ l := by
  have ne : l ≠ i := fun e => by
    subst e
    have at_ : ∀ {x : Slot}, (ρ.set l (.va d))[l]? = some x → x = .va d := fun {x} e => by
      have hl := (List.getElem?_eq_some_iff.mp e).1
      rw [List.length_set] at hl
      rw [List.getElem?_set_self hl] at e
      exact (Option.some.inj e).symm
    rcases h with ⟨d2, h⟩ | ⟨k, ds, h⟩ <;> cases at_ h
  refine ⟨ne, ?_⟩
  unfold Owner at h ⊢
  rwa [List.getElem?_set_ne (Ne.symm ne)] at h
end
end G
namespace G
open PySem PySem.Spec L2
section
variable {X : Cx} {c : Cn} {L : List Addr} {W : WX} {f g : ES} {a b e o ix tg iter : Expr} {pos p : Pos} {s : IS} {t : Tg} {tst : TSm} {F F1 H H1 : Hp} {σ : L2.St} {ρ : Sl} {En : Ends}
theorem putF_end {fn : Str} {v : V} : ∀ {fs : List (Str × V)}, (∀ q ∈ fs, q.1 ≠ fn) → putF fn v fs = fs ++ [(fn, v)]
  | [], _ => rfl
  | (g, x) :: r, h => by
    unfold putF
    rw [if_neg (h (g, x) List.mem_cons_self), putF_end fun q hq => h q (List.mem_cons_of_mem _ hq)]
    rfl
theorem Val.clean {d : D} {kd : Kd} {v : V} (hv : Val c.θ F1 H H1 σ ρ d kd v) (R : Rel c.θ c.F0 c.B L F H σ ρ) (e1 : Ext F H F1 H1) (so : G.clean d kd = true) : ∃ F2, Ext F H F2 H1 ∧ Same F1 F2 ∧ Rep c.θ F2 d v ∧ Rep c.θ (onlyN F2 c.B) d v := by
  rcases Bool.or_eq_true_iff.mp so with z | z
  · have r : Rep c.θ F1 d v := by
      cases kd with
      | sh => exact hv
      | fr => exact ((show FrV c.θ F1 H H1 d v from hv).notFlat z).elim
      | tr n => exact (show TrV c.θ F1 H H1 n d v from hv).flat z
      | «at» i =>
        obtain ⟨_, h2⟩ := (show _ ∧ _ from hv)
        obtain ⟨_, _, _, _, _, _, ro⟩ := R.ow i d h2
        cases ro <;> cases z
    exact ⟨F1, e1, .refl _, r, r.flat z⟩
  · cases kd with
    | sh => cases d <;> cases z
    | tr n => cases d <;> cases z
    | «at» i => cases d <;> cases z
    | fr =>
      obtain ⟨fu, a, o, rfl, n, ha, nf, ro, _⟩ := (show FrV c.θ F1 H H1 d v from hv)
      have nB := R.noneB n
      have at_ : onlyN (upd F1 a o) c.B a = some o := onlyN_at upd_same nB
      refine ⟨upd F1 a o, Ext.freeze e1.sub ha nf H e1.hh n F e1, Same.lay nf, ro.frozen nf fu, ?_⟩
      cases ro with
      | lst rl => exact .lst at_ (repl_flatF z rl)
      | dK l rl => exact .dK at_ l (repl_flatF z rl)
      | dT l rl => exact .dT at_ l (repl_flatF z rl)
      | obj l rl => cases z
theorem gs_fld {i : Nat} {x fn : Str} {fx : Nat → Nat → Bool} {pos' : Pos} (ha : PE X e (tEv c L W f)) (hfx : ∀ k n, fx k n = true → (c.θ.fld k)[n]? = some fn ∧ fn ∉ (c.θ.fld k).take n ∧ Cls X.K (c.θ.C k) ∧ NoAttr X.K (c.θ.C k) fn ∧ n < 1000)
    (hx : Loc X.env.scope x) (hs : swapsWith e (some (.Attribute (.Name x p) fn pos')) pos.line X.env = pure false := by rfl) (hf : X.fn x = true ∨ X.env.scope.names.lookup x = some .local := by exact Or.inl rfl) (hi : X.N[i]? = some x := by rfl) (hd : (x == ("__debug__" : Str)) = false := by decide) (hcd : (x == ("__classdict__" : Str)) = false := by decide) :
    PS X (.Assign [.Attribute (.Name x p) fn pos'] e pos) (tSv c L W (G.sFld fx i f)) := by
  refine ps_ev (ps_fld (pe_var hi (vis_of hx) hd hcd) ha hs) fun E σ H h => ?_
  obtain ⟨F, ρ, R, h⟩ := h
  refine sv_with R h fun d kd v F1 H1 ef e1 hv R1 h1 => ?_
  clear ef h
  replace h1 : ResS c L W F1 E (if clean d kd = true then (match ρ[i]? with
    | some (.me c ds) => if fx c ds.length then .nx (ρ.set i (.me c (ds ++ [d]))) else .no
    | _ => .no) else .no) := h1
  by_cases so : clean d kd = true
  · rw [if_pos so] at h1
    obtain ⟨F2, e2, s2, rp, rpn⟩ := hv.clean R e1 so
    have R2 := R.ext e2
    cases q : ρ[i]? with
    | none => rw [q] at h1; exact h1.elim
    | some sl =>
      rw [q] at h1
      cases sl with
      | me k ds =>
        replace h1 : ResS c L W F1 E (if fx k ds.length then .nx (ρ.set i (.me k (ds ++ [d]))) else .no) := h1
        by_cases qf : fx k ds.length = true
        · rw [if_pos qf] at h1
          obtain ⟨z1, z2, z3, z4, z5⟩ := hfx k _ qf
          obtain ⟨⟨ad, ob, y1, y2, y3, y4, y5, ym, y6⟩, y7⟩ := R2.me i k ds q
          refine ⟨_, y1, ad, ?_⟩
          cases y5 with
          | @obj _ dx xs _ l rl =>
          have lt : ds.length < (c.θ.fld k).length := (List.getElem?_eq_some_iff.mp z1).1
          have lx : ((c.θ.fld k).take ds.length).length = xs.length := by rw [rl.length, List.length_take]; omega
          refine ⟨_, dx, _, rfl, y2, z3, z4, ?_, ?_⟩
          · rw [List.length_zip, lx, Nat.min_self, rl.length]
            exact z5
          · have ep : putF fn v (((c.θ.fld k).take ds.length).zip xs) = ((c.θ.fld k).take (ds ++ [d]).length).zip (xs ++ [v]) := by
              rw [putF_end fun q hq => ?_]
              · rw [List.length_append, List.length_singleton, List.take_succ, z1]
                show _ = (List.take ds.length (c.θ.fld k) ++ [fn]).zip _
                rw [List.zip_append lx]
                rfl
              · intro z
                exact z2 (z ▸ (List.of_mem_zip hq).1)
            rw [ep]
            refine h1 σ F2 _ s2 ?_
            have keep : ∀ {b : Addr} {u : HO}, F2 b = some u → b ≠ ad := fun h z => by
              subst z
              rw [y3] at h
              cases h
            have keepB : ∀ {b : Addr} {u : HO}, c.B b = some u → b ≠ ad := fun h z => by
              subst z
              rw [y4] at h
              cases h
            have R3 := R2.put (F' := F2) (H' := upd H1 ad (.ins (c.θ.C k) dx (((c.θ.fld k).take (ds ++ [d]).length).zip (xs ++ [v])))) (i := i) (v := .ref ad) (sl := .me k (ds ++ [d])) (fun b u h => by rw [upd_ne (keep h)]; exact R2.sub b u h) (fun b u h => by rw [upd_ne (keepB h)]; exact R2.kp b u h) (.refl _) R2.fn
              (fun j a3 o3 hj ho hs3 h3 n3 => ?_) (fun _ h => by cases h) (fun _ h => by cases h) (fun k2 ds2 h => ?_) (fun Z hZ j k3 d2 hj hp b hb => by
                have nb : b ≠ ad := fun z => by
                  subst z
                  exact (hZ j k3 d2 hp).2.2.2.1 i b (.inr ⟨k, ds, q⟩) y1 hb
                exact ⟨upd_ne nb, rfl, fun _ z => by cases z; exact nb rfl⟩) (tp := fun b xs h => by
                rw [upd_ne fun z => ?_]
                · exact h
                · subst z
                  rw [y2] at h
                  cases h)
            · have e : σ.set i (some (.ref ad)) = σ := List.ext_getElem? fun j => by
                by_cases q : i = j
                · subst q
                  rw [List.getElem?_set_self (List.getElem?_eq_some_iff.mp y1).1, y1]
                · rw [List.getElem?_set_ne q]
              rwa [e] at R3
            · have ne : a3 ≠ ad := fun z => by
                subst z
                rcases ho with ⟨d3, hd⟩ | ⟨k3, ds3, hd⟩
                · exact y6 j d3 hd hs3
                · exact y7 j k3 ds3 hj hd
              exact ⟨by rw [upd_ne ne]; exact h3, n3⟩
            · cases h
              exact ⟨⟨ad, _, rfl, upd_same, y3, y4, .obj (by rw [List.length_append, List.length_singleton]; omega) (rl.append (.cons rpn .nil)), ym, fun j _ ⟨d3, hd⟩ => y6 j d3 hd⟩, fun j k' ds' hj => y7 j k' ds' hj⟩
        · rw [if_neg qf] at h1
          exact h1.elim
      | un => exact h1.elim
      | va d => exact h1.elim
      | ow d => exact h1.elim
      | xc => exact h1.elim
      | pv k d => exact h1.elim
  · rw [if_neg so] at h1
    exact h1.elim
/-- C() of an own exception class -/
theorem pmk_own0 {C : Addr} {bmB : List Value} {B newId initId : String} {x : Str} {p pos : Pos} (F : ExcBaseFacts B newId initId bmB) (q : PySem.W.excIn X.K C bmB newId = true) (gC : X.mg x = some (.ref C)) (kC : PySem.W.keepIn X.K (.ref C) = true) (r : Raises X (.ref C)) (hg : Gl X x)
    (hdb : (x == ("__debug__" : Str)) = false := by decide) : L2N.PMk X (.Call (.Name x p) [] [] pos) (fun _ H Q => Q (.ref C) none H) := by
  intro pins s σ H Q I h
  refine wpAny_Call_Name_kw (ld_glob I hg gC ?_ hdb)
  refine PySem.W.callWith_K0 (first := []) I.kIn kC ?_
  obtain ⟨bm, N, nm, qn, bs, hdct, sn, sub, ab, col, dd, k0, k1, k2, k3, k5, mN, hC, hN, hni, T⟩ := exc_obj I.kIn q
  refine wpAny_call_exc_subT F T hC hN hni (fun h' e hm => ?_) (by show 0 ≤ sizeLine; exact Nat.zero_le _)
  exact L2N.mk_of I hm r h (I.hok.gone hm.new)
theorem gs_raise0 {n : Nat} {bmB : List Value} {B newId initId : String} {x : Str} {p pos pos' : Pos} (hc : X.calm = true) (tk : L2N.Takes X W) (F : ExcBaseFacts B newId initId bmB) (q : PySem.W.excIn X.K (c.θ.C n) bmB newId = true) (gC : X.mg x = some (.ref (c.θ.C n))) (kC : PySem.W.keepIn X.K (.ref (c.θ.C n)) = true) (r : Raises X (.ref (c.θ.C n))) (hg : Gl X x)
    (hdb : (x == ("__debug__" : Str)) = false := by decide) : PS X (.Raise (some (.Call (.Name x p) [] [] pos)) none pos') (tSv c L W (sRaise n)) := by
  refine ps_ev (L2N.ps_raise hc tk (pmk_own0 F q gC kC r hg hdb)) fun E σ H h => ?_
  obtain ⟨F, ρ, R, h⟩ := h
  exact h _ _ σ F H (.refl _) R ⟨rfl, rfl⟩
end
end G
namespace G
open PySem PySem.Spec L2
def slots (N : Nat) (ds : List D) : Sl := ds.map .va ++ List.replicate (N - ds.length) .un
/-- what a def of N slots gives -/
def denF (N : Nat) (u : SS) (ds : List D) : Out (D × Bool) := match u (slots N ds) with
  | .nx _ => .ok (.non, false)
  | .rt d .sh _ => .ok (d, false)
  | .rt d (.tr _) _ => .ok (d, false)
  | .rt d _ _ => .ok (d, true)
  | .ex n fs _ => .ex n fs
  | _ => .no
/-- .. an __init__ of class k with nf fields -/
def denI (N k nf : Nat) (u : SS) (ds : List D) : Out (D × Bool) := match u (.me k [] :: slots (N - 1) ds) with
  | .nx ρ => (match ρ[0]? with
    | some (Slot.me k' fs) => if k' = k ∧ fs.length = nf then .ok (.obj k fs, true) else .no
    | _ => .no)
  | .ex n fs _ => .ex n fs
  | _ => .no
section
variable {θ : Th} {F H B F' H' : Hp}
theorem slots_va {N : Nat} {ds : List D} {i : Nat} {d : D} (h : (slots N ds)[i]? = some (.va d)) : ds[i]? = some d := by
  unfold slots at h
  by_cases q : i < (ds.map Slot.va).length
  · rw [List.getElem?_append_left q, List.getElem?_map] at h
    cases z : ds[i]? with
    | none => rw [z] at h; cases h
    | some e => rw [z] at h; cases h; rfl
  · rw [List.getElem?_append_right (by omega)] at h
    have := List.mem_of_getElem? h
    exact absurd (List.eq_of_mem_replicate this) (by intro z; cases z)
theorem slots_no {N : Nat} {ds : List D} {i : Nat} {sl : Slot} (h : (slots N ds)[i]? = some sl) : sl = .un ∨ ∃ d, sl = .va d := by
  have := List.mem_of_getElem? h
  unfold slots at this
  rcases List.mem_append.mp this with z | z
  · obtain ⟨d, _, e⟩ := List.mem_map.mp z
    exact .inr ⟨d, e.symm⟩
  · exact .inl (List.eq_of_mem_replicate z)
theorem start_rel {N : List Str} {vs : List V} {ds : List D} (s : Sub F H) (r : RepL θ F ds vs) : Rel θ F H [] F H (L2.start N vs) (slots N.length ds) := by
  have lv := r.length
  refine ⟨s, fun a u h => .inl h, .refl _, fun a u h => .inl h, ?_, fun i d h => ?_, fun i d h => ?_, fun i d h => ?_, fun i j d e a hn h1 => ?_, fun i k ds' h => ?_, fun i h => ?_, ⟨_, PvAll.empty fun i k d h => ?_⟩⟩
  · unfold L2.start slots
    simp [lv]
  · have h := slots_va h
    obtain ⟨v, h1, h2⟩ := r.get h
    refine ⟨v, ?_, h2⟩
    unfold L2.start
    rw [List.getElem?_append_left (by rw [List.length_map]; exact (List.getElem?_eq_some_iff.mp h1).1), List.getElem?_map, h1]
    rfl
  all_goals first
    | (rcases slots_no h with z | ⟨_, z⟩ <;> cases z; done)
    | (rcases slots_no h1 with z | ⟨_, z⟩ <;> cases z; done)
theorem Rel.same0 {F0 : Hp} {σ : L2.St} {ρ : Sl} (R : Rel θ F0 B [] F' H' σ ρ) : Same B H' := fun a u h => by
  rcases R.kp a u h with z | ⟨z, _⟩
  · exact z
  · cases z
abbrev EnF (Q : VK) : Ends := { nx := fun _ H' => Q .non H', rt := Q }
theorem body_of {N : List Str} {m : Nat} {u : SS} {vs : List V} {Q : VK} {E : XK} (h : spOf θ m (denF N.length u) vs H Q E) : ∃ F, tSv ⟨θ, F, H⟩ [] (fun cls d _ H => E cls d H) u (EnF Q) (L2.start N vs) H := by
  obtain ⟨hl, F, ds, s, r, hf⟩ := h
  refine ⟨F, F, _, start_rel s r, ?_⟩
  unfold denF at hf
  cases q : u (slots N.length ds) with
  | nx ρ' =>
    rw [q] at hf
    exact fun σ' F' H' e R => hf .non F' H' ⟨R.sub, e, R.same0, R.fn⟩ .non
  | bk ρ' => rw [q] at hf; exact hf.elim
  | ct ρ' => rw [q] at hf; exact hf.elim
  | rt d k ρ1 =>
    rw [q] at hf
    cases k with
    | sh => exact fun v σ' F' H' e R hv => hf v F' H' ⟨R.sub, e, R.same0, R.fn⟩ hv
    | fr => exact fun v σ' F' H' e R hv => hf v F' H' ⟨R.sub, e, R.same0, R.fn⟩ hv
    | «at» i => exact fun v σ' F' H' e R hv => hf v F' H' ⟨R.sub, e, R.same0, R.fn⟩ hv
    | tr n =>
      intro v σ' F' H' e R hv
      obtain ⟨F2, x, _, r⟩ := TrV.freeze ⟨R.sub, e, R.same0, R.fn⟩ hv
      exact hf v F2 H' x r
  | ex n fs ρ' =>
    rw [q] at hf
    exact fun cls dd σ' F' H' e R hv => hf cls dd F' H' ⟨R.sub, e, R.same0, R.fn⟩ hv
  | no => rw [q] at hf; exact hf.elim
theorem init_rel {N : List Str} {vs : List V} {ds : List D} {H0 : Hp} {x dx : Addr} {k : Nat} {n : Str} (s : Sub F H0) (nx : H0 x = none) (nd : H0 dx = none) (ne : dx ≠ x) (r : RepL θ F ds vs) :
    Rel θ F (upd H0 dx (.own x)) [x] F (upd (upd H0 dx (.own x)) x (.ins (θ.C k) dx [])) (L2.start (n :: N) (.ref x :: vs)) (.me k [] :: slots N.length ds) := by
  have nx' : upd H0 dx (.own x) x = none := by rw [upd_ne (fun z => ne z.symm)]; exact nx
  have R := start_rel (N := N) (s.lay (o := .own x) nd |>.lay (o := .ins (θ.C k) dx []) nx') r
  have st : L2.start (n :: N) (.ref x :: vs) = some (.ref x) :: L2.start N vs := by
    unfold L2.start
    simp
  rw [st]
  have sc : ∀ {i : Nat} {sl : Slot}, (Slot.me k [] :: slots N.length ds)[i]? = some sl → (i = 0 ∧ sl = .me k []) ∨ ∃ j, i = j + 1 ∧ (slots N.length ds)[j]? = some sl := fun {i sl} h => by
    cases i with
    | zero => exact .inl ⟨rfl, (Option.some.inj h).symm⟩
    | succ j => exact .inr ⟨j, rfl, by simpa using h⟩
  refine ⟨R.sub, fun a u h => .inl ?_, .refl _, fun a u h => .inl h, by simpa using R.len, fun i d h => ?_, fun i d h => ?_, fun i d h => ?_, fun i j d e a hn h1 => ?_, fun i k' ds' h => ?_, fun i h => ?_, ⟨_, PvAll.empty fun i k d h => ?_⟩⟩
  rotate_right
  · rcases sc h with ⟨_, z⟩ | ⟨j, rfl, z⟩
    · cases z
    · rcases slots_no z with z | ⟨_, z⟩ <;> cases z
  · rw [upd_ne]
    · exact h
    · intro z
      subst z
      rw [nx'] at h
      cases h
  · rcases sc h with ⟨_, z⟩ | ⟨j, rfl, z⟩
    · cases z
    · obtain ⟨v, h1, h2⟩ := R.va j d z
      exact ⟨v, by simpa using h1, h2⟩
  · rcases sc h with ⟨_, z⟩ | ⟨j, rfl, z⟩
    · cases z
    · rcases slots_no z with z | ⟨_, z⟩ <;> cases z
  · rcases sc h with ⟨_, z⟩ | ⟨j, rfl, z⟩
    · cases z
    · rcases slots_no z with z | ⟨_, z⟩ <;> cases z
  · rcases sc h1 with ⟨_, z⟩ | ⟨j, rfl, z⟩
    · cases z
    · rcases slots_no z with z | ⟨_, z⟩ <;> cases z
  · rcases sc h with ⟨rfl, z⟩ | ⟨j, rfl, z⟩
    · cases z
      refine ⟨⟨x, _, rfl, upd_same, s.free nx, nx', ?_, by simp, fun j d hj => ?_⟩, fun j k2 ds2 hj z => ?_⟩
      · exact .obj (xs := []) (ds := []) (Nat.zero_le _) .nil
      · rcases sc hj with ⟨_, z⟩ | ⟨j, rfl, z⟩
        · cases z
        · rcases slots_no z with z | ⟨_, z⟩ <;> cases z
      · rcases sc z with ⟨z, _⟩ | ⟨j, rfl, z⟩
        · exact hj z
        · rcases slots_no z with z | ⟨_, z⟩ <;> cases z
    · rcases slots_no z with z | ⟨_, z⟩ <;> cases z
  · rcases sc h with ⟨_, z⟩ | ⟨j, rfl, z⟩
    · cases z
    · rcases slots_no z with z | ⟨_, z⟩ <;> cases z
theorem init_of {N : List Str} {n : Str} {m k nf : Nat} {u : SS} {vs : List V} {Q : VK} {E : XK} (hnf : nf = (θ.fld k).length) (h : spInit θ m k (denI (n :: N).length k nf u) vs H Q E) :
    ∃ F B x, tSv ⟨θ, F, B⟩ [x] (fun cls d _ H => E cls d H) u (EnF Q) (L2.start (n :: N) vs) H := by
  obtain ⟨hl, F, ds, H0, x, dx, us, rfl, nx, nd, ne, rfl, s, r, hf⟩ := h
  refine ⟨F, upd H0 dx (.own x), x, F, _, init_rel s nx nd ne r, ?_⟩
  have nx' : upd H0 dx (.own x) x = none := by rw [upd_ne (fun z => ne z.symm)]; exact nx
  have ext : ∀ {F' H' : Hp} {σ : L2.St} {ρ : Sl}, Same F F' → Rel θ F (upd H0 dx (.own x)) [x] F' H' σ ρ → Ext F H0 F' H' := fun {F' H' σ ρ} e R => by
    refine ⟨R.sub, e, fun a u h => ?_, fun a u h => ?_⟩
    · have hb : upd H0 dx (.own x) a = some u := by rw [upd_ne (ne_of_none h nd)]; exact h
      rcases R.kp a u hb with z | ⟨z, _⟩
      · exact z
      · simp at z
        subst z
        rw [nx] at h
        cases h
    · rcases R.fn a u h with z | z | z
      · exact .inl z
      rotate_left
      · exact .inr (.inr z)
      · refine .inr (.inl ?_)
        by_cases q : a = dx
        · rw [q]; exact nd
        · rwa [upd_ne q] at z
  unfold denI at hf
  replace hf : ResF θ F H0 (fun v H' => v = .ref x → Q .non H') E (match (generalizing := false) u (.me k [] :: slots N.length ds) with
    | .nx ρ => (match ρ[0]? with
      | some (Slot.me k' fs) => if k' = k ∧ fs.length = nf then .ok (.obj k fs, true) else .no
      | _ => .no)
    | .ex n fs _ => .ex n fs
    | _ => .no) := hf
  cases q : u (.me k [] :: slots N.length ds) with
  | nx ρ' =>
    rw [q] at hf
    replace hf : ResF θ F H0 (fun v H' => v = .ref x → Q .non H') E (match (generalizing := false) ρ'[0]? with
      | some (Slot.me k' fs) => if k' = k ∧ fs.length = nf then .ok (.obj k fs, true) else .no
      | _ => .no) := hf
    intro σ' F' H' e R
    cases z : ρ'[0]? with
    | none => rw [z] at hf; exact hf.elim
    | some sl =>
      rw [z] at hf
      cases sl with
      | me k' fs =>
        replace hf : ResF θ F H0 (fun v H' => v = .ref x → Q .non H') E (if k' = k ∧ fs.length = nf then .ok (.obj k fs, true) else .no) := hf
        by_cases y : k' = k ∧ fs.length = nf
        · rw [if_pos y] at hf
          obtain ⟨rfl, y2⟩ := y
          obtain ⟨⟨a, o, g1, g2, g3, g4, g5, g6, _⟩, _⟩ := R.me 0 k' fs z
          have ea : a = x := by simpa using g6
          subst ea
          exact hf (.ref a) F' H' (ext e R) ⟨(y2.trans hnf : fs.length = (θ.fld k').length), a, o, rfl, nx, g2, g3, g5.mono onlyN_le, fun _ => g5.mono (onlyN_mono (.refl _) fun b hb => by
            replace hb : upd H0 dx (.own a) b = none := hb
            by_cases q : b = dx
            · rw [q]; exact nd
            · rwa [upd_ne q] at hb)⟩ rfl
        · rw [if_neg y] at hf
          exact hf.elim
      | un => exact hf.elim
      | va d => exact hf.elim
      | ow d => exact hf.elim
      | xc => exact hf.elim
      | pv k d => exact hf.elim
  | bk ρ' => rw [q] at hf; exact hf.elim
  | ct ρ' => rw [q] at hf; exact hf.elim
  | rt d k ρ1 => rw [q] at hf; exact hf.elim
  | ex n fs ρ' =>
    rw [q] at hf
    exact fun cls dd σ' F' H' e R hv => hf cls dd F' H' (ext e R) hv
  | no => rw [q] at hf; exact hf.elim
end
section
variable {P : Program} {w : World} {K : PySem.W.Frag} {mg : Str → Option Value} {base : Heap} {x qual : Str} {params : Arguments} {body : List Stmt} {scope : Scope} {f : Addr} {fd : FuncData} {θ : Th}
/-- the context of a body -/
abbrev BX (P : Program) (w : World) (K : PySem.W.Frag) (mg : Str → Option Value) (base : Heap) (N : List Str) (qual : Str) (scope : Scope) (f : Addr) (cdv : Value) (A : Around) (outer : List Env) (s : Shared) (H : Hp) (E : XK) : Cx := cxOf (L2N.CX P w) P w K mg base N qual scope f cdv A outer s H E
/-- what is at hand in a body -/
structure BodyOk (X : Cx) (W : WX) (k : Nat) : Prop where
  tk : L2N.Takes X W
  po : PassesOwn (model X.prog X.w) X.A X.env X.xe
  rm : Room k X.A
theorem fn_ok {N ps : List Str} {k m : Nat} {u : SS} (F : FunD K x qual params body scope [] [] f fd) (S : FnScope N ps scope) (hm : m = ps.length)
    (hb : ∀ (cdv : Value) (A : Around) (outer : List Env) (s : Shared) (H : Hp) (E : XK) (F0 B : Hp) (L : List Addr), BodyOk (BX P w K mg base N qual scope f cdv A outer s H E) (fun cls d _ H => E cls d H) k → PSs (BX P w K mg base N qual scope f cdv A outer s H E) body (tSv ⟨θ, F0, B⟩ L (fun cls d _ H => E cls d H) u)) :
    FnOk P w K mg base (L2N.CX P w) (k + 1) f fd ps (spOf θ m (denF N.length u)) := by
  refine F.ok S (fun vs H Q E h => by rw [h.1, hm]) fun cdv A outer s H vs Q E hr h => ?_
  obtain ⟨F0, h⟩ := body_of h
  exact ⟨_, hb cdv A outer s H E F0 H [] ⟨L2N.takes_of rfl rfl rfl rfl, passes_of rfl, hr⟩, h⟩
theorem init_ok {N ps : List Str} {n : Str} {k m cn nf : Nat} {u : SS} (F : FunD K x qual params body scope [] [] f fd) (S : FnScope (n :: N) ps scope) (hm : m + 1 = ps.length) (hnf : nf = (θ.fld cn).length)
    (hb : ∀ (cdv : Value) (A : Around) (outer : List Env) (s : Shared) (H : Hp) (E : XK) (F0 B : Hp) (L : List Addr), BodyOk (BX P w K mg base (n :: N) qual scope f cdv A outer s H E) (fun cls d _ H => E cls d H) k → PSs (BX P w K mg base (n :: N) qual scope f cdv A outer s H E) body (tSv ⟨θ, F0, B⟩ L (fun cls d _ H => E cls d H) u)) :
    FnOk P w K mg base (L2N.CX P w) (k + 1) f fd ps (spInit θ m cn (denI (n :: N).length cn nf u)) := by
  refine F.ok S (fun vs H Q E h => by rw [h.1, hm]) fun cdv A outer s H vs Q E hr h => ?_
  obtain ⟨F0, B, y, h⟩ := init_of hnf h
  exact ⟨_, hb cdv A outer s H E F0 B [y] ⟨L2N.takes_of rfl rfl rfl rfl, passes_of rfl, hr⟩, h⟩
end
end G
namespace G
open PySem PySem.Spec L2
/-- what holds in every context -/
structure XB (X : Cx) (c : Cn) : Prop where
  K : X.K = c.θ.K
  nd : X.N.Nodup
  hu2 : X.A.units + 128 < cLine
/-- .. where no exception is handled -/
structure XC (X : Cx) (c : Cn) : Prop extends XB X c where
  calm : X.calm = true
instance {X : Cx} {c : Cn} : Coe (XC X c) (XB X c) := ⟨XC.toXB⟩
section
variable {X : Cx} {c : Cn} {L : List Addr} {W : WX} {f g h : ES} {a b e d tg iter : Expr} {pos p : Pos} {s : IS} {t u : TSm}
theorem u128 {k : Nat} {A : Around} (r : Room k A) : A.units + 128 < cLine := by have := r.un; omega
theorem XB.hu (x : XB X c) : X.A.units + 64 < cLine := by have := x.hu2; omega
theorem XC.blk (x : XC X c) {s : Shared} {H : Hp} {scope : Scope} {cenv : Env} {fp : List Addr} : XC (X.blk s H scope cenv fp) c := ⟨⟨x.K, x.nd, x.hu2⟩, x.calm⟩
theorem XB.u1 (x : XB X c) : X.A.units + 1 < cLine := by have := x.hu; omega
theorem XB.u0 (x : XB X c) : X.A.units < cLine := by have := x.hu; omega
theorem takes_WF : L2N.Takes X WF := fun u s' ⟨_, _, _, _, _, _, _, _, _, _, _, _, _, _, _, _, w⟩ => w.elim
def OpB (X : Cx) (c : Cn) (o : Operator) (op : D → D → Out (D × Kd)) : Prop := ∃ r, OpR X (binaryOp o) r ∧ ∀ W, OpD c W op r
def OpC (X : Cx) (c : Cn) (o : CmpOp) (op : D → D → Out (D × Kd)) : Prop := ∃ r, OpR X (compareOp o) r ∧ ∀ W, OpD c W op r
theorem ob_add (x : XB X c) : OpB X c .Add oAdd := ⟨_, op_add.or (op_add_str.or (op_cat.or (by rw [← x.K]; exact op_catA))), fun _ => od_add⟩
theorem ob_sub (x : XB X c) : OpB X c .Sub oSub := ⟨_, op_sub, fun _ => od_sub⟩
theorem ob_mul (x : XB X c) : OpB X c .Mult oMul := ⟨_, op_mul.or op_rep, fun _ => od_mul⟩
theorem ob_mod (x : XB X c) : OpB X c .Mod oMod := ⟨_, op_mod, fun _ => od_mod⟩
theorem ob_div (x : XB X c) : OpB X c .FloorDiv oDiv := ⟨_, op_fdiv, fun _ => od_div⟩
theorem ob_pow (x : XB X c) : OpB X c .Pow oPow := ⟨_, op_pow, fun _ => od_pow⟩
theorem oc_eq (x : XB X c) : OpC X c .Eq oEq := ⟨_, op_eq.or (by rw [← x.K]; exact op_eqD x.hu), fun _ => od_eq⟩
theorem oc_ne (x : XB X c) : OpC X c .NotEq oNe := ⟨_, op_ne.or (by rw [← x.K]; exact op_neD x.hu), fun _ => od_ne⟩
theorem oc_lt (x : XB X c) : OpC X c .Lt oLt := ⟨_, op_lt.or (by rw [← x.K]; exact op_ltT x.u0), fun _ => od_lt⟩
theorem oc_gt (x : XB X c) : OpC X c .Gt oGt := ⟨_, op_gt, fun _ => od_gt⟩
theorem oc_ge (x : XB X c) : OpC X c .GtE oGe := ⟨_, op_ge, fun _ => od_ge⟩
theorem g_bin {o : Operator} {op : D → D → Out (D × Kd)} (ho : OpB X c o op) (ha : PE X a (tEv c L W f)) (hb : PE X b (tEv c L W g)) : PE X (.BinOp a o b pos) (tEv c L W (eBin op f g)) := by
  obtain ⟨r, h1, h2⟩ := ho
  exact pg_bin h1 (h2 W) ha hb
theorem g_cmp {o : CmpOp} {op : D → D → Out (D × Kd)} (ho : OpC X c o op) (ha : PE X a (tEv c L W f)) (hb : PE X b (tEv c L W g)) (hm : behindInMarks o b = false := by rfl) : PE X (.Compare a [o] [b] pos) (tEv c L W (eBin op f g)) := by
  obtain ⟨r, h1, h2⟩ := ho
  exact pg_cmp h1 hm (h2 W) ha hb
theorem t_cmp {o : CmpOp} {op : D → D → Out (D × Kd)} (ho : OpC X c o op) (ha : PE X a (tEv c L W f)) (hb : PE X b (tEv c L W g)) (hm : behindInMarks o b = false := by rfl) : PT X (.Compare a [o] [b] pos) (tTv c L W (tBl (eBin op f g))) := by
  obtain ⟨r, h1, h2⟩ := ho
  exact pgt_cmp h1 hm (h2 W) ha hb
theorem g_var (i : Nat) {x : Str} (hv : Vis X.env.scope x) (hN : X.N[i]? = some x := by rfl) (hd : (x == ("__debug__" : Str)) = false := by rfl) (hcd : (x == ("__classdict__" : Str)) = false := by rfl) : PE X (.Name x pos) (tEv c L W (eVar i)) := pg_var hN hv hd hcd
theorem g_int {i : Int} {j : Nat} : PE X (.Constant (.int i) j pos) (tEv c L W (eC (.int i))) := pg_const pe_int fun _ _ => .int _
theorem g_str {i : Str} {j : Nat} : PE X (.Constant (.str i) j pos) (tEv c L W (eC (.str i))) := pg_const pe_str fun _ _ => .str _
theorem g_bl {i : Bool} {j : Nat} : PE X (.Constant (.bool i) j pos) (tEv c L W (eC (.bl i))) := pg_const pe_bl fun _ _ => .bl _
theorem g_non {j : Nat} : PE X (.Constant .none j pos) (tEv c L W (eC .non)) := pg_const pe_non fun _ _ => .non
theorem g_globI {x : Str} {i : Int} (hm : ∃ t, X.mg x = some (.int i t)) (hg : Gl X x := by rfl) (hd : (x == ("__debug__" : Str)) = false := by rfl) : PE X (.Name x pos) (tEv c L W (eC (.int i))) := by
  obtain ⟨t, hm⟩ := hm
  exact pg_const (pe_glob (v := .int i) hg hm ⟨t, rfl⟩ hd) fun _ _ => .int _
theorem g_cons {es : List Expr} {fs : List ES} (ha : PE X e (tEv c L W f)) (hr : PA X es (tAv c L W fs)) (hs : starEach (e :: es) X.env = (false, eval e X.env) :: starEach es X.env := by rfl) : PA X (e :: es) (tAv c L W (f :: fs)) := pga_cons ha hr hs
theorem g_ix (x : XB X c) (ha : PE X a (tEv c L W f)) (hb : PE X b (tEv c L W g)) (hs : PlainIx b := by exact fun _ _ => rfl) : PE X (.Subscript a b pos) (tEv c L W (eBin oIx f g)) := pg_ix x.u1 x.K ha hb hs
theorem g_sl {p2 : Pos} {lo hi : Option Expr} {fl fh : Option ES} (x : XB X c) (ha : PE X a (tEv c L W f)) (hl : PO X lo (tPo c L W fl)) (hh : PO X hi (tPo c L W fh)) : PE X (.Subscript a (.Slice lo hi none p2) pos) (tEv c L W (eSl f fl fh)) := pg_sl x.K ha hl hh
theorem g_fld {n : Str} {fx : Nat → Option Nat} (x : XB X c) (T : FldOk c n fx) (ha : PE X a (tEv c L W f)) (hb : attributeBase a n X.env (eval a X.env) = eval a X.env := by rfl) : PE X (.Attribute a n pos) (tEv c L W (eUn (oFld fx) f)) := pg_fld T x.K ha hb
theorem t_tru (x : XB X c) (ha : PE X a (tEv c L W f)) (he : ∀ whole, isTrue a X.env whole = (do let v ← whole; standAt a.pos; holding [v] (truthy v)) := by exact fun _ => rfl) : PT X a (tTv c L W (tTru f)) := pgt_tru ha he x.K
theorem t_pw (h : PW X e (tTv c L W t)) : PT X e (tTv c L W t) := h.pt
def BiF (X : Cx) (c : Cn) (b : Bi) (x : Str) : Prop := (∃ id r, bootBuiltins x = some (.builtin id) ∧ CallR X (.builtin id) r ∧ ∀ W, BiD c W b r) ∨ ∃ id r, bootBuiltins x = some (.type id) ∧ CallR X (.type id) r ∧ ∀ W, BiD c W b r
theorem call_lenK : CallR X (.builtin "len") (fun xs H Q => ∃ a kvs, xs = [V.ref a] ∧ Rd H a (.dK kvs) ∧ Q (.int (kvs.length : Nat)) H) := by
  intro pins s σ H xs us Q I r h
  obtain ⟨a, kvs, rfl, ha, q⟩ := h
  obtain ⟨u, rfl, ru⟩ := vals1 r
  cases ru
  exact d_len I ha fun t s' I' => ⟨.int kvs.length, H, I', ⟨t, rfl⟩, q⟩
theorem call_lenT : CallR X (.builtin "len") (fun xs H Q => ∃ a kvs, xs = [V.ref a] ∧ Rd H a (.dT kvs) ∧ Q (.int (kvs.length : Nat)) H) := by
  intro pins s σ H xs us Q I r h
  obtain ⟨p, kvs, rfl, hp, q⟩ := h
  obtain ⟨u, rfl, rx⟩ := vals1 r
  obtain rfl : u = .ref p := rx
  obtain ⟨z, hd, ys, rel, dd⟩ := dt_rd I.hok hp
  have hl : kvs.length = ys.length := Paired.length rel
  refine call_len_dictH hd dd (by rw [← hl]; rw [sizeLine_eq] at z; omega) ?_
  rw [← hl]
  exact ⟨.int ((kvs.length : Nat) : Int), H, I.tok _, ⟨_, rfl⟩, q⟩
theorem bf_len (x : XB X c) : BiF X c .len "len" := .inl ⟨_, _, by decide +kernel, (by rw [← x.K]; exact call_len : CallR X (.builtin "len") (fun xs H Q => ∃ x n, xs = [x] ∧ LenV c.θ.K x H n ∧ Q (.int n) H)).or (call_lenK.or call_lenT), fun _ => bd_len⟩
theorem bf_abs (x : XB X c) : BiF X c .abs "abs" := .inl ⟨_, _, by decide +kernel, call_abs, fun _ => bd_abs⟩
theorem bf_str (x : XB X c) : BiF X c .str "str" := .inr ⟨_, _, by decide +kernel, call_str_int, fun _ => bd_str⟩
theorem bf_all (x : XC X c) : BiF X c .all "all" := .inl ⟨_, _, by decide +kernel, (by rw [← x.K]; exact cr_all x.calm : CallR X (.builtin "all") (rAll c.θ.K)), fun _ => bd_all⟩
theorem bf_list (x : XB X c) : BiF X c .list "list" := .inr ⟨_, _, by decide +kernel, (by rw [← x.K]; exact call_list_of : CallR X (.type "list") (fun xs H Q => ∃ p ys, xs = [.ref p] ∧ (SqL c.θ.K H p ys ∨ SqT c.θ.K H p ys) ∧ ∀ l, H l = none → Q (.ref l) (upd H l (.lst ys)))), fun _ => bd_list⟩
theorem g_bi {bi : Bi} {x : Str} {es : List Expr} {fs : List ES} (hb : BiF X c bi x) (hm : X.mg x = none) (ha : PA X (e :: es) (tAv c L W fs)) (hg : Gl X x := by rfl) (hn : x ≠ "__name__" := by decide) (hdb : (x == ("__debug__" : Str)) = false := by rfl)
    (he : starEach (e :: es) X.env = (false, eval e X.env) :: starEach es X.env := by rfl) (hpl : (backTo pos (starEach es X.env)).any (·.1) = false := by rfl) : PE X (.Call (.Name x p) (e :: es) [] pos) (tEv c L W (eBi bi fs)) := by
  rcases hb with ⟨id, r, h1, h2, h3⟩ | ⟨id, r, h1, h2, h3⟩
  · exact pg_bi h2 (h3 W) hg hm h1 ha hn hdb he hpl
  · exact pg_biTy h2 (h3 W) hg hm h1 ha hn hdb he hpl
theorem g_isi {T : Str} {S : String} {p2 : Pos} (x : XB X c) (hm : X.mg "isinstance" = none) (hm2 : X.mg T = none) (hv : bootBuiltins T = some (.type S)) (ha : PE X a (tEv c L W f)) (hS : S ∈ isNames := by decide) (hg : Gl X "isinstance" := by rfl) (hg2 : Gl X T := by rfl) (hT : T ≠ "__name__" := by decide) (hd : (T == ("__debug__" : Str)) = false := by rfl)
    (hst : starEach [a, .Name T p2] X.env = (false, eval a X.env) :: starEach [.Name T p2] X.env := by rfl) : PE X (.Call (.Name "isinstance" p) [a, .Name T p2] [] pos) (tEv c L W (eUn (oIsi S) f)) := pg_isi x.K hg hm hg2 hm2 hv hT hd hS hst ha
/-- a def of m parameters that gives R; k: its depth -/
structure CallOk (X : Cx) (θ : Th) (k : Nat) (fa : Addr) (m : Nat) (R : List D → Out (D × Bool)) : Prop where
  ok : ∃ fd ps, FnOk X.prog X.w X.K X.mg X.base (L2N.CX X.prog X.w) k fa fd ps (spOf θ m R) ∧ Binds X.K fd ps [] ∧ PySem.W.keepIn X.K (.ref fa) = true
def eFn (R : List D → Out (D × Bool)) (fs : List ES) : ES := eCall (fun _ => R) 0 fs
theorem g_call {R : List D → Out (D × Bool)} {k k' m : Nat} {fa : Addr} {x : Str} {es : List Expr} {fs : List ES} (F : CallOk X c.θ k fa m R) (hr : Room k' X.A) (hk : k ≤ k') (tk : L2N.Takes X W) (hm : X.mg x = some (.ref fa)) (ha : PA X (e :: es) (tAv c L W fs)) (hl : fs.length = m := by rfl) (hg : Gl X x := by rfl)
    (hdb : (x == ("__debug__" : Str)) = false := by rfl) (he : starEach (e :: es) X.env = (false, eval e X.env) :: starEach es X.env := by rfl) (hpl : (backTo pos (starEach es X.env)).any (·.1) = false := by rfl) : PE X (.Call (.Name x p) (e :: es) [] pos) (tEv c L W (eFn R fs)) := by
  obtain ⟨fd, ps, F, hb, hkp⟩ := F.ok
  exact pg_call (Γ := fun _ => R) (n := 0) F (hr.mono hk) hg hm hkp hb tk ha hl hdb he hpl
structure MakeOk (X : Cx) (θ : Th) (k cn : Nat) (m : Nat) (R : List D → Out (D × Bool)) : Prop where
  ok : ∃ fa fd ps, FnOk X.prog X.w X.K X.mg X.base (L2N.CX X.prog X.w) k fa fd ps (spInit θ m cn R) ∧ Binds X.K fd ps [] ∧ Mk X.K (θ.C cn) fa
theorem g_make {R : List D → Out (D × Bool)} {k k' m cn : Nat} {x : Str} {es : List Expr} {fs : List ES} (F : MakeOk X c.θ k cn m R) (hr : Room k' X.A) (hk : k + 1 ≤ k') (tk : L2N.Takes X W) (hm : X.mg x = some (.ref (c.θ.C cn))) (ha : PA X (e :: es) (tAv c L W fs)) (hl : fs.length = m := by rfl) (hg : Gl X x := by rfl)
    (hdb : (x == ("__debug__" : Str)) = false := by rfl) (he : starEach (e :: es) X.env = (false, eval e X.env) :: starEach es X.env := by rfl) (hpl : (backTo pos (starEach es X.env)).any (·.1) = false := by rfl) : PE X (.Call (.Name x p) (e :: es) [] pos) (tEv c L W (eFn R fs)) := by
  obtain ⟨fa, fd, ps, F, hb, M⟩ := F.ok
  exact pg_make (Γ := fun _ => R) (n := 0) M F (hr.mono hk) hg hm hb tk ha hl hdb he hpl
/-- a method: by the class's number -/
abbrev MTab := List (Nat × (List D → Out (D × Bool)))
def mGam (l : MTab) : Gam := fun n => match l.lookup n with
  | some R => R
  | none => fun _ => .no
def mIx (l : MTab) : Nat → Option Nat := fun n => match l.lookup n with
  | some _ => some n
  | none => none
def eM (l : MTab) (f : ES) (fs : List ES) : ES := eMeth (mGam l) (mIx l) f fs
structure MetOk (X : Cx) (θ : Th) (k cn : Nat) (m : Str) (l : Nat) (R : List D → Out (D × Bool)) : Prop where
  ok : ∃ fa fd ps, FnOk X.prog X.w X.K X.mg X.base (L2N.CX X.prog X.w) k fa fd ps (spOf θ (l + 1) R) ∧ Cls X.K (θ.C cn) ∧ Meth X.K (θ.C cn) m fa ∧ Binds X.K fd ps [] ∧ m ∉ θ.fld cn
theorem methOk_of {l : MTab} {m : Str} {n k : Nat} (hr : Room k X.A) (h : ∀ q ∈ l, ∃ k', k' ≤ k ∧ MetOk X c.θ k' q.1 m n q.2) : MethOk X c (mGam l) m (mIx l) n := by
  refine ⟨fun cn j hj => ?_⟩
  unfold mIx at hj
  cases q : l.lookup cn with
  | none => rw [q] at hj; cases hj
  | some R =>
    rw [q] at hj
    cases hj
    have mem : (cn, R) ∈ l := by
      clear h
      induction l with
      | nil => cases q
      | cons z r ih =>
        rw [List.lookup_cons] at q
        cases e : cn == z.1 with
        | true =>
          rw [e] at q
          cases q
          rw [beq_iff_eq.mp e]
          exact List.mem_cons_self
        | false =>
          rw [e] at q
          exact List.mem_cons_of_mem _ (ih q)
    obtain ⟨k', hk, fa, fd, ps, F, c1, m1, b1, n1⟩ := h _ mem
    refine ⟨fa, fd, ps, k', ?_, hr.mono hk, c1, m1, b1, n1⟩
    have e : mGam l cn = R := by
      unfold mGam
      rw [q]
    rw [e]
    exact F
theorem g_meth0 {l : MTab} {pl : Sem Bool} {o : Expr} {m : Str} {apos : Pos} {k : Nat} (hr : Room k X.A) (tk : L2N.Takes X W) (h : ∀ q ∈ l, ∃ k', k' ≤ k ∧ MetOk X c.θ k' q.1 m 0 q.2) (ho : PE X o (tEv c L W f))
    (ht : eval (.Call (.Attribute o m apos) [] [] pos) X.env = (do
      let ov ← eval o X.env
      standAt apos.atName
      let (f, first) ← holding [ov] (getMethod ov m pl)
      callWith pos f first (backTo pos (starEach [] X.env)) (backToKw pos (keywordEach [] X.env))) := by rfl) : PE X (.Call (.Attribute o m apos) [] [] pos) (tEv c L W (eM l f [])) :=
  pg_meth0 (pl := pl) (methOk_of hr h) tk ho ht
theorem i_list {st : Bool} (x : XB X c) (ha : PE X iter (tEv c L W f)) : PI X tg iter (tIv c L W st (itE st f)) := gi_list x.K ha
theorem i_r1 {st : Bool} (hm : X.mg "range" = none) (ha : PE X a (tEv c L W f)) (hg : Gl X "range" := by rfl) (hs : starEach [a] X.env = (false, eval a X.env) :: starEach [] X.env := by rfl) : PI X tg (.Call (.Name "range" p) [a] [] pos) (tIv c L W st (itR1 f)) := gi_r1 hg hm ha hs
theorem i_zip {st : Bool} {e1 e2 : Expr} {elts : List Expr} {kk : Nat} {tpos : Pos} (x : XB X c) (hm : X.mg "zip" = none) (ha : PE X e1 (tEv c L W f)) (hb : PE X e2 (tEv c L W g)) (hg : Gl X "zip" := by rfl)
    (hs : starEach [e1, e2] X.env = (false, eval e1 X.env) :: starEach [e2] X.env := by rfl) (hs2 : starEach [e2] X.env = (false, eval e2 X.env) :: starEach [] X.env := by rfl) (hpl : (backTo pos (starEach [e2] X.env)).any (·.1) = false := by rfl) :
    PI X (.Tuple elts kk tpos) (.Call (.Name "zip" p) [e1, e2] [] pos) (tIv c L W st (itZip st f g)) := gi_zip x.K hg hm ha hb hs hs2 hpl
theorem t_name (x : XB X c) (i : Nat) {n : Str} (hx : Loc X.env.scope n) (hf : X.fn n = true ∨ X.env.scope.names.lookup n = some .local) (hi : X.N[i]? = some n := by rfl) : PG X (.Name n pos) (gTv c L (.one i)) := gg_name x.nd hi hx hf
theorem ts_cons {es : List Expr} {t : Tg} {ts : List Tg} (h1 : PG X e (gTv c L t)) (h2 : PGs X es (gTvs c L ts)) (hs : (assignEach (e :: es) X.env).map (·.2) = assign e X.env :: (assignEach es X.env).map (·.2) := by rfl) : PGs X (e :: es) (gTvs c L (t :: ts)) := ggs_cons h1 h2 hs
theorem t_tup {es : List Expr} {k n : Nat} {ts : List Tg} (x : XC X c) (h : PGs X es (gTvs c L ts)) (hl : ts.length = n := by rfl) (hn : (assignEach es X.env).length = n := by rfl) (hst : (assignEach es X.env).findIdx? (·.1) = none := by rfl) : PG X (.Tuple es k pos) (gTv c L (.tup ts)) := gg_tup x.calm x.K h hn hst hl
end
end G
namespace G
open PySem PySem.Spec L2
def AllL {α : Type} (P : α → Prop) : List α → Prop
  | [] => True
  | a :: l => P a ∧ AllL P l
theorem AllL.mem {α : Type} {P : α → Prop} : ∀ {l : List α}, AllL P l → ∀ q ∈ l, P q
  | a :: l, h, q, hq => by
    rcases List.mem_cons.mp hq with rfl | z
    · exact h.1
    · exact AllL.mem h.2 q z
/-- a def of the text that gives R -/
def Fine (P : Program) (w : World) (K : PySem.W.Frag) (mg : Str → Option Value) (base : Heap) (θ : Th) (k : Nat) (d : He.DefD) (m : Nat) (R : List D → Out (D × Bool)) : Prop :=
  ∃ fd ps, FnOk P w K mg base (L2N.CX P w) k (He.fAd K d.at_) fd ps (spOf θ m R) ∧ Binds K fd ps [] ∧ PySem.W.keepIn K (.ref (He.fAd K d.at_)) = true
def FineI (P : Program) (w : World) (K : PySem.W.Frag) (mg : Str → Option Value) (base : Heap) (θ : Th) (k cn : Nat) (d : He.DefD) (m : Nat) (R : List D → Out (D × Bool)) : Prop :=
  ∃ fd ps, FnOk P w K mg base (L2N.CX P w) k (He.fAd K d.at_) fd ps (spInit θ m cn R) ∧ Binds K fd ps []
section
variable {X : Cx} {c : Cn} {L : List Addr} {W : WX} {f g h : ES} {a b e d tg iter : Expr} {pos p : Pos}
theorem Fine.call {θ : Th} {k m : Nat} {dd : He.DefD} {R : List D → Out (D × Bool)} (F : Fine X.prog X.w X.K X.mg X.base θ k dd m R) : CallOk X θ k (He.fAd X.K dd.at_) m R := by
  obtain ⟨fd, ps, h1, h2, h3⟩ := F
  exact ⟨fd, ps, h1, h2, h3⟩
theorem FineI.make {θ : Th} {k cn m : Nat} {dd : He.DefD} {R : List D → Out (D × Bool)} (F : FineI X.prog X.w X.K X.mg X.base θ k cn dd m R) (M : Mk X.K (θ.C cn) (He.fAd X.K dd.at_)) : MakeOk X θ k cn m R := by
  obtain ⟨fd, ps, h1, h2⟩ := F
  exact ⟨_, fd, ps, h1, h2, M⟩
theorem Fine.met {θ : Th} {k cn l : Nat} {dd : He.DefD} {m : Str} {R : List D → Out (D × Bool)} (F : Fine X.prog X.w X.K X.mg X.base θ k dd (l + 1) R) (c1 : Cls X.K (θ.C cn)) (m1 : Meth X.K (θ.C cn) m (He.fAd X.K dd.at_)) (n1 : m ∉ θ.fld cn) : MetOk X θ k cn m l R := by
  obtain ⟨fd, ps, h1, h2, _⟩ := F
  exact ⟨_, fd, ps, h1, c1, m1, h2, n1⟩
/-- a field's place by the class's number -/
def fxT (l : List (Nat × Nat)) : Nat → Option Nat := fun n => l.lookup n
theorem lookup_memN {α : Type} {n : Nat} {r : α} : ∀ {l : List (Nat × α)}, l.lookup n = some r → (n, r) ∈ l
  | (k, v) :: l, h => by
    rw [List.lookup_cons] at h
    cases e : n == k with
    | true =>
      rw [e] at h
      cases h
      rw [beq_iff_eq.mp e]
      exact List.mem_cons_self
    | false =>
      rw [e] at h
      exact List.mem_cons_of_mem _ (lookup_memN h)
theorem fldOk_of {x : Str} {l : List (Nat × Nat)} (h : AllL (fun q : Nat × Nat => Cls c.θ.K (c.θ.C q.1) ∧ NoAttr c.θ.K (c.θ.C q.1) x ∧ (c.θ.fld q.1)[q.2]? = some x ∧ (c.θ.fld q.1).Nodup) l) : FldOk c x (fxT l) :=
  ⟨fun n i hi => h.mem _ (lookup_memN hi)⟩
def fxOne (cn i : Nat) : Nat → Nat → Bool := fun k n => k == cn && n == i
theorem fx_of {K : PySem.W.Frag} {θ : Th} {cn i : Nat} {fn : Str} (h1 : (θ.fld cn)[i]? = some fn) (h2 : fn ∉ (θ.fld cn).take i) (h3 : Cls K (θ.C cn)) (h4 : NoAttr K (θ.C cn) fn) (h5 : i < 1000) :
    ∀ k n, fxOne cn i k n = true → (θ.fld k)[n]? = some fn ∧ fn ∉ (θ.fld k).take n ∧ Cls K (θ.C k) ∧ NoAttr K (θ.C k) fn ∧ n < 1000 := fun k n h => by
  obtain ⟨e1, e2⟩ := Bool.and_eq_true_iff.mp h
  obtain rfl := beq_iff_eq.mp e1
  obtain rfl := beq_iff_eq.mp e2
  exact ⟨h1, h2, h3, h4, h5⟩
theorem g_mt0 {l : MTab} {pl : Sem Bool} {o : Expr} {m : Str} {apos : Pos} {k : Nat} (hr : Room k X.A) (tk : L2N.Takes X W) (h : AllL (fun q : Nat × (List D → Out (D × Bool)) => ∃ k', k' ≤ k ∧ MetOk X c.θ k' q.1 m 0 q.2) l) (ho : PE X o (tEv c L W f))
    (ht : eval (.Call (.Attribute o m apos) [] [] pos) X.env = (do
      let ov ← eval o X.env
      standAt apos.atName
      let (f, first) ← holding [ov] (getMethod ov m pl)
      callWith pos f first (backTo pos (starEach [] X.env)) (backToKw pos (keywordEach [] X.env))) := by rfl) : PE X (.Call (.Attribute o m apos) [] [] pos) (tEv c L W (eM l f [])) := g_meth0 hr tk h.mem ho ht
theorem g_raise {n : Nat} {x : Str} {pos' : Pos} (xc : XC X c) (tk : L2N.Takes X W) (gC : X.mg x = some (.ref (c.θ.C n))) (e : PySem.W.excIn X.K (c.θ.C n) He.veBase "ValueError.__new__" = true ∧ PySem.W.keepIn X.K (.ref (c.θ.C n)) = true ∧ PySem.W.subIn X.K (.ref (c.θ.C n)) (.type "BaseException") = some true ∧ PySem.W.typeIn X.K (.ref (c.θ.C n)) = some (.type "type"))
    (hg : Gl X x := by rfl) (hdb : (x == ("__debug__" : Str)) = false := by rfl) : PS X (.Raise (some (.Call (.Name x p) [] [] pos)) none pos') (tSv c L W (sRaise n)) :=
  gs_raise0 xc.calm tk PySem.F.excBase_ValueError e.1 gC e.2.1 (raises_own e.2.2.1 e.2.2.2) hg hdb
end
/-- the law's promise -/
theorem law_sp {θ : Th} {R : List D → Out (D × Bool)} {n : Nat} (h : ∀ ns : List Int, ns.length ≤ n → R [.frl ns] = .ok (.bl true, false)) (H : Hp) (a : Addr) (ns : List Int) (hl : ns.length ≤ n) (hS : SqL θ.K H a (ns.map V.int)) :
    spOf θ 1 R [.ref a] H (fun v _ => v = .bl true) fun _ _ _ => False := by
  refine ⟨rfl, H, [.frl ns], fun _ _ h => .inl h, .cons (.frl hS) .nil, ?_⟩
  rw [h ns hl]
  intro v F' H' _ hv
  cases hv
  rfl
/-- nothing leaves where no wish is met -/
theorem cx_never {P : Program} {w : World} (H : Hp) (s : Shared) (e : Value) (s' : Shared) : L2N.CX P w [] H s (fun _ _ _ => False) e s' → False := fun ⟨_, _, _, _, _, _, _, _, _, _, _, _, h⟩ => h
end G
namespace G
open PySem PySem.Spec L2
/-- what may leave, in any world -/
def CXW (P : Program) : CXT := fun outer H s E u s' => ∃ w, L2N.CX P w outer H s E u s'
theorem wcx {P : Program} {w : World} {K : PySem.W.Frag} {mg : Str → Option Value} {base : Heap} {k : Nat} {f : Addr} {fd : FuncData} {ps : List Str} {sp : Sp} (F : FnOk P w K mg base (L2N.CX P w) k f fd ps sp) : FnOk P w K mg base (CXW P) k f fd ps sp :=
  ⟨F.len, fun A outer s H args us vs Q E hr he hb hv hs => codeAny_mono (F.run A outer s H args us vs Q E hr he hb hv hs) fun r s' h => by
    cases r with
    | error e => exact ⟨w, h⟩
    | ok fl => cases fl <;> exact h⟩
theorem cxw_never {P : Program} (H : Hp) (s : Shared) (e : Value) (s' : Shared) : CXW P [] H s (fun _ _ _ => False) e s' → False := fun ⟨w, h⟩ => cx_never H s e s' h
end G
namespace G
open PySem PySem.Spec L2
theorem pss_no {X : Cx} {c : Cn} {L : List Addr} {W : WX} {ss : List Stmt} : PSs X ss (tSv c L W fun _ => .no) := ⟨fun _ _ _ _ _ _ h => by
  obtain ⟨_, _, _, h⟩ := h
  exact h.elim⟩
end G
namespace G
open PySem PySem.Spec L2
def sNo : SS := fun _ => .no
section
variable {X : Cx} {c : Cn} {L : List Addr} {W : WX} {f g h : ES} {a b e d tg iter : Expr} {pos p : Pos}
theorem RepL.reverse {θ : Th} {F : Hp} : ∀ {ds : List D} {xs : List V}, RepL θ F ds xs → RepL θ F ds.reverse xs.reverse
  | _, _, .nil => .nil
  | _, _, .cons r t => by
    rw [List.reverse_cons, List.reverse_cons]
    exact (RepL.reverse t).append (.cons r .nil)
end
end G
namespace G
open PySem PySem.Spec L2
def unX : Slot → Slot
  | .me _ _ => .un
  | .xc => .un
  | s => s
def clr (i : Nat) (s : Slot) (ρ : Sl) : Sl := (ρ.map unX).set i s
theorem clr_some {i j : Nat} {s z : Slot} {ρ : Sl} (h : (clr i s ρ)[j]? = some z) (hz : z ≠ .un) : (j = i ∧ z = s) ∨ (j ≠ i ∧ ρ[j]? = some z ∧ unX z = z) := by
  unfold clr at h
  by_cases q : j = i
  · subst q
    by_cases l : j < (ρ.map unX).length
    · rw [List.getElem?_set_self l] at h
      exact .inl ⟨rfl, (Option.some.inj h).symm⟩
    · rw [List.getElem?_eq_none (by simpa using l)] at h
      cases h
  · rw [List.getElem?_set_ne (Ne.symm q), List.getElem?_map] at h
    cases y : ρ[j]? with
    | none => rw [y] at h; cases h
    | some w =>
      rw [y] at h
      replace h : unX w = z := Option.some.inj h
      cases w <;> first | exact absurd h.symm hz | (cases h; exact .inr ⟨q, rfl, rfl⟩)
section
variable {θ : Th} {F0 B F H : Hp} {L : List Addr} {σ : L2.St} {ρ : Sl} {a : Addr} {i : Nat}
theorem σ_ne {v : Option V} {j : Nat} (h : j ≠ i) : (σ.set i v)[j]? = σ[j]? := List.getElem?_set_ne (Ne.symm h)
theorem Rel.pvClr {s : Slot} {v : Option V} (R : Rel θ F0 B L F H σ ρ) (hs : ∀ k d, s ≠ .pv k d) (ho : ¬ ((∃ d, s = .ow d) ∨ ∃ k ds, s = .me k ds)) : ∃ Z, PvAll θ B F H (σ.set i v) (clr i s ρ) Z := by
  obtain ⟨Z, hZ⟩ := R.pv
  refine ⟨Z, hZ.step (.refl _) (fun _ _ h => h) (fun j k d h => ?_) fun j k d l b h ho2 hs2 => ?_⟩
  · rcases clr_some h (by intro z; cases z) with ⟨_, z⟩ | ⟨q, z, _⟩
    · exact absurd z.symm (hs k d)
    · exact ⟨z, σ_ne q, fun b hb => ⟨rfl, ((hZ j k d z).2.2.1 b hb).1⟩⟩
  · rcases clr_some h (by intro z; cases z) with ⟨_, z⟩ | ⟨q, z, _⟩
    · exact absurd z.symm (hs k d)
    · rcases ho2 with ⟨d2, hd⟩ | ⟨k2, ds, hd⟩
      · rcases clr_some hd (by intro z; cases z) with ⟨_, z2⟩ | ⟨q2, z2, _⟩
        · exact absurd (.inl ⟨d2, z2.symm⟩) ho
        · rw [σ_ne q2] at hs2
          exact (hZ j k d z).2.2.2.1 l b (.inl ⟨d2, z2⟩) hs2
      · rcases clr_some hd (by intro z; cases z) with ⟨_, z2⟩ | ⟨q2, z2, _⟩
        · exact absurd (.inr ⟨k2, ds, z2.symm⟩) ho
        · rw [σ_ne q2] at hs2
          exact (hZ j k d z).2.2.2.1 l b (.inr ⟨k2, ds, z2⟩) hs2
/-- into the suite -/
theorem Rel.hotIn (R : Rel θ F0 B L F H σ ρ) (na : H a = none) : Rel θ F0 B (a :: L) F H (σ.set i (some (.ref a))) (clr i .xc ρ) := by
  refine ⟨R.sub, fun b u h => ?_, R.f0, R.fn, by unfold clr; simpa using R.len, fun j d h => ?_, fun j d h => ?_, fun j d h => ?_, fun j k d e b hn h1 h2 h3 => ?_, fun j k ds h => ?_, fun j h => ?_, R.pvClr (fun _ _ h => by cases h) (fun z => by rcases z with ⟨_, z⟩ | ⟨_, _, z⟩ <;> cases z)⟩
  · rcases R.kp b u h with z | ⟨z1, z2⟩
    · exact .inl z
    · exact .inr ⟨List.mem_cons_of_mem _ z1, z2⟩
  · rcases clr_some h (by intro z; cases z) with ⟨_, z⟩ | ⟨q, z, _⟩
    · cases z
    · rw [σ_ne q]
      exact R.va j d z
  · rcases clr_some h (by intro z; cases z) with ⟨_, z⟩ | ⟨q, z, _⟩
    · cases z
    · rw [σ_ne q]
      exact R.ow j d z
  · rcases clr_some h (by intro z; cases z) with ⟨_, z⟩ | ⟨q, z, _⟩
    · cases z
    · exact R.fu j d z
  · rcases clr_some h1 (by intro z; cases z) with ⟨_, z⟩ | ⟨q1, z1, _⟩
    · cases z
    rcases clr_some h2 (by intro z; cases z) with ⟨_, z⟩ | ⟨q2, z2, _⟩
    · cases z
    rw [σ_ne q1] at h3
    rw [σ_ne q2]
    exact R.dj j k d e b hn z1 z2 h3
  · rcases clr_some h (by intro z; cases z) with ⟨_, z⟩ | ⟨_, _, z⟩ <;> cases z
  · rcases clr_some h (by intro z; cases z) with ⟨rfl, _⟩ | ⟨_, _, z⟩
    · refine ⟨a, rfl, ?_⟩
      have l : j < (clr j .xc ρ).length := (List.getElem?_eq_some_iff.mp h).1
      unfold clr at l
      have := R.len
      exact List.getElem?_set_self (by simp at l; omega)
    · cases z
/-- out of it -/
theorem Rel.hotOut (R : Rel θ F0 B (a :: L) F H σ ρ) (na : B a = none) : Rel θ F0 B L F H (σ.set i none) (clr i .un ρ) := by
  refine ⟨R.sub, fun b u h => ?_, R.f0, R.fn, by unfold clr; simpa using R.len, fun j d h => ?_, fun j d h => ?_, fun j d h => ?_, fun j k d e b hn h1 h2 h3 => ?_, fun j k ds h => ?_, fun j h => ?_, R.pvClr (fun _ _ h => by cases h) (fun z => by rcases z with ⟨_, z⟩ | ⟨_, _, z⟩ <;> cases z)⟩
  · rcases R.kp b u h with z | ⟨z1, z2⟩
    · exact .inl z
    · rcases List.mem_cons.mp z1 with rfl | z1
      · rw [na] at h; cases h
      · exact .inr ⟨z1, z2⟩
  · rcases clr_some h (by intro z; cases z) with ⟨_, z⟩ | ⟨q, z, _⟩
    · cases z
    · rw [σ_ne q]
      exact R.va j d z
  · rcases clr_some h (by intro z; cases z) with ⟨_, z⟩ | ⟨q, z, _⟩
    · cases z
    · rw [σ_ne q]
      exact R.ow j d z
  · rcases clr_some h (by intro z; cases z) with ⟨_, z⟩ | ⟨q, z, _⟩
    · cases z
    · exact R.fu j d z
  · rcases clr_some h1 (by intro z; cases z) with ⟨_, z⟩ | ⟨q1, z1, _⟩
    · cases z
    rcases clr_some h2 (by intro z; cases z) with ⟨_, z⟩ | ⟨q2, z2, _⟩
    · cases z
    rw [σ_ne q1] at h3
    rw [σ_ne q2]
    exact R.dj j k d e b hn z1 z2 h3
  · rcases clr_some h (by intro z; cases z) with ⟨_, z⟩ | ⟨_, _, z⟩ <;> cases z
  · rcases clr_some h (by intro z; cases z) with ⟨_, z⟩ | ⟨_, _, z⟩ <;> cases z
end
def fOut (i : Nat) : Fl → Fl
  | .nx ρ => .nx (clr i .un ρ)
  | .bk ρ => .bk (clr i .un ρ)
  | .ct ρ => .ct (clr i .un ρ)
  | .rt d k ρ => .rt d k (clr i .un ρ)
  | _ => .no
/-- try: u, except C as x_i: su; hit: is it of the class C? -/
def sTry (i : Nat) (hit : Nat → Option Bool) (u : SS) (su : Nat → List D → SS) : SS := fun ρ => match u ρ with
  | .ex n fs ρ' => match hit n with
    | some true => fOut i (su n fs (clr i .xc ρ'))
    | some false => .ex n fs ρ'
    | none => .no
  | o => o
def tSuite (c : Cn) (L : List Addr) (su : Nat → List D → SS) (a : Addr) (cls : Value) (d : Option Addr) : TS := fun E σ H =>
  ∃ n fs F ρ, cls = .ref (c.θ.C n) ∧ (fs = [] → d = none) ∧ Rel c.θ c.F0 c.B (a :: L) F H σ ρ ∧ ResS c (a :: L) WF F E (su n fs ρ)
def eIsE (hit : Nat → Option Bool) (i n : Nat) : ES := fun ρ => match ρ[i]? with
  | some .xc => match hit n with
    | some b => .ok (.bl b, .sh)
    | none => .no
  | _ => .no
theorem call_isH {X : Cx} {a D : Addr} {oe : Obj} (C : ExcC X.K D) (hp : (a, oe) ∈ X.pn) (hz : Zc (.ref D) none oe) (hf : ∃ vs, oe.data = .fields vs) : CallR X (.builtin "isinstance") (rIsE X.K D a) := by
  intro pins s σ H xs us Q I r h
  obtain ⟨y, cv, b, rfl, hcv, e, q⟩ := h
  cases r with
  | cons r1 rr =>
    cases rr with
    | cons r2 rr =>
      cases rr
      cases r1
      have ec := hcv _ r2
      subst ec
      have get := (I.pin (a, oe) (List.mem_append_left _ hp)).1
      obtain ⟨vs, hv⟩ := hf
      have J : PySem.W.InstAt s.heap a oe D none := by
        obtain ⟨o1, o2, o3, o4⟩ := oe
        obtain ⟨z1, z2⟩ := hz
        dsimp only at z1 z2 hv
        subst z1 z2 hv
        exact ⟨get, rfl, rfl, trivial⟩
      exact PySem.W.kia_one (PySem.W.handS_kitx_exc C.hg C.hk C.hs C.hd C.ha C.hn C.ht C.hm) I.kIn J e (fun z => nomatch z) fun tk => ⟨.bl b, H, I.kept (t' := tk) fun _ _ z => z, rfl, q⟩
section
variable {X : Cx} {c : Cn} {L : List Addr} {W : WX} {hit : Nat → Option Bool} {n : Nat} {x T : Str} {p p1 p2 pos : Pos}
def hitT (l : List (Nat × Bool)) : Nat → Option Bool := fun n => l.lookup n
theorem hit_of {Cv : Value} {l : List (Nat × Bool)} (hh : AllL (fun q : Nat × Bool => PySem.W.exmOne X.K (.ref (c.θ.C q.1)) Cv = some q.2) l) : ∀ k b, hitT l k = some b → PySem.W.exmOne X.K (.ref (c.θ.C k)) Cv = some b := fun k b hb => hh.mem _ (lookup_memN hb)
end
end G
namespace G
open PySem PySem.Spec L2 L2H
def eCallX (R : Nat → Out (D × Bool)) (i n : Nat) : ES := fun ρ => match ρ[i]? with
  | some .xc => match R n with
    | .ok (d, b) => .ok (d, if b = true then .fr else .sh)
    | _ => .no
  | _ => .no
def suN (s : Nat → SS) : Nat → List D → SS := fun k fs => match fs with
  | [] => s k
  | _ => sNo
end G
namespace G
open PySem PySem.Spec L2 He PyProof.Rows
def oexB (K : PySem.W.Frag) (C : Addr) : Bool := match K.lookup C with
  | some ⟨.type "type", _, .cls cd, sl⟩ => (match cd.mro, sl.toList with
    | .ref C2 :: tl, [_, _, _, _, some (.builtin nw), _] => decide (C2 = C) && (decide (nw = "ValueError.__new__") && (cd.hasDict && (!cd.hasDel && PySem.HandSPX.refsVE tl)))
    | _, _ => false)
  | _ => false
inductive Fx where
  | exC (x : Str)
  | isT (x : Str) (T : String) (b : Bool)
  | isO (x y : Str) (b : Bool)
  | oex (x : Str)
def Fx.ok (K : PySem.W.Frag) : Fx → Bool
  | .exC x => eqO (PySem.W.findIn K (.ref (ga K x)) "__getattribute__") (some (some (.builtin "BaseException.__getattribute__"))) && (eqO (PySem.W.findIn K (.ref (ga K x)) "__getattr__") (some none) && (decide (PySem.W.subIn K (.ref (ga K x)) (.type "BaseException") = some true) &&
    (PySem.W.hasDictIn K (ga K x) && (eqO (PySem.W.findIn K (.ref (ga K x)) "__class__") (some (some (.builtin "object.__class__"))) && (eqO (PySem.W.specialIn K (.builtin "object.__class__") "__get__") (some (some (.builtin "getset_descriptor.__get__"))) &&
    (decide (PySem.W.takesIn K (.builtin "object.__class__") = some true) && decide (PySem.W.mroIn K (ga K x) (.type "object") = some true)))))))
  | .isT x T b => decide (PySem.W.kitOne K (.ref (ga K x)) (.type T) = some b)
  | .isO x y b => decide (PySem.W.kitOne K (.ref (ga K x)) (.ref (ga K y)) = some b)
  | .oex x => oexB K (ga K x) && (eqO (PySem.W.findIn K (.ref (ga K x)) "__setattr__") (some (some (.builtin "object.__setattr__"))) && (decide (PySem.W.subIn K (.ref (ga K x)) (.type "BaseException") = some true) && (decide (PySem.W.typeIn K (.ref (ga K x)) = some (.type "type")) && PySem.W.keepIn K (.ref (ga K x)))))
section
variable {K : PySem.W.Frag} {x y : Str} {T : String} {b : Bool}
theorem exC_ok (h : (Fx.exC x).ok K = true) : ExcC K (ga K x) := by
  obtain ⟨h1, h⟩ := ba h
  obtain ⟨h2, h⟩ := ba h
  obtain ⟨h3, h⟩ := ba h
  obtain ⟨h4, h⟩ := ba h
  obtain ⟨h5, h⟩ := ba h
  obtain ⟨h6, h⟩ := ba h
  obtain ⟨h7, h8⟩ := ba h
  exact ⟨eqO_ok h1, eqO_ok h2, of_decide_eq_true h3, h4, eqO_ok h5, eqO_ok h6, of_decide_eq_true h7, of_decide_eq_true h8⟩
theorem isT_ok (h : (Fx.isT x T b).ok K = true) : PySem.W.kitOne K (.ref (ga K x)) (.type T) = some b := of_decide_eq_true h
theorem isO_ok (h : (Fx.isO x y b).ok K = true) : PySem.W.kitOne K (.ref (ga K x)) (.ref (ga K y)) = some b := of_decide_eq_true h
end
abbrev AlX : Type := AlD × Bool
def obsX (fa : List Fa) (fn : List DefD) (xs : List Fx) (K : PySem.W.Frag) : AlX := (obsD fa fn K, xs.all fun f => f.ok K)
def valX (fn : List DefD) : AlX := (valD fn, true)
def SaysX (fa : List Fa) (fn : List DefD) (xs : List Fx) (K : PySem.W.Frag) : Prop := obsX fa fn xs K = valX fn
def obsXG (n : Nat) (fa : List Fa) (fn : List DefD) (xs : List Fx) (g : Addr → Option Obj) : AlX := obsX fa fn xs (frG g (asD g n))
def hookX (n : Nat) (fa : List Fa) (fn : List DefD) (xs : List Fx) : PySem.W.Hook where
  α := AlX
  obs := fun s => obsXG n fa fn xs s.heap.get?
  val := fun _ => valX fn
  says := fun _ h => ∃ K : PySem.W.Frag, K.In h ∧ SaysX fa fn xs K
  of := fun _ _ e => ⟨_, frG_in, e⟩
  keeps := fun _ _ _ ⟨K, hK, c⟩ k => ⟨K, PySem.W.Frag.In.keeps hK k, c⟩
theorem obsXG_eq {n : Nat} {fa : List Fa} {fn : List DefD} {xs : List Fx} {g : Addr → Option Obj} {s : Shared} (h : ∀ a, g a = s.heap.get? a) : obsXG n fa fn xs g = (hookX n fa fn xs).obs s := by
  have e : g = s.heap.get? := funext h
  rw [e] <;> rfl
section
variable {fa : List Fa} {fn : List DefD} {xs : List Fx} {K : PySem.W.Frag}
theorem SaysX.d (c : SaysX fa fn xs K) : SaysD fa fn K := congrArg (fun z : AlX => z.1) c
theorem SaysX.fact (c : SaysX fa fn xs K) (i : Nat) {f : Fa} (h : fa[i]? = some f := by rfl) : f.ok K = true := c.d.fact i h
theorem SaysX.def_ (c : SaysX fa fn xs K) (i : Nat) {d : DefD} (h : fn[i]? = some d := by rfl) : ∃ fd, FunD K d.name d.qual d.params d.body d.scope (d.dvs K) (d.kws K) (fAd K d.at_) fd := c.d.def_ i h
theorem SaysX.fx (c : SaysX fa fn xs K) (i : Nat) {f : Fx} (h : xs[i]? = some f := by rfl) : f.ok K = true := by
  have c1 : (xs.all fun f => f.ok K) = true := congrArg (fun z : AlX => z.2) c
  exact List.all_eq_true.mp c1 f (List.mem_of_getElem? h)
end
end G
namespace GD
open PySem L2 G
def S__law_draws_b1 : SS := sSeq (sOwL 2 kAp (eBin oMod (eVar 5) (eC (.int 1000003)))) (G.sAsg false 5 (eBin oDiv (eVar 5) (eC (.int 1000003))))
def T__law_draws_b2 : TSm := G.tAnd (tBl (eBin oGt (eVar 5) (eC (.int 0)))) (tBl (eBin oLt (eBi .len [eVar 2]) (eVar 1)))
def S__law_draws_b3 : SS := sSeq (G.sAsg false 3 (eBin oMod (eBin oAdd (eBin oMul (eVar 3) (eC (.int 31))) (eVar 4)) (eC (.int 2147483647)))) (sSeq (G.sAsg false 5 (eBi .abs [eVar 4])) (sSeq (G.sIf (tBl (eBin oLt (eVar 5) (eBin oPow (eC (.int 10)) (eC (.int 18))))) (sSeq (sOwL 2 kAp (eVar 4)) (G.sAsg false 5 (eC (.int 0)))) (sSkip)) (G.sWhile T__law_draws_b2 S__law_draws_b1)))
def S__law_draws_b4 : SS := sSeq (G.sAsg false 3 (eBin oMod (eBin oAdd (eBin oMul (eVar 3) (eC (.int 48271))) (eC (.int 11))) (eC (.int 2147483647)))) (sOwL 2 kAp (eBin oMod (eBin oMul (eVar 3) (eVar 3)) (eC (.int 999983))))
def T__law_draws_b5 : TSm := tBl (eBin oLt (eBi .len [eVar 2]) (eVar 1))
def S__law_draws : SS := sSeq (G.sAsg true 2 (eLst [])) (sSeq (G.sAsg false 3 (eC (.int 1))) (sSeq (G.sFor (itE true (eVar 0)) (.one 4) S__law_draws_b3) (sSeq (G.sWhile T__law_draws_b5 S__law_draws_b4) (sRet (eVar 2)))))
def R__law_draws : List D → Out (D × Bool) := denF 6 S__law_draws
def S__law_bits_b1 : SS := sSeq (sOwL 2 kAp (eBin oMod (eVar 0) (eC (.int 2)))) (G.sAsg false 0 (eBin oDiv (eVar 0) (eC (.int 2))))
def S__law_bits : SS := sSeq (G.sAsg true 2 (eLst [])) (sSeq (G.sFor (itR1 (eVar 1)) (.one 3) S__law_bits_b1) (sRet (eVar 2)))
def R__law_bits : List D → Out (D × Bool) := denF 4 S__law_bits
def S__law_row : SS := sSeq (G.sAsg false 2 (eBin oAdd (eBin oAdd (eBin oIx (eVar 0) (eC (.int 0))) (eBin oMul (eC (.int 1000003)) (eBin oIx (eVar 0) (eC (.int 1))))) (eBin oMul (eBin oMul (eC (.int 1000003)) (eC (.int 1000003))) (eBin oIx (eVar 0) (eC (.int 2)))))) (sSeq (G.sIf (tBl (eBin oEq (eBin oMod (eBin oIx (eVar 0) (eC (.int 3))) (eC (.int 5))) (eC (.int 3)))) (G.sAsg false 2 (eUn oNeg (eBin oMod (eBin oIx (eVar 0) (eC (.int 0))) (eC (.int 2))))) (sSkip)) (sSeq (G.sAsg false 3 (eFn R__law_bits [eVar 2, eVar 1])) (sSeq (G.sIf (tBl (eBin oEq (eBin oMod (eBin oIx (eVar 0) (eC (.int 3))) (eC (.int 5))) (eC (.int 4)))) (G.sAsg false 3 (eLc (itR1 (eVar 1)) (.one 4) (tYes) (eBin oIx (eVar 3) (eBin oMod (eVar 4) (eBin oAdd (eC (.int 1)) (eBin oMod (eBin oIx (eVar 0) (eC (.int 1))) (eC (.int 4)))))) [4])) (sSkip)) (sRet (eVar 3)))))
def R__law_row : List D → Out (D × Bool) := denF 5 S__law_row
def S__law_plan : SS := sSeq (G.sAsg false 1 (eBin oAdd (eC (.int 1)) (eBin oMod (eBin oIx (eVar 0) (eC (.int 1))) (eBin oIx (eLst [eC (.int 9), eC (.int 9), eC (.int 16), eC (.int 40), eC (.int 6)]) (eBin oMod (eBin oIx (eVar 0) (eC (.int 0))) (eC (.int 5))))))) (sSeq (G.sAsg false 2 (eBin oAdd (eC (.int 1)) (eBin oMod (eBin oIx (eVar 0) (eC (.int 2))) (eBin oIx (eLst [eC (.int 9), eC (.int 16), eC (.int 16), eC (.int 6), eC (.int 40)]) (eBin oMod (eBin oIx (eVar 0) (eC (.int 0))) (eC (.int 5))))))) (sRet (eTup [eBin oMod (eBin oIx (eVar 0) (eC (.int 3))) (eC (.int 2)), eFn R__law_row [eSl (eVar 0) (some (eC (.int 4))) none, eBin oSub (eVar 1) (eC (.int 1))], eFn R__law_row [eSl (eVar 0) (some (eC (.int 8))) none, eBin oSub (eVar 2) (eC (.int 1))]])))
def R__law_plan : List D → Out (D × Bool) := denF 3 S__law_plan
def S_ask_bits_b1 : SS := G.sIf (G.tAnd (tBl (eBin oNe (eVar 1) (eC (.int 0)))) (tBl (eBin oNe (eVar 1) (eC (.int 1))))) (sRaise 2) (sSkip)
def S_ask_bits : SS := G.sFor (itE true (eVar 0)) (.one 1) S_ask_bits_b1
def R_ask_bits : List D → Out (D × Bool) := denF 2 S_ask_bits
def S_Cloth___init__ : SS := sSeq (G.sIf (G.tOr (tBl (eBin oGe (eBi .len [eVar 2]) (eC (.int 40)))) (tBl (eBin oGe (eBi .len [eVar 3]) (eC (.int 40))))) (sRaise 1) (sSkip)) (sSeq (sDrop (eFn R_ask_bits [eBin oAdd (eBin oAdd (eLst [eVar 1]) (eBi .list [eVar 2])) (eBi .list [eVar 3])])) (sSeq (G.sFld (fxOne 20 0) 0 (eVar 1)) (sSeq (G.sFld (fxOne 20 1) 0 (eBi .list [eVar 2])) (G.sFld (fxOne 20 2) 0 (eBi .list [eVar 3])))))
def R_Cloth___init__ : List D → Out (D × Bool) := denI 4 20 3 S_Cloth___init__
def S__law_made : SS := sRet (eFn R_Cloth___init__ [eBin oIx (eVar 0) (eC (.int 0)), eBi .list [eBin oIx (eVar 0) (eC (.int 1))], eBi .list [eBin oIx (eVar 0) (eC (.int 2))]])
def R__law_made : List D → Out (D × Bool) := denF 1 S__law_made
def S_Cloth_wide : SS := sRet (eBin oAdd (eBi .len [eUn (oFld (fxT [(20, 1)])) (eVar 0)]) (eC (.int 1)))
def R_Cloth_wide : List D → Out (D × Bool) := denF 1 S_Cloth_wide
def S_Cloth_tall : SS := sRet (eBin oAdd (eBi .len [eUn (oFld (fxT [(20, 2)])) (eVar 0)]) (eC (.int 1)))
def R_Cloth_tall : List D → Out (D × Bool) := denF 1 S_Cloth_tall
def S_Cloth_ask_cell : SS := G.sIf (G.tOr (tBl (eBin oLt (eVar 1) (eC (.int 0)))) (G.tOr (tBl (eBin oLt (eVar 2) (eC (.int 0)))) (G.tOr (tBl (eBin oGe (eVar 1) (eM [(20, R_Cloth_wide)] (eVar 0) []))) (tBl (eBin oGe (eVar 2) (eM [(20, R_Cloth_tall)] (eVar 0) [])))))) (sRaise 3) (sSkip)
def R_Cloth_ask_cell : List D → Out (D × Bool) := denF 3 S_Cloth_ask_cell
def S_Cloth_colour : SS := sSeq (sDrop (eM [(20, R_Cloth_ask_cell)] (eVar 0) [eVar 1, eVar 2])) (sRet (eBin oMod (eBin oAdd (eBin oAdd (eBin oAdd (eUn (oFld (fxT [(20, 0)])) (eVar 0)) (eBi .sum [eSl (eUn (oFld (fxT [(20, 1)])) (eVar 0)) none (some (eVar 1))])) (eBi .sum [eSl (eUn (oFld (fxT [(20, 2)])) (eVar 0)) none (some (eVar 2))])) (eBin oMul (eVar 1) (eVar 2))) (eC (.int 2))))
def R_Cloth_colour : List D → Out (D × Bool) := denF 3 S_Cloth_colour
def S__law_same (self : List D → Out (D × Bool)) : SS := sSeq (G.sIf (G.tOr (tBl (eBin oNe (eUn (oIsi "bool") (eVar 0)) (eUn (oIsi "bool") (eVar 1)))) (tBl (eBin oNe (eUn (oIsi "int") (eVar 0)) (eUn (oIsi "int") (eVar 1))))) (sRet (eC (.bl false))) (sSkip)) (sSeq (G.sIf (G.tOr (tBl (eBin oNe (eUn (oIsi "list") (eVar 0)) (eUn (oIsi "list") (eVar 1)))) (tBl (eBin oNe (eUn (oIsi "tuple") (eVar 0)) (eUn (oIsi "tuple") (eVar 1))))) (sRet (eC (.bl false))) (sSkip)) (sSeq (G.sIf (G.tAnd (G.tNot (tTru (eUn (oIsi "list") (eVar 1)))) (G.tNot (tTru (eUn (oIsi "tuple") (eVar 1))))) (sRet (eAnd (eBin oEq (eUn (oIsi "str") (eVar 0)) (eUn (oIsi "str") (eVar 1))) (eBin oEq (eVar 0) (eVar 1)))) (sSkip)) (sRet (eAnd (eBin oEq (eBi .len [eVar 0]) (eBi .len [eVar 1])) (eBi .all [eLc (itZip false (eVar 0) (eVar 1)) (.tup [.one 2, .one 3]) (tYes) (eFn self [eVar 2, eVar 3]) [2, 3]])))))
def RR__law_same : Nat → List D → Out (D × Bool)
  | 0 => fun _ => .no
  | n + 1 => denF 4 (S__law_same (RR__law_same n))
def R__law_same : List D → Out (D × Bool) := RR__law_same 6
def S_Cloth_cols : SS := sRet (eBi .list [eUn (oFld (fxT [(20, 1)])) (eVar 0)])
def R_Cloth_cols : List D → Out (D × Bool) := denF 1 S_Cloth_cols
def S_Cloth_rows : SS := sRet (eBi .list [eUn (oFld (fxT [(20, 2)])) (eVar 0)])
def R_Cloth_rows : List D → Out (D × Bool) := denF 1 S_Cloth_rows
def S_Cloth_shade : SS := sRet (eUn (oFld (fxT [(20, 0)])) (eVar 0))
def R_Cloth_shade : List D → Out (D × Bool) := denF 1 S_Cloth_shade
def S__law_whole_b1 : SS := G.sIf (G.tNot (tTru (eFn R__law_same [eM [(20, R_Cloth_colour)] (eVar 0) [eVar 3, eVar 2], eBin oIx (eBin oIx (eVar 1) (eVar 2)) (eVar 3)]))) (sRet (eC (.bl false))) (sSkip)
def S__law_whole_b2 : SS := G.sFor (itR1 (eBi .len [eBin oIx (eVar 1) (eC (.int 0))])) (.one 3) S__law_whole_b1
def S__law_whole : SS := sSeq (G.sIf (G.tOr (G.tNot (tTru (eFn R__law_same [eM [(20, R_Cloth_wide)] (eVar 0) [], eBi .len [eBin oIx (eVar 1) (eC (.int 0))]]))) (G.tNot (tTru (eFn R__law_same [eM [(20, R_Cloth_tall)] (eVar 0) [], eBi .len [eVar 1]])))) (sRet (eC (.bl false))) (sSkip)) (sSeq (G.sFor (itR1 (eBi .len [eVar 1])) (.one 2) S__law_whole_b2) (sRet (eC (.bl true))))
def R__law_whole : List D → Out (D × Bool) := denF 4 S__law_whole
def S__law_told : SS := sRet (eTup [eM [(20, R_Cloth_shade)] (eVar 0) [], eM [(20, R_Cloth_cols)] (eVar 0) [], eM [(20, R_Cloth_rows)] (eVar 0) []])
def R__law_told : List D → Out (D × Bool) := denF 1 S__law_told
end GD
namespace G
open PySem PySem.Spec L2 PySem.W PyProof.Rows
end G
namespace G
open PySem PySem.Spec L2 PySem.W PyProof.Rows
def noTup : PyData → Bool
  | .none => false
  | .tuple _ => false
  | _ => true
end G
namespace G
open PySem PySem.Spec L2 PySem.W PyProof.Rows
def toV : D → V
  | .bl b => .bl b
  | .int i => .int i
  | .str s => .str s
  | _ => .non
theorem rep_flat {θ : Th} {F : Hp} {d : D} {v : V} (h : flat d = true) (r : Rep θ F d v) : v = toV d ∧ flatV v = true := by
  cases r with
  | non => exact ⟨rfl, rfl⟩
  | bl b => exact ⟨rfl, rfl⟩
  | int b => exact ⟨rfl, rfl⟩
  | str b => exact ⟨rfl, rfl⟩
  | _ => cases h
theorem rd_flat {θ : Th} {F H : Hp} {d : D} {v : V} (h : flat d = true) (r : Rd1 θ F H d v) : v = toV d ∧ flatV v = true := by
  rcases r with r | ⟨a, o, rfl, _, r⟩
  · exact rep_flat h r
  · cases r <;> cases h
theorem repl_flat {θ : Th} {F : Hp} : ∀ {ds : List D} {vs : List V}, ds.all flat = true → RepL θ F ds vs → vs = ds.map toV ∧ vs.all flatV = true
  | _, _, _, .nil => ⟨rfl, rfl⟩
  | d :: ds, _, h, .cons r t => by
    rw [List.all_cons, Bool.and_eq_true] at h
    obtain ⟨h1, h2⟩ := rep_flat h.1 r
    obtain ⟨h3, h4⟩ := repl_flat h.2 t
    exact ⟨by rw [List.map_cons, ← h1, ← h3], by rw [List.all_cons, h2, h4]; rfl⟩
/-- x in a list or tuple of flat items, in a list of data, a sign in a text -/
def inB : D → D → Option Bool
  | d, .lst ds => if (flat d && ds.all flat) = true then some (ds.any fun z => eqV (toV z) (toV d)) else match toPy d, toPys ds with
    | some p, some ps => if (SeqAt.shaped p && SeqAt.shaped (.list ps)) = true then some (ps.any fun z => PyData.eqv z p) else none
    | _, _ => none
  | d, .tup ds => if (flat d && ds.all flat) = true then some (ds.any fun z => eqV (toV z) (toV d)) else none
  | .str c, .str z => match c.cps.toList with
    | [k] => some (decide (k ∈ z.cps.toList))
    | _ => none
  | _, _ => none
def oIn (d e : D) : Out (D × Kd) := obl (inB d e)
def oNi (d e : D) : Out (D × Kd) := obl ((inB d e).map (!·))
def rInA (K : PySem.W.Frag) (neg : Bool) : R2 := fun x y H Q => rIn K neg x y H Q ∨ (∃ d ds, Dp K H x d ∧ Dp K H y (.list ds) ∧ SeqAt.shaped d = true ∧ SeqAt.shaped (.list ds) = true ∧ Q (.bl (if neg then !(ds.any fun z => PyData.eqv z d) else ds.any fun z => PyData.eqv z d)) H) ∨
  ∃ (c : Nat) (z : Str), x = .str ⟨#[c]⟩ ∧ y = .str z ∧ Q (.bl (if neg then !decide (c ∈ z.cps.toList) else decide (c ∈ z.cps.toList))) H
theorem inB_rd {K : PySem.W.Frag} {θ : Th} {F H : Hp} {d e : D} {x y : V} {b : Bool} {Q : VK} {neg : Bool} (hK : K = θ.K) (s : Sub F H) (h : inB d e = some b) (rx : Rd1 θ F H d x) (ry : Rd1 θ F H e y) (q : Q (.bl (if neg then !b else b)) H) : rInA K neg x y H Q := by
  subst hK
  cases e with
  | lst ds =>
    obtain ⟨a, xs, rfl, ha, r⟩ := ry.lst s
    replace h : (if (flat d && ds.all flat) = true then some (ds.any fun z => eqV (toV z) (toV d)) else match toPy d, toPys ds with
      | some p, some ps => if (SeqAt.shaped p && SeqAt.shaped (.list ps)) = true then some (ps.any fun z => PyData.eqv z p) else none
      | _, _ => none) = some b := h
    by_cases f : (flat d && ds.all flat) = true
    · rw [if_pos f] at h
      obtain ⟨f1, f2⟩ := Bool.and_eq_true_iff.mp f
      obtain ⟨e1, e2⟩ := rd_flat f1 rx
      obtain ⟨e3, e4⟩ := repl_flat f2 r
      refine .inl ⟨a, xs, rfl, .inl (.inl (.inl ha)), e2, e4, ?_⟩
      have eb : inV x xs = b := by
        rw [e1, e3]
        show ((ds.map toV).any fun y => eqV y (toV d)) = b
        rw [List.any_map]
        exact Option.some.inj h
      rw [eb]
      exact q
    · rw [if_neg f] at h
      cases q1 : toPy d with
      | none => rw [q1] at h; cases h
      | some p =>
        cases q2 : toPys ds with
        | none => rw [q1, q2] at h; cases h
        | some ps =>
          rw [q1, q2] at h
          replace h : (if (SeqAt.shaped p && SeqAt.shaped (.list ps)) = true then some (ps.any fun z => PyData.eqv z p) else none) = some b := h
          by_cases z : (SeqAt.shaped p && SeqAt.shaped (.list ps)) = true
          · rw [if_pos z] at h
            obtain ⟨z1, z2⟩ := Bool.and_eq_true_iff.mp z
            cases h
            exact .inr (.inl ⟨p, ps, rd_py s rx q1, .lst (.inl (.inl ha)) (repl_py s r q2), z1, z2, q⟩)
          · rw [if_neg z] at h; cases h
  | tup ds =>
    obtain ⟨a, xs, rfl, ha, r, _⟩ := ry.tup s
    replace h : (if (flat d && ds.all flat) = true then some (ds.any fun z => eqV (toV z) (toV d)) else none) = some b := h
    by_cases f : (flat d && ds.all flat) = true
    · rw [if_pos f] at h
      obtain ⟨f1, f2⟩ := Bool.and_eq_true_iff.mp f
      obtain ⟨e1, e2⟩ := rd_flat f1 rx
      obtain ⟨e3, e4⟩ := repl_flat f2 r
      refine .inl ⟨a, xs, rfl, .inr (.inl (.inl ha)), e2, e4, ?_⟩
      have eb : inV x xs = b := by
        rw [e1, e3]
        show ((ds.map toV).any fun y => eqV y (toV d)) = b
        rw [List.any_map]
        exact Option.some.inj h
      rw [eb]
      exact q
    · rw [if_neg f] at h; cases h
  | str z =>
    cases ry.str
    cases d with
    | str c =>
      cases rx.str
      obtain ⟨⟨cl⟩⟩ := c
      cases cl with
      | nil => cases h
      | cons k t =>
        cases t with
        | nil =>
          cases h
          exact .inr (.inr ⟨k, z, rfl, rfl, q⟩)
        | cons _ _ => cases h
    | _ => cases h
  | _ => cases d <;> cases h
section
variable {X : Cx} {c : Cn} {L : List Addr} {W : WX} {f g h : ES} {a b e d tg iter : Expr} {pos p : Pos}
theorem op_inA (x : XB X c) : OpR X (compareOp .In) (rInA X.K false) := fun pins s σ H v w u z Q I r1 r2 h => by
  rcases h with h | ⟨d, ds, h1, h2, h3, h4, h5⟩ | ⟨k, z, h1, h2, h3⟩
  · exact op_in_seq pins s σ H v w u _ Q I r1 r2 h
  · exact op_inD (by have := x.hu2; omega) pins s σ H v w u _ Q I r1 r2 ⟨d, ds, h1, h2, h3, h4, h5⟩
  · exact op_in_sign pins s σ H v w u _ Q I r1 r2 ⟨k, z, h1, h2, h3⟩
theorem op_niA (x : XB X c) : OpR X (compareOp .NotIn) (rInA X.K true) := fun pins s σ H v w u z Q I r1 r2 h => by
  rcases h with h | ⟨d, ds, h1, h2, h3, h4, h5⟩ | ⟨k, z, h1, h2, h3⟩
  · exact op_notIn_seq pins s σ H v w u _ Q I r1 r2 h
  · exact op_notInD (by have := x.hu2; omega) pins s σ H v w u _ Q I r1 r2 ⟨d, ds, h1, h2, h3, h4, h5⟩
  · exact op_notIn_sign pins s σ H v w u _ Q I r1 r2 ⟨k, z, h1, h2, h3⟩
theorem oc_in (x : XB X c) : OpC X c .In oIn := ⟨rInA X.K false, op_inA x, fun W σ ρ F H Q v w d e s rx ry h => by
  replace h : Res c W σ ρ F H Q (obl (inB d e)) := h
  cases q : inB d e with
  | none => rw [q] at h; exact h.elim
  | some b =>
    rw [q] at h
    exact inB_rd (neg := false) x.K s q rx ry (h.bl s)⟩
theorem oc_ni (x : XB X c) : OpC X c .NotIn oNi := ⟨rInA X.K true, op_niA x, fun W σ ρ F H Q v w d e s rx ry h => by
  replace h : Res c W σ ρ F H Q (obl ((inB d e).map (!·))) := h
  cases q : inB d e with
  | none => rw [q] at h; exact h.elim
  | some b =>
    rw [q] at h
    exact inB_rd (neg := true) x.K s q rx ry (h.bl s)⟩
theorem t_isN {j : Nat} {pos' : Pos} (ha : PE X a (tEv c L W f)) : PT X (.Compare a [.Is] [.Constant .none j pos'] pos) (tTv c L W (tBl (eUn (fun d => shr (.bl (isNon d))) f))) := by
  refine pgt_of_bool (pt_cmp (pc_isN ha) rfl) fun σ H Q h => ?_
  obtain ⟨F, ρ, R, h⟩ := of_tEv h
  refine ev_bind R h fun d k x F1 H1 _ e1 rd1 _ R1 h1 => ?_
  have e : decide (x = V.non) = isNon d := by
    rcases rd1 with r | ⟨_, _, rfl, _, r⟩ <;> cases r <;> rfl
  rw [e]
  exact h1.bl R1.sub
/-- a list's method of one argument that changes nothing -/
def eLm (op : List D → D → Out (D × Kd)) (f g : ES) : ES := fun ρ => (f ρ).bind fun x => match x.1 with
  | .lst ds => (g ρ).bind fun y => op ds y.1
  | _ => .no
end
end G
namespace GD
open PySem L2 G
end GD
namespace G
open PySem PySem.Spec L2
section
variable {θ : Th} {F0 B F F' H H' : Hp} {L : List Addr} {σ : L2.St} {ρ : Sl} {i : Nat} {k : Sh} {d : D} {v : V} {a : Addr} {o : HO} {Z : Nat → List Addr} {S : List Addr}
theorem set_some {x z : Slot} {j : Nat} (h : (ρ.set i x)[j]? = some z) : (j = i ∧ z = x) ∨ (j ≠ i ∧ ρ[j]? = some z) := by
  by_cases q : i = j
  · subst q
    by_cases l : i < ρ.length
    · rw [List.getElem?_set_self l] at h
      exact .inl ⟨rfl, (Option.some.inj h).symm⟩
    · rw [List.getElem?_eq_none (by simpa using l)] at h
      cases h
  · rw [List.getElem?_set_ne q] at h
    exact .inr ⟨fun e => q e.symm, h⟩
def bare : Slot → Bool
  | .un => true
  | .pv _ _ => true
  | _ => false
theorem Owner.set_bare {x : Slot} {j : Nat} (hx : bare x = true) (h : Owner (ρ.set i x) j) : j ≠ i ∧ Owner ρ j := by
  rcases h with ⟨d, h⟩ | ⟨k, ds, h⟩
  · rcases set_some h with ⟨_, z⟩ | ⟨q, z⟩
    · subst z; cases hx
    · exact ⟨q, .inl ⟨d, z⟩⟩
  · rcases set_some h with ⟨_, z⟩ | ⟨q, z⟩
    · subst z; cases hx
    · exact ⟨q, .inr ⟨k, ds, z⟩⟩
theorem PvAll.drop {w : Option V} (hZ : PvAll θ B F H σ ρ Z) : PvAll θ B F H (σ.set i w) (ρ.set i .un) Z :=
  hZ.step (.refl _) (fun _ _ h => h) (fun j k d h => by
    rcases set_some h with ⟨_, z⟩ | ⟨q, z⟩
    · cases z
    · exact ⟨z, List.getElem?_set_ne (Ne.symm q), fun b hb => ⟨rfl, ((hZ j k d z).2.2.1 b hb).1⟩⟩) fun j k d l b h ho hs => by
    rcases set_some h with ⟨_, z⟩ | ⟨q, z⟩
    · cases z
    · obtain ⟨q2, ho⟩ := ho.set_bare rfl
      rw [List.getElem?_set_ne (Ne.symm q2)] at hs
      exact (hZ j k d z).2.2.2.1 l b ho hs
def sh1 : Sh := .nd fun _ => .lf
def sh2 : Sh := .nd fun _ => sh1
theorem TrL.append {k : Nat → Sh} : ∀ {n : Nat} {ds es : List D} {xs ys : List V} {S T : List Addr}, TrL θ B F H k n ds xs S → TrL θ B F H k (n + ds.length) es ys T → TrL θ B F H k n (ds ++ es) (xs ++ ys) (S ++ T)
  | n, _, es, _, ys, _, T, .nil, t => by simpa using t
  | n, _, es, _, ys, _, T, .cons (ds := ds) h r, t => by
    rw [List.cons_append, List.cons_append, List.append_assoc]
    refine .cons h (TrL.append r ?_)
    rw [List.length_cons] at t
    rw [show n + 1 + ds.length = n + (ds.length + 1) by omega]
    exact t
end
end G
namespace G
open PySem PySem.Spec L2
/-- a slot's own is no more its own -/
def sFrzA (i : Nat) : SS := fun ρ => match ρ[i]? with
  | some (.ow d) => .nx (ρ.set i (.va d))
  | some (.pv _ d) => .nx (ρ.set i (.va d))
  | _ => .nx ρ
/-- what may be read out of a tree that stays own -/
def outOk (r : D) (k : Kd) : Bool := flat r || (match k with
  | .fr => newD r
  | _ => false)
def eBor (i : Nat) (f : ES) : ES := fun ρ => match ρ[i]? with
  | some (.pv _ d) => (match f (ρ.set i (.va d)) with
    | .ok (r, k) => if outOk r k = true ∧ k.solid = true then .ok (r, k) else .no
    | .ex n fs => if fs = [] then .ex n [] else .no
    | .no => .no)
  | _ => f ρ
def tBor (i : Nat) (t : TSm) : TSm := fun ρ => match ρ[i]? with
  | some (.pv _ d) => (match t (ρ.set i (.va d)) with
    | .ok b => .ok b
    | .ex n fs => if fs = [] then .ex n [] else .no
    | .no => .no)
  | _ => t ρ
end G
namespace G
open PySem PySem.Spec L2
end G
namespace G
open PySem PySem.Spec L2
/-- the list at place i of a tree -/
def row2 : Sh → List D → D → Option ((Nat → Sh) × Nat × List D)
  | .nd k1, ds, .int n => match ixN ds.length n with
    | some p => match k1 p, ds[p]? with
      | .nd k2, some (.lst es) => some (k2, p, es)
      | _, _ => none
    | none => none
  | _, _, _ => none
def set2 (k : Nat → Sh) (es : List D) (j v : D) : Option (List D) := match j with
  | .int m => match ixN es.length m with
    | some q => match k q with
      | .lf => some (es.set q v)
      | _ => none
    | none => none
  | _ => none
/-- x[fi][fj] = fv -/
def sPut2 (i : Nat) (fi fj fv : ES) : SS := fun ρ => match ρ[i]? with
  | some (.pv k (.lst ds)) => sWith (fv ρ) ρ fun v => if v.2.solid then sWith (fi ρ) ρ fun a => (match row2 k ds a.1 with
    | some (k2, p, es) => sWith (fj ρ) ρ fun b => (match set2 k2 es b.1 v.1 with
      | some es' => .nx (ρ.set i (.pv k (.lst (ds.set p (.lst es')))))
      | none => .no)
    | none => .no) else .no
  | _ => .no
end G
namespace G
open PySem PySem.Spec L2
def okK (d : D) : Kd → Bool
  | .fr => true
  | .sh => flat d
  | _ => false
def okP (xs : List (D × Kd)) : Bool := xs.all fun x => okK x.1 x.2
def sSetLstP (i : Nat) (fs : List ES) : SS := fun ρ => sWith (eArgs fs ρ) ρ fun xs => if okP xs = true ∧ xs.length ≤ SZ then .nx (ρ.set i (.pv sh2 (.lst (xs.map (·.1))))) else .no
/-- x.append(fv), fv a fresh list -/
def sAppP (i : Nat) (f : ES) : SS := fun ρ => match ρ[i]? with
  | some (.pv (.nd k) (.lst ds)) => sWith (f ρ) ρ fun v => (match v with
    | (.lst es, .fr) => (match k ds.length with
      | .nd _ => if es.all flat = true ∧ ds.length < SZ then .nx (ρ.set i (.pv (.nd k) (.lst (ds ++ [.lst es])))) else .no
      | _ => .no)
    | _ => .no)
  | _ => .no
/-- o.append(e), o.clear() of a fresh list that nobody keeps -/
def sAppF (f g : ES) : SS := fun ρ => sWith (f ρ) ρ fun x => (match x with
  | (.lst ds, .fr) => sWith (g ρ) ρ fun _ => if ds.length < SZ then .nx ρ else .no
  | _ => .no)
def sClrF (f : ES) : SS := fun ρ => sWith (f ρ) ρ fun x => (match x with
  | (.lst _, .fr) => .nx ρ
  | _ => .no)
end G
namespace GD
open PySem L2 G
end GD
namespace GD
open PySem L2 G
end GD
namespace G
open PySem PySem.Spec L2
end G
namespace G
open PySem PySem.Spec L2
mutual
/-- flat values, and lists and tuples of them -/
def dataD : D → Bool
  | .non => true
  | .bl _ => true
  | .int _ => true
  | .str _ => true
  | .lst ds => dataL ds
  | .tup ds => dataL ds
  | _ => false
def dataL : List D → Bool
  | [] => true
  | d :: ds => dataD d && dataL ds
end
section
variable {θ : Th} {F H F' H' B : Hp}
mutual
theorem Rep.inj : ∀ {d e : D} {v : V}, dataD d = true → dataD e = true → Rep θ F d v → Rep θ F e v → d = e
  | _, _, _, _, _, .non, g => by cases g; rfl
  | _, _, _, _, _, .bl _, g => by cases g; rfl
  | _, _, _, _, _, .int _, g => by cases g; rfl
  | _, _, _, _, _, .str _, g => by cases g; rfl
  | _, _, _, hd, he, .lst h r, g => by
    cases g with
    | lst h2 r2 =>
      rw [h] at h2
      cases h2
      rw [RepL.inj hd he r r2]
    | tup h2 r2 => rw [h] at h2; cases h2
    | dK _ _ _ => cases he
    | dT _ _ _ => cases he
    | obj _ _ _ => cases he
    | frl _ => cases he
  | _, _, _, hd, he, .tup h r, g => by
    cases g with
    | tup h2 r2 =>
      rw [h] at h2
      cases h2
      rw [RepL.inj hd he r r2]
    | lst h2 r2 => rw [h] at h2; cases h2
    | dK _ _ _ => cases he
    | dT _ _ _ => cases he
    | obj _ _ _ => cases he
    | frl _ => cases he
  | _, _, _, hd, _, .dK _ _ _, _ => by cases hd
  | _, _, _, hd, _, .dT _ _ _, _ => by cases hd
  | _, _, _, hd, _, .obj _ _ _, _ => by cases hd
  | _, _, _, hd, _, .frl _, _ => by cases hd
theorem RepL.inj : ∀ {ds es : List D} {vs : List V}, dataL ds = true → dataL es = true → RepL θ F ds vs → RepL θ F es vs → ds = es
  | _, _, _, _, _, .nil, g => by cases g; rfl
  | _, _, _, hd, he, .cons h t, g => by
    cases g with
    | cons h2 t2 =>
      obtain ⟨a1, a2⟩ := Bool.and_eq_true_iff.mp hd
      obtain ⟨b1, b2⟩ := Bool.and_eq_true_iff.mp he
      rw [Rep.inj a1 b1 h h2, RepL.inj a2 b2 t t2]
end
/-- lists at their places -/
inductive All2 (θ : Th) (F : Hp) : List Addr → List D → Prop
  | nil : All2 θ F [] []
  | cons {b : Addr} {e : D} {S : List Addr} {T : List D} : Rep θ F e (.ref b) → All2 θ F S T → All2 θ F (b :: S) (e :: T)
theorem All2.append {S S' : List Addr} {T T' : List D} (h : All2 θ F S T) (h' : All2 θ F S' T') : All2 θ F (S ++ S') (T ++ T') := by
  induction h with
  | nil => exact h'
  | cons r _ ih => exact .cons r ih
theorem All2.mem {S : List Addr} {T : List D} (h : All2 θ F S T) {b : Addr} (hb : b ∈ S) : ∃ e ∈ T, Rep θ F e (.ref b) := by
  induction h with
  | nil => cases hb
  | cons r _ ih =>
    rcases List.mem_cons.mp hb with rfl | hb
    · exact ⟨_, List.mem_cons_self, r⟩
    · obtain ⟨e, he, r⟩ := ih hb
      exact ⟨e, List.mem_cons_of_mem _ he, r⟩
theorem All2.nodup {S : List Addr} {T : List D} (h : All2 θ F S T) (nd : T.Nodup) (hd : ∀ e ∈ T, dataD e = true) : S.Nodup := by
  induction h with
  | nil => exact List.nodup_nil
  | cons r t ih =>
    obtain ⟨n1, n2⟩ := List.nodup_cons.mp nd
    refine List.nodup_cons.mpr ⟨fun hb => ?_, ih n2 fun e he => hd e (List.mem_cons_of_mem _ he)⟩
    obtain ⟨e, he, r2⟩ := t.mem hb
    have := Rep.inj (hd _ List.mem_cons_self) (hd e (List.mem_cons_of_mem _ he)) r r2
    subst this
    exact n1 he
theorem Sub.up (s : Sub F H) (hh : Same H H') : Sub F H' := fun a u h => by
  rcases s a u h with z | ⟨z1, o, z⟩
  · exact .inl (hh _ _ z)
  · exact .inr ⟨z1, o, hh _ _ z⟩
end
end G
namespace GD
open PySem L2 G
end GD
namespace G
open PySem PySem.Spec L2
end G
namespace GD
open PySem L2 G
end GD
namespace G
open PySem PySem.Spec L2 PySem.W PyProof.Rows
def keyI : D → Option (Int × Int)
  | .tup [_, .lst (.tup [.int a, .int b] :: _)] => some (a, b)
  | _ => none
end G
namespace GD
open PySem L2 G
end GD
namespace G
open PySem PySem.Spec L2 PySem.W PyProof.Rows
def oBk0 : D → Out (D × Kd)
  | .lst xs => .ok (.lst xs.tail.reverse, .fr)
  | _ => .no
end G
namespace G
open PySem PySem.Spec L2 PySem.W PyProof.Rows
abbrev TMm := Sl → Out (Bool × Sl)
def ResM (c : Cn) (L : List Addr) (W : WX) (σ : L2.St) (F H : Hp) (Q : Bool → Hp → Prop) : Out (Bool × Sl) → Prop
  | .ok (b, ρ') => ∀ F' H', Same F F' → Rel c.θ c.F0 c.B L F' H' σ ρ' → Q b H'
  | .ex n fs => ∀ cls dd F' H', Ext F H F' H' → ExV c.θ n fs cls dd F' H' → W cls dd σ H'
  | .no => False
section
variable {X : Cx} {c : Cn} {L : List Addr} {W : WX} {f g h : ES} {a b e ke ve d tg iter : Expr} {pos p : Pos} {s : IS} {t : TSm} {m : TMm} {F F1 H H1 : Hp} {σ : L2.St} {ρ : Sl} {Q : Bool → Hp → Prop}
theorem ResM.mono {o : Out (Bool × Sl)} (h : ResM c L W σ F H Q o) (e : Ext F H F1 H1) : ResM c L W σ F1 H1 Q o := by
  cases o with
  | ok x => exact fun F' H' e' => h F' H' (e.ff.trans e')
  | ex n fs => exact fun cls dd F' H' e' hv => h cls dd F' H' (e.trans e') hv
  | no => exact h
end
end G
namespace GD
open PySem L2 G
end GD
namespace G
open PySem PySem.Spec L2
end G
namespace G
open PySem PySem.Spec L2
end G
namespace GD
open PySem L2 G
end GD
namespace G
open PySem PySem.Spec L2 PySem.W PyProof.Rows
end G
namespace GD
open PySem L2 G
end GD
namespace GD
open PySem L2 G
end GD
namespace G
open PySem PySem.Spec L2 PySem.W PyProof.Rows
end G
namespace G
open PySem PySem.Spec L2
end G
namespace GD
open PySem L2 G
end GD
namespace G
open PySem PySem.Spec PySem.Calls PyProof.Rows PySem.W
end G
namespace G
open PySem PySem.Spec L2 PyProof.Rows
/-- the fields of an exception, in the frozen part -/
def Flds (θ : Th) (F : Hp) (n : Nat) (fs : List D) (dd : Option Addr) : Prop := match fs with
  | [] => dd = none
  | _ => ∃ dx xs, dd = some dx ∧ F dx = some (.xd ((θ.fld n).zip xs)) ∧ (θ.fld n).length = fs.length ∧ RepL θ F fs xs
theorem Flds.mono {θ : Th} {F F' : Hp} {n : Nat} {fs : List D} {dd : Option Addr} (h : Flds θ F n fs dd) (e : Same F F') : Flds θ F' n fs dd := by
  cases fs with
  | nil => exact h
  | cons g gs =>
    obtain ⟨dx, xs, h1, h2, h3, h4⟩ := h
    exact ⟨dx, xs, h1, e _ _ h2, h3, h4.mono e⟩
end G
namespace G
open PySem PySem.Spec L2 PyProof.Rows
end G
namespace G
open PySem PySem.Spec L2 PyProof.Rows
end G
namespace G
open PySem PySem.Spec L2 PyProof.Rows
/-- the ends of a suite: behind each of them but a return the name is gone -/
def gone (i : Nat) (D : Ends) : Ends := { nx := fun σ H => D.nx (σ.set i none) H, rt := D.rt, bk := fun σ H => D.bk (σ.set i none) H, ct := fun σ H => D.ct (σ.set i none) H }
abbrev Su := Addr → Value → Option Addr → TS
inductive Cls (X : Cx) (n : Str) : List ExceptHandler → List (Value × Su) → Prop
  | nil : Cls X n [] []
  | cons {x : Str} {C : Value} {su : Su} {b₀ : Stmt} {suite : List Stmt} {np p : Pos} {hs : List ExceptHandler} {l : List (Value × Su)} : Names X x C →
      (∀ (a : Addr) (oe : Obj) (cls : Value) (d : Option Addr) (pn : List (Addr × Obj)), L2N.Zn cls d oe → (∃ vs, oe.data = .fields vs) → PSs (X.suite a ((a, oe) :: pn)) (b₀ :: suite) (su a cls d)) →
      Cls X n hs l → Cls X n (.ExceptHandler (some (.Name x np)) (some n) (b₀ :: suite) p :: hs) ((C, su) :: l)
end G
namespace GD
open PySem L2 G
end GD
namespace G
open PySem PySem.Spec L2
/-- which fields of a class's instances are own nodes -/
def shO : Nat → Nat → Sh
  | 22 => fun i => if i = 2 then .nd fun _ => .lf else .lf
  | 23 => fun i => if i = 0 then .lf else .nd fun _ => .lf
  | _ => fun _ => .lf
section
variable {θ : Th} {B F H : Hp} {x : Option Addr}
mutual
/-- the heap at the entry does not matter to a tree -/
theorem Tr.bs {B' : Hp} : ∀ {k : Sh} {d : D} {v : V} {S : List Addr}, Tr θ B F H k d v S → Tr θ B' F H k d v S
  | _, _, _, _, .lf r => .lf r
  | _, _, _, _, .fl h r => .fl h r
  | _, _, _, _, .lst h t => .lst h (TrL.bs t)
  | _, _, _, _, .tup h hb t => .tup h hb (TrL.bs t)
  | _, _, _, _, .dK h l t => .dK h l (TrL.bs t)
  | _, _, _, _, .dT h l t => .dT h l (TrL.bs t)
  | _, _, _, _, .obj h l t => .obj h l (TrL.bs t)
  | _, _, _, _, .fll h r => .fll h r
  | _, _, _, _, .f2l h r => .f2l h r
  | _, _, _, _, .ln h t => .ln h (Tr.bs t)
  | _, _, _, _, .l2 h t => .l2 h (Tr.bs t)
theorem TrL.bs {B' : Hp} : ∀ {k : Nat → Sh} {n : Nat} {ds : List D} {vs : List V} {S : List Addr}, TrL θ B F H k n ds vs S → TrL θ B' F H k n ds vs S
  | _, _, _, _, _, .nil => .nil
  | _, _, _, _, _, .cons h t => .cons (Tr.bs h) (TrL.bs t)
end
end
open Classical in
noncomputable def ownS (ρ : Sl) (i : Nat) : Option (Bool × Nat × List D) := match ρ[i]? with
  | some (.pv k (.obj c ds)) => if k = .nd (shO c) then some (false, c, ds) else if k = .ln (shO c) then some (true, c, ds) else none
  | _ => none
def ownW (b : Bool) (c : Nat) (ds : List D) : Slot := .pv (if b then .ln (shO c) else .nd (shO c)) (.obj c ds)
inductive Lo where
  | ok (r : D) (ds : List D) | ex (n : Nat) (fs : List D) (ds : List D) | no
structure ExtL (S : List Addr) (F H F' H' : Hp) : Prop where
  sub : Sub F' H'
  ff : Same F F'
  hh : ∀ a u, H a = some u → a ∉ S → H' a = some u
  nw : ∀ a u, F' a = some u → F a = some u ∨ H a = none ∨ a ∈ S ∨ ∃ xs, u = .tup xs
open Classical in
/-- the heap without what is lent -/
noncomputable def cutS (H : Hp) (S : List Addr) : Hp := fun b => if b ∈ S then none else H b
end G
namespace G
open PySem PySem.Spec L2
end G
namespace G
open PySem PySem.Spec L2
inductive Om (α : Type) where
  | ok (a : α) (ρ : Sl) | ex (n : Nat) (fs : List D) (ρ : Sl) | no
def Om.bind {α β : Type} : Om α → (α → Sl → Om β) → Om β
  | .ok a ρ, f => f a ρ
  | .ex n fs ρ, _ => .ex n fs ρ
  | .no, _ => .no
@[simp] theorem om_ok {α β : Type} (a : α) (ρ : Sl) (f : α → Sl → Om β) : (Om.ok a ρ).bind f = f a ρ := rfl
@[simp] theorem om_ex {α β : Type} (n : Nat) (fs : List D) (ρ : Sl) (f : α → Sl → Om β) : (Om.ex n fs ρ : Om α).bind f = .ex n fs ρ := rfl
@[simp] theorem om_no {α β : Type} (f : α → Sl → Om β) : (Om.no : Om α).bind f = .no := rfl
abbrev EM := Sl → Om D
/-- x.m(..), f(x, ..): x the own instance of slot i, of class c, is lent -/
noncomputable def emCall (c : Nat) (R : List D → List D → Lo) (i : Nat) (fs : List ES) : EM := fun ρ => match ownS ρ i with
  | some (b, c', ds) => if c' = c then (match eArgs fs ρ with
    | .ok xs => if allSolid xs = true then (match R ds (xs.map (·.1)) with
      | .ok r ds' => .ok r (ρ.set i (ownW b c ds'))
      | .ex n gs ds' => .ex n gs (ρ.set i (ownW b c ds'))
      | .no => .no) else .no
    | .ex n gs => .ex n gs ρ
    | .no => .no) else .no
  | none => .no
def ResE (c : Cn) (L : List Addr) (W : WX) (σ : L2.St) (F : Hp) (Q : VK) : Om D → Prop
  | .ok d ρ' => ∀ v F' H', Same F F' → Rel c.θ c.F0 c.B L F' H' σ ρ' → Rep c.θ F' d v → Q v H'
  | .ex n fs ρ' => ∀ cls dd F' H', Same F F' → Rel c.θ c.F0 c.B L F' H' σ ρ' → ExV c.θ n fs cls dd F' H' → W cls dd σ H'
  | .no => False
def ResEs (c : Cn) (L : List Addr) (W : WX) (σ : L2.St) (F : Hp) (Q : List V → Hp → Prop) : Om (List D) → Prop
  | .ok ds ρ' => ∀ vs F' H', Same F F' → Rel c.θ c.F0 c.B L F' H' σ ρ' → RepL c.θ F' ds vs → Q vs H'
  | .ex n fs ρ' => ∀ cls dd F' H', Same F F' → Rel c.θ c.F0 c.B L F' H' σ ρ' → ExV c.θ n fs cls dd F' H' → W cls dd σ H'
  | .no => False
section
variable {X : Cx} {c : Cn} {L : List Addr} {W : WX} {f g h : ES} {m m1 m2 : EM} {ms : List EM} {a b e d o : Expr} {es : List Expr} {fs : List ES} {pos p apos : Pos} {F F1 H H1 : Hp} {σ : L2.St} {ρ : Sl} {Q : VK} {R : List D → List D → Lo} {cn i k : Nat} {x : Str} {fa : Addr} {fd : FuncData} {ps : List Str}
theorem ResE.mono {o : Om D} (h : ResE c L W σ F Q o) (e : Same F F1) : ResE c L W σ F1 Q o := by
  cases o with
  | ok d ρ' => exact fun v F' H' s => h v F' H' (e.trans s)
  | ex n fs ρ' => exact fun cls dd F' H' s => h cls dd F' H' (e.trans s)
  | no => exact h
theorem ResEs.mono {Q : List V → Hp → Prop} {o : Om (List D)} (h : ResEs c L W σ F Q o) (e : Same F F1) : ResEs c L W σ F1 Q o := by
  cases o with
  | ok d ρ' => exact fun v F' H' s => h v F' H' (e.trans s)
  | ex n fs ρ' => exact fun cls dd F' H' s => h cls dd F' H' (e.trans s)
  | no => exact h
end
end G
namespace G
open PySem PySem.Spec L2
/-- a changing expression, then a statement's end -/
def smWith (o : Om D) (k : D → Sl → Fl) : Fl := match o with
  | .ok d ρ => k d ρ
  | .ex n fs ρ => .ex n fs ρ
  | .no => .no
def smDrop (m : EM) : SS := fun ρ => smWith (m ρ) fun _ ρ1 => .nx ρ1
end G
namespace G
open PySem PySem.Spec L2
end G
namespace G
open PySem PySem.Spec L2
end G
namespace G
open PySem PySem.Spec L2
end G
namespace G
open PySem PySem.Spec L2
end G
namespace G
open PySem PySem.Spec L2
end G
namespace G
open PySem PySem.Spec L2
end G
namespace G
open PySem PySem.Spec L2 PySem.W PyProof.Rows
end G
namespace G
open PySem PySem.Spec L2
end G
namespace G
open PySem PySem.Spec L2
end G
namespace GD
open PySem L2 G
end GD
namespace G
open PySem PySem.Spec L2
end G
namespace GD
open PySem L2 G
end GD
namespace G
open PySem PySem.Spec L2
end G
namespace G
open PySem PySem.Spec L2 PyProof.Rows
section
variable {θ : Th} {B F F' H H' : Hp}
theorem RepL.fl : ∀ {ds : List D} {vs : List V}, ds.all flat = true → RepL θ F ds vs → RepL θ F' ds vs
  | _, _, _, .nil => .nil
  | _, _, h, .cons r t => by
    rw [List.all_cons, Bool.and_eq_true] at h
    exact .cons (r.flat h.1) (RepL.fl h.2 t)
end
section
variable {θ : Th} {F H F' H' : Hp} {S : List Addr} {a : Addr} {c : Nat} {Q : VK} {E : XK}
theorem ExV.mono {n : Nat} {fs : List D} {cls : Value} {dd : Option Addr} {F2 : Hp} (h : ExV θ n fs cls dd F' H') (e : Same F' F2) : ExV θ n fs cls dd F2 H' := by
  obtain ⟨h1, h2⟩ := h
  refine ⟨h1, ?_⟩
  cases fs with
  | nil => exact h2
  | cons f fs =>
    obtain ⟨dx, xs, e1, e2, e3, e4⟩ := h2
    exact ⟨dx, xs, e1, e _ _ e2, e3, e4.mono e⟩
end
end G
namespace G
open PySem PySem.Spec L2 PyProof.Rows
end G
namespace G
open PySem PySem.Spec L2 PyProof.Rows
end G
namespace G
open PySem PySem.Spec L2 PyProof.Rows
end G
namespace G
open PySem PySem.Spec L2 PyProof.Rows
end G
namespace GD
open PySem L2 G
end GD
namespace G
open PySem PySem.Spec L2
end G
namespace G
open PySem PySem.Spec L2 PySem.W PyProof.Rows
end G
namespace GD
open PySem L2 G
end GD
namespace G
open PySem PySem.Spec L2
end G
namespace G
open PySem PySem.Spec L2
end G
namespace G
open PySem PySem.Spec L2
end G
namespace G
open PySem PySem.Spec L2
end G
namespace GD
open PySem L2 G
end GD
namespace GD
open PySem L2 G
end GD
namespace G
open PySem PySem.Spec L2
end G
namespace G
open PySem PySem.Spec L2
end G
namespace G
open PySem PySem.Spec L2
end G
namespace PySem.SeqAt
open AutoSeq1 (wpAny_loadPart')
open MeetsSeq MeetsSeq2 MeetsSeq3 SeqRoads2
end PySem.SeqAt
namespace G
open PySem PySem.Spec L2 PySem.W PyProof.Rows
end G
namespace G
open PySem PySem.Spec L2
end G
namespace G
open PySem PySem.Spec L2
end G
namespace GD
open PySem L2 G
end GD
namespace G
open PySem PySem.Spec L2
section
variable {θ : Th} {F0 B F F' H H' : Hp} {L : List Addr} {σ : L2.St} {ρ : Sl} {i : Nat} {Z : Nat → List Addr} {S S2 : List Addr}
theorem ExtL.mono (x : ExtL S F H F' H') (h : ∀ b ∈ S, b ∈ S2) : ExtL S2 F H F' H' := ⟨x.sub, x.ff, fun a u g n => x.hh a u g fun z => n (h a z), fun a u g => by
  rcases x.nw a u g with z | z | z | z
  · exact .inl z
  · exact .inr (.inl z)
  · exact .inr (.inr (.inl (h a z)))
  · exact .inr (.inr (.inr z))⟩
end
end G
namespace GD
open PySem L2 G
end GD
namespace G
open PySem PySem.Spec L2
end G
namespace GD
open PySem L2 G
end GD
namespace G
open PySem PySem.Spec L2
/-- try: u, except C: raise X() from None; hit: is it of the class C? -/
def sTryR (hit : Nat → Option Bool) (m : Nat) (u : SS) : SS := fun ρ => match u ρ with
  | .ex n fs ρ' => match hit n with
    | some true => .ex m [] ρ'
    | some false => .ex n fs ρ'
    | none => .no
  | o => o
theorem sky_zc {B : Heap} {l : List Env} {a L : Addr} {cls : Value} {d : Option Addr} {h : Heap} (x : Sky B l a (L2N.Zn cls d) L h) : Sky B l a (Zc cls d) L h := by
  rcases x with ⟨h1, h2, h3, oe, vs, h4, h5, h6⟩ | x | ⟨h1, h2, h3, x⟩
  · exact .inl ⟨h1, h2, h3, oe, vs, h4, h5.zc, h6⟩
  · exact .inr (.inl (L2H.flyingZ_imp (fun _ z => z.zc) x))
  · exact .inr (.inr ⟨h1, h2, h3, L2H.tracedZ_imp (fun _ z => z.zc) x⟩)
theorem takes_n {X : Cx} {W : WX} (tk : L2.Takes X W) : L2N.Takes X W := fun u s' ⟨a, B, sI, pins, σ, H, cls, d, e, I, nb, up, sky, na, os, ag, w⟩ =>
  tk u s' ⟨a, B, sI, pins, σ, H, cls, d, e, I, nb, up, sky_zc sky, na, os, ag, w⟩
section
variable {X : Cx} {c : Cn} {L : List Addr} {W : WX} {u : SS} {su : Nat → List D → SS} {hit : Nat → Option Bool} {x n : Str} {C : Value} {i m k : Nat} {body suite : List Stmt} {b₀ : Stmt} {np pos pos' p cp rp : Pos}
/-- C() of an own exception class, with its six fields -/
theorem pmk5_own0 {Ca : Addr} {bmB : List Value} {B newId initId : String} (F : ExcBaseFacts B newId initId bmB) (q : PySem.W.excIn X.K Ca bmB newId = true) (gC : X.mg x = some (.ref Ca)) (kC : PySem.W.keepIn X.K (.ref Ca) = true) (r : Raises X (.ref Ca)) (hg : Gl X x)
    (hdb : (x == ("__debug__" : Str)) = false := by decide) : L2H.PMk5 X (.Call (.Name x p) [] [] pos) (fun _ H Q => Q (.ref Ca) none H) := by
  intro pins s σ H Q I h
  refine wpAny_Call_Name_kw (ld_glob I hg gC ?_ hdb)
  refine PySem.W.callWith_K0 (first := []) I.kIn kC ?_
  obtain ⟨bm, N, nm, qn, bs, hdct, sn, sub, ab, col, dd, k0, k1, k2, k3, k5, mN, hC, hN, hni, T⟩ := exc_obj I.kIn q
  refine wpAny_call_exc_subT F T hC hN hni (fun h' e hm => ?_) (by show 0 ≤ sizeLine; exact Nat.zero_le _)
  exact L2H.mk_of5 I hm r h (I.hok.gone hm.new)
theorem gs_tryR {y : Str} {j : Nat} {cq : Pos} (xc : XC X c) (hrm : Room k X.A) (po : ∀ hd : Option Value, PassesOwnAt (model X.prog X.w) (X.A.mark hd) X.A X.env X.xe) (tk : L2.Takes X W) (hc : Names X x C)
    (hh : ∀ k b, hit k = some b → PySem.W.exmOne X.K (.ref (c.θ.C k)) C = some b)
    (gC : X.mg y = some (.ref (c.θ.C m))) (e : PySem.W.excIn X.K (c.θ.C m) He.veBase "ValueError.__new__" = true ∧ PySem.W.keepIn X.K (.ref (c.θ.C m)) = true ∧ PySem.W.subIn X.K (.ref (c.θ.C m)) (.type "BaseException") = some true ∧ PySem.W.typeIn X.K (.ref (c.θ.C m)) = some (.type "type"))
    (hb : ∀ (W : WX) (pn : List (Addr × Obj)) (xe : Value → Shared → Prop), XC (X.tr pn xe) c → BodyOk (X.tr pn xe) W k → PSs (X.tr pn xe) body (tSv c L W u))
    (hs : X.stack = X.env :: X.outer := by rfl) (hf : X.env.frame = some X.env.locals := by rfl) (hg : Gl X y := by rfl) (hdb : (y == ("__debug__" : Str)) = false := by rfl) :
    PS X (.Try body [.ExceptHandler (some (.Name x np)) none [.Raise (some (.Call (.Name y p) [] [] cq)) (some (.Constant .none j cp)) rp] pos'] [] [] pos) (tSv c L W (sTryR hit m u)) := by
  refine ps_ev (L2H.ps_try_onlyX (tb := fun W => tSv c L W u) (ts := fun a cls d => fun _ σ H => W (.ref (c.θ.C m)) none σ H) hs hf hc po tk (fun W pn xe tkN _ po' => hb W pn xe ⟨⟨xc.K, xc.nd, xc.hu2⟩, xc.calm⟩ ⟨tkN, po', hrm⟩) fun a oe cls d pn hz hv tkS hot => ?_) fun E σ H h => ?_
  · exact pss_one (L2H.ps_raiseHN hot tkS (pmk5_own0 (x := y) PySem.F.excBase_ValueError e.1 gC e.2.1 (raises_own e.2.2.1 e.2.2.2) hg hdb))
  · obtain ⟨F, ρ, R, h⟩ := h
    refine ⟨F, ρ, R, ?_⟩
    replace h : ResS c L W F E (match u ρ with
      | .ex n fs ρ' => match hit n with
        | some true => .ex m [] ρ'
        | some false => .ex n fs ρ'
        | none => .no
      | o => o) := h
    cases q : u ρ with
    | nx ρ' => rw [q] at h; exact h
    | bk ρ' => rw [q] at h; exact h
    | ct ρ' => rw [q] at h; exact h
    | rt d k ρ1 => rw [q] at h; exact h
    | no => rw [q] at h; exact h
    | ex n fs ρ' =>
      rw [q] at h
      replace h : ResS c L W F E (match hit n with
        | some true => .ex m [] ρ'
        | some false => .ex n fs ρ'
        | none => .no) := h
      intro cls dd σ' F' H' e' R' hv
      have ec : cls = .ref (c.θ.C n) := hv.1
      cases y : hit n with
      | none => rw [y] at h; exact h.elim
      | some b =>
        rw [y] at h
        refine ⟨b, by rw [ec]; exact hh _ _ y, fun hb a na => ?_, fun hb => ?_⟩
        · subst hb
          exact h _ _ σ' F' H' e' R' ⟨rfl, rfl⟩
        · subst hb
          exact h cls dd σ' F' H' e' R' hv
/-- try: u, except C as x_i: su, where u may let out such exceptions -/
theorem gs_tryAsC (xc : XB X c) (hs : X.stack = X.env :: X.outer) (hf : X.env.frame = some X.env.locals) (hi : X.N[i]? = some n) (hln : X.env.kindOf n = some .local) (hc : Names X x C) (tk : L2.Takes X W)
    (hh : ∀ k b, hit k = some b → PySem.W.exmOne X.K (.ref (c.θ.C k)) C = some b)
    (hb : ∀ (W : WX) (pn : List (Addr × Obj)) (xe : Value → Shared → Prop), L2.Takes (X.tr pn xe) W → PassesOwn (model X.prog X.w) X.A X.env xe → PSs (X.tr pn xe) body (tSv c L W u))
    (hsu : ∀ (a : Addr) (oe : Obj) (k : Nat) (d : Option Addr) (fs : List D) (pn : List (Addr × Obj)), Zc (.ref (c.θ.C k)) d oe → (fs = [] → d = none) → (∃ vs, oe.data = .fields vs) → PSs (X.suite a ((a, oe) :: pn)) (b₀ :: suite) (tSv c (a :: L) WF (su k fs))) :
    PS X (.Try body [.ExceptHandler (some (.Name x np)) (some n) (b₀ :: suite) pos'] [] [] pos) (tSv c L W (sTry i hit u su)) := by
  refine ps_ev (L2.ps_try_as (tb := fun W => tSv c L W u) (ts := tSuite c L su) hs hf xc.nd hi hln hc tk hb (fun a oe cls d pn hz hv => ⟨fun pins s σ H D I hw => ?_⟩)) fun E σ H h => ?_
  · obtain ⟨k, fs, F, ρ, rfl, hd, R, h⟩ := hw
    exact (hsu a oe k d fs pn hz hd hv).run pins s σ H D I ⟨F, ρ, R, h⟩
  · obtain ⟨F, ρ, R, h⟩ := h
    refine ⟨F, ρ, R, ?_⟩
    replace h : ResS c L W F E (match u ρ with
      | .ex n fs ρ' => match hit n with
        | some true => fOut i (su n fs (clr i .xc ρ'))
        | some false => .ex n fs ρ'
        | none => .no
      | o => o) := h
    cases q : u ρ with
    | nx ρ' => rw [q] at h; exact h
    | bk ρ' => rw [q] at h; exact h
    | ct ρ' => rw [q] at h; exact h
    | rt d k ρ1 => rw [q] at h; exact h
    | no => rw [q] at h; exact h
    | ex n fs ρ' =>
      rw [q] at h
      replace h : ResS c L W F E (match hit n with
        | some true => fOut i (su n fs (clr i .xc ρ'))
        | some false => .ex n fs ρ'
        | none => .no) := h
      intro cls dd σ' F' H' e' R' hv
      have ec : cls = .ref (c.θ.C n) := hv.1
      have ed : fs = [] → dd = none := fun z => by
        subst z
        exact hv.2
      cases y : hit n with
      | none => rw [y] at h; exact h.elim
      | some b =>
        rw [y] at h
        refine ⟨b, by rw [ec]; exact hh _ _ y, fun hb a na => ?_, fun hb => ?_⟩
        · subst hb
          replace h : ResS c L W F E (fOut i (su n fs (clr i .xc ρ'))) := h
          have hB := R'.noneB na
          refine ⟨n, fs, F', _, ec, ed, R'.hotIn na, ?_⟩
          cases z : su n fs (clr i .xc ρ') with
          | nx ρ2 => rw [z] at h; exact fun σ2 F2 H2 e2 R2 => h _ F2 H2 (e'.trans e2) (R2.hotOut hB)
          | bk ρ2 => rw [z] at h; exact fun σ2 F2 H2 e2 R2 => h _ F2 H2 (e'.trans e2) (R2.hotOut hB)
          | ct ρ2 => rw [z] at h; exact fun σ2 F2 H2 e2 R2 => h _ F2 H2 (e'.trans e2) (R2.hotOut hB)
          | rt d k ρ1 => rw [z] at h; exact fun v σ2 F2 H2 e2 R2 rv => h v _ F2 H2 (e'.trans e2) (R2.hotOut (i := i) hB) rv
          | ex n2 fs2 ρ2 => rw [z] at h; exact h.elim
          | no => rw [z] at h; exact h.elim
        · subst hb
          exact h cls dd σ' F' H' e' R' hv
end
/-- .. what is not caught has no meaning -/
def sTryC (i : Nat) (hit : Nat → Option Bool) (u : SS) (su : Nat → List D → SS) : SS := fun ρ => match sTry i hit u su ρ with
  | .ex _ _ _ => .no
  | o => o
structure HeldC (X : Cx) (c : Cn) (L : List Addr) (n : Nat) : Prop where
  ex : ∃ a oe, L.head? = some a ∧ (a, oe) ∈ X.pn ∧ Zc (.ref (c.θ.C n)) none oe ∧ ∃ vs, oe.data = .fields vs
section
variable {X : Cx} {c : Cn} {L : List Addr} {W : WX} {u : SS} {su : Nat → SS} {hit : Nat → Option Bool} {x n : Str} {C : Value} {kk : Nat} {body suite : List Stmt} {b₀ : Stmt} {np pos pos' : Pos}
theorem gs_tryC (i : Nat) (xc : XC X c) (b : BodyOk X W kk) (hc : Names X x C) (hh : ∀ k b, hit k = some b → PySem.W.exmOne X.K (.ref (c.θ.C k)) C = some b)
    (hb : ∀ (W : WX) (pn : List (Addr × Obj)) (xe : Value → Shared → Prop), XC (X.tr pn xe) c → BodyOk (X.tr pn xe) W kk → L2.Takes (X.tr pn xe) W → PSs (X.tr pn xe) body (tSv c L W u))
    (hsu : ∀ (a : Addr) (oe : Obj) (k : Nat) (pn : List (Addr × Obj)), XB (X.suite a ((a, oe) :: pn)) c → HeldC (X.suite a ((a, oe) :: pn)) c (a :: L) k → L2H.RoomH kk (X.suite a ((a, oe) :: pn)).A → PSs (X.suite a ((a, oe) :: pn)) (b₀ :: suite) (tSv c (a :: L) WF (su k)))
    (hs : X.stack = X.env :: X.outer := by rfl) (hf : X.env.frame = some X.env.locals := by rfl) (hi : X.N[i]? = some n := by rfl) (hln : X.env.kindOf n = some .local := by rfl) :
    PS X (.Try body [.ExceptHandler (some (.Name x np)) (some n) (b₀ :: suite) pos'] [] [] pos) (tSv c L W (sTryC i hit u (suN su))) := by
  have tkF : L2.Takes X WF := fun u s' ⟨_, _, _, _, _, _, _, _, _, _, _, _, _, _, _, _, w⟩ => (show False from w).elim
  have base := gs_tryAsC (c := c) (L := L) (W := WF) (u := u) (su := suN su) xc.toXB hs hf hi hln hc tkF hh (fun W pn xe tk po => hb W pn xe ⟨⟨xc.K, xc.nd, xc.hu2⟩, xc.calm⟩ ⟨takes_n tk, po, b.rm⟩ tk) (np := np) (pos := pos) (pos' := pos') (body := body) (suite := suite) (b₀ := b₀) fun a oe k d fs pn hz hd hv => by
    cases fs with
    | nil =>
      have e := hd rfl
      subst e
      exact hsu a oe k pn ⟨xc.K, xc.nd, xc.hu2⟩ ⟨a, oe, rfl, List.mem_cons_self, hz, hv⟩ ⟨b.rm.dp, b.rm.un⟩
    | cons _ _ => exact pss_no
  refine ps_ev base fun E σ H h => ?_
  obtain ⟨F, ρ, R, h⟩ := h
  refine ⟨F, ρ, R, ?_⟩
  unfold sTryC at h
  cases q : sTry i hit u (suN su) ρ with
  | nx ρ' => rw [q] at h; exact h
  | bk ρ' => rw [q] at h; exact h
  | ct ρ' => rw [q] at h; exact h
  | rt d k ρ1 => rw [q] at h; exact h
  | ex n fs ρ' => rw [q] at h; exact h.elim
  | no => rw [q] at h; exact h.elim
end
section
variable {X : Cx} {c : Cn} {L : List Addr} {W : WX} {hit : Nat → Option Bool} {n : Nat} {x T : Str} {p p1 p2 pos : Pos}
theorem g_isEC {Cv : Value} {v : V} (i : Nat) (hd : HeldC X c L n) (hh : ∀ b, hit n = some b → ExcC X.K (c.θ.C n) ∧ PySem.W.kitOne X.K (.ref (c.θ.C n)) Cv = some b) (hv : Vis X.env.scope x) (hT : PE X (.Name T p2) (tC v)) (hcv : ∀ u, RelV v u → u = Cv) (hm : X.mg "isinstance" = none)
    (hN : X.N[i]? = some x := by rfl) (hdb : (x == ("__debug__" : Str)) = false := by rfl) (hcd : (x == ("__classdict__" : Str)) = false := by rfl) (hg : Gl X "isinstance" := by rfl)
    (hst : starEach [.Name x p1, .Name T p2] X.env = (false, eval (.Name x p1) X.env) :: starEach [.Name T p2] X.env := by rfl) (hst2 : starEach [.Name T p2] X.env = (false, eval (.Name T p2) X.env) :: starEach [] X.env := by rfl)
    (hpl : (backTo pos (starEach [.Name T p2] X.env)).any (·.1) = false := by rfl) : PE X (.Call (.Name "isinstance" p) [.Name x p1, .Name T p2] [] pos) (tEv c L W (eIsE hit i n)) := by
  refine ⟨fun pins s σ H Q I h => ?_⟩
  obtain ⟨a, oe, ha, hp, hz, vs, hf⟩ := hd.ex
  obtain ⟨F, ρ, R, h⟩ := of_tEv h
  unfold eIsE at h
  cases q : ρ[i]? with
  | none => rw [q] at h; exact h.elim
  | some sl =>
    rw [q] at h
    cases sl <;> first | exact (show False from h).elim | skip
    obtain ⟨b, hb, hs⟩ := R.xc i q
    obtain rfl : b = a := by rw [ha] at hb; exact (Option.some.inj hb).symm
    replace h : Res c W σ ρ F H Q (match hit n with
      | some b => .ok (.bl b, .sh)
      | none => .no) := h
    cases y : hit n with
    | none => rw [y] at h; exact h.elim
    | some r =>
      rw [y] at h
      obtain ⟨C, hk⟩ := hh _ y
      exact (pe_callB (call_isH C hp hz ⟨vs, hf⟩) hg hm (by decide +kernel) (pa_cons (pe_var hN hv hdb hcd) (pa_cons hT pa_nil hst2) hst) (he := hst) (hpl := hpl)).run pins s σ H Q I ⟨.ref b, hs, v, Cv, r, rfl, hcv, hk, h.bl R.sub⟩
theorem g_isOC {Ca : Addr} {l : List (Nat × Bool)} (i : Nat) (hd : HeldC X c L n) (hv : Vis X.env.scope x) (hm : X.mg "isinstance" = none) (hT : X.mg T = some (.ref Ca)) (hh : AllL (fun q : Nat × Bool => ExcC X.K (c.θ.C q.1) ∧ PySem.W.kitOne X.K (.ref (c.θ.C q.1)) (.ref Ca) = some q.2) l)
    (hN : X.N[i]? = some x := by rfl) (hdb : (x == ("__debug__" : Str)) = false := by rfl) (hcd : (x == ("__classdict__" : Str)) = false := by rfl) (hg : Gl X "isinstance" := by rfl) (hgT : Gl X T := by rfl) (hdT : (T == ("__debug__" : Str)) = false := by rfl)
    (hst : starEach [.Name x p1, .Name T p2] X.env = (false, eval (.Name x p1) X.env) :: starEach [.Name T p2] X.env := by rfl) (hst2 : starEach [.Name T p2] X.env = (false, eval (.Name T p2) X.env) :: starEach [] X.env := by rfl)
    (hpl : (backTo pos (starEach [.Name T p2] X.env)).any (·.1) = false := by rfl) : PE X (.Call (.Name "isinstance" p) [.Name x p1, .Name T p2] [] pos) (tEv c L W (eIsE (hitT l) i n)) :=
  g_isEC (Cv := .ref Ca) (v := .ref Ca) i hd (fun b hb => hh.mem _ (lookup_memN hb)) hv (pe_glob hgT hT rfl hdT) (fun _ h => h) hm hN hdb hcd hg hst hst2 hpl
theorem g_isVC {S : String} {l : List (Nat × Bool)} (i : Nat) (hd : HeldC X c L n) (hv : Vis X.env.scope x) (hm : X.mg "isinstance" = none) (hT : X.mg T = none) (hbT : bootBuiltins T = some (.type S)) (hh : AllL (fun q : Nat × Bool => ExcC X.K (c.θ.C q.1) ∧ PySem.W.kitOne X.K (.ref (c.θ.C q.1)) (.type S) = some q.2) l)
    (hN : X.N[i]? = some x := by rfl) (hdb : (x == ("__debug__" : Str)) = false := by rfl) (hcd : (x == ("__classdict__" : Str)) = false := by rfl) (hg : Gl X "isinstance" := by rfl) (hgT : Gl X T := by rfl) (hdT : (T == ("__debug__" : Str)) = false := by rfl) (hnT : T ≠ "__name__" := by decide)
    (hst : starEach [.Name x p1, .Name T p2] X.env = (false, eval (.Name x p1) X.env) :: starEach [.Name T p2] X.env := by rfl) (hst2 : starEach [.Name T p2] X.env = (false, eval (.Name T p2) X.env) :: starEach [] X.env := by rfl)
    (hpl : (backTo pos (starEach [.Name T p2] X.env)).any (·.1) = false := by rfl) : PE X (.Call (.Name "isinstance" p) [.Name x p1, .Name T p2] [] pos) (tEv c L W (eIsE (hitT l) i n)) :=
  g_isEC (Cv := .type S) (v := .ty S) i hd (fun b hb => hh.mem _ (lookup_memN hb)) hv (pe_bltn hgT hT hbT rfl hnT hdT) (fun _ h => h) hm hN hdb hcd hg hst hst2 hpl
end
section
variable {P : Program} {w : World} {K : PySem.W.Frag} {mg : Str → Option Value} {base : Heap} {x qual : Str} {params : Arguments} {body : List Stmt} {scope : Scope} {f : Addr} {fd : FuncData} {θ : Th}
abbrev BXC (P : Program) (w : World) (K : PySem.W.Frag) (mg : Str → Option Value) (base : Heap) (N : List Str) (qual : Str) (scope : Scope) (f : Addr) (cdv : Value) (A : Around) (outer : List Env) (s : Shared) (H : Hp) (E : XK) : Cx := cxOf (L2.CX P w) P w K mg base N qual scope f cdv A outer s H E
structure BodyC (X : Cx) (W : WX) (k : Nat) : Prop where
  tk : L2.Takes X W
  po : ∀ hd : Option Value, PassesOwnAt (model X.prog X.w) (X.A.mark hd) X.A X.env X.xe
  rm : Room k X.A
theorem fnC_ok {N ps : List Str} {k m : Nat} {u : SS} (F : FunD K x qual params body scope [] [] f fd) (S : FnScope N ps scope) (hm : m = ps.length)
    (hb : ∀ (cdv : Value) (A : Around) (outer : List Env) (s : Shared) (H : Hp) (E : XK) (F0 B : Hp) (L : List Addr), BodyC (BXC P w K mg base N qual scope f cdv A outer s H E) (fun cls d _ H => E cls d H) k → PSs (BXC P w K mg base N qual scope f cdv A outer s H E) body (tSv ⟨θ, F0, B⟩ L (fun cls d _ H => E cls d H) u)) :
    FnOk P w K mg base (L2.CX P w) (k + 1) f fd ps (spOf θ m (denF N.length u)) := by
  refine F.ok S (fun vs H Q E h => by rw [h.1, hm]) fun cdv A outer s H vs Q E hr h => ?_
  obtain ⟨F0, h⟩ := body_of h
  exact ⟨_, hb cdv A outer s H E F0 H [] ⟨L2.takes_of rfl rfl rfl rfl, fun hd => L2H.passesAt_of rfl hd, hr⟩, h⟩
end
def FineC (P : Program) (w : World) (K : PySem.W.Frag) (mg : Str → Option Value) (base : Heap) (θ : Th) (k : Nat) (d : He.DefD) (m : Nat) (R : List D → Out (D × Bool)) : Prop :=
  ∃ fd ps, FnOk P w K mg base (L2.CX P w) k (He.fAd K d.at_) fd ps (spOf θ m R) ∧ Binds K fd ps [] ∧ PySem.W.keepIn K (.ref (He.fAd K d.at_)) = true
section
variable {X : Cx} {c : Cn} {L : List Addr} {W : WX} {e : Expr} {es : List Expr} {fs : List ES} {x : Str} {p pos : Pos}
theorem g_callC {R : List D → Out (D × Bool)} {k k' m : Nat} {dd : He.DefD} (F : FineC X.prog X.w X.K X.mg X.base c.θ k dd m R) (hr : Room k' X.A) (hk : k ≤ k') (tk : L2.Takes X W) (hm : X.mg x = some (.ref (He.fAd X.K dd.at_))) (ha : PA X (e :: es) (tAv c L W fs)) (hl : fs.length = m := by rfl) (hg : Gl X x := by rfl)
    (hdb : (x == ("__debug__" : Str)) = false := by rfl) (he : starEach (e :: es) X.env = (false, eval e X.env) :: starEach es X.env := by rfl) (hpl : (backTo pos (starEach es X.env)).any (·.1) = false := by rfl) : PE X (.Call (.Name x p) (e :: es) [] pos) (tEv c L W (eFn R fs)) := by
  obtain ⟨fd, ps, F, hb, hkp⟩ := F
  refine pe_ev (pe_callS (E := WE W) F (hr.mono hk) hg hm hkp hb (fun σ => L2.passAt tk σ) ha hdb he hpl) fun σ H Q h => ?_
  obtain ⟨F, ρ, Rl, h⟩ := of_tEv h
  refine av_bind Rl h fun xs vs F1 H1 ef e1 ar R1 h1 => ?_
  obtain ⟨F2, _, s2, r, hf⟩ := call_core (Γ := fun _ => R) (n := 0) R1.sub ar h1
  refine ⟨?_, F2, _, s2, r, hf⟩
  rw [r.length, List.length_map, ← hl]
  exact eArgs_length ef
end
end G
namespace G
open PySem PySem.Spec L2 PyProof.Rows
def strsOf : List D → Option (List Str)
  | [] => some []
  | .str s :: r => (strsOf r).map (s :: ·)
  | _ :: _ => none
@[simp] theorem strsOf_map : ∀ ys : List Str, strsOf (ys.map D.str) = some ys
  | [] => rfl
  | y :: ys => by simp [strsOf, strsOf_map ys]
theorem strsOf_eq : ∀ {ds : List D} {ys : List Str}, strsOf ds = some ys → ds = ys.map D.str
  | [], ys, h => by cases h; rfl
  | d :: r, ys, h => by
    cases d with
    | str s =>
      unfold strsOf at h
      cases q : strsOf r with
      | none => rw [q] at h; cases h
      | some zs =>
        rw [q] at h
        cases h
        rw [strsOf_eq q]
        rfl
    | _ => cases h
/-- a method of a text, of one argument -/
def eMS (op : Str → D → Out (D × Kd)) (f g : ES) : ES := fun ρ => (f ρ).bind fun x => match x.1 with
  | .str a => (g ρ).bind fun y => op a y.1
  | _ => .no
def oJoin (a : Str) : D → Out (D × Kd)
  | .lst ds => match strsOf ds with
    | some ys => if (ys.map (·.length)).sum + ys.length * a.length ≤ 16777216 then shr (.str (Txt.join a ys)) else .no
    | none => .no
  | _ => .no
def oSplit (a : Str) : D → Out (D × Kd)
  | .str b => if (b.length == 0) = false ∧ a.length + 2 ≤ SZ then .ok (.lst ((Txt.split a b).map D.str), .fr) else .no
  | _ => .no
def oSlS : D → Option Int → Option Int → Out (D × Kd)
  | .str z, lo, hi => if z.length ≤ SZ then shr (.str (L2.cutS z lo hi)) else .no
  | _, _, _ => .no
def eSlS (f : ES) (lo hi : Option ES) : ES := fun ρ => (f ρ).bind fun x => (ePart lo ρ).bind fun l => (ePart hi ρ).bind fun h => oSlS x.1 l h
def oIntS : D → Out (D × Kd)
  | .str a => match PySem.intText? a with
    | some n => if a.length ≤ 640 then shr (.int n) else .no
    | none => .no
  | _ => .no
theorem repl_strs {θ : Th} {F : Hp} : ∀ {ys : List Str} {vs : List V}, RepL θ F (ys.map D.str) vs → vs = ys.map V.str
  | [], _, .nil => rfl
  | y :: ys, _, .cons r t => by
    cases r
    rw [repl_strs t]
    rfl
theorem of_strs {θ : Th} {F : Hp} : ∀ ys : List Str, RepL θ F (ys.map D.str) (ys.map V.str)
  | [] => .nil
  | y :: ys => .cons (.str y) (of_strs ys)
section
variable {X : Cx} {c : Cn} {L : List Addr} {W : WX} {f g : ES} {a b e o : Expr} {pos p p2 apos : Pos}
theorem g_join (hK : X.K = c.θ.K) (ho : PE X o (tEv c L W f)) (he : PE X e (tEv c L W g)) (hs : starEach [e] X.env = [(false, eval e X.env)] := by rfl) (hbase : attributeBase o "join" X.env (eval o X.env) = eval o X.env := by rfl) (hline : (apos.endLine == pos.line) = true := by rfl) :
    PE X (.Call (.Attribute o "join" apos) [e] [] pos) (tEv c L W (eMS oJoin f g)) := by
  refine pe_ev (pe_join ho he hs hbase hline) fun σ H Q h => ?_
  obtain ⟨F, ρ, R, h⟩ := of_tEv h
  refine ev_bind R h fun d k x F1 H1 ef e1 rd1 so R1 h1 => ?_
  clear h ef so
  cases d <;> first | exact (show False from h1).elim | skip
  rename_i a
  replace h1 : Res c W σ ρ F1 H1 Q ((g ρ).bind fun y => oJoin a y.1) := h1
  refine ⟨⟨a, rd1.str⟩, ?_⟩
  refine ev_bind R1 h1 fun d2 k2 y F2 H2 ef2 e2 rd2 so2 R2 h2 => ?_
  clear h1 ef2 so2
  cases d2 <;> first | exact (show False from h2).elim | skip
  rename_i ds
  obtain ⟨q, xs, rfl, hq, rl⟩ := rd2.lst R2.sub
  replace h2 : Res c W σ ρ F2 H2 Q (match strsOf ds with
    | some ys => if (ys.map (·.length)).sum + ys.length * a.length ≤ 16777216 then shr (.str (Txt.join a ys)) else .no
    | none => .no) := h2
  cases qs : strsOf ds with
  | none => rw [qs] at h2; exact h2.elim
  | some ys =>
    rw [qs] at h2
    obtain ⟨hl, h3⟩ := Res.ite h2
    have := strsOf_eq qs
    subst this
    have := repl_strs rl
    subst this
    refine ⟨a, q, ys, rd1.str, rfl, .inl (.inl (.inl hq)), hl, ?_⟩
    exact h3 (.str _) F2 H2 (Ext.refl R2.sub) (.str _)
theorem g_split (ho : PE X o (tEv c L W f)) (he : PE X e (tEv c L W g)) (hs : starEach [e] X.env = [(false, eval e X.env)] := by rfl) (hbase : attributeBase o "split" X.env (eval o X.env) = eval o X.env := by rfl) (hline : (apos.endLine == pos.line) = true := by rfl) :
    PE X (.Call (.Attribute o "split" apos) [e] [] pos) (tEv c L W (eMS oSplit f g)) := by
  refine pe_ev (pe_split ho he hs hbase hline) fun σ H Q h => ?_
  obtain ⟨F, ρ, R, h⟩ := of_tEv h
  refine ev_bind R h fun d k x F1 H1 ef e1 rd1 so R1 h1 => ?_
  clear h ef so
  cases d <;> first | exact (show False from h1).elim | skip
  rename_i a
  replace h1 : Res c W σ ρ F1 H1 Q ((g ρ).bind fun y => oSplit a y.1) := h1
  refine ⟨⟨a, rd1.str⟩, ?_⟩
  refine ev_bind R1 h1 fun d2 k2 y F2 H2 ef2 e2 rd2 so2 R2 h2 => ?_
  clear h1 ef2 so2
  cases d2 <;> first | exact (show False from h2).elim | skip
  rename_i b
  obtain ⟨⟨hb, hl⟩, h3⟩ := Res.ite (show Res c W σ ρ F2 H2 Q (if (b.length == 0) = false ∧ a.length + 2 ≤ SZ then .ok (.lst ((Txt.split a b).map D.str), .fr) else .no) from h2)
  have e := rd2.str
  subst e
  refine ⟨a, b, rd1.str, rfl, hb, Nat.le_trans hl SZ_le, fun p hp => ?_⟩
  exact h3.lay R2.sub (.lst (of_strs _)) hp
theorem g_slS {lo hi : Option Expr} {fl fh : Option ES} (ha : PE X a (tEv c L W f)) (hl : PO X lo (tPo c L W fl)) (hh : PO X hi (tPo c L W fh)) : PE X (.Subscript a (.Slice lo hi none p2) pos) (tEv c L W (eSlS f fl fh)) := by
  refine pe_ev (pe_slice sl_str ha hl hh) fun σ H Q h => ?_
  obtain ⟨F, ρ, R, h⟩ := of_tEv h
  refine ev_bind R h fun d k x F1 H1 ef e1 rd1 so R1 h1 => ?_
  refine po_bind R1 h1 fun l F2 H2 e2 R2 h2 => ?_
  refine po_bind R2 h2 fun u F3 H3 e3 R3 h3 => ?_
  clear h h1 h2 so ef
  cases d <;> first | exact (show False from h3).elim | skip
  rename_i z
  obtain ⟨hl, h4⟩ := Res.ite (show Res c W σ ρ F3 H3 Q (if z.length ≤ SZ then shr (.str (L2.cutS z l u)) else .no) from h3)
  exact ⟨z, rd1.str, Nat.le_trans hl SZ_le, h4 (.str _) F3 H3 (Ext.refl R3.sub) (.str _)⟩
theorem g_intS (hm : X.mg "int" = none) (ha : PE X a (tEv c L W f)) (hg : Gl X "int" := by rfl) (hs : starEach [a] X.env = (false, eval a X.env) :: starEach [] X.env := by rfl) : PE X (.Call (.Name "int" p) [a] [] pos) (tEv c L W (eUn oIntS f)) := by
  refine pe_ev (pe_callTy call_int_str hg hm (by decide +kernel) (pa_cons ha pa_nil hs) (he := hs)) fun σ H Q h => ?_
  obtain ⟨F, ρ, R, h⟩ := of_tEv h
  refine ev_bind R h fun d k x F1 H1 ef e1 rd1 so R1 h1 => ?_
  clear h so ef
  cases d <;> first | exact (show False from h1).elim | skip
  rename_i z
  replace h1 : Res c W σ ρ F1 H1 Q (match PySem.intText? z with
    | some n => if z.length ≤ 640 then shr (.int n) else .no
    | none => .no) := h1
  cases q : PySem.intText? z with
  | none => rw [q] at h1; exact h1.elim
  | some n =>
    rw [q] at h1
    obtain ⟨hl, h2⟩ := Res.ite h1
    exact ⟨z, n, by rw [rd1.str], q, hl, h2.int R1.sub⟩
end
end G
namespace GD
open PySem L2 G
noncomputable def S_bits_text : SS := sSeq (G.sIf (tBl (eBin oEq (eVar 0) (eLst []))) (sRet (eC (.str "-"))) (sSkip)) (sRet (eMS oJoin (eC (.str "")) (eLc (itE false (eVar 0)) (.one 1) (tYes) (eBi .str [eVar 1]) [1])))
noncomputable def R_bits_text : List D → Out (D × Bool) := denF 2 S_bits_text
noncomputable def S_cloth_text : SS := sRet (eBin oAdd (eBin oAdd (eBin oAdd (eBin oAdd (eBi .str [eM [(20, R_Cloth_shade)] (eVar 0) []]) (eC (.str " "))) (eFn R_bits_text [eM [(20, R_Cloth_cols)] (eVar 0) []])) (eC (.str " "))) (eFn R_bits_text [eM [(20, R_Cloth_rows)] (eVar 0) []]))
noncomputable def R_cloth_text : List D → Out (D × Bool) := denF 1 S_cloth_text
noncomputable def S__law_text_b1 : SS := sSeq (G.sAsg false 3 (eMS oJoin (eC (.str "")) (eLc (itE false (eVar 2)) (.one 4) (tYes) (eBi .str [eVar 4]) [4]))) (sSeq (G.sIf (tBl (eBin oEq (eVar 2) (eLst []))) (G.sAsg false 3 (eC (.str "-"))) (sSkip)) (sOwL 1 kAp (eVar 3)))
noncomputable def S__law_text : SS := sSeq (G.sAsg true 1 (eLst [eBi .str [eBin oIx (eVar 0) (eC (.int 0))]])) (sSeq (G.sFor (itE true (eSl (eVar 0) (some (eC (.int 1))) none)) (.one 2) S__law_text_b1) (sSeq (sFrz 1) (sRet (eMS oJoin (eC (.str " ")) (eVar 1)))))
noncomputable def R__law_text : List D → Out (D × Bool) := denF 5 S__law_text
noncomputable def S__law_spoilt : SS := sSeq (G.sAsg false 2 (eC (.str " !\"#$&'()*+,-./0123456789:;<=>?\x40ABCDEFGHIJKLMNOPQRSTUVWXYZ[]^_`abcdefghijklmnopqrstuvwxyz{|}~\n"))) (sSeq (G.sAsg false 3 (eBin oMod (eBi .abs [eBin oIx (eVar 1) (eC (.int 1))]) (eBin oAdd (eBi .len [eVar 0]) (eC (.int 1))))) (sSeq (G.sAsg false 4 (eBin oIx (eVar 2) (eBin oMod (eBi .abs [eBin oIx (eVar 1) (eC (.int 2))]) (eBi .len [eVar 2])))) (sSeq (G.sIf (tBl (eBin oEq (eBin oMod (eBin oIx (eVar 1) (eC (.int 3))) (eC (.int 2))) (eC (.int 0)))) (G.sAsg false 4 (eBin oIx (eC (.str " -01a\n")) (eBin oMod (eBi .abs [eBin oIx (eVar 1) (eC (.int 2))]) (eC (.int 6))))) (sSkip)) (sSeq (G.sAsg false 5 (eMS oSplit (eVar 0) (eC (.str "\n")))) (sSeq (G.sAsg false 6 (eBin oMod (eBi .abs [eBin oIx (eVar 1) (eC (.int 1))]) (eBi .len [eVar 5]))) (sSeq (G.sAsg false 7 (eBin oMod (eBin oIx (eVar 1) (eC (.int 0))) (eC (.int 8)))) (sSeq (G.sIf (tBl (eBin oEq (eVar 7) (eC (.int 0)))) (sRet (eBin oAdd (eBin oAdd (eSlS (eVar 0) none (some (eVar 3))) (eVar 4)) (eSlS (eVar 0) (some (eVar 3)) none))) (sSkip)) (sSeq (G.sIf (tBl (eBin oEq (eVar 7) (eC (.int 1)))) (sRet (eBin oAdd (eSlS (eVar 0) none (some (eVar 3))) (eSlS (eVar 0) (some (eBin oAdd (eVar 3) (eC (.int 1)))) none))) (sSkip)) (sSeq (G.sIf (tBl (eBin oEq (eVar 7) (eC (.int 2)))) (sRet (eBin oAdd (eBin oAdd (eSlS (eVar 0) none (some (eVar 3))) (eVar 4)) (eSlS (eVar 0) (some (eBin oAdd (eVar 3) (eC (.int 1)))) none))) (sSkip)) (sSeq (G.sIf (tBl (eBin oEq (eVar 7) (eC (.int 3)))) (sRet (eMS oJoin (eC (.str "\n")) (eBin oAdd (eSl (eVar 5) none (some (eVar 6))) (eSl (eVar 5) (some (eBin oAdd (eVar 6) (eC (.int 1)))) none)))) (sSkip)) (sSeq (G.sIf (tBl (eBin oEq (eVar 7) (eC (.int 4)))) (sRet (eMS oJoin (eC (.str "\n")) (eBin oAdd (eBin oAdd (eSl (eVar 5) none (some (eVar 6))) (eLst [eBin oIx (eVar 5) (eVar 6)])) (eSl (eVar 5) (some (eVar 6)) none)))) (sSkip)) (sSeq (G.sIf (tBl (eBin oEq (eVar 7) (eC (.int 5)))) (sRet (eMS oJoin (eC (.str "\n")) (eBin oAdd (eSl (eVar 5) (some (eVar 6)) none) (eSl (eVar 5) none (some (eVar 6)))))) (sSkip)) (sSeq (G.sAsg false 8 (eMS oSplit (eVar 0) (eC (.str " ")))) (sSeq (G.sAsg false 9 (eBin oMod (eBi .abs [eBin oIx (eVar 1) (eC (.int 1))]) (eBi .len [eVar 8]))) (sSeq (G.sIf (tBl (eBin oEq (eVar 7) (eC (.int 6)))) (sRet (eMS oJoin (eC (.str " ")) (eBin oAdd (eSl (eVar 8) none (some (eVar 9))) (eSl (eVar 8) (some (eBin oAdd (eVar 9) (eC (.int 1)))) none)))) (sSkip)) (sRet (eMS oJoin (eC (.str " ")) (eBin oAdd (eBin oAdd (eSl (eVar 8) none (some (eVar 9))) (eLst [eBin oIx (eVar 8) (eVar 9)])) (eSl (eVar 8) (some (eVar 9)) none)))))))))))))))))))
noncomputable def R__law_spoilt : List D → Out (D × Bool) := denF 10 S__law_spoilt
noncomputable def S_bits_in_b1 : SS := G.sIf (tBl (eBin oNi (eVar 1) (eC (.str "01")))) (sRaise 7) (sSkip)
noncomputable def S_bits_in : SS := sSeq (G.sIf (tBl (eBin oEq (eVar 0) (eC (.str "-")))) (sRet (eLst [])) (sSkip)) (sSeq (G.sIf (tBl (eBin oEq (eVar 0) (eC (.str "")))) (sRaise 7) (sSkip)) (sSeq (G.sFor (itE true (eVar 0)) (.one 1) S_bits_in_b1) (sRet (eLc (itE false (eVar 0)) (.one 1) (tYes) (eUn oIntS (eVar 1)) [1]))))
noncomputable def R_bits_in : List D → Out (D × Bool) := denF 2 S_bits_in
noncomputable def S_cloth_in : SS := sSeq (G.sIf (G.tOr (tBl (eBin oNe (eBi .len [eVar 0]) (eC (.int 3)))) (G.tOr (tBl (eBin oNe (eBi .len [eBin oIx (eVar 0) (eC (.int 0))]) (eC (.int 1)))) (tBl (eBin oNi (eBin oIx (eVar 0) (eC (.int 0))) (eC (.str "01")))))) (sRaise 7) (sSkip)) (sRet (eFn R_Cloth___init__ [eUn oIntS (eBin oIx (eVar 0) (eC (.int 0))), eFn R_bits_in [eBin oIx (eVar 0) (eC (.int 1))], eFn R_bits_in [eBin oIx (eVar 0) (eC (.int 2))]]))
noncomputable def R_cloth_in : List D → Out (D × Bool) := denF 1 S_cloth_in
noncomputable def S_read_cloth : SS := sTryR (hitT [(0, true), (1, true), (2, true), (3, true), (4, true), (7, true)]) 7 (sRet (eFn R_cloth_in [eMS oSplit (eVar 0) (eC (.str " "))]))
noncomputable def R_read_cloth : List D → Out (D × Bool) := denF 1 S_read_cloth
noncomputable def S__law_read : SS := sSeq (sTryC 2 (hitT [(0, true), (1, true), (2, true), (3, true), (4, true), (7, true)]) (G.sAsg false 1 (eFn R__law_told [eFn R_read_cloth [eVar 0]])) (suN fun k => G.sAsg false 1 (eTup [eIsE (hitT [(0, false), (1, false), (2, false), (3, false), (4, false), (7, true)]) 2 k, eOr (eIsE (hitT [(0, false), (1, false), (2, true), (3, false), (4, false), (7, false)]) 2 k) (eIsE (hitT [(0, false), (1, true), (2, false), (3, false), (4, false), (7, false)]) 2 k), eIsE (hitT [(0, true), (1, true), (2, true), (3, true), (4, true), (7, true)]) 2 k]))) (sRet (eVar 1))
noncomputable def R__law_read : List D → Out (D × Bool) := denF 3 S__law_read
noncomputable def S__law_bits_word : SS := sSeq (G.sIf (tBl (eBin oEq (eVar 0) (eC (.str "-")))) (sRet (eLst [])) (sSkip)) (sSeq (G.sIf (G.tOr (tBl (eBin oEq (eVar 0) (eC (.str "")))) (G.tOr (tBl (eBin oGt (eBi .len [eVar 0]) (eC (.int 39)))) (G.tNot (tTru (eBi .all [eLc (itE false (eVar 0)) (.one 1) (tYes) (eBin oIn (eVar 1) (eC (.str "01"))) [1]]))))) (sRet (eC .non)) (sSkip)) (sRet (eLc (itE false (eVar 0)) (.one 1) (tYes) (eUn oIntS (eVar 1)) [1])))
noncomputable def R__law_bits_word : List D → Out (D × Bool) := denF 2 S__law_bits_word
noncomputable def S__law_cloth_words : SS := sSeq (G.sIf (G.tOr (tBl (eBin oNe (eBi .len [eVar 0]) (eC (.int 3)))) (tBl (eBin oNi (eBin oIx (eVar 0) (eC (.int 0))) (eTup [eC (.str "0"), eC (.str "1")])))) (sRet (eC .non)) (sSkip)) (sSeq (G.sAsg false 1 (eFn R__law_bits_word [eBin oIx (eVar 0) (eC (.int 1))])) (sSeq (G.sAsg false 2 (eFn R__law_bits_word [eBin oIx (eVar 0) (eC (.int 2))])) (sSeq (G.sIf (G.tOr (tBl (eUn (fun d => shr (.bl (isNon d))) (eVar 1))) (tBl (eUn (fun d => shr (.bl (isNon d))) (eVar 2)))) (sRet (eC .non)) (sSkip)) (sRet (eTup [eUn oIntS (eBin oIx (eVar 0) (eC (.int 0))), eVar 1, eVar 2])))))
noncomputable def R__law_cloth_words : List D → Out (D × Bool) := denF 3 S__law_cloth_words
noncomputable def S__law_due_read : SS := sSeq (G.sAsg false 1 (eFn R__law_cloth_words [eMS oSplit (eVar 0) (eC (.str " "))])) (sSeq (G.sIf (tBl (eUn (fun d => shr (.bl (isNon d))) (eVar 1))) (sRet (eTup [eC (.bl true), eC (.bl false), eC (.bl true)])) (sSkip)) (sRet (eVar 1)))
noncomputable def R__law_due_read : List D → Out (D × Bool) := denF 2 S__law_due_read
noncomputable def S_law_k54_t8 : SS := sRet (eBi .all [eLc (itE false (eBin oAdd (eBin oAdd (eVar 5) (eVar 6)) (eLst [eVar 4]))) (.one 8) (tYes) (eFn R__law_same [eFn R__law_read [eVar 8], eFn R__law_due_read [eVar 8]]) [8]])
noncomputable def S_law_k54_t7 : SS := sSeq (G.sAsg false 6 (eLc (itR1 (eC (.int 8))) (.one 7) (tYes) (eFn R__law_spoilt [eBin oIx (eLst [eVar 3, eVar 4]) (eBin oMod (eVar 7) (eC (.int 2))), eSl (eVar 1) (some (eBin oAdd (eC (.int 14)) (eBin oMul (eC (.int 4)) (eVar 7)))) none]) [7])) S_law_k54_t8
noncomputable def S_law_k54_t6 : SS := sSeq (G.sAsg false 5 (eBin oAdd (eVar 5) (eLst [eC (.str "0 2 -"), eC (.str "0 -1 -"), eC (.str "- - -")]))) S_law_k54_t7
noncomputable def S_law_k54_t5 : SS := sSeq (G.sAsg false 5 (eLst [eC (.str ""), eC (.str " "), eC (.str "0"), eC (.str "0 -"), eC (.str "0 - -"), eC (.str "1 - 1"), eC (.str "0  -"), eC (.str "2 - -"), eC (.str "0 -- -"), eC (.str "00 - -"), eC (.str "0 - - "), eC (.str "0 - -\n")])) S_law_k54_t6
noncomputable def S_law_k54_t4 : SS := sSeq (G.sAsg false 4 (eFn R__law_text [eTup [eBin oIx (eVar 2) (eC (.int 0)), eFn R__law_row [eSl (eVar 1) (some (eC (.int 4))) none, eBin oMod (eBin oIx (eVar 1) (eC (.int 12))) (eC (.int 44))], eFn R__law_row [eSl (eVar 1) (some (eC (.int 8))) none, eBin oMod (eBin oIx (eVar 1) (eC (.int 13))) (eC (.int 44))]]])) S_law_k54_t5
noncomputable def S_law_k54_t3 : SS := sSeq (G.sIf (G.tOr (G.tNot (tTru (eFn R__law_same [eVar 3, eFn R__law_text [eVar 2]]))) (G.tNot (tTru (eFn R__law_same [eFn R__law_read [eVar 3], eVar 2])))) (sRet (eC (.bl false))) (sSkip)) S_law_k54_t4
noncomputable def S_law_k54_t2 : SS := sSeq (G.sAsg false 3 (eFn R_cloth_text [eFn R__law_made [eVar 2]])) S_law_k54_t3
noncomputable def S_law_k54_t1 : SS := sSeq (G.sAsg false 2 (eFn R__law_plan [eVar 1])) S_law_k54_t2
noncomputable def S_law_k54 : SS := sSeq (G.sAsg false 1 (eFn R__law_draws [eVar 0, eC (.int 50)])) S_law_k54_t1
noncomputable def R_law_k54 : List D → Out (D × Bool) := denF 9 S_law_k54
end GD
namespace K54
open PySem L2 G GD
def top (i : Nat) : Stmt := PySem.Challenge.pw_sashiko_k54_cloths_as_texts.main.body.getD i (.Pass ⟨0, 0, 0, 0⟩)
def mth (i j : Nat) : Stmt := match top i with
  | .ClassDef _ _ _ body _ _ _ _ _ _ _ => body.getD j (.Pass ⟨0, 0, 0, 0⟩)
  | s => s
abbrev st__law_draws : Stmt := top 22
def d__law_draws : He.DefD := ⟨("_law_draws", none), "_law_draws", "_law_draws", defArgs st__law_draws, defBody st__law_draws, defScope st__law_draws, [], []⟩
abbrev N__law_draws : List Str := ["_law_script", "_law_many", "_law_rows", "_law_mix", "_law_cell", "_law_rest"]
theorem sc__law_draws : FnScope N__law_draws ["_law_script", "_law_many"] (defScope st__law_draws) := ⟨rfl, rfl, rfl, by decide +kernel, rfl, by decide +kernel, by decide +kernel⟩
abbrev st__law_bits : Stmt := top 23
def d__law_bits : He.DefD := ⟨("_law_bits", none), "_law_bits", "_law_bits", defArgs st__law_bits, defBody st__law_bits, defScope st__law_bits, [], []⟩
abbrev N__law_bits : List Str := ["_law_number", "_law_many", "_law_row_here", "_law_k"]
theorem sc__law_bits : FnScope N__law_bits ["_law_number", "_law_many"] (defScope st__law_bits) := ⟨rfl, rfl, rfl, by decide +kernel, rfl, by decide +kernel, by decide +kernel⟩
abbrev st__law_row : Stmt := top 24
def d__law_row : He.DefD := ⟨("_law_row", none), "_law_row", "_law_row", defArgs st__law_row, defBody st__law_row, defScope st__law_row, [], []⟩
abbrev N__law_row : List Str := ["_law_some", "_law_many", "_law_raw", "_law_row_here", "_law_k"]
theorem sc__law_row : FnScope N__law_row ["_law_some", "_law_many"] (defScope st__law_row) := ⟨rfl, rfl, rfl, by decide +kernel, rfl, by decide +kernel, by decide +kernel⟩
abbrev st__law_plan : Stmt := top 25
def d__law_plan : He.DefD := ⟨("_law_plan", none), "_law_plan", "_law_plan", defArgs st__law_plan, defBody st__law_plan, defScope st__law_plan, [], []⟩
abbrev N__law_plan : List Str := ["_law_some", "_law_wide", "_law_tall"]
theorem sc__law_plan : FnScope N__law_plan ["_law_some"] (defScope st__law_plan) := ⟨rfl, rfl, rfl, by decide +kernel, rfl, by decide +kernel, by decide +kernel⟩
abbrev st_bits_text : Stmt := top 13
def d_bits_text : He.DefD := ⟨("bits_text", none), "bits_text", "bits_text", defArgs st_bits_text, defBody st_bits_text, defScope st_bits_text, [], []⟩
abbrev N_bits_text : List Str := ["bits", "bit"]
theorem sc_bits_text : FnScope N_bits_text ["bits"] (defScope st_bits_text) := ⟨rfl, rfl, rfl, by decide +kernel, rfl, by decide +kernel, by decide +kernel⟩
abbrev st_Cloth_rows : Stmt := mth 11 3
def d_Cloth_rows : He.DefD := ⟨("Cloth", some "rows"), "rows", "Cloth.rows", defArgs st_Cloth_rows, defBody st_Cloth_rows, defScope st_Cloth_rows, [], []⟩
abbrev N_Cloth_rows : List Str := ["self"]
theorem sc_Cloth_rows : FnScope N_Cloth_rows ["self"] (defScope st_Cloth_rows) := ⟨rfl, rfl, rfl, by decide +kernel, rfl, by decide +kernel, by decide +kernel⟩
abbrev st_Cloth_cols : Stmt := mth 11 2
def d_Cloth_cols : He.DefD := ⟨("Cloth", some "cols"), "cols", "Cloth.cols", defArgs st_Cloth_cols, defBody st_Cloth_cols, defScope st_Cloth_cols, [], []⟩
abbrev N_Cloth_cols : List Str := ["self"]
theorem sc_Cloth_cols : FnScope N_Cloth_cols ["self"] (defScope st_Cloth_cols) := ⟨rfl, rfl, rfl, by decide +kernel, rfl, by decide +kernel, by decide +kernel⟩
abbrev st_Cloth_shade : Stmt := mth 11 1
def d_Cloth_shade : He.DefD := ⟨("Cloth", some "shade"), "shade", "Cloth.shade", defArgs st_Cloth_shade, defBody st_Cloth_shade, defScope st_Cloth_shade, [], []⟩
abbrev N_Cloth_shade : List Str := ["self"]
theorem sc_Cloth_shade : FnScope N_Cloth_shade ["self"] (defScope st_Cloth_shade) := ⟨rfl, rfl, rfl, by decide +kernel, rfl, by decide +kernel, by decide +kernel⟩
abbrev st_cloth_text : Stmt := top 14
def d_cloth_text : He.DefD := ⟨("cloth_text", none), "cloth_text", "cloth_text", defArgs st_cloth_text, defBody st_cloth_text, defScope st_cloth_text, [], []⟩
abbrev N_cloth_text : List Str := ["cloth"]
theorem sc_cloth_text : FnScope N_cloth_text ["cloth"] (defScope st_cloth_text) := ⟨rfl, rfl, rfl, by decide +kernel, rfl, by decide +kernel, by decide +kernel⟩
abbrev st__law_text : Stmt := top 28
def d__law_text : He.DefD := ⟨("_law_text", none), "_law_text", "_law_text", defArgs st__law_text, defBody st__law_text, defScope st__law_text, [], []⟩
abbrev N__law_text : List Str := ["_law_plan_here", "_law_words", "_law_bits_here", "_law_word", "_law_bit"]
theorem sc__law_text : FnScope N__law_text ["_law_plan_here"] (defScope st__law_text) := ⟨rfl, rfl, rfl, by decide +kernel, rfl, by decide +kernel, by decide +kernel⟩
abbrev st_ask_bits : Stmt := top 10
def d_ask_bits : He.DefD := ⟨("ask_bits", none), "ask_bits", "ask_bits", defArgs st_ask_bits, defBody st_ask_bits, defScope st_ask_bits, [], []⟩
abbrev N_ask_bits : List Str := ["bits", "bit"]
theorem sc_ask_bits : FnScope N_ask_bits ["bits"] (defScope st_ask_bits) := ⟨rfl, rfl, rfl, by decide +kernel, rfl, by decide +kernel, by decide +kernel⟩
abbrev st_Cloth___init__ : Stmt := mth 11 0
def d_Cloth___init__ : He.DefD := ⟨("Cloth", some "__init__"), "__init__", "Cloth.__init__", defArgs st_Cloth___init__, defBody st_Cloth___init__, defScope st_Cloth___init__, [], []⟩
abbrev N_Cloth___init__ : List Str := ["self", "shade", "cols", "rows"]
theorem sc_Cloth___init__ : FnScope N_Cloth___init__ ["self", "shade", "cols", "rows"] (defScope st_Cloth___init__) := ⟨rfl, rfl, rfl, by decide +kernel, rfl, by decide +kernel, by decide +kernel⟩
abbrev st__law_made : Stmt := top 26
def d__law_made : He.DefD := ⟨("_law_made", none), "_law_made", "_law_made", defArgs st__law_made, defBody st__law_made, defScope st__law_made, [], []⟩
abbrev N__law_made : List Str := ["_law_plan_here"]
theorem sc__law_made : FnScope N__law_made ["_law_plan_here"] (defScope st__law_made) := ⟨rfl, rfl, rfl, by decide +kernel, rfl, by decide +kernel, by decide +kernel⟩
abbrev st__law_spoilt : Stmt := top 29
def d__law_spoilt : He.DefD := ⟨("_law_spoilt", none), "_law_spoilt", "_law_spoilt", defArgs st__law_spoilt, defBody st__law_spoilt, defScope st__law_spoilt, [], []⟩
abbrev N__law_spoilt : List Str := ["_law_text_here", "_law_some", "_law_signs", "_law_at", "_law_sign", "_law_rows", "_law_place", "_law_way", "_law_words", "_law_spot"]
theorem sc__law_spoilt : FnScope N__law_spoilt ["_law_text_here", "_law_some"] (defScope st__law_spoilt) := ⟨rfl, rfl, rfl, by decide +kernel, rfl, by decide +kernel, by decide +kernel⟩
abbrev st__law_same : Stmt := top 27
def d__law_same : He.DefD := ⟨("_law_same", none), "_law_same", "_law_same", defArgs st__law_same, defBody st__law_same, defScope st__law_same, [], []⟩
abbrev N__law_same : List Str := ["_law_told_here", "_law_due", "_law_one", "_law_other"]
theorem sc__law_same : FnScope N__law_same ["_law_told_here", "_law_due"] (defScope st__law_same) := ⟨rfl, rfl, rfl, by decide +kernel, rfl, by decide +kernel, by decide +kernel⟩
abbrev st__law_told : Stmt := top 19
def d__law_told : He.DefD := ⟨("_law_told", none), "_law_told", "_law_told", defArgs st__law_told, defBody st__law_told, defScope st__law_told, [], []⟩
abbrev N__law_told : List Str := ["_law_cloth"]
theorem sc__law_told : FnScope N__law_told ["_law_cloth"] (defScope st__law_told) := ⟨rfl, rfl, rfl, by decide +kernel, rfl, by decide +kernel, by decide +kernel⟩
abbrev st_bits_in : Stmt := top 15
def d_bits_in : He.DefD := ⟨("bits_in", none), "bits_in", "bits_in", defArgs st_bits_in, defBody st_bits_in, defScope st_bits_in, [], []⟩
abbrev N_bits_in : List Str := ["word", "sign"]
theorem sc_bits_in : FnScope N_bits_in ["word"] (defScope st_bits_in) := ⟨rfl, rfl, rfl, by decide +kernel, rfl, by decide +kernel, by decide +kernel⟩
abbrev st_cloth_in : Stmt := top 16
def d_cloth_in : He.DefD := ⟨("cloth_in", none), "cloth_in", "cloth_in", defArgs st_cloth_in, defBody st_cloth_in, defScope st_cloth_in, [], []⟩
abbrev N_cloth_in : List Str := ["words"]
theorem sc_cloth_in : FnScope N_cloth_in ["words"] (defScope st_cloth_in) := ⟨rfl, rfl, rfl, by decide +kernel, rfl, by decide +kernel, by decide +kernel⟩
abbrev st_read_cloth : Stmt := top 17
def d_read_cloth : He.DefD := ⟨("read_cloth", none), "read_cloth", "read_cloth", defArgs st_read_cloth, defBody st_read_cloth, defScope st_read_cloth, [], []⟩
abbrev N_read_cloth : List Str := ["text"]
theorem sc_read_cloth : FnScope N_read_cloth ["text"] (defScope st_read_cloth) := ⟨rfl, rfl, rfl, by decide +kernel, rfl, by decide +kernel, by decide +kernel⟩
abbrev st__law_read : Stmt := top 30
def d__law_read : He.DefD := ⟨("_law_read", none), "_law_read", "_law_read", defArgs st__law_read, defBody st__law_read, defScope st__law_read, [], []⟩
abbrev N__law_read : List Str := ["_law_text_here", "_law_found", "e"]
theorem sc__law_read : FnScope N__law_read ["_law_text_here"] (defScope st__law_read) := ⟨rfl, rfl, rfl, by decide +kernel, rfl, by decide +kernel, by decide +kernel⟩
abbrev st__law_bits_word : Stmt := top 20
def d__law_bits_word : He.DefD := ⟨("_law_bits_word", none), "_law_bits_word", "_law_bits_word", defArgs st__law_bits_word, defBody st__law_bits_word, defScope st__law_bits_word, [], []⟩
abbrev N__law_bits_word : List Str := ["_law_word", "_law_sign"]
theorem sc__law_bits_word : FnScope N__law_bits_word ["_law_word"] (defScope st__law_bits_word) := ⟨rfl, rfl, rfl, by decide +kernel, rfl, by decide +kernel, by decide +kernel⟩
abbrev st__law_cloth_words : Stmt := top 21
def d__law_cloth_words : He.DefD := ⟨("_law_cloth_words", none), "_law_cloth_words", "_law_cloth_words", defArgs st__law_cloth_words, defBody st__law_cloth_words, defScope st__law_cloth_words, [], []⟩
abbrev N__law_cloth_words : List Str := ["_law_words", "_law_cols", "_law_rows"]
theorem sc__law_cloth_words : FnScope N__law_cloth_words ["_law_words"] (defScope st__law_cloth_words) := ⟨rfl, rfl, rfl, by decide +kernel, rfl, by decide +kernel, by decide +kernel⟩
abbrev st__law_due_read : Stmt := top 31
def d__law_due_read : He.DefD := ⟨("_law_due_read", none), "_law_due_read", "_law_due_read", defArgs st__law_due_read, defBody st__law_due_read, defScope st__law_due_read, [], []⟩
abbrev N__law_due_read : List Str := ["_law_text_here", "_law_plan_here"]
theorem sc__law_due_read : FnScope N__law_due_read ["_law_text_here"] (defScope st__law_due_read) := ⟨rfl, rfl, rfl, by decide +kernel, rfl, by decide +kernel, by decide +kernel⟩
abbrev st_law : Stmt := top 32
def d_law : He.DefD := ⟨("law", none), "law", "law", defArgs st_law, defBody st_law, defScope st_law, [], []⟩
abbrev N_law : List Str := ["_law_script", "_law_some", "_law_plan_here", "_law_text_here", "_law_more", "_law_near", "_law_spoilt_here", "_law_k", "_law_one"]
theorem sc_law : FnScope N_law ["_law_script"] (defScope st_law) := ⟨rfl, rfl, rfl, by decide +kernel, rfl, by decide +kernel, by decide +kernel⟩
def cname : Nat → Str
  | 0 => "SewError"
  | 1 => "BadSize"
  | 2 => "BadBit"
  | 3 => "NoCell"
  | 4 => "NoLine"
  | 7 => "BadText"
  | 20 => "Cloth"
  | _ => ""
def cflds : Nat → List Str
  | 20 => ["corner", "upright", "level"]
  | _ => []
abbrev th (K : PySem.W.Frag) : Th := ⟨K, none, fun n => He.ga K (cname n), cflds, none⟩
def fn : List He.DefD := [d__law_draws, d__law_bits, d__law_row, d__law_plan, d_bits_text, d_Cloth_rows, d_Cloth_cols, d_Cloth_shade, d_cloth_text, d__law_text, d_ask_bits, d_Cloth___init__, d__law_made, d__law_spoilt, d__law_same, d__law_told, d_bits_in, d_cloth_in, d_read_cloth, d__law_read, d__law_bits_word, d__law_cloth_words, d__law_due_read, d_law]
def xf : List Fx := [.exC "SewError", .isO "SewError" "BadText" false, .exC "BadSize", .isO "BadSize" "BadText" false, .exC "BadBit", .isO "BadBit" "BadText" false, .exC "NoCell", .isO "NoCell" "BadText" false, .exC "NoLine", .isO "NoLine" "BadText" false, .exC "BadText", .isO "BadText" "BadText" true, .isO "SewError" "BadBit" false, .isO "BadSize" "BadBit" false, .isO "BadBit" "BadBit" true, .isO "NoCell" "BadBit" false, .isO "NoLine" "BadBit" false, .isO "BadText" "BadBit" false, .isO "SewError" "BadSize" false, .isO "BadSize" "BadSize" true, .isO "BadBit" "BadSize" false, .isO "NoCell" "BadSize" false, .isO "NoLine" "BadSize" false, .isO "BadText" "BadSize" false, .isT "SewError" "ValueError" true, .isT "BadSize" "ValueError" true, .isT "BadBit" "ValueError" true, .isT "NoCell" "ValueError" true, .isT "NoLine" "ValueError" true, .isT "BadText" "ValueError" true]
def fa : List He.Fa := [.free "abs", .free "len", .free "range", .glo "_law_bits", .glo "_law_row", .free "str", .cls "Cloth", .noat "Cloth" "level", .free "list", .noat "Cloth" "upright", .noat "Cloth" "corner", .meth "Cloth" "shade", .meth "Cloth" "cols", .glo "bits_text", .meth "Cloth" "rows", .glo "BadBit", .exc "BadBit", .int "MOST" 40, .glo "BadSize", .exc "BadSize", .glo "ask_bits", .mkr "Cloth", .glo "Cloth", .free "isinstance", .free "bool", .free "int", .free "tuple", .free "zip", .glo "_law_same", .free "all", .glo "BadText", .exc "BadText", .glo "bits_in", .exm "SewError" "SewError" true, .exm "BadSize" "SewError" true, .exm "BadBit" "SewError" true, .exm "NoCell" "SewError" true, .exm "NoLine" "SewError" true, .exm "BadText" "SewError" true, .glo "cloth_in", .glo "SewError", .glo "read_cloth", .glo "_law_told", .free "ValueError", .glo "_law_bits_word", .glo "_law_cloth_words", .glo "_law_draws", .glo "_law_plan", .glo "_law_made", .glo "cloth_text", .glo "_law_text", .glo "_law_read", .glo "_law_spoilt", .glo "_law_due_read", .glo "law"]
section
variable {P : Program} {w : World} {K : PySem.W.Frag} {h base : Heap} {mg : Str → Option Value}
theorem ok__law_draws (KX : K.In h) (G : h.Ns mainGlobals mg) (c : SaysX fa fn xf K) : Fine P w K mg base (th K) 1 d__law_draws 2 R__law_draws := by
  obtain ⟨fd, F⟩ := c.def_ 0 (d := d__law_draws) rfl
  refine ⟨fd, _, fn_ok F sc__law_draws rfl (fun cdv A outer s H E F0 B L b => ?_), F.bindsN (fun _ _ _ _ _ _ us hl => match us, hl with | [_, _], _ => rfl), F.kp⟩
  have x : XC (BX P w K mg base N__law_draws d__law_draws.qual d__law_draws.scope (He.fAd K d__law_draws.at_) cdv A outer s H E) ⟨th K, F0, B⟩ := ⟨⟨rfl, sc__law_draws.nd, u128 b.rm⟩, rfl⟩
  exact gss_cons (gs_set (own := true) (i := 2) x.nd (pg_lst pga_nil) (.inl rfl)) (gss_cons (gs_set (own := false) (i := 3) x.nd (g_int) (.inl rfl)) (gss_cons (gs_for b.po x.calm (i_list (st := true) x.toXB (g_var 0 (.inl rfl))) (t_name x.toXB 4 (.inl rfl) (.inl rfl)) (gss_cons (gs_set (own := false) (i := 3) x.nd (g_bin (ob_mod x.toXB) (g_bin (ob_add x.toXB) (g_bin (ob_mul x.toXB) (g_var 3 (.inl rfl)) (g_int)) (g_var 4 (.inl rfl))) (g_int)) (.inl rfl)) (gss_cons (gs_set (own := false) (i := 5) x.nd (g_bi (bf_abs x.toXB) (He.free_ok KX G (c.fact 0 (f := .free "abs") rfl)) (g_cons (g_var 4 (.inl rfl)) pga_nil)) (.inl rfl)) (gss_cons (gs_if (t_cmp (oc_lt x.toXB) (g_var 5 (.inl rfl)) (g_bin (ob_pow x.toXB) (g_int) (g_int))) (gss_cons (gs_append (i := 2) (g_var 4 (.inl rfl)) (.inl rfl)) (gss_one (gs_set (own := false) (i := 5) x.nd (g_int) (.inl rfl)))) (gss_nil)) (gss_one (gs_while b.po (t_pw (pgw_and (t_cmp (oc_gt x.toXB) (g_var 5 (.inl rfl)) (g_int)) (pw_and1 (t_cmp (oc_lt x.toXB) (g_bi (bf_len x.toXB) (He.free_ok KX G (c.fact 1 (f := .free "len") rfl)) (g_cons (g_var 2 (.inl rfl)) pga_nil)) (g_var 1 (.inl rfl)))))) (gss_cons (gs_append (i := 2) (g_bin (ob_mod x.toXB) (g_var 5 (.inl rfl)) (g_int)) (.inl rfl)) (gss_one (gs_set (own := false) (i := 5) x.nd (g_bin (ob_div x.toXB) (g_var 5 (.inl rfl)) (g_int)) (.inl rfl)))))))))) (gss_cons (gs_while b.po (t_cmp (oc_lt x.toXB) (g_bi (bf_len x.toXB) (He.free_ok KX G (c.fact 1 (f := .free "len") rfl)) (g_cons (g_var 2 (.inl rfl)) pga_nil)) (g_var 1 (.inl rfl))) (gss_cons (gs_set (own := false) (i := 3) x.nd (g_bin (ob_mod x.toXB) (g_bin (ob_add x.toXB) (g_bin (ob_mul x.toXB) (g_var 3 (.inl rfl)) (g_int)) (g_int)) (g_int)) (.inl rfl)) (gss_one (gs_append (i := 2) (g_bin (ob_mod x.toXB) (g_bin (ob_mul x.toXB) (g_var 3 (.inl rfl)) (g_var 3 (.inl rfl))) (g_int)) (.inl rfl))))) (gss_one (gs_ret (g_var 2 (.inl rfl)))))))
theorem ok__law_bits (KX : K.In h) (G : h.Ns mainGlobals mg) (c : SaysX fa fn xf K) : Fine P w K mg base (th K) 1 d__law_bits 2 R__law_bits := by
  obtain ⟨fd, F⟩ := c.def_ 1 (d := d__law_bits) rfl
  refine ⟨fd, _, fn_ok F sc__law_bits rfl (fun cdv A outer s H E F0 B L b => ?_), F.bindsN (fun _ _ _ _ _ _ us hl => match us, hl with | [_, _], _ => rfl), F.kp⟩
  have x : XC (BX P w K mg base N__law_bits d__law_bits.qual d__law_bits.scope (He.fAd K d__law_bits.at_) cdv A outer s H E) ⟨th K, F0, B⟩ := ⟨⟨rfl, sc__law_bits.nd, u128 b.rm⟩, rfl⟩
  exact gss_cons (gs_set (own := true) (i := 2) x.nd (pg_lst pga_nil) (.inl rfl)) (gss_cons (gs_for b.po x.calm (i_r1 (st := true) (He.free_ok KX G (c.fact 2 (f := .free "range") rfl)) (g_var 1 (.inl rfl))) (t_name x.toXB 3 (.inl rfl) (.inl rfl)) (gss_cons (gs_append (i := 2) (g_bin (ob_mod x.toXB) (g_var 0 (.inl rfl)) (g_int)) (.inl rfl)) (gss_one (gs_set (own := false) (i := 0) x.nd (g_bin (ob_div x.toXB) (g_var 0 (.inl rfl)) (g_int)) (.inl rfl))))) (gss_one (gs_ret (g_var 2 (.inl rfl)))))
theorem ok__law_row (KX : K.In h) (G : h.Ns mainGlobals mg) (c : SaysX fa fn xf K) : Fine P w K mg base (th K) 2 d__law_row 2 R__law_row := by
  obtain ⟨fd, F⟩ := c.def_ 2 (d := d__law_row) rfl
  refine ⟨fd, _, fn_ok F sc__law_row rfl (fun cdv A outer s H E F0 B L b => ?_), F.bindsN (fun _ _ _ _ _ _ us hl => match us, hl with | [_, _], _ => rfl), F.kp⟩
  have x : XC (BX P w K mg base N__law_row d__law_row.qual d__law_row.scope (He.fAd K d__law_row.at_) cdv A outer s H E) ⟨th K, F0, B⟩ := ⟨⟨rfl, sc__law_row.nd, u128 b.rm⟩, rfl⟩
  exact gss_cons (gs_set (own := false) (i := 2) x.nd (g_bin (ob_add x.toXB) (g_bin (ob_add x.toXB) (g_ix x.toXB (g_var 0 (.inr (.inl rfl))) (g_int)) (g_bin (ob_mul x.toXB) (g_int) (g_ix x.toXB (g_var 0 (.inr (.inl rfl))) (g_int)))) (g_bin (ob_mul x.toXB) (g_bin (ob_mul x.toXB) (g_int) (g_int)) (g_ix x.toXB (g_var 0 (.inr (.inl rfl))) (g_int)))) (.inl rfl)) (gss_cons (gs_if (t_cmp (oc_eq x.toXB) (g_bin (ob_mod x.toXB) (g_ix x.toXB (g_var 0 (.inr (.inl rfl))) (g_int)) (g_int)) (g_int)) (gss_one (gs_set (own := false) (i := 2) x.nd (pg_neg (g_bin (ob_mod x.toXB) (g_ix x.toXB (g_var 0 (.inr (.inl rfl))) (g_int)) (g_int))) (.inl rfl))) (gss_nil)) (gss_cons (gs_set (own := false) (i := 3) x.nd (g_call (R := R__law_bits) (k := 1) (m := 2) (Fine.call (dd := d__law_bits) (ok__law_bits KX G c)) b.rm (by decide) b.tk (He.glo_ok KX G (c.fact 3 (f := .glo "_law_bits") rfl)) (g_cons (g_var 2 (.inl rfl)) (g_cons (g_var 1 (.inl rfl)) pga_nil))) (.inr rfl)) (gss_cons (gs_if (t_cmp (oc_eq x.toXB) (g_bin (ob_mod x.toXB) (g_ix x.toXB (g_var 0 (.inr (.inl rfl))) (g_int)) (g_int)) (g_int)) (gss_one (gs_set (own := false) (i := 3) x.nd (pg_lc (own := [("_law_k", 4)]) (by decide) x.calm x.nd (i_r1 (st := false) (He.free_ok KX G (c.fact 2 (f := .free "range") rfl)) (g_var 1 (.inl rfl))) (blkOk_by (N := N__law_row) (sc := defScope st__law_row) (by decide +kernel)) (fun _ _ _ _ _ => t_name x.blk.toXB 4 (.inl rfl) (.inr rfl)) (fun _ _ _ _ _ => pgts_nil) (fun _ _ _ _ _ => g_ix x.blk.toXB (g_var 3 (by first | exact .inr (.inl rfl) | exact .inr (.inr rfl))) (g_bin (ob_mod x.blk.toXB) (g_var 4 (.inl rfl)) (g_bin (ob_add x.blk.toXB) (g_int) (g_bin (ob_mod x.blk.toXB) (g_ix x.blk.toXB (g_var 0 (by first | exact .inr (.inl rfl) | exact .inr (.inr rfl))) (g_int)) (g_int))))) (fun _ => rfl)) (.inr rfl))) (gss_nil)) (gss_one (gs_ret (g_var 3 (.inr (.inl rfl))))))))
theorem ok__law_plan (KX : K.In h) (G : h.Ns mainGlobals mg) (c : SaysX fa fn xf K) : Fine P w K mg base (th K) 3 d__law_plan 1 R__law_plan := by
  obtain ⟨fd, F⟩ := c.def_ 3 (d := d__law_plan) rfl
  refine ⟨fd, _, fn_ok F sc__law_plan rfl (fun cdv A outer s H E F0 B L b => ?_), F.bindsN (fun _ _ _ _ _ _ us hl => match us, hl with | [_], _ => rfl), F.kp⟩
  have x : XC (BX P w K mg base N__law_plan d__law_plan.qual d__law_plan.scope (He.fAd K d__law_plan.at_) cdv A outer s H E) ⟨th K, F0, B⟩ := ⟨⟨rfl, sc__law_plan.nd, u128 b.rm⟩, rfl⟩
  exact gss_cons (gs_set (own := false) (i := 1) x.nd (g_bin (ob_add x.toXB) (g_int) (g_bin (ob_mod x.toXB) (g_ix x.toXB (g_var 0 (.inl rfl)) (g_int)) (g_ix x.toXB (pg_lst (g_cons (g_int) (g_cons (g_int) (g_cons (g_int) (g_cons (g_int) (g_cons (g_int) pga_nil)))))) (g_bin (ob_mod x.toXB) (g_ix x.toXB (g_var 0 (.inl rfl)) (g_int)) (g_int))))) (.inl rfl)) (gss_cons (gs_set (own := false) (i := 2) x.nd (g_bin (ob_add x.toXB) (g_int) (g_bin (ob_mod x.toXB) (g_ix x.toXB (g_var 0 (.inl rfl)) (g_int)) (g_ix x.toXB (pg_lst (g_cons (g_int) (g_cons (g_int) (g_cons (g_int) (g_cons (g_int) (g_cons (g_int) pga_nil)))))) (g_bin (ob_mod x.toXB) (g_ix x.toXB (g_var 0 (.inl rfl)) (g_int)) (g_int))))) (.inl rfl)) (gss_one (gs_ret (pg_tup (g_cons (g_bin (ob_mod x.toXB) (g_ix x.toXB (g_var 0 (.inl rfl)) (g_int)) (g_int)) (g_cons (g_call (R := R__law_row) (k := 2) (m := 2) (Fine.call (dd := d__law_row) (ok__law_row KX G c)) b.rm (by decide) b.tk (He.glo_ok KX G (c.fact 4 (f := .glo "_law_row") rfl)) (g_cons (g_sl x.toXB (g_var 0 (.inl rfl)) (pgo_some (g_int)) pgo_none) (g_cons (g_bin (ob_sub x.toXB) (g_var 1 (.inl rfl)) (g_int)) pga_nil))) (g_cons (g_call (R := R__law_row) (k := 2) (m := 2) (Fine.call (dd := d__law_row) (ok__law_row KX G c)) b.rm (by decide) b.tk (He.glo_ok KX G (c.fact 4 (f := .glo "_law_row") rfl)) (g_cons (g_sl x.toXB (g_var 0 (.inl rfl)) (pgo_some (g_int)) pgo_none) (g_cons (g_bin (ob_sub x.toXB) (g_var 2 (.inl rfl)) (g_int)) pga_nil))) pga_nil)))))))
theorem ok_bits_text (KX : K.In h) (G : h.Ns mainGlobals mg) (c : SaysX fa fn xf K) : Fine P w K mg base (th K) 1 d_bits_text 1 R_bits_text := by
  obtain ⟨fd, F⟩ := c.def_ 4 (d := d_bits_text) rfl
  refine ⟨fd, _, fn_ok F sc_bits_text rfl (fun cdv A outer s H E F0 B L b => ?_), F.bindsN (fun _ _ _ _ _ _ us hl => match us, hl with | [_], _ => rfl), F.kp⟩
  have x : XC (BX P w K mg base N_bits_text d_bits_text.qual d_bits_text.scope (He.fAd K d_bits_text.at_) cdv A outer s H E) ⟨th K, F0, B⟩ := ⟨⟨rfl, sc_bits_text.nd, u128 b.rm⟩, rfl⟩
  exact gss_cons (gs_if (t_cmp (oc_eq x.toXB) (g_var 0 (.inl rfl)) (pg_lst pga_nil)) (gss_one (gs_ret (g_str))) (gss_nil)) (gss_one (gs_ret (g_join x.toXB.K (g_str) (pg_lc (own := [("bit", 1)]) (by decide) x.calm x.nd (i_list (st := false) x.toXB (g_var 0 (.inl rfl))) (blkOk_by (N := N_bits_text) (sc := defScope st_bits_text) (by decide +kernel)) (fun _ _ _ _ _ => t_name x.blk.toXB 1 (.inl rfl) (.inr rfl)) (fun _ _ _ _ _ => pgts_nil) (fun _ _ _ _ _ => g_bi (bf_str x.blk.toXB) (He.free_ok KX G (c.fact 5 (f := .free "str") rfl)) (g_cons (g_var 1 (.inl rfl)) pga_nil)) (fun _ => rfl)))))
theorem ok_Cloth_rows (KX : K.In h) (G : h.Ns mainGlobals mg) (c : SaysX fa fn xf K) : Fine P w K mg base (th K) 1 d_Cloth_rows 1 R_Cloth_rows := by
  obtain ⟨fd, F⟩ := c.def_ 5 (d := d_Cloth_rows) rfl
  refine ⟨fd, _, fn_ok F sc_Cloth_rows rfl (fun cdv A outer s H E F0 B L b => ?_), F.bindsN (fun _ _ _ _ _ _ us hl => match us, hl with | [_], _ => rfl), F.kp⟩
  have x : XC (BX P w K mg base N_Cloth_rows d_Cloth_rows.qual d_Cloth_rows.scope (He.fAd K d_Cloth_rows.at_) cdv A outer s H E) ⟨th K, F0, B⟩ := ⟨⟨rfl, sc_Cloth_rows.nd, u128 b.rm⟩, rfl⟩
  exact gss_one (gs_ret (g_bi (bf_list x.toXB) (He.free_ok KX G (c.fact 8 (f := .free "list") rfl)) (g_cons (g_fld x.toXB (fldOk_of (l := [(20, 2)]) ⟨⟨(He.cls_ok (c.fact 6 (f := .cls "Cloth") rfl)), (He.noat_ok (c.fact 7 (f := .noat "Cloth" "level") rfl)), rfl, (by decide : (cflds 20).Nodup)⟩, trivial⟩) (g_var 0 (.inl rfl))) pga_nil)))
theorem ok_Cloth_cols (KX : K.In h) (G : h.Ns mainGlobals mg) (c : SaysX fa fn xf K) : Fine P w K mg base (th K) 1 d_Cloth_cols 1 R_Cloth_cols := by
  obtain ⟨fd, F⟩ := c.def_ 6 (d := d_Cloth_cols) rfl
  refine ⟨fd, _, fn_ok F sc_Cloth_cols rfl (fun cdv A outer s H E F0 B L b => ?_), F.bindsN (fun _ _ _ _ _ _ us hl => match us, hl with | [_], _ => rfl), F.kp⟩
  have x : XC (BX P w K mg base N_Cloth_cols d_Cloth_cols.qual d_Cloth_cols.scope (He.fAd K d_Cloth_cols.at_) cdv A outer s H E) ⟨th K, F0, B⟩ := ⟨⟨rfl, sc_Cloth_cols.nd, u128 b.rm⟩, rfl⟩
  exact gss_one (gs_ret (g_bi (bf_list x.toXB) (He.free_ok KX G (c.fact 8 (f := .free "list") rfl)) (g_cons (g_fld x.toXB (fldOk_of (l := [(20, 1)]) ⟨⟨(He.cls_ok (c.fact 6 (f := .cls "Cloth") rfl)), (He.noat_ok (c.fact 9 (f := .noat "Cloth" "upright") rfl)), rfl, (by decide : (cflds 20).Nodup)⟩, trivial⟩) (g_var 0 (.inl rfl))) pga_nil)))
theorem ok_Cloth_shade (KX : K.In h) (G : h.Ns mainGlobals mg) (c : SaysX fa fn xf K) : Fine P w K mg base (th K) 1 d_Cloth_shade 1 R_Cloth_shade := by
  obtain ⟨fd, F⟩ := c.def_ 7 (d := d_Cloth_shade) rfl
  refine ⟨fd, _, fn_ok F sc_Cloth_shade rfl (fun cdv A outer s H E F0 B L b => ?_), F.bindsN (fun _ _ _ _ _ _ us hl => match us, hl with | [_], _ => rfl), F.kp⟩
  have x : XC (BX P w K mg base N_Cloth_shade d_Cloth_shade.qual d_Cloth_shade.scope (He.fAd K d_Cloth_shade.at_) cdv A outer s H E) ⟨th K, F0, B⟩ := ⟨⟨rfl, sc_Cloth_shade.nd, u128 b.rm⟩, rfl⟩
  exact gss_one (gs_ret (g_fld x.toXB (fldOk_of (l := [(20, 0)]) ⟨⟨(He.cls_ok (c.fact 6 (f := .cls "Cloth") rfl)), (He.noat_ok (c.fact 10 (f := .noat "Cloth" "corner") rfl)), rfl, (by decide : (cflds 20).Nodup)⟩, trivial⟩) (g_var 0 (.inl rfl))))
theorem ok_cloth_text (KX : K.In h) (G : h.Ns mainGlobals mg) (c : SaysX fa fn xf K) : Fine P w K mg base (th K) 2 d_cloth_text 1 R_cloth_text := by
  obtain ⟨fd, F⟩ := c.def_ 8 (d := d_cloth_text) rfl
  refine ⟨fd, _, fn_ok F sc_cloth_text rfl (fun cdv A outer s H E F0 B L b => ?_), F.bindsN (fun _ _ _ _ _ _ us hl => match us, hl with | [_], _ => rfl), F.kp⟩
  have x : XC (BX P w K mg base N_cloth_text d_cloth_text.qual d_cloth_text.scope (He.fAd K d_cloth_text.at_) cdv A outer s H E) ⟨th K, F0, B⟩ := ⟨⟨rfl, sc_cloth_text.nd, u128 b.rm⟩, rfl⟩
  exact gss_one (gs_ret (g_bin (ob_add x.toXB) (g_bin (ob_add x.toXB) (g_bin (ob_add x.toXB) (g_bin (ob_add x.toXB) (g_bi (bf_str x.toXB) (He.free_ok KX G (c.fact 5 (f := .free "str") rfl)) (g_cons (g_mt0 (l := [(20, R_Cloth_shade)]) b.rm b.tk ⟨⟨_, (by decide), Fine.met (dd := d_Cloth_shade) (k := 1) (ok_Cloth_shade KX G c) (He.cls_ok (c.fact 6 (f := .cls "Cloth") rfl)) (He.meth_ok (c.fact 11 (f := .meth "Cloth" "shade") rfl)) (by decide : ("shade" : Str) ∉ cflds 20)⟩, trivial⟩ (g_var 0 (.inl rfl))) pga_nil)) (g_str)) (g_call (R := R_bits_text) (k := 1) (m := 1) (Fine.call (dd := d_bits_text) (ok_bits_text KX G c)) b.rm (by decide) b.tk (He.glo_ok KX G (c.fact 13 (f := .glo "bits_text") rfl)) (g_cons (g_mt0 (l := [(20, R_Cloth_cols)]) b.rm b.tk ⟨⟨_, (by decide), Fine.met (dd := d_Cloth_cols) (k := 1) (ok_Cloth_cols KX G c) (He.cls_ok (c.fact 6 (f := .cls "Cloth") rfl)) (He.meth_ok (c.fact 12 (f := .meth "Cloth" "cols") rfl)) (by decide : ("cols" : Str) ∉ cflds 20)⟩, trivial⟩ (g_var 0 (.inl rfl))) pga_nil))) (g_str)) (g_call (R := R_bits_text) (k := 1) (m := 1) (Fine.call (dd := d_bits_text) (ok_bits_text KX G c)) b.rm (by decide) b.tk (He.glo_ok KX G (c.fact 13 (f := .glo "bits_text") rfl)) (g_cons (g_mt0 (l := [(20, R_Cloth_rows)]) b.rm b.tk ⟨⟨_, (by decide), Fine.met (dd := d_Cloth_rows) (k := 1) (ok_Cloth_rows KX G c) (He.cls_ok (c.fact 6 (f := .cls "Cloth") rfl)) (He.meth_ok (c.fact 14 (f := .meth "Cloth" "rows") rfl)) (by decide : ("rows" : Str) ∉ cflds 20)⟩, trivial⟩ (g_var 0 (.inl rfl))) pga_nil))))
theorem ok__law_text (KX : K.In h) (G : h.Ns mainGlobals mg) (c : SaysX fa fn xf K) : Fine P w K mg base (th K) 1 d__law_text 1 R__law_text := by
  obtain ⟨fd, F⟩ := c.def_ 9 (d := d__law_text) rfl
  refine ⟨fd, _, fn_ok F sc__law_text rfl (fun cdv A outer s H E F0 B L b => ?_), F.bindsN (fun _ _ _ _ _ _ us hl => match us, hl with | [_], _ => rfl), F.kp⟩
  have x : XC (BX P w K mg base N__law_text d__law_text.qual d__law_text.scope (He.fAd K d__law_text.at_) cdv A outer s H E) ⟨th K, F0, B⟩ := ⟨⟨rfl, sc__law_text.nd, u128 b.rm⟩, rfl⟩
  exact gss_cons (gs_set (own := true) (i := 1) x.nd (pg_lst (g_cons (g_bi (bf_str x.toXB) (He.free_ok KX G (c.fact 5 (f := .free "str") rfl)) (g_cons (g_ix x.toXB (g_var 0 (.inl rfl)) (g_int)) pga_nil)) pga_nil)) (.inl rfl)) (gss_cons (gs_for b.po x.calm (i_list (st := true) x.toXB (g_sl x.toXB (g_var 0 (.inl rfl)) (pgo_some (g_int)) pgo_none)) (t_name x.toXB 2 (.inl rfl) (.inl rfl)) (gss_cons (gs_set (own := false) (i := 3) x.nd (g_join x.toXB.K (g_str) (pg_lc (own := [("_law_bit", 4)]) (by decide) x.calm x.nd (i_list (st := false) x.toXB (g_var 2 (.inl rfl))) (blkOk_by (N := N__law_text) (sc := defScope st__law_text) (by decide +kernel)) (fun _ _ _ _ _ => t_name x.blk.toXB 4 (.inl rfl) (.inr rfl)) (fun _ _ _ _ _ => pgts_nil) (fun _ _ _ _ _ => g_bi (bf_str x.blk.toXB) (He.free_ok KX G (c.fact 5 (f := .free "str") rfl)) (g_cons (g_var 4 (.inl rfl)) pga_nil)) (fun _ => rfl))) (.inl rfl)) (gss_cons (gs_if (t_cmp (oc_eq x.toXB) (g_var 2 (.inl rfl)) (pg_lst pga_nil)) (gss_one (gs_set (own := false) (i := 3) x.nd (g_str) (.inl rfl))) (gss_nil)) (gss_one (gs_append (i := 1) (g_var 3 (.inl rfl)) (.inl rfl)))))) (gss_one (gs_frz 1 (gs_ret (g_join x.toXB.K (g_str) (g_var 1 (.inl rfl)))))))
theorem ok_ask_bits (KX : K.In h) (G : h.Ns mainGlobals mg) (c : SaysX fa fn xf K) : Fine P w K mg base (th K) 1 d_ask_bits 1 R_ask_bits := by
  obtain ⟨fd, F⟩ := c.def_ 10 (d := d_ask_bits) rfl
  refine ⟨fd, _, fn_ok F sc_ask_bits rfl (fun cdv A outer s H E F0 B L b => ?_), F.bindsN (fun _ _ _ _ _ _ us hl => match us, hl with | [_], _ => rfl), F.kp⟩
  have x : XC (BX P w K mg base N_ask_bits d_ask_bits.qual d_ask_bits.scope (He.fAd K d_ask_bits.at_) cdv A outer s H E) ⟨th K, F0, B⟩ := ⟨⟨rfl, sc_ask_bits.nd, u128 b.rm⟩, rfl⟩
  exact gss_one (gs_for b.po x.calm (i_list (st := true) x.toXB (g_var 0 (.inl rfl))) (t_name x.toXB 1 (.inl rfl) (.inl rfl)) (gss_one (gs_if (t_pw (pgw_and (t_cmp (oc_ne x.toXB) (g_var 1 (.inl rfl)) (g_int)) (pw_and1 (t_cmp (oc_ne x.toXB) (g_var 1 (.inl rfl)) (g_int))))) (gss_one (g_raise x b.tk (He.glo_ok KX G (c.fact 15 (f := .glo "BadBit") rfl)) (He.exc_ok (c.fact 16 (f := .exc "BadBit") rfl)))) (gss_nil))))
theorem ok_Cloth___init__ (KX : K.In h) (G : h.Ns mainGlobals mg) (c : SaysX fa fn xf K) : FineI P w K mg base (th K) 2 20 d_Cloth___init__ 3 R_Cloth___init__ := by
  obtain ⟨fd, F⟩ := c.def_ 11 (d := d_Cloth___init__) rfl
  refine ⟨fd, _, init_ok F sc_Cloth___init__ rfl rfl (fun cdv A outer s H E F0 B L b => ?_), F.bindsN (fun _ _ _ _ _ _ us hl => match us, hl with | [_, _, _, _], _ => rfl)⟩
  have x : XC (BX P w K mg base N_Cloth___init__ d_Cloth___init__.qual d_Cloth___init__.scope (He.fAd K d_Cloth___init__.at_) cdv A outer s H E) ⟨th K, F0, B⟩ := ⟨⟨rfl, sc_Cloth___init__.nd, u128 b.rm⟩, rfl⟩
  exact gss_cons (gs_if (t_pw (pgw_or (t_cmp (oc_ge x.toXB) (g_bi (bf_len x.toXB) (He.free_ok KX G (c.fact 1 (f := .free "len") rfl)) (g_cons (g_var 2 (.inl rfl)) pga_nil)) (g_globI (He.int_ok KX G (c.fact 17 (f := .int "MOST" 40) rfl)))) (pw_or1 (t_cmp (oc_ge x.toXB) (g_bi (bf_len x.toXB) (He.free_ok KX G (c.fact 1 (f := .free "len") rfl)) (g_cons (g_var 3 (.inl rfl)) pga_nil)) (g_globI (He.int_ok KX G (c.fact 17 (f := .int "MOST" 40) rfl))))))) (gss_one (g_raise x b.tk (He.glo_ok KX G (c.fact 18 (f := .glo "BadSize") rfl)) (He.exc_ok (c.fact 19 (f := .exc "BadSize") rfl)))) (gss_nil)) (gss_cons (gs_drop (g_call (R := R_ask_bits) (k := 1) (m := 1) (Fine.call (dd := d_ask_bits) (ok_ask_bits KX G c)) b.rm (by decide) b.tk (He.glo_ok KX G (c.fact 20 (f := .glo "ask_bits") rfl)) (g_cons (g_bin (ob_add x.toXB) (g_bin (ob_add x.toXB) (pg_lst (g_cons (g_var 1 (.inl rfl)) pga_nil)) (g_bi (bf_list x.toXB) (He.free_ok KX G (c.fact 8 (f := .free "list") rfl)) (g_cons (g_var 2 (.inl rfl)) pga_nil))) (g_bi (bf_list x.toXB) (He.free_ok KX G (c.fact 8 (f := .free "list") rfl)) (g_cons (g_var 3 (.inl rfl)) pga_nil))) pga_nil))) (gss_cons (gs_fld (i := 0) (fx := fxOne 20 0) (g_var 1 (.inl rfl)) (fx_of rfl (by decide : ("corner" : Str) ∉ (cflds 20).take 0) (He.cls_ok (c.fact 6 (f := .cls "Cloth") rfl)) (He.noat_ok (c.fact 10 (f := .noat "Cloth" "corner") rfl)) (by decide)) (.inl rfl)) (gss_cons (gs_fld (i := 0) (fx := fxOne 20 1) (g_bi (bf_list x.toXB) (He.free_ok KX G (c.fact 8 (f := .free "list") rfl)) (g_cons (g_var 2 (.inl rfl)) pga_nil)) (fx_of rfl (by decide : ("upright" : Str) ∉ (cflds 20).take 1) (He.cls_ok (c.fact 6 (f := .cls "Cloth") rfl)) (He.noat_ok (c.fact 9 (f := .noat "Cloth" "upright") rfl)) (by decide)) (.inl rfl)) (gss_one (gs_fld (i := 0) (fx := fxOne 20 2) (g_bi (bf_list x.toXB) (He.free_ok KX G (c.fact 8 (f := .free "list") rfl)) (g_cons (g_var 3 (.inl rfl)) pga_nil)) (fx_of rfl (by decide : ("level" : Str) ∉ (cflds 20).take 2) (He.cls_ok (c.fact 6 (f := .cls "Cloth") rfl)) (He.noat_ok (c.fact 7 (f := .noat "Cloth" "level") rfl)) (by decide)) (.inl rfl))))))
theorem ok__law_made (KX : K.In h) (G : h.Ns mainGlobals mg) (c : SaysX fa fn xf K) : Fine P w K mg base (th K) 4 d__law_made 1 R__law_made := by
  obtain ⟨fd, F⟩ := c.def_ 12 (d := d__law_made) rfl
  refine ⟨fd, _, fn_ok F sc__law_made rfl (fun cdv A outer s H E F0 B L b => ?_), F.bindsN (fun _ _ _ _ _ _ us hl => match us, hl with | [_], _ => rfl), F.kp⟩
  have x : XC (BX P w K mg base N__law_made d__law_made.qual d__law_made.scope (He.fAd K d__law_made.at_) cdv A outer s H E) ⟨th K, F0, B⟩ := ⟨⟨rfl, sc__law_made.nd, u128 b.rm⟩, rfl⟩
  exact gss_one (gs_ret (g_make (R := R_Cloth___init__) (k := 2) (m := 3) (cn := 20) (FineI.make (dd := d_Cloth___init__) (ok_Cloth___init__ KX G c) (He.mkr_ok (c.fact 21 (f := .mkr "Cloth") rfl))) b.rm (by decide) b.tk (He.glo_ok KX G (c.fact 22 (f := .glo "Cloth") rfl)) (g_cons (g_ix x.toXB (g_var 0 (.inl rfl)) (g_int)) (g_cons (g_bi (bf_list x.toXB) (He.free_ok KX G (c.fact 8 (f := .free "list") rfl)) (g_cons (g_ix x.toXB (g_var 0 (.inl rfl)) (g_int)) pga_nil)) (g_cons (g_bi (bf_list x.toXB) (He.free_ok KX G (c.fact 8 (f := .free "list") rfl)) (g_cons (g_ix x.toXB (g_var 0 (.inl rfl)) (g_int)) pga_nil)) pga_nil)))))
theorem ok__law_spoilt (KX : K.In h) (G : h.Ns mainGlobals mg) (c : SaysX fa fn xf K) : Fine P w K mg base (th K) 1 d__law_spoilt 2 R__law_spoilt := by
  obtain ⟨fd, F⟩ := c.def_ 13 (d := d__law_spoilt) rfl
  refine ⟨fd, _, fn_ok F sc__law_spoilt rfl (fun cdv A outer s H E F0 B L b => ?_), F.bindsN (fun _ _ _ _ _ _ us hl => match us, hl with | [_, _], _ => rfl), F.kp⟩
  have x : XC (BX P w K mg base N__law_spoilt d__law_spoilt.qual d__law_spoilt.scope (He.fAd K d__law_spoilt.at_) cdv A outer s H E) ⟨th K, F0, B⟩ := ⟨⟨rfl, sc__law_spoilt.nd, u128 b.rm⟩, rfl⟩
  exact gss_cons (gs_set (own := false) (i := 2) x.nd (g_str) (.inl rfl)) (gss_cons (gs_set (own := false) (i := 3) x.nd (g_bin (ob_mod x.toXB) (g_bi (bf_abs x.toXB) (He.free_ok KX G (c.fact 0 (f := .free "abs") rfl)) (g_cons (g_ix x.toXB (g_var 1 (.inl rfl)) (g_int)) pga_nil)) (g_bin (ob_add x.toXB) (g_bi (bf_len x.toXB) (He.free_ok KX G (c.fact 1 (f := .free "len") rfl)) (g_cons (g_var 0 (.inl rfl)) pga_nil)) (g_int))) (.inl rfl)) (gss_cons (gs_set (own := false) (i := 4) x.nd (g_ix x.toXB (g_var 2 (.inl rfl)) (g_bin (ob_mod x.toXB) (g_bi (bf_abs x.toXB) (He.free_ok KX G (c.fact 0 (f := .free "abs") rfl)) (g_cons (g_ix x.toXB (g_var 1 (.inl rfl)) (g_int)) pga_nil)) (g_bi (bf_len x.toXB) (He.free_ok KX G (c.fact 1 (f := .free "len") rfl)) (g_cons (g_var 2 (.inl rfl)) pga_nil)))) (.inl rfl)) (gss_cons (gs_if (t_cmp (oc_eq x.toXB) (g_bin (ob_mod x.toXB) (g_ix x.toXB (g_var 1 (.inl rfl)) (g_int)) (g_int)) (g_int)) (gss_one (gs_set (own := false) (i := 4) x.nd (g_ix x.toXB (g_str) (g_bin (ob_mod x.toXB) (g_bi (bf_abs x.toXB) (He.free_ok KX G (c.fact 0 (f := .free "abs") rfl)) (g_cons (g_ix x.toXB (g_var 1 (.inl rfl)) (g_int)) pga_nil)) (g_int))) (.inl rfl))) (gss_nil)) (gss_cons (gs_set (own := false) (i := 5) x.nd (g_split (g_var 0 (.inl rfl)) (g_str)) (.inl rfl)) (gss_cons (gs_set (own := false) (i := 6) x.nd (g_bin (ob_mod x.toXB) (g_bi (bf_abs x.toXB) (He.free_ok KX G (c.fact 0 (f := .free "abs") rfl)) (g_cons (g_ix x.toXB (g_var 1 (.inl rfl)) (g_int)) pga_nil)) (g_bi (bf_len x.toXB) (He.free_ok KX G (c.fact 1 (f := .free "len") rfl)) (g_cons (g_var 5 (.inl rfl)) pga_nil))) (.inl rfl)) (gss_cons (gs_set (own := false) (i := 7) x.nd (g_bin (ob_mod x.toXB) (g_ix x.toXB (g_var 1 (.inl rfl)) (g_int)) (g_int)) (.inl rfl)) (gss_cons (gs_if (t_cmp (oc_eq x.toXB) (g_var 7 (.inl rfl)) (g_int)) (gss_one (gs_ret (g_bin (ob_add x.toXB) (g_bin (ob_add x.toXB) (g_slS (g_var 0 (.inl rfl)) pgo_none (pgo_some (g_var 3 (.inl rfl)))) (g_var 4 (.inl rfl))) (g_slS (g_var 0 (.inl rfl)) (pgo_some (g_var 3 (.inl rfl))) pgo_none)))) (gss_nil)) (gss_cons (gs_if (t_cmp (oc_eq x.toXB) (g_var 7 (.inl rfl)) (g_int)) (gss_one (gs_ret (g_bin (ob_add x.toXB) (g_slS (g_var 0 (.inl rfl)) pgo_none (pgo_some (g_var 3 (.inl rfl)))) (g_slS (g_var 0 (.inl rfl)) (pgo_some (g_bin (ob_add x.toXB) (g_var 3 (.inl rfl)) (g_int))) pgo_none)))) (gss_nil)) (gss_cons (gs_if (t_cmp (oc_eq x.toXB) (g_var 7 (.inl rfl)) (g_int)) (gss_one (gs_ret (g_bin (ob_add x.toXB) (g_bin (ob_add x.toXB) (g_slS (g_var 0 (.inl rfl)) pgo_none (pgo_some (g_var 3 (.inl rfl)))) (g_var 4 (.inl rfl))) (g_slS (g_var 0 (.inl rfl)) (pgo_some (g_bin (ob_add x.toXB) (g_var 3 (.inl rfl)) (g_int))) pgo_none)))) (gss_nil)) (gss_cons (gs_if (t_cmp (oc_eq x.toXB) (g_var 7 (.inl rfl)) (g_int)) (gss_one (gs_ret (g_join x.toXB.K (g_str) (g_bin (ob_add x.toXB) (g_sl x.toXB (g_var 5 (.inl rfl)) pgo_none (pgo_some (g_var 6 (.inl rfl)))) (g_sl x.toXB (g_var 5 (.inl rfl)) (pgo_some (g_bin (ob_add x.toXB) (g_var 6 (.inl rfl)) (g_int))) pgo_none))))) (gss_nil)) (gss_cons (gs_if (t_cmp (oc_eq x.toXB) (g_var 7 (.inl rfl)) (g_int)) (gss_one (gs_ret (g_join x.toXB.K (g_str) (g_bin (ob_add x.toXB) (g_bin (ob_add x.toXB) (g_sl x.toXB (g_var 5 (.inl rfl)) pgo_none (pgo_some (g_var 6 (.inl rfl)))) (pg_lst (g_cons (g_ix x.toXB (g_var 5 (.inl rfl)) (g_var 6 (.inl rfl))) pga_nil))) (g_sl x.toXB (g_var 5 (.inl rfl)) (pgo_some (g_var 6 (.inl rfl))) pgo_none))))) (gss_nil)) (gss_cons (gs_if (t_cmp (oc_eq x.toXB) (g_var 7 (.inl rfl)) (g_int)) (gss_one (gs_ret (g_join x.toXB.K (g_str) (g_bin (ob_add x.toXB) (g_sl x.toXB (g_var 5 (.inl rfl)) (pgo_some (g_var 6 (.inl rfl))) pgo_none) (g_sl x.toXB (g_var 5 (.inl rfl)) pgo_none (pgo_some (g_var 6 (.inl rfl)))))))) (gss_nil)) (gss_cons (gs_set (own := false) (i := 8) x.nd (g_split (g_var 0 (.inl rfl)) (g_str)) (.inl rfl)) (gss_cons (gs_set (own := false) (i := 9) x.nd (g_bin (ob_mod x.toXB) (g_bi (bf_abs x.toXB) (He.free_ok KX G (c.fact 0 (f := .free "abs") rfl)) (g_cons (g_ix x.toXB (g_var 1 (.inl rfl)) (g_int)) pga_nil)) (g_bi (bf_len x.toXB) (He.free_ok KX G (c.fact 1 (f := .free "len") rfl)) (g_cons (g_var 8 (.inl rfl)) pga_nil))) (.inl rfl)) (gss_cons (gs_if (t_cmp (oc_eq x.toXB) (g_var 7 (.inl rfl)) (g_int)) (gss_one (gs_ret (g_join x.toXB.K (g_str) (g_bin (ob_add x.toXB) (g_sl x.toXB (g_var 8 (.inl rfl)) pgo_none (pgo_some (g_var 9 (.inl rfl)))) (g_sl x.toXB (g_var 8 (.inl rfl)) (pgo_some (g_bin (ob_add x.toXB) (g_var 9 (.inl rfl)) (g_int))) pgo_none))))) (gss_nil)) (gss_one (gs_ret (g_join x.toXB.K (g_str) (g_bin (ob_add x.toXB) (g_bin (ob_add x.toXB) (g_sl x.toXB (g_var 8 (.inl rfl)) pgo_none (pgo_some (g_var 9 (.inl rfl)))) (pg_lst (g_cons (g_ix x.toXB (g_var 8 (.inl rfl)) (g_var 9 (.inl rfl))) pga_nil))) (g_sl x.toXB (g_var 8 (.inl rfl)) (pgo_some (g_var 9 (.inl rfl))) pgo_none))))))))))))))))))))
theorem okn__law_same (KX : K.In h) (G : h.Ns mainGlobals mg) (c : SaysX fa fn xf K) : ∀ n : Nat, Fine P w K mg base (th K) (1 + n) d__law_same 2 (RR__law_same n)
  | 0 => by
    obtain ⟨fd, F⟩ := c.def_ 14 (d := d__law_same) rfl
    exact ⟨fd, _, fn_ok (u := fun _ => .no) (k := 0) F sc__law_same rfl (fun cdv A outer s H E F0 B L b => pss_no), F.bindsN (fun _ _ _ _ _ _ us hl => match us, hl with | [_, _], _ => rfl), F.kp⟩
  | n + 1 => by
    have ih := okn__law_same KX G c n
    obtain ⟨fd, F⟩ := c.def_ 14 (d := d__law_same) rfl
    show Fine P w K mg base (th K) (1 + n + 1) d__law_same 2 (denF N__law_same.length (S__law_same (RR__law_same n)))
    refine ⟨fd, _, fn_ok (u := S__law_same (RR__law_same n)) (k := 1 + n) F sc__law_same rfl (fun cdv A outer s H E F0 B L b => ?_), F.bindsN (fun _ _ _ _ _ _ us hl => match us, hl with | [_, _], _ => rfl), F.kp⟩
    have x : XC (BX P w K mg base N__law_same d__law_same.qual d__law_same.scope (He.fAd K d__law_same.at_) cdv A outer s H E) ⟨th K, F0, B⟩ := ⟨⟨rfl, sc__law_same.nd, u128 b.rm⟩, rfl⟩
    exact gss_cons (gs_if (t_pw (pgw_or (t_cmp (oc_ne x.toXB) (g_isi (S := "bool") x.toXB (He.free_ok KX G (c.fact 23 (f := .free "isinstance") rfl)) (He.free_ok KX G (c.fact 24 (f := .free "bool") rfl)) (by decide +kernel) (g_var 0 (.inl rfl))) (g_isi (S := "bool") x.toXB (He.free_ok KX G (c.fact 23 (f := .free "isinstance") rfl)) (He.free_ok KX G (c.fact 24 (f := .free "bool") rfl)) (by decide +kernel) (g_var 1 (.inl rfl)))) (pw_or1 (t_cmp (oc_ne x.toXB) (g_isi (S := "int") x.toXB (He.free_ok KX G (c.fact 23 (f := .free "isinstance") rfl)) (He.free_ok KX G (c.fact 25 (f := .free "int") rfl)) (by decide +kernel) (g_var 0 (.inl rfl))) (g_isi (S := "int") x.toXB (He.free_ok KX G (c.fact 23 (f := .free "isinstance") rfl)) (He.free_ok KX G (c.fact 25 (f := .free "int") rfl)) (by decide +kernel) (g_var 1 (.inl rfl))))))) (gss_one (gs_ret (g_bl))) (gss_nil)) (gss_cons (gs_if (t_pw (pgw_or (t_cmp (oc_ne x.toXB) (g_isi (S := "list") x.toXB (He.free_ok KX G (c.fact 23 (f := .free "isinstance") rfl)) (He.free_ok KX G (c.fact 8 (f := .free "list") rfl)) (by decide +kernel) (g_var 0 (.inl rfl))) (g_isi (S := "list") x.toXB (He.free_ok KX G (c.fact 23 (f := .free "isinstance") rfl)) (He.free_ok KX G (c.fact 8 (f := .free "list") rfl)) (by decide +kernel) (g_var 1 (.inl rfl)))) (pw_or1 (t_cmp (oc_ne x.toXB) (g_isi (S := "tuple") x.toXB (He.free_ok KX G (c.fact 23 (f := .free "isinstance") rfl)) (He.free_ok KX G (c.fact 26 (f := .free "tuple") rfl)) (by decide +kernel) (g_var 0 (.inl rfl))) (g_isi (S := "tuple") x.toXB (He.free_ok KX G (c.fact 23 (f := .free "isinstance") rfl)) (He.free_ok KX G (c.fact 26 (f := .free "tuple") rfl)) (by decide +kernel) (g_var 1 (.inl rfl))))))) (gss_one (gs_ret (g_bl))) (gss_nil)) (gss_cons (gs_if (t_pw (pgw_and (pgt_not (t_tru x.toXB (g_isi (S := "list") x.toXB (He.free_ok KX G (c.fact 23 (f := .free "isinstance") rfl)) (He.free_ok KX G (c.fact 8 (f := .free "list") rfl)) (by decide +kernel) (g_var 1 (.inl rfl))))) (pw_and1 (pgt_not (t_tru x.toXB (g_isi (S := "tuple") x.toXB (He.free_ok KX G (c.fact 23 (f := .free "isinstance") rfl)) (He.free_ok KX G (c.fact 26 (f := .free "tuple") rfl)) (by decide +kernel) (g_var 1 (.inl rfl)))))))) (gss_one (gs_ret (pg_and (g_cmp (oc_eq x.toXB) (g_isi (S := "str") x.toXB (He.free_ok KX G (c.fact 23 (f := .free "isinstance") rfl)) (He.free_ok KX G (c.fact 5 (f := .free "str") rfl)) (by decide +kernel) (g_var 0 (.inl rfl))) (g_isi (S := "str") x.toXB (He.free_ok KX G (c.fact 23 (f := .free "isinstance") rfl)) (He.free_ok KX G (c.fact 5 (f := .free "str") rfl)) (by decide +kernel) (g_var 1 (.inl rfl)))) (pe_one (g_cmp (oc_eq x.toXB) (g_var 0 (.inl rfl)) (g_var 1 (.inl rfl))))))) (gss_nil)) (gss_one (gs_ret (pg_and (g_cmp (oc_eq x.toXB) (g_bi (bf_len x.toXB) (He.free_ok KX G (c.fact 1 (f := .free "len") rfl)) (g_cons (g_var 0 (.inl rfl)) pga_nil)) (g_bi (bf_len x.toXB) (He.free_ok KX G (c.fact 1 (f := .free "len") rfl)) (g_cons (g_var 1 (.inl rfl)) pga_nil))) (pe_one (g_bi (bf_all x) (He.free_ok KX G (c.fact 29 (f := .free "all") rfl)) (g_cons (pg_lc (own := [("_law_one", 2), ("_law_other", 3)]) (by decide) x.calm x.nd (i_zip (st := false) x.toXB (He.free_ok KX G (c.fact 27 (f := .free "zip") rfl)) (g_var 0 (.inl rfl)) (g_var 1 (.inl rfl))) (blkOk_by (N := N__law_same) (sc := defScope st__law_same) (by decide +kernel)) (fun _ _ _ _ _ => t_tup x.blk (ts_cons (t_name x.blk.toXB 2 (.inl rfl) (.inr rfl)) (ts_cons (t_name x.blk.toXB 3 (.inl rfl) (.inr rfl)) ggs_nil))) (fun _ _ _ _ _ => pgts_nil) (fun _ _ _ _ _ => g_call (R := RR__law_same n) (k := 1 + n) (m := 2) (Fine.call (dd := d__law_same) ih) b.rm (by omega) takes_WF (He.glo_ok KX G (c.fact 28 (f := .glo "_law_same") rfl)) (g_cons (g_var 2 (.inl rfl)) (g_cons (g_var 3 (.inl rfl)) pga_nil))) (fun _ => rfl)) pga_nil))))))))
theorem ok__law_same (KX : K.In h) (G : h.Ns mainGlobals mg) (c : SaysX fa fn xf K) : Fine P w K mg base (th K) 7 d__law_same 2 R__law_same := okn__law_same KX G c 6
theorem ok__law_told (KX : K.In h) (G : h.Ns mainGlobals mg) (c : SaysX fa fn xf K) : Fine P w K mg base (th K) 2 d__law_told 1 R__law_told := by
  obtain ⟨fd, F⟩ := c.def_ 15 (d := d__law_told) rfl
  refine ⟨fd, _, fn_ok F sc__law_told rfl (fun cdv A outer s H E F0 B L b => ?_), F.bindsN (fun _ _ _ _ _ _ us hl => match us, hl with | [_], _ => rfl), F.kp⟩
  have x : XC (BX P w K mg base N__law_told d__law_told.qual d__law_told.scope (He.fAd K d__law_told.at_) cdv A outer s H E) ⟨th K, F0, B⟩ := ⟨⟨rfl, sc__law_told.nd, u128 b.rm⟩, rfl⟩
  exact gss_one (gs_ret (pg_tup (g_cons (g_mt0 (l := [(20, R_Cloth_shade)]) b.rm b.tk ⟨⟨_, (by decide), Fine.met (dd := d_Cloth_shade) (k := 1) (ok_Cloth_shade KX G c) (He.cls_ok (c.fact 6 (f := .cls "Cloth") rfl)) (He.meth_ok (c.fact 11 (f := .meth "Cloth" "shade") rfl)) (by decide : ("shade" : Str) ∉ cflds 20)⟩, trivial⟩ (g_var 0 (.inl rfl))) (g_cons (g_mt0 (l := [(20, R_Cloth_cols)]) b.rm b.tk ⟨⟨_, (by decide), Fine.met (dd := d_Cloth_cols) (k := 1) (ok_Cloth_cols KX G c) (He.cls_ok (c.fact 6 (f := .cls "Cloth") rfl)) (He.meth_ok (c.fact 12 (f := .meth "Cloth" "cols") rfl)) (by decide : ("cols" : Str) ∉ cflds 20)⟩, trivial⟩ (g_var 0 (.inl rfl))) (g_cons (g_mt0 (l := [(20, R_Cloth_rows)]) b.rm b.tk ⟨⟨_, (by decide), Fine.met (dd := d_Cloth_rows) (k := 1) (ok_Cloth_rows KX G c) (He.cls_ok (c.fact 6 (f := .cls "Cloth") rfl)) (He.meth_ok (c.fact 14 (f := .meth "Cloth" "rows") rfl)) (by decide : ("rows" : Str) ∉ cflds 20)⟩, trivial⟩ (g_var 0 (.inl rfl))) pga_nil)))))
theorem ok_bits_in (KX : K.In h) (G : h.Ns mainGlobals mg) (c : SaysX fa fn xf K) : Fine P w K mg base (th K) 1 d_bits_in 1 R_bits_in := by
  obtain ⟨fd, F⟩ := c.def_ 16 (d := d_bits_in) rfl
  refine ⟨fd, _, fn_ok F sc_bits_in rfl (fun cdv A outer s H E F0 B L b => ?_), F.bindsN (fun _ _ _ _ _ _ us hl => match us, hl with | [_], _ => rfl), F.kp⟩
  have x : XC (BX P w K mg base N_bits_in d_bits_in.qual d_bits_in.scope (He.fAd K d_bits_in.at_) cdv A outer s H E) ⟨th K, F0, B⟩ := ⟨⟨rfl, sc_bits_in.nd, u128 b.rm⟩, rfl⟩
  exact gss_cons (gs_if (t_cmp (oc_eq x.toXB) (g_var 0 (.inl rfl)) (g_str)) (gss_one (gs_ret (pg_lst pga_nil))) (gss_nil)) (gss_cons (gs_if (t_cmp (oc_eq x.toXB) (g_var 0 (.inl rfl)) (g_str)) (gss_one (g_raise x b.tk (He.glo_ok KX G (c.fact 30 (f := .glo "BadText") rfl)) (He.exc_ok (c.fact 31 (f := .exc "BadText") rfl)))) (gss_nil)) (gss_cons (gs_for b.po x.calm (i_list (st := true) x.toXB (g_var 0 (.inl rfl))) (t_name x.toXB 1 (.inl rfl) (.inl rfl)) (gss_one (gs_if (t_cmp (oc_ni x.toXB) (g_var 1 (.inl rfl)) (g_str)) (gss_one (g_raise x b.tk (He.glo_ok KX G (c.fact 30 (f := .glo "BadText") rfl)) (He.exc_ok (c.fact 31 (f := .exc "BadText") rfl)))) (gss_nil)))) (gss_one (gs_ret (pg_lc (own := [("sign", 1)]) (by decide) x.calm x.nd (i_list (st := false) x.toXB (g_var 0 (.inl rfl))) (blkOk_by (N := N_bits_in) (sc := defScope st_bits_in) (by decide +kernel)) (fun _ _ _ _ _ => t_name x.blk.toXB 1 (.inl rfl) (.inr rfl)) (fun _ _ _ _ _ => pgts_nil) (fun _ _ _ _ _ => g_intS (He.free_ok KX G (c.fact 25 (f := .free "int") rfl)) (g_var 1 (.inl rfl))) (fun _ => rfl))))))
theorem ok_cloth_in (KX : K.In h) (G : h.Ns mainGlobals mg) (c : SaysX fa fn xf K) : Fine P w K mg base (th K) 4 d_cloth_in 1 R_cloth_in := by
  obtain ⟨fd, F⟩ := c.def_ 17 (d := d_cloth_in) rfl
  refine ⟨fd, _, fn_ok F sc_cloth_in rfl (fun cdv A outer s H E F0 B L b => ?_), F.bindsN (fun _ _ _ _ _ _ us hl => match us, hl with | [_], _ => rfl), F.kp⟩
  have x : XC (BX P w K mg base N_cloth_in d_cloth_in.qual d_cloth_in.scope (He.fAd K d_cloth_in.at_) cdv A outer s H E) ⟨th K, F0, B⟩ := ⟨⟨rfl, sc_cloth_in.nd, u128 b.rm⟩, rfl⟩
  exact gss_cons (gs_if (t_pw (pgw_or (t_cmp (oc_ne x.toXB) (g_bi (bf_len x.toXB) (He.free_ok KX G (c.fact 1 (f := .free "len") rfl)) (g_cons (g_var 0 (.inl rfl)) pga_nil)) (g_int)) (pgw_or (t_cmp (oc_ne x.toXB) (g_bi (bf_len x.toXB) (He.free_ok KX G (c.fact 1 (f := .free "len") rfl)) (g_cons (g_ix x.toXB (g_var 0 (.inl rfl)) (g_int)) pga_nil)) (g_int)) (pw_or1 (t_cmp (oc_ni x.toXB) (g_ix x.toXB (g_var 0 (.inl rfl)) (g_int)) (g_str)))))) (gss_one (g_raise x b.tk (He.glo_ok KX G (c.fact 30 (f := .glo "BadText") rfl)) (He.exc_ok (c.fact 31 (f := .exc "BadText") rfl)))) (gss_nil)) (gss_one (gs_ret (g_make (R := R_Cloth___init__) (k := 2) (m := 3) (cn := 20) (FineI.make (dd := d_Cloth___init__) (ok_Cloth___init__ KX G c) (He.mkr_ok (c.fact 21 (f := .mkr "Cloth") rfl))) b.rm (by decide) b.tk (He.glo_ok KX G (c.fact 22 (f := .glo "Cloth") rfl)) (g_cons (g_intS (He.free_ok KX G (c.fact 25 (f := .free "int") rfl)) (g_ix x.toXB (g_var 0 (.inl rfl)) (g_int))) (g_cons (g_call (R := R_bits_in) (k := 1) (m := 1) (Fine.call (dd := d_bits_in) (ok_bits_in KX G c)) b.rm (by decide) b.tk (He.glo_ok KX G (c.fact 32 (f := .glo "bits_in") rfl)) (g_cons (g_ix x.toXB (g_var 0 (.inl rfl)) (g_int)) pga_nil)) (g_cons (g_call (R := R_bits_in) (k := 1) (m := 1) (Fine.call (dd := d_bits_in) (ok_bits_in KX G c)) b.rm (by decide) b.tk (He.glo_ok KX G (c.fact 32 (f := .glo "bits_in") rfl)) (g_cons (g_ix x.toXB (g_var 0 (.inl rfl)) (g_int)) pga_nil)) pga_nil))))))
theorem ok_read_cloth (KX : K.In h) (G : h.Ns mainGlobals mg) (c : SaysX fa fn xf K) : FineC P w K mg base (th K) 5 d_read_cloth 1 R_read_cloth := by
  obtain ⟨fd, F⟩ := c.def_ 18 (d := d_read_cloth) rfl
  refine ⟨fd, _, fnC_ok F sc_read_cloth rfl (fun cdv A outer s H E F0 B L b => ?_), F.bindsN (fun _ _ _ _ _ _ us hl => match us, hl with | [_], _ => rfl), F.kp⟩
  have x : XC (BXC P w K mg base N_read_cloth d_read_cloth.qual d_read_cloth.scope (He.fAd K d_read_cloth.at_) cdv A outer s H E) ⟨th K, F0, B⟩ := ⟨⟨rfl, sc_read_cloth.nd, u128 b.rm⟩, rfl⟩
  exact gss_one (gs_tryR (y := "BadText") x b.rm b.po b.tk ⟨rfl, rfl, .inl (He.glo_ok KX G (c.fact 40 (f := .glo "SewError") rfl))⟩ (hit_of (l := [(0, true), (1, true), (2, true), (3, true), (4, true), (7, true)]) ⟨(He.exm_ok (c.fact 33 (f := .exm "SewError" "SewError" true) rfl)), ⟨(He.exm_ok (c.fact 34 (f := .exm "BadSize" "SewError" true) rfl)), ⟨(He.exm_ok (c.fact 35 (f := .exm "BadBit" "SewError" true) rfl)), ⟨(He.exm_ok (c.fact 36 (f := .exm "NoCell" "SewError" true) rfl)), ⟨(He.exm_ok (c.fact 37 (f := .exm "NoLine" "SewError" true) rfl)), ⟨(He.exm_ok (c.fact 38 (f := .exm "BadText" "SewError" true) rfl)), trivial⟩⟩⟩⟩⟩⟩) (He.glo_ok KX G (c.fact 30 (f := .glo "BadText") rfl)) (He.exc_ok (c.fact 31 (f := .exc "BadText") rfl)) (fun W pn xe x b => gss_one (gs_ret (g_call (R := R_cloth_in) (k := 4) (m := 1) (Fine.call (dd := d_cloth_in) (ok_cloth_in KX G c)) b.rm (by decide) b.tk (He.glo_ok KX G (c.fact 39 (f := .glo "cloth_in") rfl)) (g_cons (g_split (g_var 0 (.inl rfl)) (g_str)) pga_nil)))))
theorem ok__law_read (KX : K.In h) (G : h.Ns mainGlobals mg) (c : SaysX fa fn xf K) : Fine P w K mg base (th K) 6 d__law_read 1 R__law_read := by
  obtain ⟨fd, F⟩ := c.def_ 19 (d := d__law_read) rfl
  refine ⟨fd, _, fn_ok F sc__law_read rfl (fun cdv A outer s H E F0 B L b => ?_), F.bindsN (fun _ _ _ _ _ _ us hl => match us, hl with | [_], _ => rfl), F.kp⟩
  have x : XC (BX P w K mg base N__law_read d__law_read.qual d__law_read.scope (He.fAd K d__law_read.at_) cdv A outer s H E) ⟨th K, F0, B⟩ := ⟨⟨rfl, sc__law_read.nd, u128 b.rm⟩, rfl⟩
  exact gss_cons (gs_tryC 2 x b ⟨rfl, rfl, .inl (He.glo_ok KX G (c.fact 40 (f := .glo "SewError") rfl))⟩ (hit_of (l := [(0, true), (1, true), (2, true), (3, true), (4, true), (7, true)]) ⟨(He.exm_ok (c.fact 33 (f := .exm "SewError" "SewError" true) rfl)), ⟨(He.exm_ok (c.fact 34 (f := .exm "BadSize" "SewError" true) rfl)), ⟨(He.exm_ok (c.fact 35 (f := .exm "BadBit" "SewError" true) rfl)), ⟨(He.exm_ok (c.fact 36 (f := .exm "NoCell" "SewError" true) rfl)), ⟨(He.exm_ok (c.fact 37 (f := .exm "NoLine" "SewError" true) rfl)), ⟨(He.exm_ok (c.fact 38 (f := .exm "BadText" "SewError" true) rfl)), trivial⟩⟩⟩⟩⟩⟩) (fun W pn xe x b tkc => gss_one (gs_set (own := false) (i := 1) x.nd (g_call (R := R__law_told) (k := 2) (m := 1) (Fine.call (dd := d__law_told) (ok__law_told KX G c)) b.rm (by decide) b.tk (He.glo_ok KX G (c.fact 42 (f := .glo "_law_told") rfl)) (g_cons (g_callC (R := R_read_cloth) (k := 5) (m := 1) (dd := d_read_cloth) (ok_read_cloth KX G c) b.rm (by decide) tkc (He.glo_ok KX G (c.fact 41 (f := .glo "read_cloth") rfl)) (g_cons (g_var 0 (.inl rfl)) pga_nil)) pga_nil)) (.inl rfl))) (fun a oe k pn xs hd hr => gss_one (gs_set (own := false) (i := 1) xs.nd (pg_tup (g_cons (g_isOC (l := [(0, false), (1, false), (2, false), (3, false), (4, false), (7, true)]) 2 hd (.inl rfl) (He.free_ok KX G (c.fact 23 (f := .free "isinstance") rfl)) (He.glo_ok KX G (c.fact 30 (f := .glo "BadText") rfl)) ⟨⟨(exC_ok (c.fx 0 (f := .exC "SewError") rfl)), (isO_ok (c.fx 1 (f := .isO "SewError" "BadText" false) rfl))⟩, ⟨⟨(exC_ok (c.fx 2 (f := .exC "BadSize") rfl)), (isO_ok (c.fx 3 (f := .isO "BadSize" "BadText" false) rfl))⟩, ⟨⟨(exC_ok (c.fx 4 (f := .exC "BadBit") rfl)), (isO_ok (c.fx 5 (f := .isO "BadBit" "BadText" false) rfl))⟩, ⟨⟨(exC_ok (c.fx 6 (f := .exC "NoCell") rfl)), (isO_ok (c.fx 7 (f := .isO "NoCell" "BadText" false) rfl))⟩, ⟨⟨(exC_ok (c.fx 8 (f := .exC "NoLine") rfl)), (isO_ok (c.fx 9 (f := .isO "NoLine" "BadText" false) rfl))⟩, ⟨⟨(exC_ok (c.fx 10 (f := .exC "BadText") rfl)), (isO_ok (c.fx 11 (f := .isO "BadText" "BadText" true) rfl))⟩, trivial⟩⟩⟩⟩⟩⟩) (g_cons (pg_or (g_isOC (l := [(0, false), (1, false), (2, true), (3, false), (4, false), (7, false)]) 2 hd (.inl rfl) (He.free_ok KX G (c.fact 23 (f := .free "isinstance") rfl)) (He.glo_ok KX G (c.fact 15 (f := .glo "BadBit") rfl)) ⟨⟨(exC_ok (c.fx 0 (f := .exC "SewError") rfl)), (isO_ok (c.fx 12 (f := .isO "SewError" "BadBit" false) rfl))⟩, ⟨⟨(exC_ok (c.fx 2 (f := .exC "BadSize") rfl)), (isO_ok (c.fx 13 (f := .isO "BadSize" "BadBit" false) rfl))⟩, ⟨⟨(exC_ok (c.fx 4 (f := .exC "BadBit") rfl)), (isO_ok (c.fx 14 (f := .isO "BadBit" "BadBit" true) rfl))⟩, ⟨⟨(exC_ok (c.fx 6 (f := .exC "NoCell") rfl)), (isO_ok (c.fx 15 (f := .isO "NoCell" "BadBit" false) rfl))⟩, ⟨⟨(exC_ok (c.fx 8 (f := .exC "NoLine") rfl)), (isO_ok (c.fx 16 (f := .isO "NoLine" "BadBit" false) rfl))⟩, ⟨⟨(exC_ok (c.fx 10 (f := .exC "BadText") rfl)), (isO_ok (c.fx 17 (f := .isO "BadText" "BadBit" false) rfl))⟩, trivial⟩⟩⟩⟩⟩⟩) (pe_one (g_isOC (l := [(0, false), (1, true), (2, false), (3, false), (4, false), (7, false)]) 2 hd (.inl rfl) (He.free_ok KX G (c.fact 23 (f := .free "isinstance") rfl)) (He.glo_ok KX G (c.fact 18 (f := .glo "BadSize") rfl)) ⟨⟨(exC_ok (c.fx 0 (f := .exC "SewError") rfl)), (isO_ok (c.fx 18 (f := .isO "SewError" "BadSize" false) rfl))⟩, ⟨⟨(exC_ok (c.fx 2 (f := .exC "BadSize") rfl)), (isO_ok (c.fx 19 (f := .isO "BadSize" "BadSize" true) rfl))⟩, ⟨⟨(exC_ok (c.fx 4 (f := .exC "BadBit") rfl)), (isO_ok (c.fx 20 (f := .isO "BadBit" "BadSize" false) rfl))⟩, ⟨⟨(exC_ok (c.fx 6 (f := .exC "NoCell") rfl)), (isO_ok (c.fx 21 (f := .isO "NoCell" "BadSize" false) rfl))⟩, ⟨⟨(exC_ok (c.fx 8 (f := .exC "NoLine") rfl)), (isO_ok (c.fx 22 (f := .isO "NoLine" "BadSize" false) rfl))⟩, ⟨⟨(exC_ok (c.fx 10 (f := .exC "BadText") rfl)), (isO_ok (c.fx 23 (f := .isO "BadText" "BadSize" false) rfl))⟩, trivial⟩⟩⟩⟩⟩⟩))) (g_cons (g_isVC (S := "ValueError") (l := [(0, true), (1, true), (2, true), (3, true), (4, true), (7, true)]) 2 hd (.inl rfl) (He.free_ok KX G (c.fact 23 (f := .free "isinstance") rfl)) (He.free_ok KX G (c.fact 43 (f := .free "ValueError") rfl)) (by decide +kernel) ⟨⟨(exC_ok (c.fx 0 (f := .exC "SewError") rfl)), (isT_ok (c.fx 24 (f := .isT "SewError" "ValueError" true) rfl))⟩, ⟨⟨(exC_ok (c.fx 2 (f := .exC "BadSize") rfl)), (isT_ok (c.fx 25 (f := .isT "BadSize" "ValueError" true) rfl))⟩, ⟨⟨(exC_ok (c.fx 4 (f := .exC "BadBit") rfl)), (isT_ok (c.fx 26 (f := .isT "BadBit" "ValueError" true) rfl))⟩, ⟨⟨(exC_ok (c.fx 6 (f := .exC "NoCell") rfl)), (isT_ok (c.fx 27 (f := .isT "NoCell" "ValueError" true) rfl))⟩, ⟨⟨(exC_ok (c.fx 8 (f := .exC "NoLine") rfl)), (isT_ok (c.fx 28 (f := .isT "NoLine" "ValueError" true) rfl))⟩, ⟨⟨(exC_ok (c.fx 10 (f := .exC "BadText") rfl)), (isT_ok (c.fx 29 (f := .isT "BadText" "ValueError" true) rfl))⟩, trivial⟩⟩⟩⟩⟩⟩) pga_nil)))) (.inl rfl)))) (gss_one (gs_ret (g_var 1 (.inl rfl))))
theorem ok__law_bits_word (KX : K.In h) (G : h.Ns mainGlobals mg) (c : SaysX fa fn xf K) : Fine P w K mg base (th K) 1 d__law_bits_word 1 R__law_bits_word := by
  obtain ⟨fd, F⟩ := c.def_ 20 (d := d__law_bits_word) rfl
  refine ⟨fd, _, fn_ok F sc__law_bits_word rfl (fun cdv A outer s H E F0 B L b => ?_), F.bindsN (fun _ _ _ _ _ _ us hl => match us, hl with | [_], _ => rfl), F.kp⟩
  have x : XC (BX P w K mg base N__law_bits_word d__law_bits_word.qual d__law_bits_word.scope (He.fAd K d__law_bits_word.at_) cdv A outer s H E) ⟨th K, F0, B⟩ := ⟨⟨rfl, sc__law_bits_word.nd, u128 b.rm⟩, rfl⟩
  exact gss_cons (gs_if (t_cmp (oc_eq x.toXB) (g_var 0 (.inl rfl)) (g_str)) (gss_one (gs_ret (pg_lst pga_nil))) (gss_nil)) (gss_cons (gs_if (t_pw (pgw_or (t_cmp (oc_eq x.toXB) (g_var 0 (.inl rfl)) (g_str)) (pgw_or (t_cmp (oc_gt x.toXB) (g_bi (bf_len x.toXB) (He.free_ok KX G (c.fact 1 (f := .free "len") rfl)) (g_cons (g_var 0 (.inl rfl)) pga_nil)) (g_int)) (pw_or1 (pgt_not (t_tru x.toXB (g_bi (bf_all x) (He.free_ok KX G (c.fact 29 (f := .free "all") rfl)) (g_cons (pg_lc (own := [("_law_sign", 1)]) (by decide) x.calm x.nd (i_list (st := false) x.toXB (g_var 0 (.inl rfl))) (blkOk_by (N := N__law_bits_word) (sc := defScope st__law_bits_word) (by decide +kernel)) (fun _ _ _ _ _ => t_name x.blk.toXB 1 (.inl rfl) (.inr rfl)) (fun _ _ _ _ _ => pgts_nil) (fun _ _ _ _ _ => g_cmp (oc_in x.blk.toXB) (g_var 1 (.inl rfl)) (g_str)) (fun _ => rfl)) pga_nil)))))))) (gss_one (gs_ret (g_non))) (gss_nil)) (gss_one (gs_ret (pg_lc (own := [("_law_sign", 1)]) (by decide) x.calm x.nd (i_list (st := false) x.toXB (g_var 0 (.inl rfl))) (blkOk_by (N := N__law_bits_word) (sc := defScope st__law_bits_word) (by decide +kernel)) (fun _ _ _ _ _ => t_name x.blk.toXB 1 (.inl rfl) (.inr rfl)) (fun _ _ _ _ _ => pgts_nil) (fun _ _ _ _ _ => g_intS (He.free_ok KX G (c.fact 25 (f := .free "int") rfl)) (g_var 1 (.inl rfl))) (fun _ => rfl)))))
theorem ok__law_cloth_words (KX : K.In h) (G : h.Ns mainGlobals mg) (c : SaysX fa fn xf K) : Fine P w K mg base (th K) 2 d__law_cloth_words 1 R__law_cloth_words := by
  obtain ⟨fd, F⟩ := c.def_ 21 (d := d__law_cloth_words) rfl
  refine ⟨fd, _, fn_ok F sc__law_cloth_words rfl (fun cdv A outer s H E F0 B L b => ?_), F.bindsN (fun _ _ _ _ _ _ us hl => match us, hl with | [_], _ => rfl), F.kp⟩
  have x : XC (BX P w K mg base N__law_cloth_words d__law_cloth_words.qual d__law_cloth_words.scope (He.fAd K d__law_cloth_words.at_) cdv A outer s H E) ⟨th K, F0, B⟩ := ⟨⟨rfl, sc__law_cloth_words.nd, u128 b.rm⟩, rfl⟩
  exact gss_cons (gs_if (t_pw (pgw_or (t_cmp (oc_ne x.toXB) (g_bi (bf_len x.toXB) (He.free_ok KX G (c.fact 1 (f := .free "len") rfl)) (g_cons (g_var 0 (.inl rfl)) pga_nil)) (g_int)) (pw_or1 (t_cmp (oc_ni x.toXB) (g_ix x.toXB (g_var 0 (.inl rfl)) (g_int)) (pg_tup (g_cons (g_str) (g_cons (g_str) pga_nil))))))) (gss_one (gs_ret (g_non))) (gss_nil)) (gss_cons (gs_set (own := false) (i := 1) x.nd (g_call (R := R__law_bits_word) (k := 1) (m := 1) (Fine.call (dd := d__law_bits_word) (ok__law_bits_word KX G c)) b.rm (by decide) b.tk (He.glo_ok KX G (c.fact 44 (f := .glo "_law_bits_word") rfl)) (g_cons (g_ix x.toXB (g_var 0 (.inl rfl)) (g_int)) pga_nil)) (.inl rfl)) (gss_cons (gs_set (own := false) (i := 2) x.nd (g_call (R := R__law_bits_word) (k := 1) (m := 1) (Fine.call (dd := d__law_bits_word) (ok__law_bits_word KX G c)) b.rm (by decide) b.tk (He.glo_ok KX G (c.fact 44 (f := .glo "_law_bits_word") rfl)) (g_cons (g_ix x.toXB (g_var 0 (.inl rfl)) (g_int)) pga_nil)) (.inl rfl)) (gss_cons (gs_if (t_pw (pgw_or (t_isN (g_var 1 (.inl rfl))) (pw_or1 (t_isN (g_var 2 (.inl rfl)))))) (gss_one (gs_ret (g_non))) (gss_nil)) (gss_one (gs_ret (pg_tup (g_cons (g_intS (He.free_ok KX G (c.fact 25 (f := .free "int") rfl)) (g_ix x.toXB (g_var 0 (.inl rfl)) (g_int))) (g_cons (g_var 1 (.inl rfl)) (g_cons (g_var 2 (.inl rfl)) pga_nil)))))))))
theorem ok__law_due_read (KX : K.In h) (G : h.Ns mainGlobals mg) (c : SaysX fa fn xf K) : Fine P w K mg base (th K) 3 d__law_due_read 1 R__law_due_read := by
  obtain ⟨fd, F⟩ := c.def_ 22 (d := d__law_due_read) rfl
  refine ⟨fd, _, fn_ok F sc__law_due_read rfl (fun cdv A outer s H E F0 B L b => ?_), F.bindsN (fun _ _ _ _ _ _ us hl => match us, hl with | [_], _ => rfl), F.kp⟩
  have x : XC (BX P w K mg base N__law_due_read d__law_due_read.qual d__law_due_read.scope (He.fAd K d__law_due_read.at_) cdv A outer s H E) ⟨th K, F0, B⟩ := ⟨⟨rfl, sc__law_due_read.nd, u128 b.rm⟩, rfl⟩
  exact gss_cons (gs_set (own := false) (i := 1) x.nd (g_call (R := R__law_cloth_words) (k := 2) (m := 1) (Fine.call (dd := d__law_cloth_words) (ok__law_cloth_words KX G c)) b.rm (by decide) b.tk (He.glo_ok KX G (c.fact 45 (f := .glo "_law_cloth_words") rfl)) (g_cons (g_split (g_var 0 (.inl rfl)) (g_str)) pga_nil)) (.inl rfl)) (gss_cons (gs_if (t_isN (g_var 1 (.inl rfl))) (gss_one (gs_ret (pg_tup (g_cons (g_bl) (g_cons (g_bl) (g_cons (g_bl) pga_nil)))))) (gss_nil)) (gss_one (gs_ret (g_var 1 (.inl rfl)))))
theorem ok_law (KX : K.In h) (G : h.Ns mainGlobals mg) (c : SaysX fa fn xf K) {fd : FuncData} (F : FunD K d_law.name d_law.qual d_law.params d_law.body d_law.scope [] [] (He.fAd K d_law.at_) fd) : FnOk P w K mg base (L2N.CX P w) 8 (He.fAd K d_law.at_) fd ["_law_script"] (spOf (th K) 1 R_law_k54) := by
  refine fn_ok F sc_law rfl (fun cdv A outer s H E F0 B L b => ?_)
  have x : XC (BX P w K mg base N_law d_law.qual d_law.scope (He.fAd K d_law.at_) cdv A outer s H E) ⟨th K, F0, B⟩ := ⟨⟨rfl, sc_law.nd, u128 b.rm⟩, rfl⟩
  exact gss_cons (gs_set (own := false) (i := 1) x.nd (g_call (R := R__law_draws) (k := 1) (m := 2) (Fine.call (dd := d__law_draws) (ok__law_draws KX G c)) b.rm (by decide) b.tk (He.glo_ok KX G (c.fact 46 (f := .glo "_law_draws") rfl)) (g_cons (g_var 0 (.inl rfl)) (g_cons (g_int) pga_nil))) (.inr rfl)) (gss_cons (gs_set (own := false) (i := 2) x.nd (g_call (R := R__law_plan) (k := 3) (m := 1) (Fine.call (dd := d__law_plan) (ok__law_plan KX G c)) b.rm (by decide) b.tk (He.glo_ok KX G (c.fact 47 (f := .glo "_law_plan") rfl)) (g_cons (g_var 1 (.inr (.inl rfl))) pga_nil)) (.inl rfl)) (gss_cons (gs_set (own := false) (i := 3) x.nd (g_call (R := R_cloth_text) (k := 2) (m := 1) (Fine.call (dd := d_cloth_text) (ok_cloth_text KX G c)) b.rm (by decide) b.tk (He.glo_ok KX G (c.fact 49 (f := .glo "cloth_text") rfl)) (g_cons (g_call (R := R__law_made) (k := 4) (m := 1) (Fine.call (dd := d__law_made) (ok__law_made KX G c)) b.rm (by decide) b.tk (He.glo_ok KX G (c.fact 48 (f := .glo "_law_made") rfl)) (g_cons (g_var 2 (.inl rfl)) pga_nil)) pga_nil)) (.inr rfl)) (gss_cons (gs_if (t_pw (pgw_or (pgt_not (t_tru x.toXB (g_call (R := R__law_same) (k := 7) (m := 2) (Fine.call (dd := d__law_same) (ok__law_same KX G c)) b.rm (by decide) b.tk (He.glo_ok KX G (c.fact 28 (f := .glo "_law_same") rfl)) (g_cons (g_var 3 (.inr (.inl rfl))) (g_cons (g_call (R := R__law_text) (k := 1) (m := 1) (Fine.call (dd := d__law_text) (ok__law_text KX G c)) b.rm (by decide) b.tk (He.glo_ok KX G (c.fact 50 (f := .glo "_law_text") rfl)) (g_cons (g_var 2 (.inl rfl)) pga_nil)) pga_nil))))) (pw_or1 (pgt_not (t_tru x.toXB (g_call (R := R__law_same) (k := 7) (m := 2) (Fine.call (dd := d__law_same) (ok__law_same KX G c)) b.rm (by decide) b.tk (He.glo_ok KX G (c.fact 28 (f := .glo "_law_same") rfl)) (g_cons (g_call (R := R__law_read) (k := 6) (m := 1) (Fine.call (dd := d__law_read) (ok__law_read KX G c)) b.rm (by decide) b.tk (He.glo_ok KX G (c.fact 51 (f := .glo "_law_read") rfl)) (g_cons (g_var 3 (.inr (.inl rfl))) pga_nil)) (g_cons (g_var 2 (.inl rfl)) pga_nil)))))))) (gss_one (gs_ret (g_bl))) (gss_nil)) (gss_cons (gs_set (own := false) (i := 4) x.nd (g_call (R := R__law_text) (k := 1) (m := 1) (Fine.call (dd := d__law_text) (ok__law_text KX G c)) b.rm (by decide) b.tk (He.glo_ok KX G (c.fact 50 (f := .glo "_law_text") rfl)) (g_cons (pg_tup (g_cons (g_ix x.toXB (g_var 2 (.inl rfl)) (g_int)) (g_cons (g_call (R := R__law_row) (k := 2) (m := 2) (Fine.call (dd := d__law_row) (ok__law_row KX G c)) b.rm (by decide) b.tk (He.glo_ok KX G (c.fact 4 (f := .glo "_law_row") rfl)) (g_cons (g_sl x.toXB (g_var 1 (.inr (.inl rfl))) (pgo_some (g_int)) pgo_none) (g_cons (g_bin (ob_mod x.toXB) (g_ix x.toXB (g_var 1 (.inr (.inl rfl))) (g_int)) (g_int)) pga_nil))) (g_cons (g_call (R := R__law_row) (k := 2) (m := 2) (Fine.call (dd := d__law_row) (ok__law_row KX G c)) b.rm (by decide) b.tk (He.glo_ok KX G (c.fact 4 (f := .glo "_law_row") rfl)) (g_cons (g_sl x.toXB (g_var 1 (.inr (.inl rfl))) (pgo_some (g_int)) pgo_none) (g_cons (g_bin (ob_mod x.toXB) (g_ix x.toXB (g_var 1 (.inr (.inl rfl))) (g_int)) (g_int)) pga_nil))) pga_nil)))) pga_nil)) (.inr rfl)) (gss_cons (gs_set (own := false) (i := 5) x.nd (pg_lst (g_cons (g_str) (g_cons (g_str) (g_cons (g_str) (g_cons (g_str) (g_cons (g_str) (g_cons (g_str) (g_cons (g_str) (g_cons (g_str) (g_cons (g_str) (g_cons (g_str) (g_cons (g_str) (g_cons (g_str) pga_nil))))))))))))) (.inl rfl)) (gss_cons (gs_set (own := false) (i := 5) x.nd (g_bin (ob_add x.toXB) (g_var 5 (.inl rfl)) (pg_lst (g_cons (g_str) (g_cons (g_str) (g_cons (g_str) pga_nil))))) (.inl rfl)) (gss_cons (gs_setLc (own := false) (i := 6) (ow := [("_law_k", 7)]) (by decide) x.calm x.nd rfl rfl (sw_true rfl rfl rfl (by decide +kernel)) (i_r1 (st := false) (He.free_ok KX G (c.fact 2 (f := .free "range") rfl)) (g_int)) (blkOk_by (N := N_law) (sc := defScope st_law) (by decide +kernel)) (fun _ _ _ _ _ => t_name x.blk.toXB 7 (.inl rfl) (.inr rfl)) (fun _ _ _ _ _ => pgts_nil) (fun _ _ _ _ _ => g_call (R := R__law_spoilt) (k := 1) (m := 2) (Fine.call (dd := d__law_spoilt) (ok__law_spoilt KX G c)) b.rm (by decide) takes_WF (He.glo_ok KX G (c.fact 52 (f := .glo "_law_spoilt") rfl)) (g_cons (g_ix x.blk.toXB (pg_lst (g_cons (g_var 3 (by first | exact .inr (.inl rfl) | exact .inr (.inr rfl))) (g_cons (g_var 4 (by first | exact .inr (.inl rfl) | exact .inr (.inr rfl))) pga_nil))) (g_bin (ob_mod x.blk.toXB) (g_var 7 (.inl rfl)) (g_int))) (g_cons (g_sl x.blk.toXB (g_var 1 (by first | exact .inr (.inl rfl) | exact .inr (.inr rfl))) (pgo_some (g_bin (ob_add x.blk.toXB) (g_int) (g_bin (ob_mul x.blk.toXB) (g_int) (g_var 7 (.inl rfl))))) pgo_none) pga_nil))) (fun _ => rfl)) (gss_one (gs_ret (g_bi (bf_all x) (He.free_ok KX G (c.fact 29 (f := .free "all") rfl)) (g_cons (pg_lc (own := [("_law_one", 8)]) (by decide) x.calm x.nd (i_list (st := false) x.toXB (g_bin (ob_add x.toXB) (g_bin (ob_add x.toXB) (g_var 5 (.inl rfl)) (g_var 6 (.inl rfl))) (pg_lst (g_cons (g_var 4 (.inr (.inl rfl))) pga_nil)))) (blkOk_by (N := N_law) (sc := defScope st_law) (by decide +kernel)) (fun _ _ _ _ _ => t_name x.blk.toXB 8 (.inl rfl) (.inr rfl)) (fun _ _ _ _ _ => pgts_nil) (fun _ _ _ _ _ => g_call (R := R__law_same) (k := 7) (m := 2) (Fine.call (dd := d__law_same) (ok__law_same KX G c)) b.rm (by decide) takes_WF (He.glo_ok KX G (c.fact 28 (f := .glo "_law_same") rfl)) (g_cons (g_call (R := R__law_read) (k := 6) (m := 1) (Fine.call (dd := d__law_read) (ok__law_read KX G c)) b.rm (by decide) takes_WF (He.glo_ok KX G (c.fact 51 (f := .glo "_law_read") rfl)) (g_cons (g_var 8 (.inl rfl)) pga_nil)) (g_cons (g_call (R := R__law_due_read) (k := 3) (m := 1) (Fine.call (dd := d__law_due_read) (ok__law_due_read KX G c)) b.rm (by decide) takes_WF (He.glo_ok KX G (c.fact 53 (f := .glo "_law_due_read") rfl)) (g_cons (g_var 8 (.inl rfl)) pga_nil)) pga_nil))) (fun _ => rfl)) pga_nil)))))))))))
end
abbrev RR : PySem.W.OpenRow := PySem.W.OpenLaw.row PySem.Challenge.rw_sashiko_k54_cloths_as_texts
abbrev hk : PySem.W.Hook := hookX 5 fa fn xf
def ob (s : PySem.W.SharedT) : AlX := obsXG 5 fa fn xf (HandSHeadRun.getT s)
theorem ob_eq (s : PySem.W.SharedT) : ob s = hk.obs s.abs := obsXG_eq (HandSHeadRun.getT_eq s)
abbrev loose : List Str := "_wall" :: "SewError" :: "BadSize" :: "BadBit" :: "NoCell" :: "NoLine" :: "BadText" :: "MOST" :: "ask_bits" :: "Cloth" :: "bits_text" :: "cloth_text" :: "bits_in" :: "cloth_in" :: "read_cloth" :: "_law_told" :: "_law_bits_word" :: "_law_cloth_words" :: "_law_draws" :: "_law_bits" :: "_law_row" :: "_law_plan" :: "_law_made" :: "_law_same" :: "_law_text" :: "_law_spoilt" :: "_law_read" :: "_law_due_read" :: []
theorem run (w : World) : HandSHeadRun.RunEq RR (PySem.W.view RR.prog [32]) hk ob 6000 loose w := by
  intro os
  kernel_rfl
theorem pre (hl : ∀ ns : List Int, ns.length ≤ 63 → R_law_k54 [.frl ns] = .ok (.bl true, false)) (w : World) (mg : Str → Option Value) (a : Addr) (h : Heap) (K : PySem.W.Frag) (KX : K.In h) (G : h.Ns mainGlobals mg) (c : SaysX fa fn xf K) (hmg : mg "law" = some (.ref a)) :
    ∃ (fd : FuncData) (sp : Sp), (∀ (s : Shared) (u : Value), BindsTo s fd ⟨[u], []⟩ [("_law_script", u)]) ∧ (∀ (H : Hp) (a : Addr) (ns : List Int), ns.length ≤ 63 → Only H → SqL K H a (ns.map V.int) → sp [.ref a] H (fun v _ => v = .bl true) fun _ _ _ => False) ∧
      ∀ base : Heap, K.In base → base.Ns mainGlobals mg → FnOk (PySem.Challenge.rw_sashiko_k54_cloths_as_texts).prog w K mg base (CXW (PySem.Challenge.rw_sashiko_k54_cloths_as_texts).prog) 8 a fd ["_law_script"] sp := by
  obtain ⟨fd, F⟩ := c.def_ 23 (d := d_law) rfl
  have e := hmg.symm.trans (He.glo_ok KX G (c.fact 54 (f := .glo "law") rfl))
  cases e
  have b := FunD.bindsA (ps := ["_law_script"]) F fun _ _ _ _ _ _ us hl => match us, hl with | [_], _ => rfl
  exact ⟨fd, spOf (th K) 1 R_law_k54, fun s u => b s [u] rfl, fun H a ns hn _ hS => law_sp (θ := th K) hl H a ns hn hS, fun base _ _ => wcx (ok_law KX G c F)⟩
end K54
namespace G
open PySem L2
section
variable {f g h : ES} {t u : TSm} {s : IS} {a b : SS} {ρ : Sl} {i j : Nat} {d e : D} {k : Kd}
@[simp] theorem shr_ap (d : D) : shr d = .ok (d, .sh) := rfl
@[simp] theorem eVar_ap : eVar i ρ = match ρ[i]? with
  | some (.va d) => .ok (d, .sh)
  | some (.ow d) => .ok (d, .at i)
  | _ => .no := rfl
@[simp] theorem eC_ap : eC d ρ = .ok (d, .sh) := rfl
@[simp] theorem eBin_ap (op : D → D → Out (D × Kd)) : eBin op f g ρ = (f ρ).bind fun x => (g ρ).bind fun y => op x.1 y.1 := rfl
@[simp] theorem eUn_ap (op : D → Out (D × Kd)) : eUn op f ρ = (f ρ).bind fun x => op x.1 := rfl
@[simp] theorem eArgs_nil : eArgs [] ρ = .ok [] := rfl
@[simp] theorem eArgs_cons (fs : List ES) : eArgs (f :: fs) ρ = (f ρ).bind fun x => (eArgs fs ρ).bind fun xs => .ok (x :: xs) := rfl
@[simp] theorem eChain_ap (op op' : D → D → Out (D × Kd)) : eChain op op' f g h ρ = (f ρ).bind fun x => (g ρ).bind fun y => (op x.1 y.1).bind fun z => (oBl z.1).bind fun b => if b = true then (h ρ).bind fun w => op' y.1 w.1 else shr (.bl false) := by
  show ((f ρ).bind fun x => (g ρ).bind fun y => (op x.1 y.1).bind fun z => match z.1 with
    | .bl true => (h ρ).bind fun w => op' y.1 w.1
    | .bl false => shr (.bl false)
    | _ => .no) = _
  congr 1
  funext x
  congr 1
  funext y
  congr 1
  funext z
  obtain ⟨d, k⟩ := z
  cases d <;> first | rfl | skip
  rename_i b
  cases b <;> rfl
@[simp] theorem oBl_ap (c : Bool) : oBl (.bl c) = .ok c := rfl
@[simp] theorem eAnd_ap : eAnd f g ρ = (f ρ).bind fun x => (oBl x.1).bind fun b => if b = true then g ρ else shr (.bl false) := rfl
@[simp] theorem eOr_ap : eOr f g ρ = (f ρ).bind fun x => (oBl x.1).bind fun b => if b = true then shr (.bl true) else g ρ := rfl
@[simp] theorem oNot_ap (c : Bool) : oNot (.bl c) = .ok (.bl (!c), .sh) := rfl
@[simp] theorem tBl_ap : tBl f ρ = (f ρ).bind fun x => oBl x.1 := rfl
@[simp] theorem tTru_ap : tTru f ρ = (f ρ).bind fun x => oTru x.1 := rfl
@[simp] theorem tAnd_ap : G.tAnd t u ρ = (t ρ).bind fun b => if b = true then u ρ else .ok false := rfl
@[simp] theorem tOr_ap : G.tOr t u ρ = (t ρ).bind fun b => if b = true then .ok true else u ρ := rfl
@[simp] theorem tNot_ap : G.tNot t ρ = (t ρ).bind fun b => .ok (!b) := rfl
@[simp] theorem eIf_ap : eIf t f g ρ = (t ρ).bind fun b => if b = true then f ρ else g ρ := rfl
@[simp] theorem allSolid_nil : allSolid [] = true := rfl
@[simp] theorem allSolid_cons (x : D × Kd) (xs : List (D × Kd)) : allSolid (x :: xs) = (x.2.solid && allSolid xs) := rfl
@[simp] theorem solid_sh : Kd.solid .sh = true := rfl
@[simp] theorem solid_fr : Kd.solid .fr = true := rfl
@[simp] theorem solid_at : Kd.solid (.at i) = false := rfl
@[simp] theorem eTup_ap (fs : List ES) : eTup fs ρ = (eArgs fs ρ).bind fun xs => if allSolid xs = true ∧ xs.length ≤ SZ then shr (.tup (xs.map (·.1))) else .no := rfl
@[simp] theorem eLst_ap (fs : List ES) : eLst fs ρ = (eArgs fs ρ).bind fun xs => if allSolid xs = true ∧ xs.length ≤ SZ then .ok (.lst (xs.map (·.1)), .fr) else .no := rfl
@[simp] theorem ePart_none : ePart none ρ = .ok none := rfl
@[simp] theorem ePart_some : ePart (some f) ρ = (f ρ).bind fun x => match x.1 with
  | .int i => .ok (some i)
  | _ => .no := rfl
@[simp] theorem eSl_ap (lo hi : Option ES) : eSl f lo hi ρ = (f ρ).bind fun x => (ePart lo ρ).bind fun l => (ePart hi ρ).bind fun h => oSl x.1 l h := rfl
@[simp] theorem eBi_ap (bi : Bi) (fs : List ES) : eBi bi fs ρ = (eArgs fs ρ).bind fun xs => oBi bi (xs.map (·.1)) := rfl
@[simp] theorem eFn_ap (R : List D → Out (D × Bool)) (fs : List ES) : eFn R fs ρ = (eArgs fs ρ).bind fun xs => match R (xs.map (·.1)) with
  | .ok (d, b) => if allSolid xs then .ok (d, if b then .fr else .sh) else if flat d && okArgs xs then shr d else if (b && newD d) && okArgs xs then .ok (d, .fr) else .no
  | .ex c gs => if allSolid xs || (gs.isEmpty && okArgs xs) then .ex c gs else .no
  | .no => .no := rfl
theorem eM_ap (l : MTab) (fs : List ES) {c : Nat} {ds : List D} {R : List D → Out (D × Bool)} (hf : f ρ = .ok (.obj c ds, .sh)) (hl : l.lookup c = some R) : eM l f fs ρ = (eArgs fs ρ).bind fun xs => match R (.obj c ds :: xs.map (·.1)) with
  | .ok (d, b) => if allSolid xs then .ok (d, if b then .fr else .sh) else if flat d && okArgs xs then shr d else if (b && newD d) && okArgs xs then .ok (d, .fr) else .no
  | .ex c gs => if allSolid xs || (gs.isEmpty && okArgs xs) then .ex c gs else .no
  | .no => .no := by
  unfold eM eMeth
  rw [hf]
  have e1 : mIx l c = some c := by unfold mIx; rw [hl]
  have e2 : mGam l c = R := by unfold mGam; rw [hl]
  show (match mIx l c with
    | some n => if Kd.sh.solid = true then eCall (mGam l) n (eC (.obj c ds) :: fs) ρ else .no
    | none => .no) = _
  rw [e1]
  show eCall (mGam l) c (eC (.obj c ds) :: fs) ρ = _
  rw [meth_args, e2]
  cases eArgs fs ρ <;> rfl
/-- a method of the table's only class -/
@[simp] theorem eM_one (fs : List ES) (c : Nat) (R : List D → Out (D × Bool)) : eM [(c, R)] f fs ρ = match f ρ with
  | .ok (.obj c' ds, k) => if c' = c ∧ k.solid = true then (eArgs fs ρ).bind fun xs => (match R (.obj c' ds :: xs.map (·.1)) with
    | .ok (d, b) => if allSolid xs then .ok (d, if b then .fr else .sh) else if flat d && okArgs xs then shr d else if (b && newD d) && okArgs xs then .ok (d, .fr) else .no
    | .ex c gs => if allSolid xs || (gs.isEmpty && okArgs xs) then .ex c gs else .no
    | .no => .no) else .no
  | _ => .no := by
  unfold eM eMeth
  cases q : f ρ with
  | no => rfl
  | ex n gs => rfl
  | ok z =>
    obtain ⟨d, k⟩ := z
    cases d with
    | obj c' ds =>
      by_cases e : c' = c
      · subst e
        have e1 : mIx [(c', R)] c' = some c' := by unfold mIx; rw [List.lookup_cons_self]
        have e2 : mGam [(c', R)] c' = R := by unfold mGam; rw [List.lookup_cons_self]
        show (match mIx [(c', R)] c' with
          | some n => if k.solid = true then eCall (mGam [(c', R)]) n (eC (.obj c' ds) :: fs) ρ else .no
          | none => .no) = _
        rw [e1]
        show (if k.solid = true then eCall (mGam [(c', R)]) c' (eC (.obj c' ds) :: fs) ρ else .no) = _
        rw [meth_args, e2]
        by_cases s : k.solid = true
        · rw [if_pos s]
          refine Eq.trans ?_ (if_pos (⟨rfl, s⟩ : c' = c' ∧ k.solid = true)).symm
          cases eArgs fs ρ <;> rfl
        · rw [if_neg s]
          exact (if_neg (fun z : c' = c' ∧ k.solid = true => s z.2)).symm
      · have ne : (c' == c) = false := beq_eq_false_iff_ne.mpr e
        have e1 : mIx [(c, R)] c' = none := by
          unfold mIx
          rw [List.lookup_cons, ne]
          rfl
        show (match mIx [(c, R)] c' with
          | some n => if k.solid = true then eCall (mGam [(c, R)]) n (eC (.obj c' ds) :: fs) ρ else .no
          | none => .no) = _
        rw [e1]
        exact (if_neg (fun z : c' = c ∧ k.solid = true => e z.1)).symm
    | _ => rfl
@[simp] theorem sSkip_ap : sSkip ρ = .nx ρ := rfl
theorem sSeq_ap : sSeq a b ρ = match a ρ with
  | .nx ρ' => b ρ'
  | o => o := rfl
theorem sSeq_nx {ρ' : Sl} (h : a ρ = .nx ρ') : sSeq a b ρ = b ρ' := by unfold sSeq; rw [h]
@[simp] theorem sIf_ap : G.sIf t a b ρ = match t ρ with
  | .ok c => if c = true then a ρ else b ρ
  | .ex n fs => .ex n fs ρ
  | .no => .no := rfl
@[simp] theorem sWith_ok {α : Type} (x : α) (k : α → Fl) : sWith (.ok x) ρ k = k x := rfl
@[simp] theorem sWith_ex {α : Type} (n : Nat) (fs : List D) (k : α → Fl) : sWith (.ex n fs) ρ k = .ex n fs ρ := rfl
@[simp] theorem sDrop_ap : sDrop f ρ = sWith (f ρ) ρ fun _ => .nx ρ := rfl
@[simp] theorem asg_sh (o : Bool) (x : D) : asg o i (x, .sh) ρ = if i < ρ.length then .nx (ρ.set i (.va x)) else .no := rfl
@[simp] theorem notObj_bl (b : Bool) : notObj (.bl b) = true := rfl
@[simp] theorem notObj_int (b : Int) : notObj (.int b) = true := rfl
@[simp] theorem notObj_str (b : Str) : notObj (.str b) = true := rfl
@[simp] theorem notObj_non : notObj .non = true := rfl
@[simp] theorem notObj_lst (b : List D) : notObj (.lst b) = true := rfl
@[simp] theorem notObj_tup (b : List D) : notObj (.tup b) = true := rfl
@[simp] theorem notObj_dK (a : List Key) (b : List D) : notObj (.dK a b) = true := rfl
@[simp] theorem notObj_dT (a : List (List Key)) (b : List D) : notObj (.dT a b) = true := rfl
@[simp] theorem notObj_obj (a : Nat) (b : List D) : notObj (.obj a b) = false := rfl
@[simp] theorem flat_bl (b : Bool) : flat (.bl b) = true := rfl
@[simp] theorem flat_int (b : Int) : flat (.int b) = true := rfl
@[simp] theorem flat_str (b : Str) : flat (.str b) = true := rfl
@[simp] theorem flat_non : flat .non = true := rfl
@[simp] theorem flat_lst (b : List D) : flat (.lst b) = false := rfl
@[simp] theorem flat_tup (b : List D) : flat (.tup b) = false := rfl
@[simp] theorem newD_obj (c : Nat) (b : List D) : newD (.obj c b) = true := rfl
@[simp] theorem newD_lst (b : List D) : newD (.lst b) = b.all flat := rfl
@[simp] theorem flat_ints (us : List Int) : (us.map D.int).all flat = true := by
  rw [List.all_map]
  exact List.all_eq_true.mpr fun _ _ => rfl
@[simp] theorem clean_int (n : Int) (k : Kd) : clean (.int n) k = true := rfl
@[simp] theorem clean_bl (n : Bool) (k : Kd) : clean (.bl n) k = true := rfl
@[simp] theorem clean_str (n : Str) (k : Kd) : clean (.str n) k = true := rfl
@[simp] theorem clean_non (k : Kd) : clean .non k = true := rfl
@[simp] theorem clean_lst (ds : List D) : clean (.lst ds) .fr = ds.all flat := rfl
@[simp] theorem clean_dK (ks : List Key) (ds : List D) : clean (.dK ks ds) .fr = ds.all flat := rfl
@[simp] theorem clean_dT (ks : List (List Key)) (ds : List D) : clean (.dT ks ds) .fr = ds.all flat := rfl
@[simp] theorem asg_frT (x : D) : asg true i (x, .fr) ρ = if i < ρ.length then (if notObj x = true then .nx (ρ.set i (.ow x)) else .no) else .no := rfl
@[simp] theorem asg_frF (x : D) : asg false i (x, .fr) ρ = if i < ρ.length then .nx (ρ.set i (.va x)) else .no := rfl
@[simp] theorem sAsg_ap (o : Bool) : G.sAsg o i f ρ = sWith (f ρ) ρ fun x => asg o i x ρ := rfl
@[simp] theorem sTg_ap (tg : Tg) : G.sTg tg f ρ = sWith (f ρ) ρ fun x => if x.2.solid then (match tgSet tg x.1 ρ with
  | some ρ' => .nx ρ'
  | none => .no) else .no := rfl
@[simp] theorem sRet_ap : sRet f ρ = sWith (f ρ) ρ fun x => .rt x.1 x.2 ρ := rfl
@[simp] theorem sRetN_ap : sRetN ρ = .rt .non .sh ρ := rfl
@[simp] theorem sRaise_ap (n : Nat) : sRaise n ρ = .ex n [] ρ := rfl
@[simp] theorem sAugI_ap (op : Int → Int → Int) : sAugI op i f ρ = match ρ[i]? with
  | some (.va (.int a)) => sWith (f ρ) ρ fun y => (match y.1 with
    | .int b => .nx (ρ.set i (.va (.int (op a b))))
    | _ => .no)
  | _ => .no := rfl
@[simp] theorem sOwL_ap (k : List D → D → Option (List D)) : sOwL i k f ρ = match ρ[i]? with
  | some (.ow (.lst xs)) => sWith (f ρ) ρ fun y => if y.2.solid then (match k xs y.1 with
    | some ys => .nx (ρ.set i (.ow (.lst ys)))
    | none => .no) else .no
  | _ => .no := rfl
@[simp] theorem sOwL0_ap (k : List D → Option (List D)) : sOwL0 i k ρ = match ρ[i]? with
  | some (.ow (.lst xs)) => (match k xs with
    | some ys => .nx (ρ.set i (.ow (.lst ys)))
    | none => .no)
  | _ => .no := rfl
@[simp] theorem sFrz_ap : sFrz i ρ = match ρ[i]? with
  | some (.ow d) => .nx (ρ.set i (.va d))
  | _ => .nx ρ := rfl
@[simp] theorem sPar_ap (o1 o2 : Bool) : sPar o1 o2 i j f g ρ = sWith (f ρ) ρ fun x => sWith (g ρ) ρ fun y => match asg o1 i x ρ with
  | .nx ρ1 => asg o2 j y ρ1
  | o => o := rfl
@[simp] theorem sPut_ap : sPut i f g ρ = sWith (g ρ) ρ fun v => if v.2.solid then (match ρ[i]? with
  | some (.ow d) => sWith (f ρ) ρ fun k => (match kPut d k.1 v.1 with
    | some d' => .nx (ρ.set i (.ow d'))
    | none => .no)
  | _ => .no) else .no := rfl
@[simp] theorem sFld_ap (fx : Nat → Nat → Bool) : G.sFld fx i f ρ = sWith (f ρ) ρ fun x => if clean x.1 x.2 then (match ρ[i]? with
  | some (.me c ds) => if fx c ds.length then .nx (ρ.set i (.me c (ds ++ [x.1]))) else .no
  | _ => .no) else .no := rfl
theorem sFor_ap (tg : Tg) : G.sFor s tg a ρ = sWith (s ρ) ρ fun ds => forL tg a ds ρ := rfl
@[simp] theorem tgSet_one : tgSet (.one i) d ρ = if i < ρ.length then some (ρ.set i (.va d)) else none := rfl
@[simp] theorem tgSet_tt (ts : List Tg) (ds : List D) : tgSet (.tup ts) (.tup ds) ρ = tgSets ts ds ρ := rfl
@[simp] theorem tgSet_tl (ts : List Tg) (ds : List D) : tgSet (.tup ts) (.lst ds) ρ = tgSets ts ds ρ := rfl
@[simp] theorem tgSets_nil : tgSets [] [] ρ = some ρ := rfl
@[simp] theorem tgSets_cons (tg : Tg) (ts : List Tg) (ds : List D) : tgSets (tg :: ts) (d :: ds) ρ = (tgSet tg d ρ).bind fun ρ' => tgSets ts ds ρ' := rfl
@[simp] theorem oAdd_ii (m n : Int) : oAdd (.int m) (.int n) = .ok (.int (m + n), .sh) := rfl
@[simp] theorem oAdd_ll (xs ys : List D) : oAdd (.lst xs) (.lst ys) = if xs.length + ys.length ≤ SZ then .ok (.lst (xs ++ ys), .fr) else .no := rfl
@[simp] theorem oAdd_tt (xs ys : List D) : oAdd (.tup xs) (.tup ys) = if xs.length + ys.length ≤ SZ then shr (.tup (xs ++ ys)) else .no := rfl
@[simp] theorem oSub_ii (m n : Int) : oSub (.int m) (.int n) = .ok (.int (m - n), .sh) := rfl
theorem oMul_ii (m n : Int) : oMul (.int m) (.int n) = if smallI m || smallI n then .ok (.int (m * n), .sh) else .no := rfl
theorem oMul_l {m n : Int} (h1 : -(2 ^ 64) < m) (h2 : m < 2 ^ 64) : oMul (.int m) (.int n) = .ok (.int (m * n), .sh) := by
  rw [oMul_ii, if_pos]
  rw [show smallI m = true from decide_eq_true ⟨h1, h2⟩, Bool.true_or]
theorem oMul_r {m n : Int} (h1 : -(2 ^ 64) < n) (h2 : n < 2 ^ 64) : oMul (.int m) (.int n) = .ok (.int (m * n), .sh) := by
  rw [oMul_ii, if_pos]
  rw [show smallI n = true from decide_eq_true ⟨h1, h2⟩, Bool.or_true]
@[simp] theorem oMod_ii (m n : Int) : oMod (.int m) (.int n) = if 0 < n then .ok (.int (m % n), .sh) else .no := rfl
@[simp] theorem oDiv_ii (m n : Int) : oDiv (.int m) (.int n) = if 0 < n ∧ n < 1073741824 then .ok (.int (m / n), .sh) else .no := rfl
@[simp] theorem oPow_ii (m n : Int) : oPow (.int m) (.int n) = if 0 ≤ n ∧ n ≤ 1000000 ∧ m.natAbs < 2 ^ 64 then .ok (.int (m ^ n.toNat), .sh) else .no := rfl
@[simp] theorem oNeg_i (m : Int) : oNeg (.int m) = .ok (.int (-m), .sh) := rfl
@[simp] theorem oEq_ii (m n : Int) : oEq (.int m) (.int n) = .ok (.bl (decide (m = n)), .sh) := rfl
@[simp] theorem oEq_ss (m n : Str) : oEq (.str m) (.str n) = .ok (.bl (decide (m = n)), .sh) := rfl
@[simp] theorem oEq_bb (m n : Bool) : oEq (.bl m) (.bl n) = .ok (.bl (decide (m = n)), .sh) := rfl
@[simp] theorem oNe_ii (m n : Int) : oNe (.int m) (.int n) = .ok (.bl (!decide (m = n)), .sh) := rfl
@[simp] theorem oNe_ss (m n : Str) : oNe (.str m) (.str n) = .ok (.bl (!decide (m = n)), .sh) := rfl
@[simp] theorem oNe_bb (m n : Bool) : oNe (.bl m) (.bl n) = .ok (.bl (!decide (m = n)), .sh) := rfl
@[simp] theorem oLt_ii (m n : Int) : oLt (.int m) (.int n) = .ok (.bl (decide (m < n)), .sh) := rfl
@[simp] theorem oLe_ii (m n : Int) : oLe (.int m) (.int n) = .ok (.bl (decide (m ≤ n)), .sh) := rfl
@[simp] theorem oGt_ii (m n : Int) : oGt (.int m) (.int n) = .ok (.bl (decide (n < m)), .sh) := rfl
@[simp] theorem oGe_ii (m n : Int) : oGe (.int m) (.int n) = .ok (.bl (decide (n ≤ m)), .sh) := rfl
@[simp] theorem oTru_bl (c : Bool) : oTru (.bl c) = .ok c := rfl
@[simp] theorem oTru_int (m : Int) : oTru (.int m) = .ok (m != 0) := rfl
@[simp] theorem oTru_lst (xs : List D) : oTru (.lst xs) = .ok (!xs.isEmpty) := rfl
@[simp] theorem oSl_l (xs : List D) (lo hi : Option Int) : oSl (.lst xs) lo hi = .ok (.lst (cutD xs lo hi), .fr) := rfl
@[simp] theorem oSl_t (xs : List D) (lo hi : Option Int) : oSl (.tup xs) lo hi = .ok (.tup (cutD xs lo hi), .sh) := rfl
@[simp] theorem fxT_ap (l : List (Nat × Nat)) (n : Nat) : fxT l n = l.lookup n := rfl
@[simp] theorem oFld_ap (fx : Nat → Option Nat) (c : Nat) (ds : List D) : oFld fx (.obj c ds) = match fx c with
  | some i => (match ds[i]? with
    | some d => .ok (d, .sh)
    | none => .no)
  | none => .no := rfl
@[simp] theorem oBi_lenL (xs : List D) : oBi .len [.lst xs] = .ok (.int xs.length, .sh) := rfl
@[simp] theorem oBi_lenT (xs : List D) : oBi .len [.tup xs] = .ok (.int xs.length, .sh) := rfl
@[simp] theorem oBi_abs (m : Int) : oBi .abs [.int m] = .ok (.int (if m < 0 then -m else m), .sh) := rfl
@[simp] theorem oBi_intI (m : Int) : oBi .int [.int m] = .ok (.int m, .sh) := rfl
@[simp] theorem oBi_intB (m : Bool) : oBi .int [.bl m] = .ok (.int (if m then 1 else 0), .sh) := rfl
@[simp] theorem oBi_listL (xs : List D) : oBi .list [.lst xs] = .ok (.lst xs, .fr) := rfl
@[simp] theorem oBi_listT (xs : List D) : oBi .list [.tup xs] = .ok (.lst xs, .fr) := rfl
@[simp] theorem oBi_max2 (m n : Int) : oBi .max2 [.int m, .int n] = .ok (.int (if n > m then n else m), .sh) := rfl
@[simp] theorem oBi_min2 (m n : Int) : oBi .min2 [.int m, .int n] = .ok (.int (if n < m then n else m), .sh) := rfl
theorem oBi_sum (ns : List Int) : oBi .sum [.lst (ns.map .int)] = .ok (.int ns.sum, .sh) := by
  show (match intsOf (ns.map D.int) with
    | some ns => shr (.int ns.sum)
    | none => .no) = _
  rw [intsOf_map]
  rfl
@[simp] theorem itemsOf_l (xs : List D) : itemsOf (.lst xs) = some xs := rfl
@[simp] theorem itemsOf_t (xs : List D) : itemsOf (.tup xs) = some xs := rfl
@[simp] theorem itemsOf_f (ns : List Int) : itemsOf (.frl ns) = some (ns.map D.int) := rfl
@[simp] theorem itE_ap (st : Bool) : itE st f ρ = (f ρ).bind fun x => if st && !x.2.solid then .no else match itemsOf x.1 with
  | some ds => .ok ds
  | none => .no := rfl
@[simp] theorem itR1_ap : itR1 f ρ = (f ρ).bind fun x => match x.1 with
  | .int j => if in62 j then .ok (rngD 0 j) else .no
  | _ => .no := rfl
@[simp] theorem itR2_ap : itR2 f g ρ = (f ρ).bind fun x => (g ρ).bind fun y => match x.1, y.1 with
  | .int i, .int j => if in62 i && in62 j then .ok (rngD i j) else .no
  | _, _ => .no := rfl
theorem in62_of {m : Int} (h1 : -(2 ^ 62) < m) (h2 : m < 2 ^ 62) : in62 m = true := by
  have e : (2 : Int) ^ 62 = 4611686018427387904 := by decide
  rw [e] at h1 h2
  have h3 : m.natAbs < 4611686018427387904 := by omega
  exact decide_eq_true h3
theorem ixN_ok {n : Nat} {i : Int} (h0 : 0 ≤ i) (h1 : i < n) : ixN n i = some i.toNat := by
  unfold ixN
  rw [if_pos h0, if_pos h1]
theorem oIx_l {xs : List D} {i : Int} {d : D} (h0 : 0 ≤ i) (h : xs[i.toNat]? = some d) : oIx (.lst xs) (.int i) = .ok (d, .sh) := by
  have l := (List.getElem?_eq_some_iff.mp h).1
  show (match atI xs i with
    | some d => shr d
    | none => .no) = _
  unfold atI
  rw [ixN_ok h0 (by omega)]
  show (match xs[i.toNat]? with
    | some d => shr d
    | none => .no) = _
  rw [h]
  rfl
/-- the whole numbers of a list -/
def gt (us : List Int) (n : Nat) : Int := us.getD n 0
theorem gt_eq {us : List Int} {n : Nat} (h : n < us.length) : gt us n = us[n] := by
  unfold gt
  rw [List.getD_eq_getElem?_getD, List.getElem?_eq_getElem h]
  rfl
theorem oIx_i {us : List Int} {i : Int} (h0 : 0 ≤ i) (h1 : i < us.length) : oIx (.lst (us.map .int)) (.int i) = .ok (.int (gt us i.toNat), .sh) := by
  refine oIx_l h0 ?_
  have l : i.toNat < us.length := by omega
  rw [List.getElem?_map, List.getElem?_eq_getElem l, gt_eq l]
  rfl
/-- a for whose body goes on: by a word of the turns -/
theorem forL_nx {tg : Tg} {I : Nat → Sl → Prop} : ∀ {ds : List D} {k : Nat} {ρ : Sl}, I k ρ → (∀ (j : Nat) (d : D) (ρ : Sl), ds[j]? = some d → I (k + j) ρ → ∃ ρ1 ρ2, tgSet tg d ρ = some ρ1 ∧ (a ρ1 = .nx ρ2 ∨ a ρ1 = .ct ρ2) ∧ I (k + j + 1) ρ2) →
    ∃ ρ', forL tg a ds ρ = .nx ρ' ∧ I (k + ds.length) ρ'
  | [], k, ρ, h, _ => ⟨ρ, rfl, h⟩
  | d :: ds, k, ρ, h, st => by
    obtain ⟨ρ1, ρ2, e1, e2, e3⟩ := st 0 d ρ rfl h
    obtain ⟨ρ', e4, e5⟩ := forL_nx (I := I) (ds := ds) (k := k + 1) (ρ := ρ2) e3 fun j d' ρ hd hi => by
      have := st (j + 1) d' ρ (by simpa using hd) (by rw [show k + (j + 1) = k + 1 + j from by omega]; exact hi)
      rw [show k + (j + 1) + 1 = k + 1 + j + 1 from by omega] at this
      exact this
    refine ⟨ρ', ?_, by rw [List.length_cons, show k + (ds.length + 1) = k + 1 + ds.length from by omega]; exact e5⟩
    unfold forL
    rw [e1]
    rcases e2 with e2 | e2 <;> (dsimp only; rw [e2]; exact e4)
theorem FU_eq : FU = 1000000000 := by unfold FU; rfl
/-- a while by a measure and a word -/
theorem sWhile_nx {I : Sl → Prop} (μ : Sl → Nat) (st : ∀ ρ, I ρ → (t ρ = .ok false) ∨ (t ρ = .ok true ∧ ∃ ρ2, (a ρ = .nx ρ2 ∨ a ρ = .ct ρ2) ∧ I ρ2 ∧ μ ρ2 < μ ρ)) (h : I ρ) (hm : μ ρ < 1000000000) :
    ∃ ρ', G.sWhile t a ρ = .nx ρ' ∧ I ρ' ∧ t ρ' = .ok false := by
  have key : ∀ (n : Nat) (ρ : Sl), I ρ → μ ρ < n → ∃ ρ', whileL t a n ρ = .nx ρ' ∧ I ρ' ∧ t ρ' = .ok false := by
    intro n
    induction n with
    | zero => intro ρ _ h; omega
    | succ n ih =>
      intro ρ hi hl
      rcases st ρ hi with e | ⟨e, ρ2, e2, i2, l2⟩
      · refine ⟨ρ, ?_, hi, e⟩
        unfold whileL
        rw [e]
      · obtain ⟨ρ', e3, e4⟩ := ih ρ2 i2 (by omega)
        refine ⟨ρ', ?_, e4⟩
        unfold whileL
        rw [e]
        rcases e2 with e2 | e2 <;> (dsimp only; rw [e2]; exact e3)
  unfold G.sWhile
  rw [FU_eq]
  exact key _ ρ h hm
end
end G
namespace GD
open PySem L2 G
theorem kAp_i {us : List Int} {x : Int} (h : us.length < SZ) : kAp (us.map D.int) (.int x) = some ((us ++ [x]).map D.int) := by
  unfold kAp
  rw [List.length_map, if_pos h, List.map_append]
  rfl
theorem draws_while {fr : D} {n : Int} {mix c : Int} {us : List Int} {rest : Int} {B : Nat} (hB : B < 1000000) (hn : n ≤ B) (hl : us.length ≤ B) (hr : 0 ≤ rest) :
    ∃ us' : List Int, ∃ rest' : Int, us'.length ≤ B ∧ G.sWhile T__law_draws_b2 S__law_draws_b1
      [.va fr, .va (.int n), .ow (.lst (us.map .int)), .va (.int mix), .va (.int c), .va (.int rest)] = .nx [.va fr, .va (.int n), .ow (.lst (us'.map .int)), .va (.int mix), .va (.int c), .va (.int rest')] := by
  obtain ⟨ρ', h1, ⟨us', rest', rfl, h2, _⟩, _⟩ := sWhile_nx (I := fun ρ => ∃ us : List Int, ∃ rest : Int, ρ = [.va fr, .va (.int n), .ow (.lst (us.map .int)), .va (.int mix), .va (.int c), .va (.int rest)] ∧ us.length ≤ B ∧ 0 ≤ rest)
    (t := T__law_draws_b2) (a := S__law_draws_b1)
    (μ := fun ρ => match ρ[2]? with
      | some (Slot.ow (.lst xs)) => B - xs.length
      | _ => 0)
    (ρ := [.va fr, .va (.int n), .ow (.lst (us.map .int)), .va (.int mix), .va (.int c), .va (.int rest)]) (fun ρ ⟨us, rest, e, hl, hr⟩ => by
      subst e
      by_cases c1 : 0 < rest
      · by_cases c2 : (us.length : Int) < n
        · right
          have hs : us.length < SZ := by unfold SZ; omega
          refine ⟨by simp [T__law_draws_b2, c1, c2], _, .inl ?_, ⟨us ++ [rest % 1000003], rest / 1000003, rfl, ?_, ?_⟩, ?_⟩
          · simp [S__law_draws_b1, sSeq_ap, kAp_i hs]
          · simp
            omega
          · omega
          · simp
            omega
        · left
          simp [T__law_draws_b2, c1, c2]
      · left
        simp [T__law_draws_b2, c1]) ⟨us, rest, rfl, hl, hr⟩ (by simp; omega)
  exact ⟨us', rest', h2, h1⟩
theorem draws_while2 {fr : D} {n : Int} {mix : Int} {s4 s5 : Slot} {us : List Int} {B : Nat} (hB : B < 1000000) (hn : n ≤ B) (hl : us.length ≤ B) :
    ∃ us' : List Int, ∃ mix' : Int, n ≤ us'.length ∧ us'.length ≤ B ∧ G.sWhile T__law_draws_b5 S__law_draws_b4
      [.va fr, .va (.int n), .ow (.lst (us.map .int)), .va (.int mix), s4, s5] = .nx [.va fr, .va (.int n), .ow (.lst (us'.map .int)), .va (.int mix'), s4, s5] := by
  obtain ⟨ρ', h1, ⟨us', mix', rfl, h2⟩, h3⟩ := sWhile_nx (I := fun ρ => ∃ us : List Int, ∃ mix : Int, ρ = [.va fr, .va (.int n), .ow (.lst (us.map .int)), .va (.int mix), s4, s5] ∧ us.length ≤ B)
    (t := T__law_draws_b5) (a := S__law_draws_b4)
    (μ := fun ρ => match ρ[2]? with
      | some (Slot.ow (.lst xs)) => B - xs.length
      | _ => 0)
    (ρ := [.va fr, .va (.int n), .ow (.lst (us.map .int)), .va (.int mix), s4, s5]) (fun ρ ⟨us, mix, e, hl⟩ => by
      subst e
      by_cases c2 : (us.length : Int) < n
      · right
        have hs : us.length < SZ := by unfold SZ; omega
        have b1 : (mix * 48271 + 11) % 2147483647 < 2 ^ 64 := by omega
        have b2 : -(2 ^ 64) < (mix * 48271 + 11) % 2147483647 := by omega
        refine ⟨by simp [T__law_draws_b5, c2], _, .inl ?_, ⟨us ++ [((mix * 48271 + 11) % 2147483647) * ((mix * 48271 + 11) % 2147483647) % 999983], (mix * 48271 + 11) % 2147483647, rfl, ?_⟩, ?_⟩
        · simp [S__law_draws_b4, sSeq_ap, kAp_i hs, oMul_r, oMul_l b2 b1]
        · simp
          omega
        · simp
          omega
      · left
        simp [T__law_draws_b5, c2]) ⟨us, mix, rfl, hl⟩ (by simp; omega)
  refine ⟨us', mix', ?_, h2, h1⟩
  simp [T__law_draws_b5] at h3
  exact h3
/-- the draws: at least as many whole numbers as are asked for -/
theorem draws {ns : List Int} {n : Int} (hns : ns.length ≤ 63) (h0 : 0 ≤ n) (hn : n ≤ 1000) : ∃ us : List Int, R__law_draws [.frl ns, .int n] = .ok (.lst (us.map .int), true) ∧ n ≤ us.length ∧ us.length ≤ 2000 := by
  obtain ⟨ρ', h1, ⟨us, mix, s4, s5, rfl, hl⟩⟩ := forL_nx (tg := .one 4) (a := S__law_draws_b3)
    (I := fun k ρ => ∃ us : List Int, ∃ mix : Int, ∃ s4 s5 : Slot, ρ = [.va (.frl ns), .va (.int n), .ow (.lst (us.map .int)), .va (.int mix), s4, s5] ∧ us.length ≤ k + n.toNat)
    (ds := ns.map .int) (k := 0) (ρ := [.va (.frl ns), .va (.int n), .ow (.lst (([] : List Int).map .int)), .va (.int 1), .un, .un]) ⟨[], 1, .un, .un, rfl, by simp⟩ (fun j d ρ hd ⟨us, mix, s4, s5, e, hl⟩ => by
      subst e
      obtain ⟨lt, e⟩ := List.getElem?_eq_some_iff.mp hd
      have lt : j < ns.length := by simpa using lt
      rw [List.getElem_map] at e
      subst e
      have hs : us.length < SZ := by unfold SZ; omega
      by_cases c1 : (if ns[j] < 0 then -ns[j] else ns[j]) < 10 ^ 18
      · obtain ⟨us', rest', z1, z2⟩ := draws_while (fr := .frl ns) (n := n) (mix := (mix * 31 + ns[j]) % 2147483647) (c := ns[j]) (us := us ++ [ns[j]]) (rest := 0) (B := j + n.toNat + 1) (by omega) (by omega) (by simp; omega) (by omega)
        refine ⟨[.va (.frl ns), .va (.int n), .ow (.lst (us.map .int)), .va (.int mix), .va (.int ns[j]), s5], _, by simp, .inl ?_, us', (mix * 31 + ns[j]) % 2147483647, .va (.int ns[j]), .va (.int rest'), rfl, by omega⟩
        simp at c1
        simp [S__law_draws_b3, sSeq_ap, oMul_r, c1, kAp_i hs]
        simpa using z2
      · have nn : (0 : Int) ≤ if ns[j] < 0 then -ns[j] else ns[j] := by split <;> omega
        obtain ⟨us', rest', z1, z2⟩ := draws_while (fr := .frl ns) (n := n) (mix := (mix * 31 + ns[j]) % 2147483647) (c := ns[j]) (us := us) (rest := if ns[j] < 0 then -ns[j] else ns[j]) (B := j + n.toNat + 1) (by omega) (by omega) (by omega) nn
        refine ⟨[.va (.frl ns), .va (.int n), .ow (.lst (us.map .int)), .va (.int mix), .va (.int ns[j]), s5], _, by simp, .inl ?_, us', (mix * 31 + ns[j]) % 2147483647, .va (.int ns[j]), .va (.int rest'), rfl, by omega⟩
        simp at c1
        simp [S__law_draws_b3, sSeq_ap, oMul_r, Int.not_lt.mpr c1]
        simpa using z2)
  obtain ⟨us', mix', g1, g2, g3⟩ := draws_while2 (fr := .frl ns) (n := n) (mix := mix) (s4 := s4) (s5 := s5) (us := us) (B := 63 + n.toNat) (by omega) (by omega) (by simp at hl; omega)
  refine ⟨us', ?_, g1, by omega⟩
  simp at h1
  simp [R__law_draws, denF, slots, S__law_draws, sSeq_ap, sFor_ap, h1, g3, SZ]
def Bits (bs : List Int) : Prop := ∀ b ∈ bs, b = 0 ∨ b = 1
theorem mod2 (x : Int) : x % 2 = 0 ∨ x % 2 = 1 := by omega
theorem Bits.append {as bs : List Int} (h : Bits as) (g : Bits bs) : Bits (as ++ bs) := fun b hb => (List.mem_append.mp hb).elim (h b) (g b)
theorem Bits.get {bs : List Int} (h : Bits bs) (i : Nat) : gt bs i = 0 ∨ gt bs i = 1 := by
  unfold gt
  rw [List.getD_eq_getElem?_getD]
  cases q : bs[i]? with
  | none => exact .inl rfl
  | some b => exact h b (List.mem_of_getElem? q)
theorem cutD_from {xs : List D} {k : Int} (h0 : 0 ≤ k) (h1 : k ≤ xs.length) : cutD xs (some k) none = xs.drop k.toNat := by
  obtain ⟨n, rfl⟩ := Int.eq_ofNat_of_zero_le h0
  unfold cutD
  rw [HT.sIx_nat, HT.sIx_none, Int.toNat_natCast, Nat.min_eq_left (by omega)]
  exact List.take_of_length_le (by rw [List.length_drop]; exact Nat.le_refl _)
theorem cutD_to {xs : List D} {k : Int} (h0 : 0 ≤ k) : cutD xs none (some k) = xs.take k.toNat := by
  obtain ⟨n, rfl⟩ := Int.eq_ofNat_of_zero_le h0
  unfold cutD
  rw [HT.sIx_nat, HT.sIx_none, Int.toNat_natCast, List.drop_zero, Nat.sub_zero]
  by_cases q : n ≤ xs.length
  · rw [Nat.min_eq_left q]
  · rw [Nat.min_eq_right (by omega), List.take_length, List.take_of_length_le (by omega)]
theorem rngD_get {n : Int} {j : Nat} {d : D} (h : (rngD 0 n)[j]? = some d) : d = .int j ∧ (j : Int) < n := by
  unfold rngD at h
  rw [List.getElem?_map] at h
  cases q : (List.range (n - 0).toNat)[j]? with
  | none => rw [q] at h; cases h
  | some m =>
    rw [q] at h
    have e := List.getElem?_eq_some_iff.mp q
    obtain ⟨lt, e⟩ := e
    rw [List.getElem_range] at e
    subst e
    simp at lt
    refine ⟨?_, by omega⟩
    simp at h
    exact h.symm
theorem rngD_len (n : Int) : (rngD 0 n).length = n.toNat := by simp [rngD]
theorem bits {num many : Int} (h0 : 0 ≤ many) (h1 : many ≤ 1000) : ∃ bs : List Int, R__law_bits [.int num, .int many] = .ok (.lst (bs.map .int), true) ∧ (bs.length : Int) = many ∧ Bits bs := by
  obtain ⟨ρ', e1, ⟨bs, x, s3, rfl, hl, hb⟩⟩ := forL_nx (tg := .one 3) (a := S__law_bits_b1)
    (I := fun k ρ => ∃ bs : List Int, ∃ x : Int, ∃ s3 : Slot, ρ = [.va (.int x), .va (.int many), .ow (.lst (bs.map .int)), s3] ∧ bs.length = k ∧ Bits bs)
    (ds := rngD 0 many) (k := 0) (ρ := [.va (.int num), .va (.int many), .ow (.lst (([] : List Int).map .int)), .un]) ⟨[], num, .un, rfl, rfl, fun _ h => by cases h⟩ (fun j d ρ hd ⟨bs, x, s3, e, hl, hb⟩ => by
      subst e
      obtain ⟨rfl, lt⟩ := rngD_get hd
      have hs : bs.length < SZ := by unfold SZ; omega
      refine ⟨[.va (.int x), .va (.int many), .ow (.lst (bs.map .int)), .va (.int j)], _, by simp, .inl ?_, bs ++ [x % 2], x / 2, .va (.int j), rfl, by simp [hl], hb.append fun b hb => ?_⟩
      · simp [S__law_bits_b1, sSeq_ap, kAp_i hs]
      · simp at hb
        rw [hb]
        exact mod2 x)
  refine ⟨bs, ?_, by rw [hl, rngD_len]; omega, hb⟩
  simp at e1
  simp [R__law_bits, denF, slots, S__law_bits, sSeq_ap, sFor_ap, in62_of (show -(2 ^ 62) < many by omega) (by omega), e1, SZ]
theorem emod_le_nat (j : Nat) {p : Int} (h : 0 < p) : (j : Int) % p ≤ j := by
  obtain ⟨q, rfl⟩ := Int.eq_ofNat_of_zero_le (Int.le_of_lt h)
  have e : ((j % q : Nat) : Int) = (j : Int) % (q : Int) := by simp
  have := Nat.mod_le j q
  show (j : Int) % (q : Int) ≤ j
  omega
theorem lcA_ok {tg : Tg} {e : ES} {ρ : Sl} {P : Nat → D → Prop} : ∀ {ds acc : List D} {k : Nat}, acc.length + ds.length < SZ → (∀ (j : Nat) (d : D), ds[j]? = some d → ∃ ρ1 y kd, tgSet tg d ρ = some ρ1 ∧ e ρ1 = .ok (y, kd) ∧ kd.solid = true ∧ P (k + j) y) →
    ∃ r : List D, lcA tg tYes e ρ acc ds = .ok (acc ++ r) ∧ r.length = ds.length ∧ ∀ (j : Nat) (y : D), r[j]? = some y → P (k + j) y
  | [], acc, k, _, _ => ⟨[], by simp [lcA], rfl, fun j y h => by simp at h⟩
  | d :: ds, acc, k, hl, h => by
    obtain ⟨ρ1, y, kd, h1, h2, h3, h4⟩ := h 0 d rfl
    obtain ⟨r, g1, g2, g3⟩ := lcA_ok (tg := tg) (e := e) (ρ := ρ) (P := P) (ds := ds) (acc := acc ++ [y]) (k := k + 1) (by simp at hl ⊢; omega) fun j d hd => by
      have := h (j + 1) d (by simpa using hd)
      rwa [show k + (j + 1) = k + 1 + j from by omega] at this
    refine ⟨y :: r, ?_, by simp [g2], fun j z hz => ?_⟩
    · unfold lcA
      rw [h1]
      dsimp only
      show (match (Out.ok true : Out Bool) with
        | .ok true => match e ρ1 with
          | .ok (y, k) => if k.solid && decide (acc.length < SZ) then lcA tg tYes e ρ (acc ++ [y]) ds else .no
          | _ => .no
        | .ok false => lcA tg tYes e ρ acc ds
        | _ => .no) = _
      dsimp only
      rw [h2]
      dsimp only
      rw [h3, decide_eq_true (by simp at hl; omega : acc.length < SZ)]
      simp [g1]
    · cases j with
      | zero =>
        simp at hz
        subst hz
        exact h4
      | succ j =>
        have := g3 j z (by simpa using hz)
        rwa [show k + 1 + j = k + (j + 1) from by omega] at this
/-- whole numbers in order -/
theorem ints_of : ∀ {ds : List D} {P : Int → Prop}, (∀ (j : Nat) (y : D), ds[j]? = some y → ∃ i, y = .int i ∧ P i) → ∃ us : List Int, ds = us.map .int ∧ ∀ u ∈ us, P u
  | [], _, _ => ⟨[], rfl, fun _ h => by cases h⟩
  | d :: ds, P, h => by
    obtain ⟨i, rfl, hi⟩ := h 0 d rfl
    obtain ⟨us, rfl, hu⟩ := ints_of (ds := ds) (P := P) fun j y hy => h (j + 1) y (by simpa using hy)
    exact ⟨i :: us, rfl, fun u hm => (List.mem_cons.mp hm).elim (fun e => e ▸ hi) (hu u)⟩
theorem row {us : List Int} {many : Int} (hu : 4 ≤ us.length) (h0 : 0 ≤ many) (h1 : many ≤ 1000) : ∃ bs : List Int, R__law_row [.lst (us.map .int), .int many] = .ok (.lst (bs.map .int), false) ∧ (bs.length : Int) = many ∧ Bits bs := by
  have i0 := oIx_i (us := us) (i := 0) (by omega) (by omega)
  have i1 := oIx_i (us := us) (i := 1) (by omega) (by omega)
  have i2 := oIx_i (us := us) (i := 2) (by omega) (by omega)
  have i3 := oIx_i (us := us) (i := 3) (by omega) (by omega)
  have in62m := in62_of (show -(2 ^ 62) < many by omega) (by omega)
  have key : ∀ num : Int, ∃ bs : List Int, (match (R__law_bits [.int num, .int many]) with
      | .ok (d, _) => (if gt us 3 % 5 = 4 then (match lcA (.one 4) tYes (eBin oIx (eVar 3) (eBin oMod (eVar 4) (eBin oAdd (eC (.int 1)) (eBin oMod (eBin oIx (eVar 0) (eC (.int 1))) (eC (.int 4)))))) [.va (.lst (us.map .int)), .va (.int many), .va (.int num), .va d, .un] [] (rngD 0 many) with
        | .ok r => r
        | _ => []) else (match d with
        | .lst xs => xs
        | _ => []))
      | _ => []) = bs.map .int ∧ (bs.length : Int) = many ∧ Bits bs ∧ (∃ d, R__law_bits [.int num, .int many] = .ok (.lst d, true) ∧ (gt us 3 % 5 = 4 → lcA (.one 4) tYes (eBin oIx (eVar 3) (eBin oMod (eVar 4) (eBin oAdd (eC (.int 1)) (eBin oMod (eBin oIx (eVar 0) (eC (.int 1))) (eC (.int 4)))))) [.va (.lst (us.map .int)), .va (.int many), .va (.int num), .va (.lst d), .un] [] (rngD 0 many) = .ok (bs.map .int)) ∧ (¬ gt us 3 % 5 = 4 → d = bs.map .int)) := by
    intro num
    obtain ⟨bs, e1, e2, e3⟩ := bits (num := num) h0 h1
    by_cases q : gt us 3 % 5 = 4
    · obtain ⟨r, g1, g2, g3⟩ := lcA_ok (tg := .one 4) (e := eBin oIx (eVar 3) (eBin oMod (eVar 4) (eBin oAdd (eC (.int 1)) (eBin oMod (eBin oIx (eVar 0) (eC (.int 1))) (eC (.int 4)))))) (ρ := [.va (.lst (us.map .int)), .va (.int many), .va (.int num), .va (.lst (bs.map .int)), .un])
        (P := fun _ y => ∃ i, y = .int i ∧ (i = 0 ∨ i = 1)) (ds := rngD 0 many) (acc := []) (k := 0) (by rw [rngD_len]; unfold SZ; simp; omega) (fun j d hd => by
          obtain ⟨rfl, lt⟩ := rngD_get hd
          have p1 : 0 < 1 + gt us 1 % 4 := by omega
          have p2 : 0 ≤ (j : Int) % (1 + gt us 1 % 4) := Int.emod_nonneg _ (by omega)
          have p3 : (j : Int) % (1 + gt us 1 % 4) < bs.length := by
            rw [e2]
            exact Int.lt_of_le_of_lt (emod_le_nat j (by omega)) lt
          have i4 := oIx_i (us := bs) p2 p3
          refine ⟨[.va (.lst (us.map .int)), .va (.int many), .va (.int num), .va (.lst (bs.map .int)), .va (.int j)], .int (gt bs ((j : Int) % (1 + gt us 1 % 4)).toNat), .sh, by simp, ?_, rfl, _, rfl, e3.get _⟩
          simp at i1 i4 p1
          simp [i1, p1, i4])
      obtain ⟨vs, e4, e5⟩ := ints_of g3
      refine ⟨vs, ?_, ?_, e5, bs.map .int, e1, fun _ => ?_, fun z => absurd q z⟩
      · rw [e1]
        dsimp only
        rw [if_pos q, g1]
        simpa using e4
      · have := congrArg List.length e4
        rw [List.length_map, g2, rngD_len] at this
        omega
      · rw [g1, e4]
        rfl
    · refine ⟨bs, ?_, e2, e3, bs.map .int, e1, fun z => absurd z q, fun _ => rfl⟩
      rw [e1]
      dsimp only
      rw [if_neg q]
  by_cases q3 : gt us 3 % 5 = 3
  · obtain ⟨bs, _, h2, h3, d, h4, h5, h6⟩ := key (-(gt us 0 % 2))
    refine ⟨bs, ?_, h2, h3⟩
    have ne : ¬ gt us 3 % 5 = 4 := by omega
    obtain rfl := h6 ne
    simp at i0 i1 i2 i3 h4 q3
    simp [R__law_row, denF, slots, S__law_row, sSeq_ap, i0, i1, i2, i3, oMul_l, oMul_r, q3, h4]
  · obtain ⟨bs, _, h2, h3, d, h4, h5, h6⟩ := key (gt us 0 + 1000003 * gt us 1 + 1000003 * 1000003 * gt us 2)
    refine ⟨bs, ?_, h2, h3⟩
    by_cases q4 : gt us 3 % 5 = 4
    · have h5 := h5 q4
      simp at i0 i1 i2 i3 h4 q4 h5
      simp [R__law_row, denF, slots, S__law_row, sSeq_ap, i0, i1, i2, i3, oMul_l, oMul_r, q4, h4, eLc, wipeS, in62m, h5]
    · obtain rfl := h6 q4
      simp at i0 i1 i2 i3 h4 q3 q4
      simp [R__law_row, denF, slots, S__law_row, sSeq_ap, i0, i1, i2, i3, oMul_l, oMul_r, q3, q4, h4]
end GD
namespace GD
open PySem L2 G
theorem pick5 {a b c d e : Int} {x : Int} {P : Int → Prop} (ha : P a) (hb : P b) (hc : P c) (hd : P d) (he : P e) : ∃ m, oIx (.lst [.int a, .int b, .int c, .int d, .int e]) (.int (x % 5)) = .ok (.int m, .sh) ∧ P m := by
  have h : x % 5 = 0 ∨ x % 5 = 1 ∨ x % 5 = 2 ∨ x % 5 = 3 ∨ x % 5 = 4 := by omega
  rcases h with h | h | h | h | h <;> rw [h]
  · exact ⟨a, rfl, ha⟩
  · exact ⟨b, rfl, hb⟩
  · exact ⟨c, rfl, hc⟩
  · exact ⟨d, rfl, hd⟩
  · exact ⟨e, rfl, he⟩
abbrev dI (us : List Int) : D := .lst (us.map .int)
theorem cut_us {us : List Int} {k : Int} (h0 : 0 ≤ k) (h1 : k ≤ us.length) : cutD (us.map .int) (some k) none = (us.drop k.toNat).map .int := by
  rw [cutD_from h0 (by simpa using h1), List.map_drop]
/-- what a plan is -/
structure Plan (s : Int) (us ls : List Int) : Prop where
  bs : s = 0 ∨ s = 1
  bu : Bits us
  bl : Bits ls
  lu : us.length ≤ 39
  ll : ls.length ≤ 39
theorem plan {us : List Int} (hu : 12 ≤ us.length) : ∃ s : Int, ∃ as bs : List Int, R__law_plan [.lst (us.map .int)] = .ok (.tup [.int s, dI as, dI bs], false) ∧ Plan s as bs := by
  have i0 := oIx_i (us := us) (i := 0) (by omega) (by omega)
  have i1 := oIx_i (us := us) (i := 1) (by omega) (by omega)
  have i2 := oIx_i (us := us) (i := 2) (by omega) (by omega)
  have i3 := oIx_i (us := us) (i := 3) (by omega) (by omega)
  obtain ⟨m1, p1, q1⟩ := pick5 (a := 9) (b := 9) (c := 16) (d := 40) (e := 6) (x := gt us 0) (P := fun m => 1 ≤ m ∧ m ≤ 40) (by omega) (by omega) (by omega) (by omega) (by omega)
  obtain ⟨m2, p2, q2⟩ := pick5 (a := 9) (b := 16) (c := 16) (d := 6) (e := 40) (x := gt us 0) (P := fun m => 1 ≤ m ∧ m ≤ 40) (by omega) (by omega) (by omega) (by omega) (by omega)
  have w1 : 0 ≤ gt us 1 % m1 := Int.emod_nonneg _ (by omega)
  have w2 : gt us 1 % m1 < m1 := Int.emod_lt_of_pos _ (by omega)
  have w3 : 0 ≤ gt us 2 % m2 := Int.emod_nonneg _ (by omega)
  have w4 : gt us 2 % m2 < m2 := Int.emod_lt_of_pos _ (by omega)
  obtain ⟨as, r1, l1, b1⟩ := row (us := us.drop 4) (many := gt us 1 % m1) (by simp; omega) w1 (by omega)
  obtain ⟨bs, r2, l2, b2⟩ := row (us := us.drop 8) (many := gt us 2 % m2) (by simp; omega) w3 (by omega)
  refine ⟨gt us 3 % 2, as, bs, ?_, mod2 _, b1, b2, by omega, by omega⟩
  have c4 := cut_us (us := us) (k := 4) (by omega) (by omega)
  have c8 := cut_us (us := us) (k := 8) (by omega) (by omega)
  have z1 : 0 < m1 := by omega
  have z2 : 0 < m2 := by omega
  have a1 : 1 + gt us 1 % m1 - 1 = gt us 1 % m1 := by omega
  have a2 : 1 + gt us 2 % m2 - 1 = gt us 2 % m2 := by omega
  simp at i0 i1 i2 i3 p1 p2 c4 c8 r1 r2 a1 a2
  simp [R__law_plan, denF, slots, S__law_plan, sSeq_ap, i0, i1, i2, i3, p1, p2, c4, c8, r1, r2, z1, z2, a1, a2, SZ]
abbrev cl (s : Int) (us ls : List Int) : D := .obj 20 [.int s, dI us, dI ls]
theorem ask_bits_ok {bs : List Int} (h : Bits bs) : R_ask_bits [dI bs] = .ok (.non, false) := by
  obtain ⟨ρ', h1, _⟩ := forL_nx (tg := .one 1) (a := S_ask_bits_b1) (I := fun _ ρ => ∃ x, ρ = [.va (dI bs), x]) (ds := bs.map .int) (k := 0) (ρ := [.va (dI bs), .un]) ⟨_, rfl⟩ (fun j d ρ hd ⟨x, e⟩ => by
    subst e
    obtain ⟨lt, e⟩ := List.getElem?_eq_some_iff.mp hd
    have lt : j < bs.length := by simpa using lt
    rw [List.getElem_map] at e
    subst e
    refine ⟨[.va (dI bs), .va (.int bs[j])], [.va (dI bs), .va (.int bs[j])], by simp, .inl ?_, _, rfl⟩
    rcases h bs[j] (List.getElem_mem lt) with z | z <;> simp [S_ask_bits_b1, z])
  simp [R_ask_bits, denF, slots, S_ask_bits, sFor_ap, h1]
theorem init_cl {s : Int} {us ls : List Int} (p : Plan s us ls) : R_Cloth___init__ [.int s, dI us, dI ls] = .ok (cl s us ls, true) := by
  have ab := ask_bits_ok (bs := [s] ++ us ++ ls) (Bits.append (Bits.append (fun b hb => by simp at hb; subst hb; exact p.bs) p.bu) p.bl)
  have n1 : ¬ (40 : Int) ≤ us.length := by have := p.lu; omega
  have n2 : ¬ (40 : Int) ≤ ls.length := by have := p.ll; omega
  have n3 : 1 + us.length ≤ SZ := by have := p.lu; unfold SZ; omega
  have n4 : us.length + 1 + ls.length ≤ SZ := by have := p.ll; have := p.lu; unfold SZ; omega
  simp [dI] at ab n3 n4
  simp [R_Cloth___init__, denI, slots, S_Cloth___init__, sSeq_ap, n1, n2, n3, n4, ab, fxOne, SZ]
theorem made {s : Int} {us ls : List Int} (p : Plan s us ls) : R__law_made [.tup [.int s, dI us, dI ls]] = .ok (cl s us ls, true) := by
  have h := init_cl p
  have e0 : oIx (.tup [.int s, dI us, dI ls]) (.int 0) = .ok (.int s, .sh) := rfl
  have e1 : oIx (.tup [.int s, dI us, dI ls]) (.int 1) = .ok (dI us, .sh) := rfl
  have e2 : oIx (.tup [.int s, dI us, dI ls]) (.int 2) = .ok (dI ls, .sh) := rfl
  simp [R__law_made, denF, slots, S__law_made, e0, e1, e2, h]
theorem wide_cl (s : Int) (us ls : List Int) : R_Cloth_wide [cl s us ls] = .ok (.int (us.length + 1), false) := by
  simp [R_Cloth_wide, denF, slots, S_Cloth_wide]
theorem tall_cl (s : Int) (us ls : List Int) : R_Cloth_tall [cl s us ls] = .ok (.int (ls.length + 1), false) := by
  simp [R_Cloth_tall, denF, slots, S_Cloth_tall]
theorem ask_cell_ok {s : Int} {us ls : List Int} {x y : Int} (h1 : 0 ≤ x) (h2 : x ≤ us.length) (h3 : 0 ≤ y) (h4 : y ≤ ls.length) : R_Cloth_ask_cell [cl s us ls, .int x, .int y] = .ok (.non, false) := by
  have e1 : ¬ x < 0 := by omega
  have e2 : ¬ y < 0 := by omega
  have e3 : ¬ ((us.length : Int) + 1 ≤ x) := by omega
  have e4 : ¬ ((ls.length : Int) + 1 ≤ y) := by omega
  simp [R_Cloth_ask_cell, denF, slots, S_Cloth_ask_cell, wide_cl, tall_cl, e1, e2, e3, e4]
/-- the colour by the plain rule -/
def colour (s : Int) (us ls : List Int) (x y : Int) : Int := (s + (us.take x.toNat).sum + (ls.take y.toNat).sum + x * y) % 2
theorem cut_to {us : List Int} {k : Int} (h0 : 0 ≤ k) : cutD (us.map .int) none (some k) = (us.take k.toNat).map .int := by
  rw [cutD_to h0, List.map_take]
theorem colour_ok {s : Int} {us ls : List Int} {x y : Int} (p : Plan s us ls) (h1 : 0 ≤ x) (h2 : x ≤ us.length) (h3 : 0 ≤ y) (h4 : y ≤ ls.length) : R_Cloth_colour [cl s us ls, .int x, .int y] = .ok (.int (colour s us ls x y), false) := by
  have a := ask_cell_ok (s := s) h1 h2 h3 h4
  have c1 := cut_to (us := us) h1
  have c2 := cut_to (us := ls) h3
  have b1 := oBi_sum (us.take x.toNat)
  have b2 := oBi_sum (ls.take y.toNat)
  have m := oMul_l (m := x) (n := y) (by omega) (by have := p.lu; omega)
  simp at a c1 c2 b1 b2
  simp [R_Cloth_colour, denF, slots, S_Cloth_colour, sSeq_ap, a, c1, c2, b1, b2, m, colour]
end GD
namespace GD
open PySem L2 G
/-- a for over range(n) -/
theorem for_rng {i : Nat} {n : Int} {a : SS} {ρ : Sl} (I : Nat → Sl → Prop) (h0 : I 0 ρ) (st : ∀ (j : Nat) (ρ : Sl), (j : Int) < n → I j ρ → i < ρ.length ∧ ∃ ρ2, (a (ρ.set i (.va (.int j))) = .nx ρ2 ∨ a (ρ.set i (.va (.int j))) = .ct ρ2) ∧ I (j + 1) ρ2) :
    ∃ ρ', forL (.one i) a (rngD 0 n) ρ = .nx ρ' ∧ I n.toNat ρ' := by
  obtain ⟨ρ', h1, h2⟩ := forL_nx (tg := .one i) (a := a) (I := I) (ds := rngD 0 n) (k := 0) (ρ := ρ) h0 (fun j d ρ hd hi => by
    rw [Nat.zero_add] at hi ⊢
    obtain ⟨rfl, lt⟩ := rngD_get hd
    obtain ⟨l, ρ2, h1, h2⟩ := st j ρ lt hi
    exact ⟨ρ.set i (.va (.int j)), ρ2, by simp [l], h1, h2⟩)
  rw [Nat.zero_add, rngD_len] at h2
  exact ⟨ρ', h1, h2⟩
/-- values that are like themselves -/
inductive Nice : Nat → D → Prop
  | int (n : Nat) (i : Int) : Nice (n + 1) (.int i)
  | bl (n : Nat) (i : Bool) : Nice (n + 1) (.bl i)
  | str (n : Nat) (i : Str) : Nice (n + 1) (.str i)
  | lst {n : Nat} {xs : List D} : xs.length < SZ → (∀ x ∈ xs, Nice n x) → Nice (n + 1) (.lst xs)
  | tup {n : Nat} {xs : List D} : xs.length < SZ → (∀ x ∈ xs, Nice n x) → Nice (n + 1) (.tup xs)
theorem Nice.up {n : Nat} {d : D} (h : Nice n d) : Nice (n + 1) d := by
  induction h with
  | int n i => exact .int _ _
  | bl n i => exact .bl _ _
  | str n i => exact .str _ _
  | lst l _ ih => exact .lst l ih
  | tup l _ ih => exact .tup l ih
theorem Nice.le {n m : Nat} {d : D} (h : Nice n d) (l : n ≤ m) : Nice m d := by
  induction l with
  | refl => exact h
  | step _ ih => exact ih.up
theorem nice_ints {us : List Int} (h : us.length < SZ) : Nice 2 (dI us) := .lst (by simpa using h) fun x hx => by
  obtain ⟨i, _, rfl⟩ := List.mem_map.mp hx
  exact .int _ _
theorem zip_self : ∀ xs : List D, zipD xs xs = xs.map fun x => .tup [x, x]
  | [] => rfl
  | x :: xs => by
    show D.tup [x, x] :: zipD xs xs = _
    rw [zip_self xs]
    rfl
theorem bools_true : ∀ r : List D, (∀ (j : Nat) (y : D), r[j]? = some y → y = .bl true) → boolsOf r = some (List.replicate r.length true)
  | [], _ => rfl
  | d :: r, h => by
    obtain rfl := h 0 d rfl
    show (boolsOf r).map (true :: ·) = _
    rw [bools_true r fun j y hy => h (j + 1) y (by simpa using hy)]
    rfl
theorem all_true (r : List D) (h : ∀ (j : Nat) (y : D), r[j]? = some y → y = .bl true) : oBi .all [.lst r] = .ok (.bl true, .sh) := by
  show (match boolsOf r with
    | some bs => shr (.bl (bs.all id))
    | none => .no) = _
  rw [bools_true r h]
  simp
theorem same_step {self : List D → Out (D × Bool)} {ρ : Sl} {xs : List D} (hl : xs.length < SZ) (h2 : 3 < ρ.length) (hs : ∀ x ∈ xs, self [x, x] = .ok (.bl true, false)) :
    ∃ r, lcA (.tup [.one 2, .one 3]) tYes (eFn self [eVar 2, eVar 3]) ρ [] (zipD xs xs) = .ok r ∧ ∀ (j : Nat) (y : D), r[j]? = some y → y = .bl true := by
  obtain ⟨r, g1, g2, g3⟩ := lcA_ok (tg := .tup [.one 2, .one 3]) (e := eFn self [eVar 2, eVar 3]) (ρ := ρ) (P := fun _ y => y = .bl true) (ds := zipD xs xs) (acc := []) (k := 0) (by rw [zip_self]; simpa using hl) (fun j d hd => by
    rw [zip_self, List.getElem?_map] at hd
    cases q : xs[j]? with
    | none => rw [q] at hd; cases hd
    | some x =>
      rw [q] at hd
      cases hd
      have hx := hs x (List.mem_of_getElem? q)
      refine ⟨(ρ.set 2 (.va x)).set 3 (.va x), .bl true, .sh, ?_, ?_, rfl, rfl⟩
      · have h3 : 2 < ρ.length := by omega
        simp [h2, h3]
      · have e2 : ((ρ.set 2 (.va x)).set 3 (.va x))[2]? = some (.va x) := by
          rw [List.getElem?_set_ne (by decide), List.getElem?_set_self (by omega)]
        have e3 : ((ρ.set 2 (.va x)).set 3 (.va x))[3]? = some (.va x) := List.getElem?_set_self (by rw [List.length_set]; exact h2)
        simp [eFn_ap, e2, e3, hx])
  exact ⟨r, by simpa using g1, g3⟩
@[simp] theorem oIsi_int (T : String) (i : Int) : oIsi T (.int i) = .ok (.bl (isiT T "int"), .sh) := rfl
@[simp] theorem oIsi_bl (T : String) (i : Bool) : oIsi T (.bl i) = .ok (.bl (isiT T "bool"), .sh) := rfl
@[simp] theorem oIsi_str (T : String) (i : Str) : oIsi T (.str i) = .ok (.bl (isiT T "str"), .sh) := rfl
@[simp] theorem oIsi_lst (T : String) (i : List D) : oIsi T (.lst i) = .ok (.bl (isiT T "list"), .sh) := rfl
@[simp] theorem oIsi_tup (T : String) (i : List D) : oIsi T (.tup i) = .ok (.bl (isiT T "tuple"), .sh) := rfl
@[simp] theorem oIsi_non (T : String) : oIsi T .non = .ok (.bl (isiT T "NoneType"), .sh) := rfl
theorem same_self : ∀ {n : Nat} {d : D}, Nice n d → RR__law_same n [d, d] = .ok (.bl true, false)
  | 0, _, h => by cases h
  | n + 1, _, .int _ i => by simp [RR__law_same, denF, slots, S__law_same, sSeq_ap, isiT]
  | n + 1, _, .bl _ i => by simp [RR__law_same, denF, slots, S__law_same, sSeq_ap, isiT]
  | n + 1, _, .str _ i => by simp [RR__law_same, denF, slots, S__law_same, sSeq_ap, isiT]
  | n + 1, _, .lst (xs := xs) l h => by
    obtain ⟨r, h1, h2⟩ := same_step (self := RR__law_same n) (ρ := [.va (.lst xs), .va (.lst xs), .un, .un]) l (by simp) fun x hx => same_self (h x hx)
    simp [RR__law_same, denF, slots, S__law_same, sSeq_ap, isiT, eLc, wipeS, itZip, h1, all_true r h2]
  | n + 1, _, .tup (xs := xs) l h => by
    obtain ⟨r, h1, h2⟩ := same_step (self := RR__law_same n) (ρ := [.va (.tup xs), .va (.tup xs), .un, .un]) l (by simp) fun x hx => same_self (h x hx)
    simp [RR__law_same, denF, slots, S__law_same, sSeq_ap, isiT, eLc, wipeS, itZip, h1, all_true r h2]
theorem same {d : D} (h : Nice 6 d) : R__law_same [d, d] = .ok (.bl true, false) := same_self h
theorem shade_cl (s : Int) (us ls : List Int) : R_Cloth_shade [cl s us ls] = .ok (.int s, false) := by simp [R_Cloth_shade, denF, slots, S_Cloth_shade]
theorem cols_cl (s : Int) (us ls : List Int) : R_Cloth_cols [cl s us ls] = .ok (dI us, true) := by simp [R_Cloth_cols, denF, slots, S_Cloth_cols]
theorem rows_cl (s : Int) (us ls : List Int) : R_Cloth_rows [cl s us ls] = .ok (dI ls, true) := by simp [R_Cloth_rows, denF, slots, S_Cloth_rows]
theorem told_cl (s : Int) (us ls : List Int) : R__law_told [cl s us ls] = .ok (.tup [.int s, dI us, dI ls], false) := by
  simp [R__law_told, denF, slots, S__law_told, shade_cl, cols_cl, rows_cl, SZ]
theorem nice_plan {s : Int} {us ls : List Int} (p : Plan s us ls) : Nice 6 (.tup [.int s, dI us, dI ls]) := by
  refine Nice.le (n := 3) (.tup (by simp [SZ]) fun x hx => ?_) (by decide)
  simp at hx
  have h1 : us.length < SZ := by have := p.lu; unfold SZ; omega
  have h2 : ls.length < SZ := by have := p.ll; unfold SZ; omega
  rcases hx with rfl | rfl | rfl
  · exact .int _ _
  · exact nice_ints h1
  · exact nice_ints h2
theorem sum_take {us : List Int} {x : Int} (h0 : 0 ≤ x) (h1 : x < us.length) : (us.take (x + 1).toNat).sum = (us.take x.toNat).sum + gt us x.toNat := by
  obtain ⟨n, rfl⟩ := Int.eq_ofNat_of_zero_le h0
  have l : n < us.length := by omega
  have e : ((n : Int) + 1).toNat = n + 1 := by omega
  rw [e, Int.toNat_natCast, List.take_succ, List.getElem?_eq_getElem l, List.sum_append, gt_eq l]
  simp
abbrev planD (s : Int) (us ls : List Int) : D := .tup [.int s, dI us, dI ls]
end GD
namespace GD
open PySem L2 G
@[simp] theorem get0 {α : Type} (a : α) (l : List α) : (a :: l)[0]? = some a := rfl
/-- numbers of at most eighteen figures -/
def Small (us : List Int) : Prop := ∀ u ∈ us, -1000000000000000000 < u ∧ u < 1000000000000000000
theorem Small.nil : Small [] := fun _ h => by cases h
theorem Small.snoc {us : List Int} {x : Int} (h : Small us) (h1 : -1000000000000000000 < x) (h2 : x < 1000000000000000000) : Small (us ++ [x]) := fun u hu => by
  rcases List.mem_append.mp hu with z | z
  · exact h u z
  · simp at z
    subst z
    exact ⟨h1, h2⟩
end GD
namespace G
open PySem L2
section
variable {f g h : ES} {t u : TSm} {s : IS} {a b : SS} {ρ : Sl} {i j : Nat} {d e : D} {k : Kd}
@[simp] theorem sTry_ap (hit : Nat → Option Bool) (su : Nat → List D → SS) : sTry i hit a su ρ = match a ρ with
  | .ex n fs ρ' => match hit n with
    | some true => fOut i (su n fs (clr i .xc ρ'))
    | some false => .ex n fs ρ'
    | none => .no
  | o => o := rfl
@[simp] theorem fOut_nx : fOut i (.nx ρ) = .nx (clr i .un ρ) := rfl
@[simp] theorem fOut_bk : fOut i (.bk ρ) = .bk (clr i .un ρ) := rfl
@[simp] theorem fOut_ct : fOut i (.ct ρ) = .ct (clr i .un ρ) := rfl
@[simp] theorem fOut_rt : fOut i (.rt d k ρ) = .rt d k (clr i .un ρ) := rfl
@[simp] theorem suN_nil (z : Nat → SS) (n : Nat) : suN z n [] = z n := rfl
@[simp] theorem unX_un : unX .un = .un := rfl
@[simp] theorem unX_va : unX (.va d) = .va d := rfl
@[simp] theorem unX_ow : unX (.ow d) = .ow d := rfl
@[simp] theorem unX_me (c : Nat) (ds : List D) : unX (.me c ds) = .un := rfl
@[simp] theorem unX_xc : unX .xc = .un := rfl
@[simp] theorem clr_ap (z : Slot) : clr i z ρ = (ρ.map unX).set i z := rfl
@[simp] theorem eCallX_ap (R : Nat → Out (D × Bool)) (n : Nat) : eCallX R i n ρ = match ρ[i]? with
  | some .xc => match R n with
    | .ok (d, b) => .ok (d, if b = true then .fr else .sh)
    | _ => .no
  | _ => .no := rfl
@[simp] theorem eIsE_ap (hit : Nat → Option Bool) (n : Nat) : eIsE hit i n ρ = match ρ[i]? with
  | some .xc => match hit n with
    | some b => .ok (.bl b, .sh)
    | none => .no
  | _ => .no := rfl
@[simp] theorem hitT_nil (n : Nat) : hitT [] n = none := rfl
@[simp] theorem hitT_cons (k : Nat) (b : Bool) (l : List (Nat × Bool)) (n : Nat) : hitT ((k, b) :: l) n = if n = k then some b else hitT l n := by
  unfold hitT
  rw [List.lookup_cons]
  by_cases q : n = k
  · rw [if_pos q, beq_iff_eq.mpr q]
  · rw [if_neg q, beq_eq_false_iff_ne.mpr q]
@[simp] theorem okArgs_nil : okArgs [] = true := rfl
@[simp] theorem okArgs_cons (x : D × Kd) (xs : List (D × Kd)) : okArgs (x :: xs) = ((x.2.solid || notObj x.1) && okArgs xs) := rfl
end
end G
namespace GD
open PySem L2 G
end GD
namespace G
open PySem L2
section
variable {f g h : ES} {t u : TSm} {ρ : Sl} {i j : Nat} {d e : D} {k : Kd} {c : Sh}
@[simp] theorem unX_pv (c : Sh) : unX (.pv c d) = .pv c d := rfl
@[simp] theorem sFrzA_ap : sFrzA i ρ = match ρ[i]? with
  | some (.ow d) => .nx (ρ.set i (.va d))
  | some (.pv _ d) => .nx (ρ.set i (.va d))
  | _ => .nx ρ := rfl
@[simp] theorem outOk_int (n : Int) : outOk (.int n) k = true := rfl
@[simp] theorem outOk_bl (n : Bool) : outOk (.bl n) k = true := rfl
@[simp] theorem outOk_str (n : Str) : outOk (.str n) k = true := rfl
@[simp] theorem outOk_non : outOk .non k = true := rfl
@[simp] theorem outOk_lst (ds : List D) : outOk (.lst ds) .fr = ds.all flat := rfl
@[simp] theorem outOk_obj (c : Nat) (ds : List D) : outOk (.obj c ds) .fr = true := rfl
@[simp] theorem eBor_ap : eBor i f ρ = match ρ[i]? with
  | some (.pv _ d) => (match f (ρ.set i (.va d)) with
    | .ok (r, k) => if outOk r k = true ∧ k.solid = true then .ok (r, k) else .no
    | .ex n fs => if fs = [] then .ex n [] else .no
    | .no => .no)
  | _ => f ρ := rfl
@[simp] theorem tBor_ap : tBor i t ρ = match ρ[i]? with
  | some (.pv _ d) => (match t (ρ.set i (.va d)) with
    | .ok b => .ok b
    | .ex n fs => if fs = [] then .ex n [] else .no
    | .no => .no)
  | _ => t ρ := rfl
@[simp] theorem okP_nil : okP [] = true := rfl
@[simp] theorem okP_cons (x : D × Kd) (xs : List (D × Kd)) : okP (x :: xs) = (okK x.1 x.2 && okP xs) := rfl
@[simp] theorem okK_fr : okK d .fr = true := rfl
@[simp] theorem okK_sh : okK d .sh = flat d := rfl
@[simp] theorem sSetLstP_ap (fs : List ES) : sSetLstP i fs ρ = sWith (eArgs fs ρ) ρ fun xs => if okP xs = true ∧ xs.length ≤ SZ then .nx (ρ.set i (.pv sh2 (.lst (xs.map (·.1))))) else .no := rfl
@[simp] theorem sAppP_ap : sAppP i f ρ = match ρ[i]? with
  | some (.pv (.nd k) (.lst ds)) => sWith (f ρ) ρ fun v => (match v with
    | (.lst es, .fr) => (match k ds.length with
      | .nd _ => if es.all flat = true ∧ ds.length < SZ then .nx (ρ.set i (.pv (.nd k) (.lst (ds ++ [.lst es])))) else .no
      | _ => .no)
    | _ => .no)
  | _ => .no := rfl
@[simp] theorem sAppF_ap : sAppF f g ρ = sWith (f ρ) ρ fun x => (match x with
  | (.lst ds, .fr) => sWith (g ρ) ρ fun _ => if ds.length < SZ then .nx ρ else .no
  | _ => .no) := rfl
@[simp] theorem sClrF_ap : sClrF f ρ = sWith (f ρ) ρ fun x => (match x with
  | (.lst _, .fr) => .nx ρ
  | _ => .no) := rfl
@[simp] theorem sPut2_ap : sPut2 i f g h ρ = match ρ[i]? with
  | some (.pv k (.lst ds)) => sWith (h ρ) ρ fun v => if v.2.solid then sWith (f ρ) ρ fun a => (match row2 k ds a.1 with
    | some (k2, p, es) => sWith (g ρ) ρ fun b => (match set2 k2 es b.1 v.1 with
      | some es' => .nx (ρ.set i (.pv k (.lst (ds.set p (.lst es')))))
      | none => .no)
    | none => .no) else .no
  | _ => .no := rfl
end
end G
namespace GD
open PySem L2 G
end GD
namespace G
open PySem L2 PySem.W
section
variable {f g : ES} {ρ : Sl}
@[simp] theorem eLm_ap (op : List D → D → Out (D × Kd)) : eLm op f g ρ = (f ρ).bind fun x => match x.1 with
  | .lst ds => (g ρ).bind fun y => op ds y.1
  | _ => .no := rfl
end
abbrev Pt : Type := Int × Int
def leP (p q : Pt) : Bool := decide (p.1 < q.1 ∨ (p.1 = q.1 ∧ p.2 ≤ q.2))
def sortP (ps : List Pt) : List Pt := ps.mergeSort leP
theorem sortP_perm (ps : List Pt) : (sortP ps).Perm ps := List.mergeSort_perm ps leP
theorem sortP_len (ps : List Pt) : (sortP ps).length = ps.length := List.length_mergeSort ps
end G
namespace GD
open PySem L2 G
section
variable {s : Int} {us ls : List Int}
/-- the partner along the row, along the column -/
def rx (ls : List Int) (x y : Int) : Int := if (x + gt ls (y - 1).toNat) % 2 = 1 then x + 1 else x - 1
def cy (us : List Int) (x y : Int) : Int := if (y + gt us (x - 1).toNat) % 2 = 1 then y + 1 else y - 1
def rowN (us ls : List Int) (x y : Int) : List Pt := if 0 < y ∧ y < ls.length + 1 ∧ 0 ≤ rx ls x y ∧ rx ls x y ≤ us.length + 1 then [(rx ls x y, y)] else []
def colN (us ls : List Int) (x y : Int) : List Pt := if 0 < x ∧ x < us.length + 1 ∧ 0 ≤ cy us x y ∧ cy us x y ≤ ls.length + 1 then [(x, cy us x y)] else []
def joinL (us ls : List Int) (x y : Int) : List Pt := sortP (rowN us ls x y ++ colN us ls x y)
theorem rowN_len (us ls : List Int) (x y : Int) : (rowN us ls x y).length ≤ 1 := by unfold rowN; split <;> simp
theorem colN_len (us ls : List Int) (x y : Int) : (colN us ls x y).length ≤ 1 := by unfold colN; split <;> simp
theorem joinL_len (us ls : List Int) (x y : Int) : (joinL us ls x y).length ≤ 2 := by
  unfold joinL
  rw [sortP_len, List.length_append]
  have := rowN_len us ls x y
  have := colN_len us ls x y
  omega
end
end GD
namespace GD
open PySem L2 G
/-- a comprehension, item by item -/
theorem lcA_map {tg : Tg} {e : ES} {ρ : Sl} {f : D → D} : ∀ {ds acc : List D}, acc.length + ds.length < SZ → (∀ (j : Nat) (d : D), ds[j]? = some d → ∃ ρ1 kd, tgSet tg d ρ = some ρ1 ∧ e ρ1 = .ok (f d, kd) ∧ kd.solid = true) → lcA tg G.tYes e ρ acc ds = .ok (acc ++ ds.map f)
  | [], acc, _, _ => by simp [lcA]
  | d :: ds, acc, hl, h => by
    obtain ⟨ρ1, kd, h1, h2, h3⟩ := h 0 d rfl
    have := lcA_map (tg := tg) (e := e) (ρ := ρ) (f := f) (ds := ds) (acc := acc ++ [f d]) (by simp at hl ⊢; omega) fun j d hd => h (j + 1) d (by simpa using hd)
    have hl' : acc.length < SZ := by simp at hl; omega
    unfold lcA
    rw [h1]
    simp [G.tYes, h2, h3, hl', this]
theorem lcA_of {tg : Tg} {e : ES} {ρ : Sl} (f : D → D) {ds : List D} (hl : ds.length < SZ) (h : ∀ (j : Nat) (d : D), ds[j]? = some d → ∃ ρ1 kd, tgSet tg d ρ = some ρ1 ∧ e ρ1 = .ok (f d, kd) ∧ kd.solid = true) : lcA tg G.tYes e ρ [] ds = .ok (ds.map f) := by
  simpa using lcA_map (acc := []) (by simpa using hl) h
theorem map_get {α β : Type} {f : α → β} {xs : List α} {j : Nat} {d : β} (h : (xs.map f)[j]? = some d) : ∃ x, xs[j]? = some x ∧ d = f x := by
  rw [List.getElem?_map] at h
  cases q : xs[j]? with
  | none => rw [q] at h; cases h
  | some x =>
    rw [q] at h
    cases h
    exact ⟨x, rfl, rfl⟩
/-- F holds the colours of that cloth -/
structure IsTab (s : Int) (us ls : List Int) (F : List (List Int)) : Prop where
  len : F.length = ls.length + 1
  row : ∀ (y : Nat) (r : List Int), F[y]? = some r → r.length = us.length + 1 ∧ ∀ x : Nat, x ≤ us.length → gt r x = colour s us ls x y
theorem oIx_n {xs : List D} {n : Nat} {d : D} (h : xs[n]? = some d) : oIx (.lst xs) (.int (n : Int)) = .ok (d, .sh) := oIx_l (by omega) (by rw [Int.toNat_natCast]; exact h)
theorem whole {s : Int} {us ls : List Int} {F : List (List Int)} (p : Plan s us ls) (h : IsTab s us ls F) : R__law_whole [cl s us ls, .lst (F.map dI)] = .ok (.bl true, false) := by
  have lu := p.lu
  have ll := p.ll
  have hl := h.len
  have sm : ∀ i : Int, R__law_same [.int i, .int i] = .ok (.bl true, false) := fun i => same (.int _ _)
  obtain ⟨r0, hr0⟩ : ∃ r, F[0]? = some r := ⟨F[0], List.getElem?_eq_getElem (by omega)⟩
  have l0 := (h.row 0 r0 hr0).1
  have f0 : oIx (.lst (F.map dI)) (.int 0) = .ok (dI r0, .sh) := oIx_n (n := 0) (by rw [List.getElem?_map, hr0]; rfl)
  have iu := in62_of (show -(2 ^ 62) < (r0.length : Int) by omega) (by omega)
  have il := in62_of (show -(2 ^ 62) < (F.length : Int) by omega) (by omega)
  obtain ⟨ρ', g1, s2, s3, rfl⟩ := for_rng (i := 2) (n := F.length) (a := S__law_whole_b2) (fun _ ρ => ∃ s2 s3, ρ = [.va (cl s us ls), .va (.lst (F.map dI)), s2, s3]) (ρ := [.va (cl s us ls), .va (.lst (F.map dI)), .un, .un]) ⟨_, _, rfl⟩ (fun y ρ lt ⟨s2, s3, e⟩ => by
    subst e
    refine ⟨by simp, ?_⟩
    obtain ⟨r, hr⟩ : ∃ r, F[y]? = some r := ⟨F[y]'(by omega), List.getElem?_eq_getElem (by omega)⟩
    obtain ⟨lr, cr⟩ := h.row y r hr
    have fy : oIx (.lst (F.map dI)) (.int y) = .ok (dI r, .sh) := oIx_n (by rw [List.getElem?_map, hr]; rfl)
    obtain ⟨ρ', g1, s3', rfl⟩ := for_rng (i := 3) (n := r0.length) (a := S__law_whole_b1) (fun _ ρ => ∃ s3, ρ = [.va (cl s us ls), .va (.lst (F.map dI)), .va (.int y), s3]) (ρ := [.va (cl s us ls), .va (.lst (F.map dI)), .va (.int y), s3]) ⟨_, rfl⟩ (fun x ρ lt' ⟨s3, e⟩ => by
      subst e
      have c := colour_ok (x := x) (y := y) p (by omega) (by omega) (by omega) (by omega)
      have ix := oIx_i (us := r) (i := x) (by omega) (by omega)
      rw [Int.toNat_natCast, cr x (by omega)] at ix
      exact ⟨by simp, _, .inl (by simp [S__law_whole_b1, c, fy, ix, sm]), .va (.int x), rfl⟩)
    exact ⟨_, .inl (by simp [S__law_whole_b2, sFor_ap, f0, iu, g1]), .va (.int y), s3', rfl⟩)
  have w := wide_cl s us ls
  have t := tall_cl s us ls
  have w2 : ((us.length : Int) + 1) = r0.length := by omega
  have t2 : ((ls.length : Int) + 1) = F.length := by omega
  rw [w2] at w
  rw [t2] at t
  simp [R__law_whole, denF, slots, S__law_whole, sSeq_ap, sFor_ap, w, t, f0, sm, il, g1]
end GD
namespace GD
open PySem L2 G
theorem Bits.take {us : List Int} (h : Bits us) (k : Nat) : Bits (us.take k) := fun b hb => h b (List.mem_of_mem_take hb)
theorem Bits.drop {us : List Int} (h : Bits us) (k : Nat) : Bits (us.drop k) := fun b hb => h b (List.mem_of_mem_drop hb)
end GD
namespace GD
open PySem L2 G
def pyI (us : List Int) : List PyData := us.map PyData.int
theorem toPys_ints : ∀ us : List Int, toPys (us.map D.int) = some (pyI us)
  | [] => rfl
  | u :: us => by
    show (toPy (.int u)).bind (fun p => (toPys (us.map D.int)).map (p :: ·)) = _
    rw [toPys_ints us]
    rfl
theorem toPy_dI (us : List Int) : toPy (dI us) = some (.list (pyI us)) := by
  show (toPys (us.map D.int)).map PyData.list = _
  rw [toPys_ints]
  rfl
theorem lay_ints : ∀ us : List Int, PyData.canLayAll0 (pyI us) = true
  | [] => rfl
  | u :: us => by
    show (PyData.canLay0 (.int u) && PyData.canLayAll0 (pyI us)) = true
    rw [lay_ints us]
    rfl
theorem depth_ints : ∀ us : List Int, PyData.depthAll (pyI us) = 0
  | [] => rfl
  | u :: us => by
    show max (PyData.depth (.int u)) (PyData.depthAll (pyI us)) = 0
    rw [depth_ints us]
    rfl
theorem eqv_ints : ∀ us vs : List Int, PyData.eqvAll (pyI us) (pyI vs) = decide (us = vs)
  | [], [] => rfl
  | [], _ :: _ => rfl
  | _ :: _, [] => rfl
  | u :: us, v :: vs => by
    show ((u == v) && PyData.eqvAll (pyI us) (pyI vs)) = _
    rw [eqv_ints us vs]
    by_cases h : u = v
    · by_cases g : us = vs
      · simp [h, g]
      · simp [h, g]
    · simp [h]
theorem shaped_dI (us : List Int) : SeqAt.shaped (.list (pyI us)) = true := by
  unfold SeqAt.shaped
  show (PyData.canLayAll0 (pyI us) && decide (PyData.depthAll (pyI us) + 1 ≤ 64)) = true
  rw [lay_ints, depth_ints]
  rfl
theorem eq_dI (us vs : List Int) : oEq (dI us) (dI vs) = .ok (.bl (decide (us = vs)), .sh) := by
  show obl (eqD (dI us) (dI vs)) = _
  have e : eqD (dI us) (dI vs) = (match toPy (dI us), toPy (dI vs) with
    | some p, some q => if SeqAt.shaped p && SeqAt.shaped q then some (PyData.eqv p q) else none
    | _, _ => none) := rfl
  rw [e, toPy_dI, toPy_dI]
  show obl (if (SeqAt.shaped (.list (pyI us)) && SeqAt.shaped (.list (pyI vs))) = true then some (PyData.eqvAll (pyI us) (pyI vs)) else none) = _
  rw [shaped_dI, shaped_dI, eqv_ints]
  rfl
end GD
namespace GD
open PySem L2 G
structure Rect (F : List (List Int)) (m n : Nat) : Prop where
  len : F.length = m
  row : ∀ r ∈ F, r.length = n
  bit : ∀ r ∈ F, Bits r
def rowA (F : List (List Int)) (y : Nat) : List Int := F.getD y []
theorem rowA_eq {F : List (List Int)} {y : Nat} (h : y < F.length) : F[y]? = some (rowA F y) := by
  unfold rowA
  rw [List.getD_eq_getElem?_getD, List.getElem?_eq_getElem h]
  rfl
theorem rowA_mem {F : List (List Int)} {y : Nat} (h : y < F.length) : rowA F y ∈ F := List.mem_of_getElem? (rowA_eq h)
/-- the four numbers of a block, whether their count is even -/
def evenB (F : List (List Int)) (x y : Nat) : Bool := decide ((gt (rowA F y) x + gt (rowA F y) (x + 1) + gt (rowA F (y + 1)) x + gt (rowA F (y + 1)) (x + 1)) % 2 = 0)
def evRow (F : List (List Int)) (n y : Nat) : List Pt := ((List.range n).filter fun x => evenB F x y).map fun x : Nat => (((x : Nat) : Int), ((y : Nat) : Int))
def evens (F : List (List Int)) (m n : Nat) : List Pt := ((List.range m).map (evRow F n)).flatten
end GD
namespace GD
open PySem L2 G
@[simp] theorem flat_obj (c : Nat) (b : List D) : flat (.obj c b) = false := rfl
end GD
namespace GD
open PySem L2 G
theorem rngD_range (n : Nat) : rngD 0 n = (List.range n).map fun k : Nat => D.int k := by
  unfold rngD
  simp
end GD
namespace GD
open PySem L2 G
theorem Rect.set {F : List (List Int)} {m n y x : Nat} {v : Int} (h : Rect F m n) (hy : y < m) (hv : v = 0 ∨ v = 1) : Rect (F.set y ((rowA F y).set x v)) m n := by
  have hm : rowA F y ∈ F := rowA_mem (by rw [h.len]; exact hy)
  refine ⟨by rw [List.length_set]; exact h.len, fun r hr => ?_, fun r hr => ?_⟩
  · rcases List.mem_or_eq_of_mem_set hr with hr | rfl
    · exact h.row r hr
    · rw [List.length_set]; exact h.row _ hm
  · rcases List.mem_or_eq_of_mem_set hr with hr | rfl
    · exact h.bit r hr
    · intro b hb
      rcases List.mem_or_eq_of_mem_set hb with hb | rfl
      · exact h.bit _ hm b hb
      · exact hv
end GD
namespace Orb
variable {α : Type}
def it (f : α → α) : Nat → α → α
  | 0, p => p
  | n + 1, p => f (it f n p)
theorem it_add (f : α → α) (m : Nat) : ∀ (n : Nat) (p : α), it f (n + m) p = it f n (it f m p)
  | 0, p => by rw [Nat.zero_add]; rfl
  | n + 1, p => by
    rw [show n + 1 + m = (n + m) + 1 by omega]
    show f (it f (n + m) p) = f (it f n (it f m p))
    rw [it_add f m n p]
theorem least {P : Nat → Prop} (h : ∃ n, P n) : ∃ n, P n ∧ ∀ m, m < n → ¬ P m := by
  obtain ⟨n, hn⟩ := h
  induction n using Nat.strongRecOn with
  | _ n ih =>
    by_cases q : ∃ m, m < n ∧ P m
    · obtain ⟨m, hm, hp⟩ := q
      exact ih m hm hp
    · exact ⟨n, hn, fun m hm hp => q ⟨m, hm, hp⟩⟩
/-- the pigeons -/
theorem nodup_le [DecidableEq α] : ∀ {l L : List α}, l.Nodup → (∀ x ∈ l, x ∈ L) → l.length ≤ L.length
  | [], _, _, _ => Nat.zero_le _
  | a :: l, L, nd, h => by
    obtain ⟨n1, n2⟩ := List.nodup_cons.mp nd
    have ha := h a List.mem_cons_self
    have := nodup_le (l := l) (L := L.erase a) n2 fun x hx => (List.mem_erase_of_ne (a := x) (b := a) (fun e => by subst e; exact n1 hx)).mpr (h x (List.mem_cons_of_mem _ hx))
    have hp : 0 < L.length := List.length_pos_of_mem ha
    rw [List.length_erase_of_mem ha] at this
    rw [List.length_cons]
    omega
section
variable {f : α → α} {S : α → Prop}
theorem it_in (hS : ∀ p, S p → S (f p)) {p : α} (hp : S p) : ∀ n, S (it f n p)
  | 0 => hp
  | n + 1 => hS _ (it_in hS hp n)
theorem it_inj (hS : ∀ p, S p → S (f p)) (inj : ∀ p q, S p → S q → f p = f q → p = q) : ∀ (n : Nat) {p q : α}, S p → S q → it f n p = it f n q → p = q
  | 0, _, _, _, _, e => e
  | n + 1, p, q, hp, hq, e => it_inj hS inj n hp hq (inj _ _ (it_in hS hp n) (it_in hS hq n) e)
/-- a walk by an injective step within finitely many places comes back -/
theorem back [DecidableEq α] {L : List α} (hS : ∀ p, S p → S (f p)) (inj : ∀ p q, S p → S q → f p = f q → p = q) (hL : ∀ p, S p → p ∈ L) {p : α} (hp : S p) : ∃ n, 1 ≤ n ∧ n ≤ L.length ∧ it f n p = p := by
  by_cases q : ∃ n, 1 ≤ n ∧ n ≤ L.length ∧ it f n p = p
  · exact q
  · exfalso
    have nd : ((List.range (L.length + 1)).map fun i => it f i p).Nodup := by
      refine List.pairwise_map.mpr ?_
      refine List.Pairwise.imp_of_mem (R := fun i j => i < j) (fun {i j} hi hj lt e => ?_) List.pairwise_lt_range
      have hj' := List.mem_range.mp hj
      rw [show j = i + (j - i) by omega, it_add] at e
      have := it_inj hS inj i hp (it_in hS hp _) e
      exact q ⟨j - i, by omega, by omega, this.symm⟩
    have := nodup_le nd (L := L) fun x hx => by
      obtain ⟨i, _, rfl⟩ := List.mem_map.mp hx
      exact hL _ (it_in hS hp i)
    rw [List.length_map, List.length_range] at this
    omega
end
end Orb
namespace Bf
variable {α : Type} [DecidableEq α]
/-- what is found: the point, how far, from where -/
structure E (α : Type) where
  k : α
  d : Nat
  p : α
def add (c : E α) (es : List (E α)) (o : α) : List (E α) := if o ∈ es.map (·.k) then es else es ++ [⟨o, c.d + 1, c.k⟩]
def turn (N : α → List α) (es : List (E α)) (n : Nat) : List (E α) := match es[n]? with
  | some c => (N c.k).foldl (add c) es
  | none => es
def run (N : α → List α) (s : α) : Nat → List (E α)
  | 0 => [⟨s, 0, s⟩]
  | n + 1 => turn N (run N s n) n
structure Inv (N : α → List α) (s : α) (n : Nat) (es : List (E α)) : Prop where
  nd : (es.map (·.k)).Nodup
  h0 : es[0]? = some ⟨s, 0, s⟩
  par : ∀ (i : Nat) (e : E α), es[i]? = some e → i = 0 ∨ ∃ (j : Nat) (c : E α), j < i ∧ es[j]? = some c ∧ e.k ∈ N c.k ∧ e.d = c.d + 1 ∧ e.p = c.k
  cl : ∀ (j : Nat) (c : E α), j < n → es[j]? = some c → ∀ o ∈ N c.k, ∃ e ∈ es, e.k = o ∧ e.d ≤ c.d + 1
  mono : ∀ (i j : Nat) (e f : E α), i ≤ j → es[i]? = some e → es[j]? = some f → e.d ≤ f.d
  bnd : ∀ c : E α, es[n]? = some c → ∀ e ∈ es, e.d ≤ c.d + 1
theorem app_get {es : List (E α)} {x e : E α} {i : Nat} (h : (es ++ [x])[i]? = some e) : es[i]? = some e ∨ (i = es.length ∧ e = x) := by
  by_cases q : i < es.length
  · rw [List.getElem?_append_left q] at h
    exact .inl h
  · rw [List.getElem?_append_right (by omega)] at h
    have : i = es.length := by
      have := (List.getElem?_eq_some_iff.mp h).1
      simp at this
      omega
    subst this
    rw [Nat.sub_self] at h
    exact .inr ⟨rfl, (Option.some.inj h).symm⟩
/-- the state amid the turn of c = es[n]: those of D are done -/
structure Mid (N : α → List α) (s : α) (n : Nat) (c : E α) (D : List α) (es : List (E α)) : Prop where
  nd : (es.map (·.k)).Nodup
  h0 : es[0]? = some ⟨s, 0, s⟩
  at_ : es[n]? = some c
  par : ∀ (i : Nat) (e : E α), es[i]? = some e → i = 0 ∨ ∃ (j : Nat) (c : E α), j < i ∧ es[j]? = some c ∧ e.k ∈ N c.k ∧ e.d = c.d + 1 ∧ e.p = c.k
  cl : ∀ (j : Nat) (b : E α), j < n → es[j]? = some b → ∀ o ∈ N b.k, ∃ e ∈ es, e.k = o ∧ e.d ≤ b.d + 1
  dn : ∀ o ∈ D, ∃ e ∈ es, e.k = o ∧ e.d ≤ c.d + 1
  mono : ∀ (i j : Nat) (e f : E α), i ≤ j → es[i]? = some e → es[j]? = some f → e.d ≤ f.d
  bnd : ∀ e ∈ es, e.d ≤ c.d + 1
theorem Mid.add {N : α → List α} {s : α} {n : Nat} {c : E α} {D : List α} {es : List (E α)} (I : Mid N s n c D es) {o : α} (ho : o ∈ N c.k) : Mid N s n c (D ++ [o]) (add c es o) := by
  unfold Bf.add
  by_cases m : o ∈ es.map (·.k)
  · rw [if_pos m]
    refine ⟨I.nd, I.h0, I.at_, I.par, I.cl, fun z hz => ?_, I.mono, I.bnd⟩
    rcases List.mem_append.mp hz with hz | hz
    · exact I.dn z hz
    · rw [List.mem_singleton.mp hz]
      obtain ⟨e, he, ek⟩ := List.mem_map.mp m
      exact ⟨e, he, ek, I.bnd e he⟩
  · rw [if_neg m]
    have old : ∀ {i : Nat} {e : E α}, es[i]? = some e → (es ++ [⟨o, c.d + 1, c.k⟩])[i]? = some e := fun {i e} h => by
      rw [List.getElem?_append_left (List.getElem?_eq_some_iff.mp h).1]
      exact h
    have lt : n < es.length := (List.getElem?_eq_some_iff.mp I.at_).1
    refine ⟨?_, old I.h0, old I.at_, fun i e h => ?_, fun j b hj h z hz => ?_, fun z hz => ?_, fun i j e f hij h1 h2 => ?_, fun e he => ?_⟩
    · rw [List.map_append, List.nodup_append]
      refine ⟨I.nd, by simp, fun a ha b hb e => ?_⟩
      simp at hb
      subst hb
      subst e
      exact m ha
    · rcases app_get h with h | ⟨rfl, rfl⟩
      · rcases I.par i e h with z | ⟨j, b, h1, h2, h3⟩
        · exact .inl z
        · exact .inr ⟨j, b, h1, old h2, h3⟩
      · exact .inr ⟨n, c, lt, old I.at_, ho, rfl, rfl⟩
    · rcases app_get h with h | ⟨rfl, rfl⟩
      · obtain ⟨e, he, z1⟩ := I.cl j b hj h z hz
        exact ⟨e, List.mem_append_left _ he, z1⟩
      · omega
    · rcases List.mem_append.mp hz with hz | hz
      · obtain ⟨e, he, z1⟩ := I.dn z hz
        exact ⟨e, List.mem_append_left _ he, z1⟩
      · rw [List.mem_singleton.mp hz]
        exact ⟨⟨o, c.d + 1, c.k⟩, by simp, rfl, Nat.le_refl _⟩
    · rcases app_get h2 with h2 | ⟨rfl, rfl⟩
      · rcases app_get h1 with h1 | ⟨rfl, rfl⟩
        · exact I.mono i j e f hij h1 h2
        · have := (List.getElem?_eq_some_iff.mp h2).1
          omega
      · rcases app_get h1 with h1 | ⟨rfl, rfl⟩
        · exact I.bnd e (List.mem_of_getElem? h1)
        · exact Nat.le_refl _
    · rcases List.mem_append.mp he with he | he
      · exact I.bnd e he
      · rw [List.mem_singleton.mp he]
        exact Nat.le_refl _
theorem Mid.fold {N : α → List α} {s : α} {n : Nat} {c : E α} : ∀ (L : List α) {D : List α} {es : List (E α)}, Mid N s n c D es → (∀ o ∈ L, o ∈ N c.k) → Mid N s n c (D ++ L) (L.foldl (Bf.add c) es)
  | [], D, es, I, _ => by simpa using I
  | o :: L, D, es, I, h => by
    have := Mid.fold L (I.add (h o List.mem_cons_self)) fun z hz => h z (List.mem_cons_of_mem _ hz)
    rw [List.append_assoc] at this
    exact this
theorem Inv.turn {N : α → List α} {s : α} {n : Nat} {es : List (E α)} (I : Inv N s n es) : Inv N s (n + 1) (turn N es n) := by
  unfold Bf.turn
  cases q : es[n]? with
  | none =>
    have hl := List.getElem?_eq_none_iff.mp q
    refine ⟨I.nd, I.h0, I.par, fun j c hj h => ?_, I.mono, fun c h => ?_⟩
    · have h2 : j < es.length := (List.getElem?_eq_some_iff.mp h).1
      exact I.cl j c (by omega) h
    · have h2 : n + 1 < es.length := (List.getElem?_eq_some_iff.mp h).1
      omega
  | some c =>
    have M := Mid.fold (N c.k) (D := []) (es := es) ⟨I.nd, I.h0, q, I.par, I.cl, (fun _ h => by cases h), I.mono, I.bnd c q⟩ fun _ h => h
    rw [List.nil_append] at M
    refine ⟨M.nd, M.h0, M.par, fun j b hj h o ho => ?_, M.mono, fun b h e he => ?_⟩
    · by_cases e : j = n
      · subst e
        rw [M.at_] at h
        cases h
        exact M.dn o ho
      · exact M.cl j b (by omega) h o ho
    · have h1 := M.mono n (n + 1) c b (by omega) M.at_ h
      have h2 := M.bnd e he
      omega
theorem run_inv (N : α → List α) (s : α) : ∀ n, Inv N s n (run N s n)
  | 0 => by
    refine ⟨by simp [run], rfl, fun i e h => ?_, fun j c hj _ => by omega, fun i j e f hij h1 h2 => ?_, fun c h e he => ?_⟩
    · cases i with
      | zero => exact .inl rfl
      | succ i => simp [run] at h
    · have i0 : i = 0 := by
        have := (List.getElem?_eq_some_iff.mp h1).1
        simp [run] at this
        exact this
      have j0 : j = 0 := by
        have := (List.getElem?_eq_some_iff.mp h2).1
        simp [run] at this
        exact this
      subst i0 j0
      rw [h1] at h2
      cases h2
      exact Nat.le_refl _
    · simp [run] at h he
      subst he
      exact Nat.zero_le _
  | n + 1 => (run_inv N s n).turn
inductive Wk (N : α → List α) : Nat → α → α → Prop
  | nil (a : α) : Wk N 0 a a
  | snoc {n : Nat} {a b c : α} : Wk N n a b → c ∈ N b → Wk N (n + 1) a c
theorem Wk.cons {N : α → List α} {a b : α} (h : b ∈ N a) : ∀ {n : Nat} {c : α}, Wk N n b c → Wk N (n + 1) a c
  | _, _, .nil _ => .snoc (.nil a) h
  | _, _, .snoc w hc => .snoc (Wk.cons h w) hc
theorem Wk.sym {N : α → List α} {S : α → Prop} (sy : ∀ a, S a → ∀ b ∈ N a, S b ∧ a ∈ N b) : ∀ {n : Nat} {a b : α}, S a → Wk N n a b → S b ∧ Wk N n b a
  | _, _, _, ha, .nil _ => ⟨ha, .nil _⟩
  | _, _, _, ha, .snoc (b := b) w hc => by
    obtain ⟨h1, h2⟩ := Wk.sym sy ha w
    obtain ⟨h3, h4⟩ := sy b h1 _ hc
    exact ⟨h3, Wk.cons h4 h2⟩
theorem Wk.mono {N M : α → List α} (h : ∀ a, ∀ b ∈ N a, b ∈ M a) : ∀ {n : Nat} {a b : α}, Wk N n a b → Wk M n a b
  | _, _, _, .nil _ => .nil _
  | _, _, _, .snoc w hc => .snoc (Wk.mono h w) (h _ _ hc)
section
variable {N : α → List α} {s : α} {n : Nat} {es : List (E α)}
/-- within every closed part -/
theorem Inv.within (I : Inv N s n es) {S : α → Prop} (hs : S s) (cl : ∀ a, S a → ∀ b ∈ N a, S b) : ∀ e ∈ es, S e.k := by
  have key : ∀ (i : Nat) (e : E α), es[i]? = some e → S e.k := by
    intro i
    induction i using Nat.strongRecOn with
    | ind i ih =>
      intro e h
      rcases I.par i e h with z | ⟨j, c, h1, h2, h3, _⟩
      · subst z
        rw [I.h0] at h
        cases h
        exact hs
      · exact cl _ (ih j h1 c h2) _ h3
  intro e he
  obtain ⟨i, hi⟩ := List.getElem?_of_mem he
  exact key i e hi
end
/-- the flood ends -/
theorem run_ends {N : α → List α} {s : α} {S : α → Prop} {L : List α} (hs : S s) (cl : ∀ a, S a → ∀ b ∈ N a, S b) (fin : ∀ a, S a → a ∈ L) (n : Nat) : (run N s n).length ≤ L.length := by
  have I := run_inv N s n
  have := Orb.nodup_le I.nd (L := L) fun z hz => by
    obtain ⟨e, he, rfl⟩ := List.mem_map.mp hz
    exact fin _ (I.within hs cl e he)
  rwa [List.length_map] at this
end Bf
namespace Fd
/-- a strip: ("x", k), ("y", k) -/
abbrev Stp := Bool × Int
inductive Fc where
  | cell (x y c : Int) | line (r : Bool) (k s : Int) (b : Bool)
  deriving DecidableEq
def one : Fc → Stp
  | .cell x _ _ => (false, x)
  | .line r k _ _ => (r, k)
def two : Fc → Stp
  | .cell _ y _ => (true, y)
  | .line r k _ _ => (r, k + 1)
def b2 (b : Bool) : Int := if b then 1 else 0
def wt : Fc → Int
  | .cell x y c => (c + x * y) % 2
  | .line _ _ s b => (s + b2 b) % 2
abbrev Nfs := List (Int × Fc)
/-- a fact's number, the other strip, the weight -/
abbrev Tr3 := Int × Stp × Int
def tie (b : Stp) (z : Int × Fc) : List Tr3 := (if one z.2 = b then [(z.1, two z.2, wt z.2)] else []) ++ if two z.2 = b then [(z.1, one z.2, wt z.2)] else []
def ties (fs : Nfs) (b : Stp) : List Tr3 := fs.flatMap (tie b)
theorem mem_ties {fs : Nfs} {b : Stp} {t : Tr3} : t ∈ ties fs b ↔ ∃ z ∈ fs, t.1 = z.1 ∧ t.2.2 = wt z.2 ∧ ((one z.2 = b ∧ two z.2 = t.2.1) ∨ (two z.2 = b ∧ one z.2 = t.2.1)) := by
  unfold ties
  rw [List.mem_flatMap]
  constructor
  · rintro ⟨z, hz, h⟩
    refine ⟨z, hz, ?_⟩
    unfold tie at h
    rcases List.mem_append.mp h with h | h
    · split at h
      · rename_i e
        rw [List.mem_singleton.mp h]
        exact ⟨rfl, rfl, .inl ⟨e, rfl⟩⟩
      · cases h
    · split at h
      · rename_i e
        rw [List.mem_singleton.mp h]
        exact ⟨rfl, rfl, .inr ⟨e, rfl⟩⟩
      · cases h
  · rintro ⟨z, hz, h1, h2, h3⟩
    refine ⟨z, hz, ?_⟩
    obtain ⟨n, o, w⟩ := t
    dsimp only at h1 h2 h3
    subst h1 h2
    unfold tie
    rcases h3 with ⟨e1, e2⟩ | ⟨e1, e2⟩
    · rw [if_pos e1, e2]
      simp
    · rw [if_pos e1, e2]
      simp
theorem ties_sym {fs : Nfs} {a b : Stp} {n w : Int} (h : (n, b, w) ∈ ties fs a) : (n, a, w) ∈ ties fs b := by
  obtain ⟨z, hz, h1, h2, h3⟩ := mem_ties.mp h
  refine mem_ties.mpr ⟨z, hz, h1, h2, ?_⟩
  rcases h3 with ⟨e1, e2⟩ | ⟨e1, e2⟩
  · exact .inr ⟨e2, e1⟩
  · exact .inl ⟨e2, e1⟩
structure E where
  k : Stp
  rs : List Int
  w : Int
def add (c : E) (es : List E) (z : Tr3) : List E := if z.2.1 ∈ es.map (·.k) then es else es ++ [⟨z.2.1, c.rs ++ [z.1], (c.w + z.2.2) % 2⟩]
def turn (N : Stp → List Tr3) (es : List E) (n : Nat) : List E := match es[n]? with
  | some c => (N c.k).foldl (add c) es
  | none => es
def run (N : Stp → List Tr3) (s : Stp) : Nat → List E
  | 0 => [⟨s, [], 0⟩]
  | n + 1 => turn N (run N s n) n
/-- the neighbours alone -/
def nbs (N : Stp → List Tr3) (a : Stp) : List Stp := (N a).map (·.2.1)
theorem fold_keys (c : E) (d : Bf.E Stp) : ∀ (zs : List Tr3) (es : List E) (fs : List (Bf.E Stp)), es.map (·.k) = fs.map (·.k) → (zs.foldl (add c) es).map (·.k) = ((zs.map (·.2.1)).foldl (Bf.add d) fs).map (·.k)
  | [], _, _, h => h
  | z :: zs, es, fs, h => by
    rw [List.foldl_cons, List.map_cons, List.foldl_cons]
    refine fold_keys c d zs _ _ ?_
    unfold add Bf.add
    rw [← h]
    by_cases m : z.2.1 ∈ es.map (·.k)
    · rw [if_pos m, if_pos m]; exact h
    · rw [if_neg m, if_neg m, List.map_append, List.map_append, h]
      rfl
theorem run_keys (N : Stp → List Tr3) (s : Stp) : ∀ n, (run N s n).map (·.k) = (Bf.run (nbs N) s n).map (·.k)
  | 0 => rfl
  | n + 1 => by
    have ih := run_keys N s n
    show (turn N (run N s n) n).map (·.k) = (Bf.turn (nbs N) (Bf.run (nbs N) s n) n).map (·.k)
    unfold turn Bf.turn
    have e : (run N s n)[n]?.map (·.k) = (Bf.run (nbs N) s n)[n]?.map (·.k) := by rw [← List.getElem?_map, ← List.getElem?_map, ih]
    cases q : (run N s n)[n]? with
    | none =>
      rw [q] at e
      cases q2 : (Bf.run (nbs N) s n)[n]? with
      | none => exact ih
      | some d => rw [q2] at e; cases e
    | some c =>
      rw [q] at e
      cases q2 : (Bf.run (nbs N) s n)[n]? with
      | none => rw [q2] at e; cases e
      | some d =>
        rw [q2] at e
        have ek : c.k = d.k := Option.some.inj e
        dsimp only
        rw [ek]
        exact fold_keys c d _ _ _ ih
theorem run_len (N : Stp → List Tr3) (s : Stp) (n : Nat) : (run N s n).length = (Bf.run (nbs N) s n).length := by
  have := congrArg List.length (run_keys N s n)
  rwa [List.length_map, List.length_map] at this
inductive Pth (N : Stp → List Tr3) (s : Stp) : List Int → Int → Stp → Prop
  | nil : Pth N s [] 0 s
  | snoc {rs : List Int} {w wt n : Int} {b c : Stp} : Pth N s rs w b → (n, c, wt) ∈ N b → Pth N s (rs ++ [n]) ((w + wt) % 2) c
theorem run_path (N : Stp → List Tr3) (s : Stp) : ∀ n, ∀ e ∈ run N s n, Pth N s e.rs e.w e.k
  | 0 => fun e he => by
    rw [List.mem_singleton.mp he]
    exact .nil
  | n + 1 => by
    have ih := run_path N s n
    show ∀ e ∈ turn N (run N s n) n, _
    unfold turn
    cases q : (run N s n)[n]? with
    | none => exact ih
    | some c =>
      have hc := ih c (List.mem_of_getElem? q)
      have key : ∀ (zs : List Tr3) (es : List E), (∀ z ∈ zs, z ∈ N c.k) → (∀ e ∈ es, Pth N s e.rs e.w e.k) → ∀ e ∈ zs.foldl (add c) es, Pth N s e.rs e.w e.k := by
        intro zs
        induction zs with
        | nil => intro es _ h; exact h
        | cons z zs ih2 =>
          intro es hz h
          rw [List.foldl_cons]
          refine ih2 _ (fun y hy => hz y (List.mem_cons_of_mem _ hy)) ?_
          unfold add
          split
          · exact h
          · intro e he
            rcases List.mem_append.mp he with he | he
            · exact h e he
            · rw [List.mem_singleton.mp he]
              exact .snoc hc (hz z List.mem_cons_self)
      exact key _ _ (fun _ h => h) ih
theorem Pth.bit {N : Stp → List Tr3} {s : Stp} {rs : List Int} {w : Int} {t : Stp} (h : Pth N s rs w t) : w = 0 ∨ w = 1 := by
  cases h with
  | nil => exact .inl rfl
  | snoc _ _ => omega
def Pot (fs : Nfs) (p : Stp → Int) : Prop := ∀ z ∈ fs, (p (one z.2) + p (two z.2) + wt z.2) % 2 = 0
/-- the strips that the facts tie -/
def ends (fs : Nfs) : List Stp := fs.flatMap fun z => [one z.2, two z.2]
theorem ends_len (fs : Nfs) : (ends fs).length = 2 * fs.length := by
  induction fs with
  | nil => rfl
  | cons z fs ih =>
    show ([one z.2, two z.2] ++ ends fs).length = _
    rw [List.length_append, ih]
    simp
    omega
theorem ties_end {fs : Nfs} {a : Stp} {t : Tr3} (h : t ∈ ties fs a) : t.2.1 ∈ ends fs := by
  obtain ⟨z, hz, _, _, h3⟩ := mem_ties.mp h
  refine List.mem_flatMap.mpr ⟨z, hz, ?_⟩
  rcases h3 with ⟨_, e2⟩ | ⟨_, e2⟩ <;> simp [e2]
theorem reach_len (fs : Nfs) (s : Stp) (n : Nat) : (run (ties fs) s n).length ≤ 2 * fs.length + 1 := by
  rw [run_len]
  have := Bf.run_ends (N := nbs (ties fs)) (s := s) (S := fun a => a ∈ s :: ends fs) (L := s :: ends fs) List.mem_cons_self (fun a _ b hb => by
    obtain ⟨t, ht, rfl⟩ := List.mem_map.mp hb
    exact List.mem_cons_of_mem _ (ties_end ht)) (fun _ h => h) n
  rw [List.length_cons, ends_len] at this
  exact this
/-- what is reached from a strip -/
def reach (fs : Nfs) (s : Stp) : List E := run (ties fs) s (2 * fs.length + 1)
theorem reach_path {fs : Nfs} {s : Stp} {e : E} (h : e ∈ reach fs s) : Pth (ties fs) s e.rs e.w e.k := run_path _ _ _ e h
/-- the reached strips are closed -/
theorem reach_cl {fs : Nfs} {s a b : Stp} (ha : a ∈ (reach fs s).map (·.k)) {n w : Int} (h : (n, b, w) ∈ ties fs a) : b ∈ (reach fs s).map (·.k) := by
  have I := Bf.run_inv (nbs (ties fs)) s (2 * fs.length + 1)
  have hl : (Bf.run (nbs (ties fs)) s (2 * fs.length + 1)).length ≤ 2 * fs.length + 1 := by rw [← run_len]; exact reach_len fs s _
  have e : (reach fs s).map (·.k) = (Bf.run (nbs (ties fs)) s (2 * fs.length + 1)).map (·.k) := run_keys _ _ _
  rw [e] at ha ⊢
  obtain ⟨d, hd, rfl⟩ := List.mem_map.mp ha
  obtain ⟨j, hj⟩ := List.getElem?_of_mem hd
  obtain ⟨f, hf, hk, _⟩ := I.cl j d (by have := (List.getElem?_eq_some_iff.mp hj).1; omega) hj b (List.mem_map.mpr ⟨_, h, rfl⟩)
  exact List.mem_map.mpr ⟨f, hf, hk⟩
theorem reach_self (fs : Nfs) (s : Stp) : s ∈ (reach fs s).map (·.k) := by
  have I := Bf.run_inv (nbs (ties fs)) s (2 * fs.length + 1)
  have e : (reach fs s).map (·.k) = (Bf.run (nbs (ties fs)) s (2 * fs.length + 1)).map (·.k) := run_keys _ _ _
  rw [e]
  exact List.mem_map.mpr ⟨_, List.mem_of_getElem? I.h0, rfl⟩
end Fd
namespace Sm
variable {α : Type} [DecidableEq α]
/-- the neighbours but one -/
def ah (N : α → List α) (last here : α) : List α := (N here).filter fun z => decide (z ≠ last)
/-- the walk from b by way of s: two points behind one another -/
def wk (N : α → List α) (b s : α) : Nat → α × α
  | 0 => (b, s)
  | k + 1 => ((wk N b s k).2, (ah N (wk N b s k).1 (wk N b s k).2).headD b)
def at_ (N : α → List α) (b s : α) (k : Nat) : α := (wk N b s k).1
theorem at_0 (N : α → List α) (b s : α) : at_ N b s 0 = b := rfl
/-- the walk goes no further behind its place k + 1 -/
def En (N : α → List α) (b s : α) (k : Nat) : Prop := (ah N (at_ N b s k) (at_ N b s (k + 1))).headD b = b
structure Gr (N : α → List α) (S : α → Prop) (L : List α) : Prop where
  sym : ∀ a, S a → ∀ b ∈ N a, S b ∧ a ∈ N b
  irr : ∀ a, S a → a ∉ N a
  two : ∀ a, (N a).length ≤ 2
  nd : ∀ a, S a → (N a).Nodup
  fin : ∀ a, S a → a ∈ L
theorem ah_mem {N : α → List α} {last here z : α} : z ∈ ah N last here ↔ z ∈ N here ∧ z ≠ last := by
  unfold ah
  rw [List.mem_filter, decide_eq_true_iff]
/-- two at most: who is beside two unlike ones is one of them -/
theorem one_of {l : List α} (h2 : l.length ≤ 2) {a b z : α} (ha : a ∈ l) (hb : b ∈ l) (ne : a ≠ b) (hz : z ∈ l) : z = a ∨ z = b := by
  match l, h2 with
  | [], _ => cases ha
  | [x], _ =>
    rw [List.mem_singleton] at ha hb
    exact absurd (ha.trans hb.symm) ne
  | [x, y], _ =>
    simp only [List.mem_cons, List.not_mem_nil, or_false] at ha hb hz
    rcases ha with rfl | rfl <;> rcases hb with rfl | rfl <;> rcases hz with rfl | rfl <;> simp_all
theorem two_len {l : List α} (h2 : l.length ≤ 2) {a b : α} (ha : a ∈ l) (hb : b ∈ l) (ne : a ≠ b) : l.length = 2 := by
  match l, h2 with
  | [], _ => cases ha
  | [x], _ =>
    rw [List.mem_singleton] at ha hb
    exact absurd (ha.trans hb.symm) ne
  | [x, y], _ => rfl
section
variable {N : α → List α} {S : α → Prop} {L : List α} {b s : α}
theorem head_of {l : List α} {b : α} (h : l.headD b ≠ b) : l.headD b ∈ l := by
  cases l with
  | nil => exact absurd rfl h
  | cons x l => exact List.mem_cons_self
/-- what holds as long as the walk has gone on -/
structure Go (N : α → List α) (S : α → Prop) (b s : α) (m : Nat) : Prop where
  ins : ∀ k, k ≤ m + 1 → S (at_ N b s k)
  adj : ∀ k, k ≤ m → at_ N b s (k + 1) ∈ N (at_ N b s k)
  ne2 : ∀ k, k < m → at_ N b s (k + 2) ≠ at_ N b s k
  neb : ∀ k, k < m → at_ N b s (k + 2) ≠ b
theorem go_of (G : Gr N S L) (hb : S b) (hs : s ∈ N b) : ∀ {m : Nat}, (∀ k, k < m → ¬ En N b s k) → Go N S b s m
  | 0, _ => by
    refine ⟨fun k hk => ?_, fun k hk => ?_, fun k hk => ?_, fun k hk => ?_⟩
    · rcases (by omega : k = 0 ∨ k = 1) with rfl | rfl
      · exact hb
      · exact (G.sym b hb s hs).1
    · obtain rfl : k = 0 := by omega
      exact hs
    · omega
    · omega
  | m + 1, h => by
    have ih := go_of G hb hs (m := m) fun k hk => h k (by omega)
    have e := h m (by omega)
    have hm := head_of e
    rw [ah_mem] at hm
    have e2 : at_ N b s (m + 2) = (ah N (at_ N b s m) (at_ N b s (m + 1))).headD b := rfl
    rw [← e2] at hm
    refine ⟨fun k hk => ?_, fun k hk => ?_, fun k hk => ?_, fun k hk => ?_⟩
    · rcases (by omega : k ≤ m + 1 ∨ k = m + 2) with q | rfl
      · exact ih.ins k q
      · exact (G.sym _ (ih.ins (m + 1) (by omega)) _ hm.1).1
    · rcases (by omega : k ≤ m ∨ k = m + 1) with q | rfl
      · exact ih.adj k q
      · exact hm.1
    · rcases (by omega : k < m ∨ k = m) with q | rfl
      · exact ih.ne2 k q
      · exact hm.2
    · rcases (by omega : k < m ∨ k = m) with q | rfl
      · exact ih.neb k q
      · exact e
theorem Go.back {m : Nat} (g : Go N S b s m) (G : Gr N S L) {k : Nat} (h : k ≤ m) : at_ N b s k ∈ N (at_ N b s (k + 1)) := (G.sym _ (g.ins k (by omega)) _ (g.adj k h)).2
/-- within the walk the neighbours are the points ahead and behind -/
theorem Go.inn {m : Nat} (g : Go N S b s m) (G : Gr N S L) {k : Nat} (h : k < m) {z : α} (hz : z ∈ N (at_ N b s (k + 1))) : z = at_ N b s k ∨ z = at_ N b s (k + 2) :=
  one_of (G.two _) (g.back G (by omega)) (g.adj (k + 1) (by omega)) (fun e => g.ne2 k h e.symm) hz
theorem Go.inj {m : Nat} (g : Go N S b s m) (G : Gr N S L) : ∀ {j : Nat}, j ≤ m + 1 → ∀ i, i < j → at_ N b s i ≠ at_ N b s j
  | 0, _, i, h => by omega
  | j + 1, hj, i, h => by
    intro e
    have ih : ∀ {a c : Nat}, a ≤ j → c ≤ j → at_ N b s a = at_ N b s c → a = c := by
      have low : ∀ {c : Nat}, c ≤ j → ∀ i, i < c → at_ N b s i ≠ at_ N b s c := fun {c} hc => by
        have : c ≤ m + 1 := by omega
        exact Go.inj g G this
      intro a c ha hc e
      rcases Nat.lt_trichotomy a c with q | q | q
      · exact absurd e (low hc a q)
      · exact q
      · exact absurd e.symm (low ha c q)
    have aj := g.adj j (by omega)
    by_cases ij : i = j
    · subst ij
      rw [← e] at aj
      exact G.irr _ (g.ins i (by omega)) aj
    by_cases i0 : i = 0
    · subst i0
      cases j with
      | zero => exact ij rfl
      | succ j => exact g.neb j (by omega) e.symm
    · obtain ⟨i, rfl⟩ : ∃ i', i = i' + 1 := ⟨i - 1, by omega⟩
      have bj := g.back G (k := j) (by omega)
      rw [← e] at bj
      rcases g.inn G (k := i) (by omega) bj with z | z
      · have := ih (by omega) (by omega) z
        omega
      · have := ih (by omega) (by omega) z
        have : j = i + 2 := this
        subst this
        exact g.ne2 (i + 1) (by omega) e.symm
theorem Go.nodup {m : Nat} (g : Go N S b s m) (G : Gr N S L) : ((List.range (m + 2)).map (at_ N b s)).Nodup := by
  refine List.pairwise_map.mpr (List.Pairwise.imp_of_mem (R := fun i j => i < j) (fun {i j} hi hj lt e => ?_) List.pairwise_lt_range)
  exact g.inj G (by have := List.mem_range.mp hj; omega) i lt e
/-- the walk ends -/
theorem ends (G : Gr N S L) (hb : S b) (hs : s ∈ N b) : ∃ n, n < L.length ∧ En N b s n ∧ ∀ k, k < n → ¬ En N b s k := by
  have ex : ∃ n, En N b s n := by
    by_cases q : ∃ n, En N b s n
    · exact q
    · exfalso
      have g := go_of G hb hs (m := L.length) fun k _ e => q ⟨k, e⟩
      have := Orb.nodup_le (g.nodup G) (L := L) fun x hx => by
        obtain ⟨i, hi, rfl⟩ := List.mem_map.mp hx
        exact G.fin _ (g.ins i (by have := List.mem_range.mp hi; omega))
      simp at this
      omega
  obtain ⟨n, h1, h2⟩ := Orb.least ex
  refine ⟨n, ?_, h1, h2⟩
  have g := go_of G hb hs (m := n) h2
  have := Orb.nodup_le (g.nodup G) (L := L) fun x hx => by
    obtain ⟨i, hi, rfl⟩ := List.mem_map.mp hx
    exact G.fin _ (g.ins i (by have := List.mem_range.mp hi; omega))
  simp at this
  omega
open Classical in
/-- the place at which it ends -/
noncomputable def end_ (N : α → List α) (b s : α) : Nat := if h : ∃ n, En N b s n ∧ ∀ k, k < n → ¬ En N b s k then Classical.choose h else 0
theorem end_ok (G : Gr N S L) (hb : S b) (hs : s ∈ N b) : En N b s (end_ N b s) ∧ (∀ k, k < end_ N b s → ¬ En N b s k) ∧ end_ N b s < L.length := by
  obtain ⟨n, h0, h1, h2⟩ := ends G hb hs
  have e : ∃ n, En N b s n ∧ ∀ k, k < n → ¬ En N b s k := ⟨n, h1, h2⟩
  have c := Classical.choose_spec e
  have eq : end_ N b s = Classical.choose e := by unfold end_; rw [dif_pos e]
  rw [eq]
  refine ⟨c.1, c.2, ?_⟩
  rcases Nat.lt_trichotomy (Classical.choose e) n with q | q | q
  · omega
  · omega
  · exact absurd h1 (c.2 n q)
/-- the line from b by way of s -/
def line (N : α → List α) (b s : α) (n : Nat) : List α := (List.range (n + 2)).map (at_ N b s)
theorem line_len (n : Nat) : (line N b s n).length = n + 2 := by simp [line]
theorem line_get {n i : Nat} (h : i < n + 2) : (line N b s n)[i]? = some (at_ N b s i) := by
  unfold line
  rw [List.getElem?_map, List.getElem?_range h]
  rfl
/-- whether it comes back -/
def back (N : α → List α) (b s : α) (n : Nat) : Bool := decide (ah N (at_ N b s n) (at_ N b s (n + 1)) ≠ [])
theorem back_iff (G : Gr N S L) (hb : S b) (hs : s ∈ N b) (h : En N b s (end_ N b s)) : back N b s (end_ N b s) = true → b ∈ N (at_ N b s (end_ N b s + 1)) ∧ b ≠ at_ N b s (end_ N b s) := by
  intro q
  unfold back at q
  have q := of_decide_eq_true q
  unfold En at h
  cases e : ah N (at_ N b s (end_ N b s)) (at_ N b s (end_ N b s + 1)) with
  | nil => exact absurd e q
  | cons z r =>
    rw [e] at h
    have h : z = b := h
    subst h
    have := (ah_mem (N := N) (last := at_ N z s (end_ N z s)) (here := at_ N z s (end_ N z s + 1)) (z := z)).mp (by rw [e]; exact List.mem_cons_self)
    exact this
theorem not_back {n : Nat} (h : back N b s n = false) {z : α} (hz : z ∈ N (at_ N b s (n + 1))) : z = at_ N b s n := by
  unfold back at h
  have h : ah N (at_ N b s n) (at_ N b s (n + 1)) = [] := by
    by_cases q : ah N (at_ N b s n) (at_ N b s (n + 1)) = []
    · exact q
    · rw [decide_eq_true q] at h; cases h
  by_cases e : z = at_ N b s n
  · exact e
  · have : z ∈ ah N (at_ N b s n) (at_ N b s (n + 1)) := ah_mem.mpr ⟨hz, e⟩
    rw [h] at this
    cases this
end
structure Seam (N : α → List α) (c : Bool) (l : List α) : Prop where
  nd : l.Nodup
  two : 2 ≤ l.length
  step : ∀ i a b, l[i]? = some a → l[i + 1]? = some b → b ∈ N a ∧ a ∈ N b
  cl : ∀ a ∈ l, ∀ b ∈ N a, b ∈ l
  shut : c = true → 3 ≤ l.length ∧ ∀ a b, l[0]? = some a → l[l.length - 1]? = some b → b ∈ N a ∧ a ∈ N b
  deg : ∀ i a, l[i]? = some a → (N a).length = if c = true ∨ (0 < i ∧ i + 1 < l.length) then 2 else 1
section
variable {N : α → List α} {c : Bool} {l : List α}
theorem rev_get (l : List α) {i : Nat} (h : i < l.length) : l.reverse[i]? = l[l.length - 1 - i]? := List.getElem?_reverse h
theorem Seam.rev (q : Seam N c l) : Seam N c l.reverse := by
  have hl : l.reverse.length = l.length := List.length_reverse
  have lt : ∀ {i : Nat} {a : α}, l.reverse[i]? = some a → i < l.length := fun {i a} h => by
    have := (List.getElem?_eq_some_iff.mp h).1
    omega
  refine ⟨(List.reverse_perm l).nodup_iff.mpr q.nd, by rw [hl]; exact q.two, fun i a b ha hb => ?_, fun a ha b hb => ?_, fun h => ?_, fun i a ha => ?_⟩
  · have h1 := lt ha
    have h2 := lt hb
    rw [rev_get l h1] at ha
    rw [rev_get l h2] at hb
    have e : l.length - 1 - i = (l.length - 1 - (i + 1)) + 1 := by omega
    rw [e] at ha
    have := q.step _ b a hb ha
    exact ⟨this.2, this.1⟩
  · rw [List.mem_reverse] at ha ⊢
    exact q.cl a ha b hb
  · obtain ⟨h3, hh⟩ := q.shut h
    refine ⟨by rw [hl]; exact h3, fun a b ha hb => ?_⟩
    rw [rev_get l (by omega)] at ha
    rw [hl, rev_get l (by omega)] at hb
    have := hh b a (by rwa [show l.length - 1 - (l.length - 1) = 0 by omega] at hb) (by simpa using ha)
    exact ⟨this.2, this.1⟩
  · have h1 := lt ha
    rw [rev_get l h1] at ha
    have := q.deg _ a ha
    rw [this, hl]
    by_cases h : c = true
    · simp [h]
    · by_cases h2 : 0 < i ∧ i + 1 < l.length
      · rw [if_pos (.inr (by omega)), if_pos (.inr h2)]
      · rw [if_neg (fun z => z.elim h (fun z => h2 (by omega))), if_neg (fun z => z.elim h h2)]
theorem Seam.rot {m : List α} (q : Seam N true (l ++ m)) : Seam N true (m ++ l) := by
  by_cases hm : m = []
  · subst hm
    simpa using q
  by_cases hl0 : l = []
  · subst hl0
    simpa using q
  have lm : 0 < m.length := List.length_pos_iff.mpr hm
  have ll : 0 < l.length := List.length_pos_iff.mpr hl0
  have hl : (m ++ l).length = (l ++ m).length := by simp; omega
  have len : (l ++ m).length = l.length + m.length := List.length_append
  obtain ⟨s3, sh⟩ := q.shut rfl
  -- places
  have g1 : ∀ i, i < m.length → (m ++ l)[i]? = (l ++ m)[l.length + i]? := fun i h => by
    rw [List.getElem?_append_left h, List.getElem?_append_right (by omega)]
    congr 1
    omega
  have g2 : ∀ i, i < l.length → (m ++ l)[m.length + i]? = (l ++ m)[i]? := fun i h => by
    rw [List.getElem?_append_right (by omega), List.getElem?_append_left h]
    congr 1
    omega
  have lt : ∀ {i : Nat} {a : α}, (m ++ l)[i]? = some a → i < l.length + m.length := fun {i a} h => by
    have := (List.getElem?_eq_some_iff.mp h).1
    simp at this
    omega
  refine ⟨?_, by rw [hl]; exact q.two, fun i a b ha hb => ?_, fun a ha b hb => ?_, fun h => ?_, fun i a ha => ?_⟩
  · exact (List.perm_append_comm.nodup_iff).mp q.nd
  · have h1 := lt ha
    have h2 := lt hb
    rcases (by omega : i + 1 < m.length ∨ i + 1 = m.length ∨ m.length ≤ i) with c | c | c
    · rw [g1 i (by omega)] at ha
      rw [g1 (i + 1) c] at hb
      exact q.step _ a b ha hb
    · rw [g1 i (by omega)] at ha
      rw [show i + 1 = m.length + 0 by omega, g2 0 ll] at hb
      have := sh b a hb (by rw [len, show l.length + m.length - 1 = l.length + i by omega]; exact ha)
      exact ⟨this.2, this.1⟩
    · obtain ⟨j, rfl⟩ : ∃ j, i = m.length + j := ⟨i - m.length, by omega⟩
      rw [g2 j (by omega)] at ha
      rw [show m.length + j + 1 = m.length + (j + 1) by omega, g2 (j + 1) (by omega)] at hb
      exact q.step _ a b ha hb
  · have e : ∀ z, z ∈ m ++ l ↔ z ∈ l ++ m := fun z => by simp [or_comm]
    rw [e] at ha ⊢
    exact q.cl a ha b hb
  · refine ⟨by rw [hl]; exact s3, fun a b ha hb => ?_⟩
    rw [g1 0 lm] at ha
    rw [hl, len, show l.length + m.length - 1 = m.length + (l.length - 1) by omega, g2 (l.length - 1) (by omega)] at hb
    have := q.step (l.length - 1) b a hb (by rw [show l.length - 1 + 1 = l.length + 0 by omega]; exact ha)
    exact ⟨this.2, this.1⟩
  · have : ∃ j : Nat, (l ++ m)[j]? = some a := by
      have h1 := lt ha
      by_cases c : i < m.length
      · rw [g1 i c] at ha
        exact ⟨_, ha⟩
      · obtain ⟨j, rfl⟩ : ∃ j, i = m.length + j := ⟨i - m.length, by omega⟩
        rw [g2 j (by omega)] at ha
        exact ⟨_, ha⟩
    obtain ⟨j, hj⟩ := this
    have := q.deg j a hj
    simpa using this
end
end Sm
namespace Sm
variable {α : Type} [DecidableEq α]
theorem all_eq {l : List α} (nd : l.Nodup) {a : α} (ha : a ∈ l) (h : ∀ z ∈ l, z = a) : l.length = 1 := by
  match l, nd with
  | [], _ => cases ha
  | [x], _ => rfl
  | x :: y :: r, nd =>
    have h1 := h x List.mem_cons_self
    have h2 := h y (by simp)
    rw [h1, h2] at nd
    exact absurd List.mem_cons_self (List.nodup_cons.mp nd).1
section
variable {N : α → List α} {w : Nat → α} {M : Nat}
theorem map_get {i : Nat} {a : α} (h : ((List.range M).map w)[i]? = some a) : i < M ∧ a = w i := by
  have lt : i < M := by
    have := (List.getElem?_eq_some_iff.mp h).1
    simpa using this
  rw [List.getElem?_map, List.getElem?_range lt] at h
  exact ⟨lt, (Option.some.inj h).symm⟩
theorem map_mem {i : Nat} (h : i < M) : w i ∈ (List.range M).map w := List.mem_map.mpr ⟨i, List.mem_range.mpr h, rfl⟩
theorem inj_nodup (inj : ∀ i j, i < j → j < M → w i ≠ w j) : ((List.range M).map w).Nodup :=
  List.pairwise_map.mpr (List.Pairwise.imp_of_mem (R := fun i j => i < j) (fun {i j} _ hj lt => inj i j lt (List.mem_range.mp hj)) List.pairwise_lt_range)
theorem mk_open (two : ∀ a, (N a).length ≤ 2) (nd : ∀ i, i < M → (N (w i)).Nodup) (hM : 2 ≤ M) (inj : ∀ i j, i < j → j < M → w i ≠ w j) (adj : ∀ i, i + 1 < M → w (i + 1) ∈ N (w i) ∧ w i ∈ N (w (i + 1)))
    (e0 : ∀ z ∈ N (w 0), z = w 1) (e1 : ∀ z ∈ N (w (M - 1)), z = w (M - 2)) : Seam N false ((List.range M).map w) := by
  have hl : ((List.range M).map w).length = M := by simp
  have mid : ∀ i, 0 < i → i + 1 < M → w (i - 1) ∈ N (w i) ∧ w (i + 1) ∈ N (w i) ∧ w (i - 1) ≠ w (i + 1) := fun i h0 h1 => by
    refine ⟨?_, (adj i h1).1, inj _ _ (by omega) h1⟩
    have := (adj (i - 1) (by omega)).2
    rwa [show i - 1 + 1 = i by omega] at this
  refine ⟨inj_nodup inj, by rw [hl]; exact hM, fun i a b ha hb => ?_, fun a ha b hb => ?_, (fun h => Bool.noConfusion h), fun i a ha => ?_⟩
  · obtain ⟨_, rfl⟩ := map_get ha
    obtain ⟨h2, rfl⟩ := map_get hb
    exact adj i h2
  · obtain ⟨i, hi, rfl⟩ := List.mem_map.mp ha
    have hi := List.mem_range.mp hi
    rcases (by omega : i = 0 ∨ i = M - 1 ∨ (0 < i ∧ i + 1 < M)) with rfl | rfl | ⟨h0, h1⟩
    · rw [e0 b hb]; exact map_mem (by omega)
    · rw [e1 b hb]; exact map_mem (by omega)
    · obtain ⟨m1, m2, m3⟩ := mid i h0 h1
      rcases one_of (two _) m1 m2 m3 hb with rfl | rfl
      · exact map_mem (by omega)
      · exact map_mem (by omega)
  · obtain ⟨hi, rfl⟩ := map_get ha
    rw [hl]
    by_cases h : 0 < i ∧ i + 1 < M
    · rw [if_pos (.inr h)]
      obtain ⟨m1, m2, m3⟩ := mid i h.1 h.2
      exact two_len (two _) m1 m2 m3
    · rw [if_neg (fun z => z.elim (fun z => by cases z) h)]
      rcases (by omega : i = 0 ∨ i = M - 1) with rfl | rfl
      · exact all_eq (nd 0 (by omega)) (adj 0 (by omega)).1 e0
      · have := (adj (M - 2) (by omega)).2
        rw [show M - 2 + 1 = M - 1 by omega] at this
        exact all_eq (nd _ (by omega)) this e1
theorem mk_shut (two : ∀ a, (N a).length ≤ 2) (hM : 3 ≤ M) (inj : ∀ i j, i < j → j < M → w i ≠ w j) (adj : ∀ i, i + 1 < M → w (i + 1) ∈ N (w i) ∧ w i ∈ N (w (i + 1)))
    (sh : w (M - 1) ∈ N (w 0) ∧ w 0 ∈ N (w (M - 1))) : Seam N true ((List.range M).map w) := by
  have hl : ((List.range M).map w).length = M := by simp
  have mid : ∀ i, i < M → ∃ j k, j < M ∧ k < M ∧ w j ∈ N (w i) ∧ w k ∈ N (w i) ∧ w j ≠ w k := fun i hi => by
    rcases (by omega : i = 0 ∨ i = M - 1 ∨ (0 < i ∧ i + 1 < M)) with rfl | rfl | ⟨h0, h1⟩
    · exact ⟨1, M - 1, by omega, by omega, (adj 0 (by omega)).1, sh.1, inj _ _ (by omega) (by omega)⟩
    · have := (adj (M - 2) (by omega)).2
      rw [show M - 2 + 1 = M - 1 by omega] at this
      exact ⟨0, M - 2, by omega, by omega, sh.2, this, inj _ _ (by omega) (by omega)⟩
    · have := (adj (i - 1) (by omega)).2
      rw [show i - 1 + 1 = i by omega] at this
      exact ⟨i - 1, i + 1, by omega, h1, this, (adj i h1).1, inj _ _ (by omega) h1⟩
  refine ⟨inj_nodup inj, by rw [hl]; omega, fun i a b ha hb => ?_, fun a ha b hb => ?_, fun h => ?_, fun i a ha => ?_⟩
  · obtain ⟨_, rfl⟩ := map_get ha
    obtain ⟨h2, rfl⟩ := map_get hb
    exact adj i h2
  · obtain ⟨i, hi, rfl⟩ := List.mem_map.mp ha
    obtain ⟨j, k, hj, hk, m1, m2, m3⟩ := mid i (List.mem_range.mp hi)
    rcases one_of (two _) m1 m2 m3 hb with rfl | rfl
    · exact map_mem hj
    · exact map_mem hk
  · refine ⟨by rw [hl]; exact hM, fun a b ha hb => ?_⟩
    rw [hl] at hb
    obtain ⟨_, rfl⟩ := map_get ha
    obtain ⟨_, rfl⟩ := map_get hb
    exact sh
  · obtain ⟨hi, rfl⟩ := map_get ha
    rw [if_pos (.inl rfl)]
    obtain ⟨j, k, hj, hk, m1, m2, m3⟩ := mid i hi
    exact two_len (two _) m1 m2 m3
end
section
variable {N : α → List α} {S : α → Prop} {L : List α} {b s t : α}
theorem go_end (G : Gr N S L) (hb : S b) (hs : s ∈ N b) : Go N S b s (end_ N b s) := go_of G hb hs (end_ok G hb hs).2.1
/-- a walk that comes back -/
theorem seam_back (G : Gr N S L) (hb : S b) (hs : s ∈ N b) (h : back N b s (end_ N b s) = true) : Seam N true (line N b s (end_ N b s)) := by
  have g := go_end G hb hs
  obtain ⟨k1, k2⟩ := back_iff G hb hs (end_ok G hb hs).1 h
  generalize end_ N b s = n at *
  have n1 : 1 ≤ n := by
    rcases Nat.eq_zero_or_pos n with rfl | q
    · exact absurd rfl k2
    · exact q
  refine mk_shut G.two (by omega) (fun i j lt hj => g.inj G (by omega) i lt) (fun i hi => ⟨g.adj i (by omega), g.back G (by omega)⟩) ?_
  rw [show n + 2 - 1 = n + 1 by omega]
  exact ⟨(G.sym _ (g.ins (n + 1) (by omega)) _ k1).2, k1⟩
/-- one that does not, from a point with one neighbour -/
theorem seam_one (G : Gr N S L) (hb : S b) (hs : N b = [s]) (h : back N b s (end_ N b s) = false) : Seam N false (line N b s (end_ N b s)) := by
  have hs' : s ∈ N b := by rw [hs]; simp
  have g := go_end G hb hs'
  have nb := fun z => not_back (N := N) (b := b) (s := s) h (z := z)
  generalize end_ N b s = n at *
  refine mk_open G.two (fun i hi => G.nd _ (g.ins i (by omega))) (by omega) (fun i j lt hj => g.inj G (by omega) i lt) (fun i hi => ⟨g.adj i (by omega), g.back G (by omega)⟩) (fun z hz => ?_) fun z hz => ?_
  · rw [at_0, hs, List.mem_singleton] at hz
    exact hz
  · rw [show n + 2 - 1 = n + 1 by omega] at hz
    exact nb z hz
/-- two walks from a point apart but for it, where the first one does not come back -/
theorem apart (G : Gr N S L) (hb : S b) (hs : s ∈ N b) (ht : t ∈ N b) (ne : s ≠ t) (h : back N b s (end_ N b s) = false) :
    ∀ j, 1 ≤ j → j ≤ end_ N b t + 1 → ∀ i, 1 ≤ i → i ≤ end_ N b s + 1 → at_ N b t j ≠ at_ N b s i := by
  have g := go_end G hb hs
  have g' := go_end G hb ht
  have nb := fun z => not_back (N := N) (b := b) (s := s) h (z := z)
  generalize end_ N b s = n at *
  generalize end_ N b t = m at *
  intro j
  induction j with
  | zero => intro h1; omega
  | succ j ih =>
    intro _ hj i hi hi2 e
    have aj := g'.back G (k := j) (by omega)
    rw [e] at aj
    -- the point behind is one of the first walk's
    have pre : at_ N b t j = at_ N b s (i - 1) ∨ (i ≤ n ∧ at_ N b t j = at_ N b s (i + 1)) := by
      by_cases q : i = n + 1
      · subst q
        exact .inl (nb _ aj)
      · have := g.inn G (k := i - 1) (by omega) (z := at_ N b t j) (by rw [show i - 1 + 1 = i by omega]; exact aj)
        rw [show i - 1 + 2 = i + 1 by omega] at this
        exact this.elim .inl fun z => .inr ⟨by omega, z⟩
    by_cases j0 : j = 0
    · subst j0
      rcases pre with z | ⟨q, z⟩
      · by_cases i1 : i = 1
        · subst i1
          exact ne e.symm
        · exact g.inj G (j := i - 1) (by omega) 0 (by omega) z
      · exact g.inj G (j := i + 1) (by omega) 0 (by omega) z
    · rcases pre with z | ⟨q, z⟩
      · by_cases i1 : i = 1
        · subst i1
          exact g'.inj G (j := j) (by omega) 0 (by omega) z.symm
        · exact ih (by omega) (by omega) (i - 1) (by omega) (by omega) z
      · exact ih (by omega) (by omega) (i + 1) (by omega) (by omega) z
theorem other_open (G : Gr N S L) (hb : S b) (hs : s ∈ N b) (ht : t ∈ N b) (ne : s ≠ t) (h : back N b s (end_ N b s) = false) : back N b t (end_ N b t) = false := by
  cases q : back N b t (end_ N b t) with
  | false => rfl
  | true =>
    exfalso
    obtain ⟨k1, k2⟩ := back_iff G hb ht (end_ok G hb ht).1 q
    have g' := go_end G hb ht
    have k3 := (G.sym _ (g'.ins (end_ N b t + 1) (by omega)) _ k1).2
    rcases one_of (G.two b) hs ht ne k3 with z | z
    · exact apart G hb hs ht ne h (end_ N b t + 1) (by omega) (by omega) 1 (by omega) (by omega) z
    · by_cases m0 : end_ N b t = 0
      · rw [m0] at k2
        exact k2 rfl
      · exact g'.inj G (j := end_ N b t + 1) (by omega) 1 (by omega) z.symm
/-- both ways from a point within an open seam -/
theorem seam_two (G : Gr N S L) (hb : S b) (hs : N b = [s, t]) (h : back N b s (end_ N b s) = false) : Seam N false ((line N b s (end_ N b s)).reverse ++ (line N b t (end_ N b t)).tail) := by
  have hs' : s ∈ N b := by rw [hs]; simp
  have ht' : t ∈ N b := by rw [hs]; simp
  have ne : s ≠ t := by
    have := G.nd b hb
    rw [hs] at this
    intro e
    subst e
    exact absurd List.mem_cons_self (List.nodup_cons.mp this).1
  have g := go_end G hb hs'
  have g' := go_end G hb ht'
  have nb := fun z => not_back (N := N) (b := b) (s := s) h (z := z)
  have nb' := fun z => not_back (N := N) (b := b) (s := t) (other_open G hb hs' ht' ne h) (z := z)
  have ap := apart G hb hs' ht' ne h
  generalize end_ N b s = n at *
  generalize end_ N b t = m at *
  have eq : (line N b s n).reverse ++ (line N b t m).tail = (List.range (n + m + 3)).map fun i => if i ≤ n + 1 then at_ N b s (n + 1 - i) else at_ N b t (i - (n + 1)) := by
    refine List.ext_getElem? fun i => ?_
    by_cases c1 : i < n + 2
    · rw [List.getElem?_append_left (by rw [List.length_reverse, line_len]; exact c1), rev_get _ (by rw [line_len]; exact c1), line_len, line_get (by omega), List.getElem?_map, List.getElem?_range (by omega)]
      show _ = some (if i ≤ n + 1 then _ else _)
      rw [if_pos (by omega), show n + 2 - 1 - i = n + 1 - i by omega]
    · rw [List.getElem?_append_right (by rw [List.length_reverse, line_len]; omega), List.length_reverse, line_len, List.getElem?_tail]
      by_cases c2 : i < n + m + 3
      · rw [line_get (by omega), List.getElem?_map, List.getElem?_range c2]
        show _ = some (if i ≤ n + 1 then _ else _)
        rw [if_neg (by omega), show i - (n + 2) + 1 = i - (n + 1) by omega]
      · rw [List.getElem?_eq_none (by rw [line_len]; omega), List.getElem?_eq_none (by simp; omega)]
  rw [eq]
  have w1 : ∀ i, i ≤ n + 1 → (if i ≤ n + 1 then at_ N b s (n + 1 - i) else at_ N b t (i - (n + 1))) = at_ N b s (n + 1 - i) := fun i hi => if_pos hi
  have w2 : ∀ i, n + 1 ≤ i → (if i ≤ n + 1 then at_ N b s (n + 1 - i) else at_ N b t (i - (n + 1))) = at_ N b t (i - (n + 1)) := fun i hi => by
    by_cases q : i = n + 1
    · subst q
      rw [if_pos (by omega), Nat.sub_self]
      rfl
    · rw [if_neg (by omega)]
  refine mk_open G.two (fun i hi => ?_) (by omega) (fun i j lt hj => ?_) (fun i hi => ?_) (fun z hz => ?_) fun z hz => ?_
  · by_cases c : i ≤ n + 1
    · rw [w1 i c]; exact G.nd _ (g.ins _ (by omega))
    · rw [w2 i (by omega)]; exact G.nd _ (g'.ins _ (by omega))
  · by_cases c : j ≤ n + 1
    · rw [w1 i (by omega), w1 j c]
      exact fun e => g.inj G (j := n + 1 - i) (by omega) (n + 1 - j) (by omega) e.symm
    · by_cases c2 : n + 1 ≤ i
      · rw [w2 i c2, w2 j (by omega)]
        exact g'.inj G (j := j - (n + 1)) (by omega) (i - (n + 1)) (by omega)
      · rw [w1 i (by omega), w2 j (by omega)]
        exact fun e => ap (j - (n + 1)) (by omega) (by omega) (n + 1 - i) (by omega) (by omega) e.symm
  · by_cases c : i + 1 ≤ n + 1
    · rw [w1 i (by omega), w1 (i + 1) c]
      have a1 := g.adj (n - i) (by omega)
      have a2 := g.back G (k := n - i) (by omega)
      rw [show n - i + 1 = n + 1 - i by omega] at a1 a2
      rw [show n + 1 - (i + 1) = n - i by omega]
      exact ⟨a2, a1⟩
    · rw [w2 i (by omega), w2 (i + 1) (by omega)]
      have a1 := g'.adj (i - (n + 1)) (by omega)
      have a2 := g'.back G (k := i - (n + 1)) (by omega)
      rw [show i - (n + 1) + 1 = i + 1 - (n + 1) by omega] at a1 a2
      exact ⟨a1, a2⟩
  · rw [w1 0 (by omega)] at hz
    rw [w1 1 (by omega)]
    exact nb z hz
  · rw [w2 _ (by omega), show n + m + 3 - 1 - (n + 1) = m + 1 by omega] at hz
    rw [w2 _ (by omega), show n + m + 3 - 2 - (n + 1) = m by omega]
    exact nb' z hz
end
end Sm
namespace GD
open PySem L2 G
end GD
namespace GD
open PySem L2 G
end GD
namespace GD
open PySem L2 G PySem.W
section
variable {s : Int} {us ls : List Int}
abbrev nb (us ls : List Int) : Pt → List Pt := fun p => joinL us ls p.1 p.2
def InC (us ls : List Int) (p : Pt) : Prop := 0 ≤ p.1 ∧ p.1 ≤ us.length + 1 ∧ 0 ≤ p.2 ∧ p.2 ≤ ls.length + 1
/-- all points -/
def ptsC (us ls : List Int) : List Pt := ((List.range (us.length + 2)).map fun x => (List.range (ls.length + 2)).map fun y => (((x : Nat) : Int), ((y : Nat) : Int))).flatten
theorem ptsC_mem {q : Pt} : q ∈ ptsC us ls ↔ InC us ls q := by
  obtain ⟨x, y⟩ := q
  unfold ptsC InC
  simp only [List.mem_flatten, List.mem_map, List.mem_range]
  constructor
  · rintro ⟨l, ⟨a, ha, rfl⟩, hl⟩
    obtain ⟨b, hb, e⟩ := List.mem_map.mp hl
    have hb := List.mem_range.mp hb
    injection e with e1 e2
    omega
  · rintro ⟨h1, h2, h3, h4⟩
    refine ⟨_, ⟨x.toNat, by omega, rfl⟩, List.mem_map.mpr ⟨y.toNat, List.mem_range.mpr (by omega), ?_⟩⟩
    rw [Int.toNat_of_nonneg h1, Int.toNat_of_nonneg h3]
theorem mem_nb {p q : Pt} : q ∈ nb us ls p ↔ q ∈ rowN us ls p.1 p.2 ∨ q ∈ colN us ls p.1 p.2 := by
  unfold nb joinL
  rw [(sortP_perm _).mem_iff, List.mem_append]
theorem mem_row {p q : Pt} : q ∈ rowN us ls p.1 p.2 ↔ (0 < p.2 ∧ p.2 < ls.length + 1 ∧ 0 ≤ rx ls p.1 p.2 ∧ rx ls p.1 p.2 ≤ us.length + 1) ∧ q = (rx ls p.1 p.2, p.2) := by
  unfold rowN
  by_cases c : 0 < p.2 ∧ p.2 < ls.length + 1 ∧ 0 ≤ rx ls p.1 p.2 ∧ rx ls p.1 p.2 ≤ us.length + 1
  · rw [if_pos c, List.mem_singleton]
    exact ⟨fun h => ⟨c, h⟩, fun h => h.2⟩
  · rw [if_neg c]
    exact ⟨fun h => (List.not_mem_nil h).elim, fun h => absurd h.1 c⟩
theorem mem_col {p q : Pt} : q ∈ colN us ls p.1 p.2 ↔ (0 < p.1 ∧ p.1 < us.length + 1 ∧ 0 ≤ cy us p.1 p.2 ∧ cy us p.1 p.2 ≤ ls.length + 1) ∧ q = (p.1, cy us p.1 p.2) := by
  unfold colN
  by_cases c : 0 < p.1 ∧ p.1 < us.length + 1 ∧ 0 ≤ cy us p.1 p.2 ∧ cy us p.1 p.2 ≤ ls.length + 1
  · rw [if_pos c, List.mem_singleton]
    exact ⟨fun h => ⟨c, h⟩, fun h => h.2⟩
  · rw [if_neg c]
    exact ⟨fun h => (List.not_mem_nil h).elim, fun h => absurd h.1 c⟩
theorem rx_rx (x y : Int) : rx ls (rx ls x y) y = x := by
  unfold rx
  by_cases c : (x + gt ls (y - 1).toNat) % 2 = 1
  · rw [if_pos c, if_neg (by omega)]; omega
  · rw [if_neg c, if_pos (by omega)]; omega
theorem cy_cy (x y : Int) : cy us x (cy us x y) = y := by
  unfold cy
  by_cases c : (y + gt us (x - 1).toNat) % 2 = 1
  · rw [if_pos c, if_neg (by omega)]; omega
  · rw [if_neg c, if_pos (by omega)]; omega
theorem rx_ne (x y : Int) : rx ls x y ≠ x := by unfold rx; split <;> omega
theorem cy_ne (x y : Int) : cy us x y ≠ y := by unfold cy; split <;> omega
theorem rowN_sym {p q : Pt} (hp : InC us ls p) (h : q ∈ rowN us ls p.1 p.2) : InC us ls q ∧ p ∈ rowN us ls q.1 q.2 := by
  obtain ⟨c, rfl⟩ := mem_row.mp h
  obtain ⟨h1, h2, h3, h4⟩ := hp
  refine ⟨⟨by dsimp only; omega, by dsimp only; omega, h3, h4⟩, mem_row.mpr ?_⟩
  dsimp only
  rw [rx_rx]
  exact ⟨⟨c.1, c.2.1, h1, h2⟩, rfl⟩
theorem colN_sym {p q : Pt} (hp : InC us ls p) (h : q ∈ colN us ls p.1 p.2) : InC us ls q ∧ p ∈ colN us ls q.1 q.2 := by
  obtain ⟨c, rfl⟩ := mem_col.mp h
  obtain ⟨h1, h2, h3, h4⟩ := hp
  refine ⟨⟨h1, h2, by dsimp only; omega, by dsimp only; omega⟩, mem_col.mpr ?_⟩
  dsimp only
  rw [cy_cy]
  exact ⟨⟨c.1, c.2.1, h3, h4⟩, rfl⟩
theorem gr (us ls : List Int) : Sm.Gr (nb us ls) (InC us ls) (ptsC us ls) := by
  refine ⟨fun a ha b hb => ?_, fun a _ h => ?_, fun a => joinL_len us ls a.1 a.2, fun a _ => ?_, fun a ha => ptsC_mem.mpr ha⟩
  · rcases mem_nb.mp hb with h | h
    · obtain ⟨h1, h2⟩ := rowN_sym ha h
      exact ⟨h1, mem_nb.mpr (.inl h2)⟩
    · obtain ⟨h1, h2⟩ := colN_sym ha h
      exact ⟨h1, mem_nb.mpr (.inr h2)⟩
  · rcases mem_nb.mp h with h | h
    · exact rx_ne (ls := ls) a.1 a.2 (congrArg Prod.fst (mem_row.mp h).2).symm
    · exact cy_ne (us := us) a.1 a.2 (congrArg Prod.snd (mem_col.mp h).2).symm
  · unfold nb joinL
    rw [(sortP_perm _).nodup_iff, List.nodup_append]
    refine ⟨?_, ?_, fun x hx y hy e => ?_⟩
    · unfold rowN; split <;> simp
    · unfold colN; split <;> simp
    · have h1 := (mem_row.mp hx).2
      have h2 := (mem_col.mp hy).2
      rw [h1, h2] at e
      exact rx_ne (ls := ls) a.1 a.2 (congrArg Prod.fst e)
abbrev pre (us ls : List Int) (b z : Pt) (k : Nat) : List Pt := (List.range (k + 1)).map (Sm.at_ (nb us ls) b z)
noncomputable def lineC (us ls : List Int) (b z : Pt) : List Pt := Sm.line (nb us ls) b z (Sm.end_ (nb us ls) b z)
noncomputable def backC (us ls : List Int) (b z : Pt) : Bool := Sm.back (nb us ls) b z (Sm.end_ (nb us ls) b z)
end
end GD
namespace GD
open PySem L2 G PySem.W
def ltP (p q : Pt) : Bool := decide (p.1 < q.1 ∨ (p.1 = q.1 ∧ p.2 < q.2))
def minP (p : Pt) (ps : List Pt) : Pt := ps.foldl (fun a y => if ltP y a = true then y else a) p
abbrev pyPt (p : Pt) : PyData := .tuple [.int p.1, .int p.2]
theorem minP_mem : ∀ (ps : List Pt) (p : Pt), minP p ps ∈ p :: ps
  | [], p => List.mem_singleton.mpr rfl
  | q :: ps, p => by
    have ih := minP_mem ps (if ltP q p = true then q else p)
    show minP (if ltP q p = true then q else p) ps ∈ _
    rcases List.mem_cons.mp ih with h | h
    · rw [h]
      split <;> simp
    · exact List.mem_cons_of_mem _ (List.mem_cons_of_mem _ h)
theorem ltP_iff {p q : Pt} : ltP p q = true ↔ p.1 < q.1 ∨ (p.1 = q.1 ∧ p.2 < q.2) := by unfold ltP; exact decide_eq_true_iff
theorem ltP_tri (p q : Pt) : ltP p q = true ∨ p = q ∨ ltP q p = true := by
  rw [ltP_iff, ltP_iff]
  rcases Int.lt_trichotomy p.1 q.1 with h | h | h
  · exact .inl (.inl h)
  · rcases Int.lt_trichotomy p.2 q.2 with g | g | g
    · exact .inl (.inr ⟨h, g⟩)
    · exact .inr (.inl (Prod.ext h g))
    · exact .inr (.inr (.inr ⟨h.symm, g⟩))
  · exact .inr (.inr (.inl h))
/-- the first place of a point -/
def fidx (q : Pt) : List Pt → Nat
  | [] => 0
  | p :: ps => if p = q then 0 else fidx q ps + 1
theorem fidx_lt {q : Pt} : ∀ {ps : List Pt}, q ∈ ps → fidx q ps < ps.length ∧ ps[fidx q ps]? = some q
  | p :: ps, h => by
    unfold fidx
    by_cases c : p = q
    · rw [if_pos c]
      exact ⟨by simp, by simp [c]⟩
    · rw [if_neg c]
      obtain ⟨h1, h2⟩ := fidx_lt (ps := ps) ((List.mem_cons.mp h).resolve_left fun e => c e.symm)
      exact ⟨by simp; exact h1, by simpa using h2⟩
def minL : List Pt → Pt
  | [] => (0, 0)
  | p :: ps => minP p ps
theorem minL_mem {l : List Pt} (h : l ≠ []) : minL l ∈ l := by
  cases l with
  | nil => exact absurd rfl h
  | cons p ps => exact minP_mem ps p
def rotL (l : List Pt) : List Pt := l.drop (fidx (minL l) l) ++ l.take (fidx (minL l) l)
def fromL (l : List Pt) : List Pt := match rotL l with
  | a :: z :: r => if z.2 ≠ a.2 then a :: (z :: r).reverse else a :: z :: r
  | t => t
theorem rotL_cons {l : List Pt} (h : 2 ≤ l.length) : ∃ z r, rotL l = minL l :: z :: r := by
  have ne : l ≠ [] := by intro e; subst e; simp at h
  obtain ⟨h1, h2⟩ := fidx_lt (minL_mem ne)
  have hl : (rotL l).length = l.length := by unfold rotL; simp; omega
  have h0 : (rotL l)[0]? = some (minL l) := by
    unfold rotL
    rw [List.getElem?_append_left (by rw [List.length_drop]; omega), List.getElem?_drop, Nat.add_zero, h2]
  cases q : rotL l with
  | nil => rw [q] at hl; simp at hl; omega
  | cons a t =>
    rw [q] at hl h0
    simp at h0
    subst h0
    cases t with
    | nil => simp at hl; omega
    | cons z r => exact ⟨z, r, rfl⟩
/-- an open line from its lesser end on -/
def normL (l : List Pt) : List Pt := match l[0]?, l[l.length - 1]? with
  | some a, some b => if ltP b a = true then l.reverse else l
  | _, _ => l
theorem normL_eq {l : List Pt} {a b : Pt} (ha : l[0]? = some a) (hb : l[l.length - 1]? = some b) : normL l = if ltP b a = true then l.reverse else l := by
  unfold normL
  rw [ha, hb]
section
variable {s : Int} {us ls : List Int}
noncomputable def bothC (us ls : List Int) (b z : Pt) (r : List Pt) : List Pt := match r with
  | [] => lineC us ls b z
  | t :: _ => (lineC us ls b z).reverse ++ (lineC us ls b t).tail
/-- the seam through a point -/
noncomputable def seamC (us ls : List Int) (b : Pt) : Option (Bool × List Pt) := match nb us ls b with
  | [] => none
  | z :: r => if backC us ls b z = true then some (true, fromL (lineC us ls b z)) else some (false, normL (bothC us ls b z r))
end
end GD
namespace GD
open PySem L2 G
def addP (vs : List Pt) (p : Pt) : List Pt := if p ∈ vs then vs else vs ++ [p]
theorem addP_mem {vs : List Pt} {p q : Pt} : q ∈ addP vs p ↔ q ∈ vs ∨ q = p := by
  unfold addP
  by_cases m : p ∈ vs
  · rw [if_pos m]
    exact ⟨.inl, fun h => h.elim id fun e => e ▸ m⟩
  · rw [if_neg m, List.mem_append, List.mem_singleton]
def addAll (vs ps : List Pt) : List Pt := ps.foldl addP vs
theorem addAll_mem {q : Pt} : ∀ {ps vs : List Pt}, q ∈ addAll vs ps ↔ q ∈ vs ∨ q ∈ ps
  | [], vs => by simp [addAll]
  | p :: ps, vs => by
    have := addAll_mem (q := q) (ps := ps) (vs := addP vs p)
    unfold addAll at this ⊢
    rw [List.foldl_cons, this, addP_mem, List.mem_cons, or_assoc]
end GD
namespace GD
open PySem L2 G
section
variable {us ls : List Int}
def colP (x : Int) (k : Nat) : List Pt := (List.range k).map fun y => (x, ((y : Nat) : Int))
end
end GD
namespace Sm
variable {α : Type} [DecidableEq α] {N : α → List α} {c : Bool} {l : List α}
/-- a set that holds the neighbours of its points and one of a seam's points holds them all -/
theorem Seam.conn (q : Seam N c l) {V : α → Prop} (hV : ∀ a, V a → ∀ b ∈ N a, V b) {z : α} (hz : z ∈ l) (vz : V z) : ∀ w ∈ l, V w := by
  obtain ⟨i, hi⟩ := List.getElem?_of_mem hz
  have up : ∀ k w, l[i + k]? = some w → V w := by
    intro k
    induction k with
    | zero => intro w hw; rw [Nat.add_zero, hi] at hw; cases hw; exact vz
    | succ k ih =>
      intro w hw
      have lt := (List.getElem?_eq_some_iff.mp hw).1
      obtain ⟨v, hv⟩ : ∃ v, l[i + k]? = some v := ⟨_, List.getElem?_eq_getElem (by omega)⟩
      exact hV v (ih v hv) w (q.step _ _ _ hv hw).1
  have dn : ∀ k, k ≤ i → ∀ w, l[i - k]? = some w → V w := by
    intro k
    induction k with
    | zero => intro _ w hw; rw [Nat.sub_zero, hi] at hw; cases hw; exact vz
    | succ k ih =>
      intro hk w hw
      have lt := (List.getElem?_eq_some_iff.mp hi).1
      obtain ⟨v, hv⟩ : ∃ v, l[i - k]? = some v := ⟨_, List.getElem?_eq_getElem (by omega)⟩
      refine hV v (ih (by omega) v hv) w (q.step (i - (k + 1)) _ _ hw ?_).2
      rw [show i - (k + 1) + 1 = i - k by omega]
      exact hv
  intro w hw
  obtain ⟨j, hj⟩ := List.getElem?_of_mem hw
  by_cases h : i ≤ j
  · exact up (j - i) w (by rw [show i + (j - i) = j by omega]; exact hj)
  · exact dn (i - j) (by omega) w (by rw [show i - (i - j) = j by omega]; exact hj)
end Sm
namespace GD
open PySem L2 G PySem.W
section
variable {s : Int} {us ls : List Int}
theorem fromL_seam {N : Pt → List Pt} {l : List Pt} (q : Sm.Seam N true l) : Sm.Seam N true (fromL l) ∧ ∀ z, z ∈ fromL l ↔ z ∈ l := by
  have r1 : Sm.Seam N true (rotL l) := by
    unfold rotL
    have e : Sm.Seam N true (l.take (fidx (minL l) l) ++ l.drop (fidx (minL l) l)) := by rw [List.take_append_drop]; exact q
    exact e.rot
  have m1 : ∀ z, z ∈ rotL l ↔ z ∈ l := fun z => by
    unfold rotL
    rw [List.mem_append, or_comm, ← List.mem_append, List.take_append_drop]
  obtain ⟨z, r, hr⟩ := rotL_cons q.two
  have fe : fromL l = if z.2 ≠ (minL l).2 then minL l :: (z :: r).reverse else minL l :: z :: r := by unfold fromL; rw [hr]
  rw [hr] at r1 m1
  rw [fe]
  by_cases c : z.2 ≠ (minL l).2
  · rw [if_pos c]
    refine ⟨?_, fun w => ?_⟩
    · have h := r1.rev
      rw [List.reverse_cons] at h
      exact h.rot
    · rw [← m1]
      simp
      constructor <;> (intro h; rcases h with h | h | h <;> simp [h])
  · rw [if_neg c]
    exact ⟨r1, m1⟩
theorem normL_seam {N : Pt → List Pt} {c : Bool} {l : List Pt} (q : Sm.Seam N c l) : Sm.Seam N c (normL l) ∧ ∀ z, z ∈ normL l ↔ z ∈ l := by
  have h2 := q.two
  rw [normL_eq (List.getElem?_eq_getElem (by omega)) (List.getElem?_eq_getElem (by omega))]
  split
  · exact ⟨q.rev, fun z => List.mem_reverse⟩
  · exact ⟨q, fun z => Iff.rfl⟩
theorem at_mem {b z : Pt} (k : Nat) (h : k ≤ Sm.end_ (nb us ls) b z + 1) : Sm.at_ (nb us ls) b z k ∈ lineC us ls b z := List.mem_map.mpr ⟨k, List.mem_range.mpr (by omega), rfl⟩
/-- the seam through a point is a seam through it -/
theorem seamC_ok {b : Pt} (hb : InC us ls b) {c : Bool} {l : List Pt} (h : seamC us ls b = some (c, l)) : Sm.Seam (nb us ls) c l ∧ b ∈ l := by
  unfold seamC at h
  cases q : nb us ls b with
  | nil => rw [q] at h; cases h
  | cons z r =>
    rw [q] at h
    dsimp only at h
    have hz : z ∈ nb us ls b := by rw [q]; simp
    by_cases bk : backC us ls b z = true
    · rw [if_pos bk] at h
      cases h
      obtain ⟨s1, s2⟩ := fromL_seam (Sm.seam_back (gr us ls) hb hz bk)
      exact ⟨s1, (s2 b).mpr (at_mem 0 (by omega))⟩
    · rw [if_neg bk] at h
      cases h
      have bf := Bool.eq_false_iff.mpr bk
      cases r with
      | nil =>
        obtain ⟨s1, s2⟩ := normL_seam (Sm.seam_one (gr us ls) hb q bf)
        exact ⟨s1, (s2 b).mpr (at_mem 0 (by omega))⟩
      | cons t r =>
        have hr : r = [] := by
          have jl : (nb us ls b).length ≤ 2 := joinL_len us ls b.1 b.2
          rw [q] at jl
          have jl : r.length + 1 + 1 ≤ 2 := jl
          exact List.eq_nil_of_length_eq_zero (by omega)
        subst hr
        obtain ⟨s1, s2⟩ := normL_seam (Sm.seam_two (gr us ls) hb q bf)
        refine ⟨s1, (s2 b).mpr (List.mem_append_left _ (List.mem_reverse.mpr (at_mem 0 (by omega))))⟩
theorem seamC_none {b : Pt} (h : seamC us ls b = none) : nb us ls b = [] := by
  unfold seamC at h
  cases q : nb us ls b with
  | nil => rfl
  | cons z r =>
    rw [q] at h
    dsimp only at h
    split at h <;> cases h
theorem seam_in {c : Bool} {l : List Pt} (q : Sm.Seam (nb us ls) c l) {b : Pt} (hb : InC us ls b) (h : b ∈ l) : ∀ z ∈ l, InC us ls z :=
  q.conn (V := InC us ls) (fun a ha z hz => ((gr us ls).sym a ha z hz).1) h hb
abbrev Sm1 : Type := Bool × List Pt
/-- one turn of the walk over the points -/
noncomputable def sS (us ls : List Int) (q : Pt) (vs : List Pt) : List Pt := if q ∈ vs then vs else match seamC us ls q with
  | none => vs
  | some x => addAll vs x.2
noncomputable def sF (us ls : List Int) (q : Pt) (vs : List Pt) (fs : List Sm1) : List Sm1 := if q ∈ vs then fs else match seamC us ls q with
  | none => fs
  | some x => fs ++ [x]
noncomputable def sst (us ls : List Int) (a : List Pt × List Sm1) (q : Pt) : List Pt × List Sm1 := (sS us ls q a.1, sF us ls q a.1 a.2)
def allC (ls : List Int) (k : Nat) : List Pt := ((List.range k).map fun x : Nat => colP (x : Int) (ls.length + 2)).flatten
noncomputable def ssAll (us ls : List Int) (k : Nat) : List Pt × List Sm1 := (allC ls k).foldl (sst us ls) ([], [])
/-- the seams as they are found -/
noncomputable def found (us ls : List Int) : List Sm1 := (ssAll us ls (us.length + 2)).2
def fstP (x : Sm1) : Pt := x.2.headD (0, 0)
def leS (x y : Sm1) : Bool := !ltP (fstP y) (fstP x)
noncomputable def seamsL (us ls : List Int) : List Sm1 := (found us ls).mergeSort leS
structure SInv (us ls : List Int) (a : List Pt × List Sm1) : Prop where
  ev : ∀ x ∈ a.2, Sm.Seam (nb us ls) x.1 x.2 ∧ ∀ z ∈ x.2, InC us ls z
  seen : ∀ z, z ∈ a.1 ↔ ∃ x ∈ a.2, z ∈ x.2
  apart : a.2.Pairwise fun x y => ∀ z ∈ x.2, z ∉ y.2
theorem SInv.stp {a : List Pt × List Sm1} (I : SInv us ls a) {q : Pt} (h : InC us ls q) : SInv us ls (sst us ls a q) ∧ (nb us ls q ≠ [] → q ∈ (sst us ls a q).1) ∧ ∀ z ∈ a.1, z ∈ (sst us ls a q).1 := by
  unfold sst sS sF
  by_cases m : q ∈ a.1
  · rw [if_pos m, if_pos m]
    exact ⟨I, fun _ => m, fun z hz => hz⟩
  · rw [if_neg m, if_neg m]
    cases e : seamC us ls q with
    | none =>
      dsimp only
      exact ⟨I, fun ne => absurd (seamC_none e) ne, fun z hz => hz⟩
    | some x =>
      obtain ⟨q1, q2⟩ := seamC_ok h e
      have hin := seam_in q1 h q2
      dsimp only
      refine ⟨⟨fun y hy => ?_, fun z => ?_, ?_⟩, fun _ => addAll_mem.mpr (.inr q2), fun z hz => addAll_mem.mpr (.inl hz)⟩
      · rcases List.mem_append.mp hy with hy | hy
        · exact I.ev y hy
        · rw [List.mem_singleton.mp hy]
          exact ⟨q1, hin⟩
      · dsimp only
        rw [addAll_mem, I.seen]
        constructor
        · rintro (⟨y, hy, hz⟩ | hz)
          · exact ⟨y, List.mem_append_left _ hy, hz⟩
          · exact ⟨x, by simp, hz⟩
        · rintro ⟨y, hy, hz⟩
          rcases List.mem_append.mp hy with hy | hy
          · exact .inl ⟨y, hy, hz⟩
          · rw [List.mem_singleton.mp hy] at hz
            exact .inr hz
      · refine List.pairwise_append.mpr ⟨I.apart, by simp, fun y hy w hw z hz1 hz2 => ?_⟩
        rw [List.mem_singleton.mp hw] at hz2
        have := q1.conn (V := fun z => z ∈ y.2) (fun a ha b hb => (I.ev y hy).1.cl a ha b hb) hz2 hz1 q q2
        exact m ((I.seen q).mpr ⟨y, hy, this⟩)
theorem SInv.fold : ∀ (L : List Pt) {a : List Pt × List Sm1}, SInv us ls a → (∀ q ∈ L, InC us ls q) → SInv us ls (L.foldl (sst us ls) a) ∧ (∀ q ∈ L, nb us ls q ≠ [] → q ∈ (L.foldl (sst us ls) a).1) ∧ ∀ z ∈ a.1, z ∈ (L.foldl (sst us ls) a).1
  | [], a, I, _ => ⟨I, (fun _ h => (List.not_mem_nil h).elim), fun _ h => h⟩
  | q :: L, a, I, h => by
    obtain ⟨a1, a2, a3⟩ := SInv.stp I (h q List.mem_cons_self)
    obtain ⟨b1, b2, b3⟩ := SInv.fold L a1 fun x hx => h x (List.mem_cons_of_mem _ hx)
    refine ⟨b1, fun x hx e => ?_, fun z hz => b3 z (a3 z hz)⟩
    rcases List.mem_cons.mp hx with rfl | hx
    · exact b3 _ (a2 e)
    · exact b2 x hx e
theorem found_inv (us ls : List Int) : SInv us ls (ssAll us ls (us.length + 2)) ∧ ∀ z, InC us ls z → nb us ls z ≠ [] → ∃ x ∈ found us ls, z ∈ x.2 := by
  have I0 : SInv us ls (([], []) : List Pt × List Sm1) := ⟨(fun _ h => (List.not_mem_nil h).elim), fun z => ⟨(fun h => (List.not_mem_nil h).elim), fun ⟨_, h, _⟩ => (List.not_mem_nil h).elim⟩, List.Pairwise.nil⟩
  obtain ⟨I, ev, _⟩ := SInv.fold (ptsC us ls) I0 fun q hq => ptsC_mem.mp hq
  exact ⟨I, fun z hz ne => (I.seen z).mp (ev z (ptsC_mem.mpr hz) ne)⟩
theorem found_ev {x : Sm1} (h : x ∈ found us ls) : Sm.Seam (nb us ls) x.1 x.2 ∧ ∀ z ∈ x.2, InC us ls z := (found_inv us ls).1.ev x h
theorem found_apart : (found us ls).Pairwise fun x y => ∀ z ∈ x.2, z ∉ y.2 := (found_inv us ls).1.apart
theorem seamsL_mem {x : Sm1} : x ∈ seamsL us ls ↔ x ∈ found us ls := List.mem_mergeSort
theorem seamsL_perm : (seamsL us ls).Perm (found us ls) := List.mergeSort_perm _ _
theorem seamsL_apart : (seamsL us ls).Pairwise fun x y => ∀ z ∈ x.2, z ∉ y.2 :=
  (seamsL_perm.pairwise_iff fun {x y} h z hz hz' => h z hz' hz).mpr found_apart
end
end GD
namespace Sums
end Sums
namespace GD
open PySem L2 G PySem.W Sums
section
variable {s : Int} {us ls : List Int}
def stI (us : List Int) (k y : Nat) : Int := if ((y : Int) + gt us k) % 2 = 1 then 1 else 0
/-- all stitches -/
def many (us ls : List Int) : Int := ((List.range us.length).map fun k => ((List.range (ls.length + 1)).map (stI us k)).sum).sum + ((List.range ls.length).map fun k => ((List.range (us.length + 1)).map (stI ls k)).sum).sum
end
end GD
namespace GD
open PySem L2 G PySem.W
end GD
namespace GD
open PySem L2 G
def U (a b : Pt) : Prop := (b.1 = a.1 ∧ (b.2 = a.2 + 1 ∨ b.2 = a.2 - 1)) ∨ (b.2 = a.2 ∧ (b.1 = a.1 + 1 ∨ b.1 = a.1 - 1))
end GD
namespace Sm
variable {α : Type} [DecidableEq α]
theorem Seam.local {N N' : α → List α} {c : Bool} {l : List α} (q : Seam N c l) (ag : ∀ a ∈ l, N' a = N a) : Seam N' c l := by
  have mem : ∀ {i : Nat} {a : α}, l[i]? = some a → a ∈ l := fun h => List.mem_of_getElem? h
  refine ⟨q.nd, q.two, fun i a b ha hb => ?_, fun a ha b hb => ?_, fun h => ⟨(q.shut h).1, fun a b ha hb => ?_⟩, fun i a ha => ?_⟩
  · rw [ag a (mem ha), ag b (mem hb)]; exact q.step i a b ha hb
  · rw [ag a ha] at hb; exact q.cl a ha b hb
  · rw [ag a (mem ha), ag b (mem hb)]; exact (q.shut h).2 a b ha hb
  · rw [ag a (mem ha)]; exact q.deg i a ha
end Sm
namespace GD
open PySem L2 G PySem.W
/-- two rising lists with the same members are one -/
theorem sorted_eq {α : Type} {R : α → α → Prop} (as : ∀ a b, R a b → ¬ R b a) : ∀ {l l' : List α}, l.Pairwise R → l'.Pairwise R → (∀ z, z ∈ l ↔ z ∈ l') → l = l'
  | [], [], _, _, _ => rfl
  | [], b :: l', _, _, h => absurd ((h b).mpr List.mem_cons_self) List.not_mem_nil
  | a :: l, [], _, _, h => absurd ((h a).mp List.mem_cons_self) List.not_mem_nil
  | a :: l, b :: l', p1, p2, h => by
    obtain ⟨a1, a2⟩ := List.pairwise_cons.mp p1
    obtain ⟨b1, b2⟩ := List.pairwise_cons.mp p2
    have e : a = b := by
      rcases List.mem_cons.mp ((h a).mp List.mem_cons_self) with e | m
      · exact e
      · rcases List.mem_cons.mp ((h b).mpr List.mem_cons_self) with e | m'
        · exact e.symm
        · exact absurd (a1 b m') (as _ _ (b1 a m))
    subst e
    congr 1
    refine sorted_eq as a2 b2 fun z => ?_
    constructor
    · intro hz
      rcases List.mem_cons.mp ((h z).mp (List.mem_cons_of_mem _ hz)) with e | m
      · subst e
        have := a1 z hz
        exact absurd this (as _ _ this)
      · exact m
    · intro hz
      rcases List.mem_cons.mp ((h z).mpr (List.mem_cons_of_mem _ hz)) with e | m
      · subst e
        have := b1 z hz
        exact absurd this (as _ _ this)
      · exact m
theorem ltP_as (a b : Pt) (h : ltP a b = true) : ¬ ltP b a = true := by
  intro g
  rw [ltP_iff] at h g
  omega
section
variable {s : Int} {us ls us' ls' : List Int}
theorem seam_ne {x : Sm1} (h : x ∈ seamsL us ls) : fstP x ∈ x.2 := by
  have h2 := (found_ev (seamsL_mem.mp h)).1.two
  unfold fstP
  cases q : x.2 with
  | nil => rw [q] at h2; simp at h2
  | cons z r => exact List.mem_cons_self
end
end GD
namespace GD
open PySem L2 G
end GD
namespace GD
open PySem L2 G
end GD
namespace GD
open PySem L2 G
end GD
namespace GD
open PySem L2 G
end GD
namespace GD
open PySem L2 G
end GD
namespace GD
open PySem L2 G
end GD
namespace GD
open PySem L2 G
theorem sortP_lt {ps : List Pt} (nd : ps.Nodup) : (sortP ps).Pairwise fun a b => ltP a b = true := by
  have h := List.pairwise_mergeSort (le := leP) (fun a b c h1 h2 => by
    unfold leP at *
    have h1 := of_decide_eq_true h1
    have h2 := of_decide_eq_true h2
    exact decide_eq_true (by omega)) (fun a b => by
    unfold leP
    rw [Bool.or_eq_true, decide_eq_true_eq, decide_eq_true_eq]
    omega) ps
  have n2 : (sortP ps).Nodup := (sortP_perm ps).nodup_iff.mpr nd
  refine List.Pairwise.imp (R := fun a b => leP a b = true ∧ a ≠ b) (fun {a b} ⟨h1, h2⟩ => ?_) (List.Pairwise.and h n2)
  rcases ltP_tri a b with l | l | l
  · exact l
  · exact absurd l h2
  · exfalso
    unfold leP at h1
    have h1 := of_decide_eq_true h1
    rw [ltP_iff] at l
    omega
theorem sortP_same {ps qs : List Pt} (np : ps.Nodup) (nq : qs.Nodup) (h : ∀ z, z ∈ ps ↔ z ∈ qs) : sortP ps = sortP qs :=
  sorted_eq ltP_as (sortP_lt np) (sortP_lt nq) fun z => by rw [(sortP_perm ps).mem_iff, (sortP_perm qs).mem_iff, h]
end GD
namespace GD
open PySem L2 G
abbrev As := List (Int × List Int)
def addA (y x : Int) : As → As
  | [] => [(y, [x])]
  | a :: A => if a.1 = y then (a.1, a.2 ++ [x]) :: A else a :: addA y x A
/-- the places at a row -/
def lookA (y : Int) : As → List Int
  | [] => []
  | a :: A => if a.1 = y then a.2 else lookA y A
theorem look_add (y x z : Int) : ∀ A : As, lookA z (addA y x A) = if y = z then lookA z A ++ [x] else lookA z A
  | [] => by
    unfold addA lookA lookA
    by_cases c : y = z
    · rw [if_pos c, if_pos c]
      try rfl
    · rw [if_neg c, if_neg c]
      try (unfold lookA; rfl)
  | a :: A => by
    have ih := look_add y x z A
    unfold addA
    by_cases c : a.1 = y
    · rw [if_pos c]
      unfold lookA
      dsimp only
      by_cases d : y = z
      · rw [if_pos (c.trans d), if_pos d, if_pos (c.trans d)]
      · rw [if_neg (fun e => d (c.symm.trans e)), if_neg d, if_neg (fun e => d (c.symm.trans e))]
    · rw [if_neg c]
      unfold lookA
      by_cases d : a.1 = z
      · rw [if_pos d, if_pos d, if_neg (fun e => c (d.trans e.symm))]
      · rw [if_neg d, if_neg d, ih]
theorem add_keys {y x z : Int} : ∀ {A : As}, z ∈ (addA y x A).map (·.1) ↔ z = y ∨ z ∈ A.map (·.1)
  | [] => by simp [addA]
  | a :: A => by
    have ih := add_keys (y := y) (x := x) (z := z) (A := A)
    unfold addA
    by_cases c : a.1 = y
    · rw [if_pos c]
      simp only [List.map_cons, List.mem_cons]
      constructor
      · rintro (h | h)
        · exact .inl (h.trans c)
        · exact .inr (.inr h)
      · rintro (h | h | h)
        · exact .inl (h.trans c.symm)
        · exact .inl h
        · exact .inr h
    · rw [if_neg c]
      simp only [List.map_cons, List.mem_cons, ih]
      constructor
      · rintro (h | h | h)
        · exact .inr (.inl h)
        · exact .inl h
        · exact .inr (.inr h)
      · rintro (h | h | h)
        · exact .inr (.inl h)
        · exact .inl h
        · exact .inr (.inr h)
theorem add_nodup {y x : Int} : ∀ {A : As}, (A.map (·.1)).Nodup → ((addA y x A).map (·.1)).Nodup
  | [], _ => by simp [addA]
  | a :: A, nd => by
    obtain ⟨n1, n2⟩ := List.nodup_cons.mp nd
    unfold addA
    by_cases c : a.1 = y
    · rw [if_pos c]
      exact nd
    · rw [if_neg c]
      refine List.nodup_cons.mpr ⟨fun h => ?_, add_nodup n2⟩
      rcases add_keys.mp h with h | h
      · exact c h
      · exact n1 h
def stpA (A : As) (e : Pt) : As := addA e.2 e.1 A
structure AInv (E : List Pt) (A : As) : Prop where
  nd : (A.map (·.1)).Nodup
  look : ∀ y, lookA y A = (E.filter fun e => decide (e.2 = y)).map (·.1)
  keys : ∀ y, y ∈ A.map (·.1) ↔ ∃ e ∈ E, e.2 = y
theorem AInv.step {E : List Pt} {A : As} (I : AInv E A) (e : Pt) : AInv (E ++ [e]) (stpA A e) := by
  refine ⟨add_nodup I.nd, fun y => ?_, fun y => ?_⟩
  · unfold stpA
    rw [look_add, I.look, List.filter_append, List.map_append]
    by_cases c : e.2 = y
    · rw [if_pos c, List.filter_cons_of_pos (by simpa using c)]
      rfl
    · rw [if_neg c, List.filter_cons_of_neg (by simpa using c)]
      simp
  · unfold stpA
    rw [add_keys, I.keys]
    constructor
    · rintro (h | ⟨z, hz, h⟩)
      · exact ⟨e, by simp, h.symm⟩
      · exact ⟨z, List.mem_append_left _ hz, h⟩
    · rintro ⟨z, hz, h⟩
      rcases List.mem_append.mp hz with hz | hz
      · exact .inr ⟨z, hz, h⟩
      · rw [List.mem_singleton.mp hz] at h
        exact .inl h.symm
end GD
namespace GD
open PySem L2 G
open Fd (Stp Fc Nfs Tr3)
def spW (b : Bool) : Str := if b then "y" else "x"
def spK (a : Stp) : List Key := [.inr (spW a.1), .inl a.2]
def spD (a : Stp) : D := .tup [.str (spW a.1), .int a.2]
def lnW (b : Bool) : Str := if b then "row" else "col"
def fcD : Fc → D
  | .cell x y c => .tup [.str "cell", .int x, .int y, .int c]
  | .line r k s b => .tup [.str (lnW r), .int k, .int s, .bl b]
def fsD (fs : Nfs) : D := .dK (fs.map fun z => .inl z.1) (fs.map fun z => fcD z.2)
abbrev An := List (Stp × List Tr3)
def addN (b : Stp) (t : Tr3) : An → An
  | [] => [(b, [t])]
  | a :: A => if a.1 = b then (a.1, a.2 ++ [t]) :: A else a :: addN b t A
def fcT (z : Int × Fc) : D := .tup [.int z.1, fcD z.2]
end GD
namespace Fd
end Fd
namespace GD
open PySem L2 G
open Fd (Stp Fc Nfs Tr3)
end GD
namespace Fd
/-- b is reached from a -/
def Cn (fs : Nfs) (a b : Stp) : Prop := b ∈ (reach fs a).map (·.k)
instance (fs : Nfs) (a b : Stp) : Decidable (Cn fs a b) := inferInstanceAs (Decidable (b ∈ (reach fs a).map (·.k)))
theorem Cn.refl (fs : Nfs) (a : Stp) : Cn fs a a := reach_self fs a
theorem Pth.cn {fs : Nfs} {a b : Stp} (h : Cn fs a b) : ∀ {rs : List Int} {w : Int} {c : Stp}, Pth (ties fs) b rs w c → Cn fs a c
  | _, _, _, .nil => h
  | _, _, _, .snoc h1 h2 => reach_cl (Pth.cn h h1) h2
theorem Cn.path {fs : Nfs} {a b : Stp} (h : Cn fs a b) : ∃ rs w, Pth (ties fs) a rs w b := by
  obtain ⟨e, he, rfl⟩ := List.mem_map.mp h
  exact ⟨_, _, reach_path he⟩
theorem Cn.trans {fs : Nfs} {a b c : Stp} (h : Cn fs a b) (g : Cn fs b c) : Cn fs a c := by
  obtain ⟨rs, w, p⟩ := g.path
  exact p.cn h
theorem Cn.tie {fs : Nfs} {a b : Stp} {n w : Int} (h : (n, b, w) ∈ ties fs a) : Cn fs a b := reach_cl (reach_self fs a) h
theorem Pth.back {fs : Nfs} {a : Stp} : ∀ {rs : List Int} {w : Int} {c : Stp}, Pth (ties fs) a rs w c → Cn fs c a
  | _, _, _, .nil => .refl _ _
  | _, _, _, .snoc h1 h2 => (Cn.tie (ties_sym h2)).trans (Pth.back h1)
theorem Cn.symm {fs : Nfs} {a b : Stp} (h : Cn fs a b) : Cn fs b a := by
  obtain ⟨rs, w, p⟩ := h.path
  exact p.back
theorem Cn.fact {fs : Nfs} {z : Int × Fc} (h : z ∈ fs) : Cn fs (one z.2) (two z.2) := Cn.tie (n := z.1) (w := wt z.2) (mem_ties.mpr ⟨z, h, rfl, rfl, .inl ⟨rfl, rfl⟩⟩)
/-- one more fact -/
theorem Cn.mono {fs gs : Nfs} (hs : ∀ z ∈ fs, z ∈ gs) {a b : Stp} (h : Cn fs a b) : Cn gs a b := by
  obtain ⟨rs, w, p⟩ := h.path
  clear h
  induction p with
  | nil => exact .refl _ _
  | snoc h1 h2 ih =>
    refine ih.trans ?_
    obtain ⟨z, hz, q⟩ := mem_ties.mp h2
    exact Cn.tie (mem_ties.mpr ⟨z, hs z hz, q⟩)
theorem Cn.snoc {fs : Nfs} {n : Int} {f : Fc} {a b : Stp} : Cn (fs ++ [(n, f)]) a b ↔ Cn fs a b ∨ (Cn fs a (one f) ∧ Cn fs (two f) b) ∨ (Cn fs a (two f) ∧ Cn fs (one f) b) := by
  have m : ∀ z ∈ fs, z ∈ fs ++ [(n, f)] := fun z hz => List.mem_append_left _ hz
  have e : Cn (fs ++ [(n, f)]) (one f) (two f) := Cn.fact (z := (n, f)) (by simp)
  constructor
  · intro h
    obtain ⟨rs, w, p⟩ := h.path
    clear h
    induction p with
    | nil => exact .inl (.refl _ _)
    | snoc h1 h2 ih =>
      obtain ⟨z, hz, q1, q2, q3⟩ := mem_ties.mp h2
      rcases List.mem_append.mp hz with hz | hz
      · have t : Cn fs _ _ := Cn.tie (mem_ties.mpr ⟨z, hz, q1, q2, q3⟩)
        rcases ih with ih | ⟨i1, i2⟩ | ⟨i1, i2⟩
        · exact .inl (ih.trans t)
        · exact .inr (.inl ⟨i1, i2.trans t⟩)
        · exact .inr (.inr ⟨i1, i2.trans t⟩)
      · rw [List.mem_singleton.mp hz] at q3
        dsimp only at q3
        rcases q3 with ⟨e1, e2⟩ | ⟨e1, e2⟩
        · rw [← e1] at ih
          rw [← e2]
          rcases ih with ih | ⟨i1, i2⟩ | ⟨i1, i2⟩
          · exact .inr (.inl ⟨ih, .refl _ _⟩)
          · exact .inl (i1.trans i2.symm)
          · exact .inl i1
        · rw [← e1] at ih
          rw [← e2]
          rcases ih with ih | ⟨i1, i2⟩ | ⟨i1, i2⟩
          · exact .inr (.inr ⟨ih, .refl _ _⟩)
          · exact .inl i1
          · exact .inl (i1.trans i2.symm)
  · rintro (h | ⟨h1, h2⟩ | ⟨h1, h2⟩)
    · exact h.mono m
    · exact (h1.mono m).trans (e.trans (h2.mono m))
    · exact (h1.mono m).trans (e.symm.trans (h2.mono m))
theorem Pot.snoc {fs : Nfs} {p : Stp → Int} (hp : Pot fs p) {n : Int} {f : Fc} (hc : ¬ Cn fs (one f) (two f)) : ∃ q, Pot (fs ++ [(n, f)]) q := by
  refine ⟨fun a => if Cn fs (one f) a then p a + (p (one f) + p (two f) + wt f) else p a, fun z hz => ?_⟩
  rcases List.mem_append.mp hz with hz | hz
  · have h := hp z hz
    have c := Cn.fact hz
    by_cases d : Cn fs (one f) (one z.2)
    · have d2 := d.trans c
      dsimp only
      rw [if_pos d, if_pos d2]
      omega
    · have d2 : ¬ Cn fs (one f) (two z.2) := fun e => d (e.trans c.symm)
      dsimp only
      rw [if_neg d, if_neg d2]
      exact h
  · rw [List.mem_singleton.mp hz]
    dsimp only
    rw [if_pos (Cn.refl _ _), if_neg hc]
    omega
theorem Pot.mono {fs gs : Nfs} {p : Stp → Int} (h : Pot gs p) (hs : ∀ z ∈ fs, z ∈ gs) : Pot fs p := fun z hz => h z (hs z hz)
/-- how many classes of like h-values a list has -/
def cls (h : Stp → Stp) : List Stp → Nat
  | [] => 0
  | a :: L => (if L.any (fun b => decide (h a = h b)) = true then 0 else 1) + cls h L
/-- the class of v joins the class of u -/
def mg (h : Stp → Stp) (u v : Stp) : Stp → Stp := fun a => if h a = v then u else h a
theorem cls_mg {h : Stp → Stp} {u v : Stp} (ne : u ≠ v) : ∀ L : List Stp, cls (mg h u v) L + (if (L.any (fun b => decide (h b = u)) && L.any (fun b => decide (h b = v))) = true then 1 else 0) = cls h L
  | [] => rfl
  | a :: L => by
    have ih := cls_mg (h := h) ne L
    unfold cls
    rw [List.any_cons, List.any_cons]
    by_cases c1 : h a = u
    · have c2 : ¬ h a = v := fun e => ne (c1.symm.trans e)
      have m1 : mg h u v a = u := by unfold mg; rw [if_neg c2, c1]
      rw [m1, decide_eq_true c1, decide_eq_false c2, c1]
      have e1 : L.any (fun b => decide (u = h b)) = L.any (fun b => decide (h b = u)) := by
        congr 1; funext b; rw [decide_eq_decide]; exact eq_comm
      have e2 : L.any (fun b => decide (u = mg h u v b)) = (L.any (fun b => decide (h b = u)) || L.any (fun b => decide (h b = v))) := by
        rw [Bool.eq_iff_iff, Bool.or_eq_true, List.any_eq_true, List.any_eq_true, List.any_eq_true]
        unfold mg
        constructor
        · rintro ⟨b, hb, t⟩
          have t := of_decide_eq_true t
          by_cases d : h b = v
          · exact .inr ⟨b, hb, decide_eq_true d⟩
          · rw [if_neg d] at t
            exact .inl ⟨b, hb, decide_eq_true t.symm⟩
        · rintro (⟨b, hb, t⟩ | ⟨b, hb, t⟩)
          · have t := of_decide_eq_true t
            have d : ¬ h b = v := fun e => ne (t.symm.trans e)
            exact ⟨b, hb, decide_eq_true (by rw [if_neg d, t])⟩
          · exact ⟨b, hb, decide_eq_true (by rw [if_pos (of_decide_eq_true t)])⟩
      rw [e1, e2]
      cases q1 : L.any (fun b => decide (h b = u)) <;> cases q2 : L.any (fun b => decide (h b = v)) <;> simp [q1, q2] at ih ⊢ <;> omega
    · by_cases c2 : h a = v
      · have m1 : mg h u v a = u := by unfold mg; rw [if_pos c2]
        rw [m1, decide_eq_false c1, decide_eq_true c2, c2]
        have e1 : L.any (fun b => decide (v = h b)) = L.any (fun b => decide (h b = v)) := by
          congr 1; funext b; rw [decide_eq_decide]; exact eq_comm
        have e2 : L.any (fun b => decide (u = mg h u v b)) = (L.any (fun b => decide (h b = u)) || L.any (fun b => decide (h b = v))) := by
          rw [Bool.eq_iff_iff, Bool.or_eq_true, List.any_eq_true, List.any_eq_true, List.any_eq_true]
          unfold mg
          constructor
          · rintro ⟨b, hb, t⟩
            have t := of_decide_eq_true t
            by_cases d : h b = v
            · exact .inr ⟨b, hb, decide_eq_true d⟩
            · rw [if_neg d] at t
              exact .inl ⟨b, hb, decide_eq_true t.symm⟩
          · rintro (⟨b, hb, t⟩ | ⟨b, hb, t⟩)
            · have t := of_decide_eq_true t
              have d : ¬ h b = v := fun e => ne (t.symm.trans e)
              exact ⟨b, hb, decide_eq_true (by rw [if_neg d, t])⟩
            · exact ⟨b, hb, decide_eq_true (by rw [if_pos (of_decide_eq_true t)])⟩
        rw [e1, e2]
        cases q1 : L.any (fun b => decide (h b = u)) <;> cases q2 : L.any (fun b => decide (h b = v)) <;> simp [q1, q2] at ih ⊢ <;> omega
      · have m1 : mg h u v a = h a := by unfold mg; rw [if_neg c2]
        rw [m1, decide_eq_false c1, decide_eq_false c2]
        have e2 : L.any (fun b => decide (h a = mg h u v b)) = L.any (fun b => decide (h a = h b)) := by
          congr 1
          funext b
          rw [decide_eq_decide]
          unfold mg
          by_cases d : h b = v
          · rw [if_pos d, d]
            exact ⟨fun e => absurd e c1, fun e => absurd e c2⟩
          · rw [if_neg d]
        rw [e2]
        simp only [Bool.false_or]
        omega
theorem cls_one {h : Stp → Stp} {u : Stp} : ∀ {L : List Stp}, L ≠ [] → (∀ a ∈ L, h a = u) → cls h L = 1
  | [], h, _ => absurd rfl h
  | [a], _, _ => rfl
  | a :: b :: L, _, e => by
    have ih := cls_one (L := b :: L) (by simp) fun x hx => e x (List.mem_cons_of_mem _ hx)
    unfold cls
    rw [ih, if_pos]
    rw [List.any_cons, decide_eq_true (by rw [e a List.mem_cons_self, e b (by simp)])]
    rfl
end Fd
namespace GD
open PySem L2 G
open Fd (Stp Fc Nfs Tr3)
/-- a fact of a cloth of w columns and t rows -/
def FcV (w t : Int) : Fc → Prop
  | .cell x y c => 0 ≤ x ∧ x < w ∧ 0 ≤ y ∧ y < t ∧ (c = 0 ∨ c = 1)
  | .line false k s _ => 0 ≤ k ∧ k < w - 1 ∧ 0 ≤ s ∧ s < t
  | .line true k s _ => 0 ≤ k ∧ k < t - 1 ∧ 0 ≤ s ∧ s < w
abbrev fnL (w t : Int) (fs : Nfs) (n : Int) : List D := [.int w, .int t, fsD fs, .int n]
end GD
namespace GD
open PySem L2 G
open Fd (Stp Fc Nfs Tr3 Cn)
theorem eFn_ok {R : List D → Out (D × Bool)} {fs : List ES} {ρ : Sl} {xs : List (D × Kd)} {d : D} {b : Bool} (ha : eArgs fs ρ = .ok xs) (hs : allSolid xs = true) (hR : R (xs.map (·.1)) = .ok (d, b)) : eFn R fs ρ = .ok (d, if b then .fr else .sh) := by
  rw [eFn_ap, ha]
  show (match R (xs.map (·.1)) with
    | .ok (d, b) => if allSolid xs then Out.ok (d, if b then Kd.fr else .sh) else if flat d && okArgs xs then shr d else if (b && newD d) && okArgs xs then .ok (d, .fr) else .no
    | .ex c gs => if allSolid xs || (gs.isEmpty && okArgs xs) then .ex c gs else .no
    | .no => .no) = _
  rw [hR]
  dsimp only
  rw [if_pos hs]
theorem eArgs1 {f : ES} {ρ : Sl} {x : D × Kd} (h : f ρ = .ok x) : eArgs [f] ρ = .ok [x] := by
  show ((f ρ).bind fun x => (Out.ok []).bind fun xs => .ok (x :: xs)) = _
  rw [h]
  rfl
theorem eArgs2 {f g : ES} {ρ : Sl} {x y : D × Kd} (h : f ρ = .ok x) (h2 : g ρ = .ok y) : eArgs [f, g] ρ = .ok [x, y] := by
  show ((f ρ).bind fun x => ((g ρ).bind fun y => (Out.ok []).bind fun xs => .ok (y :: xs)).bind fun xs => .ok (x :: xs)) = _
  rw [h, h2]
  rfl
theorem sIf_no {t : TSm} {a b : SS} {ρ : Sl} (h : t ρ = .ok false) : G.sIf t a b ρ = b ρ := by
  rw [sIf_ap, h]
  rfl
theorem sIf_yes {t : TSm} {a b : SS} {ρ : Sl} (h : t ρ = .ok true) : G.sIf t a b ρ = a ρ := by
  rw [sIf_ap, h]
  rfl
/-- a dict from strips to strips -/
def hD (K : List Stp) (h : Stp → Stp) : D := .dT (K.map spK) (K.map fun a => spD (h a))
/-- the first strip of a list that is tied to one -/
def fst1 (fs : Nfs) (L : List Stp) (a : Stp) : Stp := (L.find? fun s => decide (Cn fs s a)).getD a
theorem fst1_cn {fs : Nfs} {L : List Stp} {a : Stp} (ha : a ∈ L) : fst1 fs L a ∈ L ∧ Cn fs (fst1 fs L a) a := by
  unfold fst1
  cases q : L.find? (fun s => decide (Cn fs s a)) with
  | none =>
    have := List.find?_eq_none.mp q a ha
    exact absurd (Cn.refl fs a) (by simpa using this)
  | some z =>
    exact ⟨List.mem_of_find?_eq_some q, by simpa using List.find?_some q⟩
theorem fst1_iff {fs : Nfs} {L : List Stp} {a b : Stp} (ha : a ∈ L) (hb : b ∈ L) : fst1 fs L a = fst1 fs L b ↔ Cn fs a b := by
  constructor
  · intro h
    have h1 := (fst1_cn (fs := fs) ha).2
    have h2 := (fst1_cn (fs := fs) hb).2
    rw [h] at h1
    exact h1.symm.trans h2
  · intro h
    unfold fst1
    have e : (fun s => decide (Cn fs s a)) = fun s => decide (Cn fs s b) := by
      funext s
      rw [decide_eq_decide]
      exact ⟨fun g => g.trans h, fun g => g.trans h.symm⟩
    rw [e]
    cases q : L.find? (fun s => decide (Cn fs s b)) with
    | none =>
      have := List.find?_eq_none.mp q b hb
      exact absurd (Cn.refl fs b) (by simpa using this)
    | some z => rfl
def strips (w t : Nat) : List Stp := (List.range w).map (fun x => (false, ((x : Nat) : Int))) ++ (List.range t).map fun y => (true, ((y : Nat) : Int))
abbrev hS (O : D) (S : D) (K : List Stp) (h : Stp → Stp) (s3 s4 : Slot) : Sl := [.va O, .va S, .ow (hD K h), s3, s4, .un, .un]
end GD
namespace GD
open PySem L2 G
open Fd (Stp Fc Nfs Tr3 Cn)
theorem lc_nat (h : Nat → D) {tg : Tg} {e : ES} {ρ : Sl} {n : Nat} (hl : n < SZ) (hh : ∀ k : Nat, k < n → ∃ ρ1 kd, tgSet tg (.int k) ρ = some ρ1 ∧ e ρ1 = .ok (h k, kd) ∧ kd.solid = true) : lcA tg G.tYes e ρ [] (rngD 0 n) = .ok ((List.range n).map h) := by
  have := lcA_of (tg := tg) (e := e) (ρ := ρ) (fun d => match d with
    | .int k => h k.toNat
    | _ => .non) (ds := rngD 0 n) (by rw [rngD_range]; simpa using hl) fun j d hd => by
      rw [rngD_range, List.getElem?_map] at hd
      cases q : (List.range n)[j]? with
      | none => rw [q] at hd; cases hd
      | some k =>
        rw [q] at hd
        cases hd
        have hk : k < n := List.mem_range.mp (List.mem_of_getElem? q)
        obtain ⟨ρ1, kd, h1, h2, h3⟩ := hh k hk
        refine ⟨ρ1, kd, h1, ?_, h3⟩
        show e ρ1 = .ok (h ((k : Int)).toNat, kd)
        rw [Int.toNat_natCast]
        exact h2
  rw [this, rngD_range, List.map_map]
  congr 1
theorem eTup2 {f g : ES} {ρ : Sl} {a b : D} {k l : Kd} (h1 : f ρ = .ok (a, k)) (h2 : g ρ = .ok (b, l)) (s1 : k.solid = true) (s2 : l.solid = true) : eTup [f, g] ρ = .ok (.tup [a, b], .sh) := by
  rw [eTup_ap, eArgs2 h1 h2]
  exact if_pos ⟨by rw [allSolid_cons, allSolid_cons, s1, s2]; rfl, show 2 ≤ SZ by decide⟩
end GD
namespace Fd
theorem mg_iff {h : Stp → Stp} {u v a b : Stp} : mg h u v a = mg h u v b ↔ h a = h b ∨ (h a = u ∧ h b = v) ∨ (h a = v ∧ h b = u) := by
  unfold mg
  by_cases c : h a = v <;> by_cases d : h b = v
  · rw [if_pos c, if_pos d]
    exact ⟨fun _ => .inl (c.trans d.symm), fun _ => rfl⟩
  · rw [if_pos c, if_neg d]
    constructor
    · intro e; exact .inr (.inr ⟨c, e.symm⟩)
    · rintro (e | ⟨_, e⟩ | ⟨_, e⟩)
      · exact absurd (e.symm.trans c) d
      · exact absurd e d
      · exact e.symm
  · rw [if_neg c, if_pos d]
    constructor
    · intro e; exact .inr (.inl ⟨e, d⟩)
    · rintro (e | ⟨e, _⟩ | ⟨e, _⟩)
      · exact absurd (e.trans d) c
      · exact e
      · exact absurd e c
  · rw [if_neg c, if_neg d]
    constructor
    · intro e; exact .inl e
    · rintro (e | ⟨_, e⟩ | ⟨e, _⟩)
      · exact e
      · exact absurd e d
      · exact absurd e c
end Fd
namespace GD
open PySem L2 G
open Fd (Stp Fc Nfs Tr3 Cn)
/-- like by h: tied by the facts -/
def Ties (L : List Stp) (h : Stp → Stp) (gs : Nfs) : Prop := ∀ a ∈ L, ∀ b ∈ L, (h a = h b ↔ Cn gs a b)
theorem Ties.mg {L : List Stp} {h : Stp → Stp} {gs : Nfs} (t : Ties L h gs) {f : Fc} {n : Int} (h1 : Fd.one f ∈ L) (h2 : Fd.two f ∈ L) : Ties L (Fd.mg h (h (Fd.one f)) (h (Fd.two f))) (gs ++ [(n, f)]) := fun a ha b hb => by
  rw [Fd.mg_iff, Cn.snoc, t a ha b hb, t a ha _ h1, t b hb _ h2, t a ha _ h2, t b hb _ h1]
  constructor
  · rintro (h | ⟨h, g⟩ | ⟨h, g⟩)
    · exact .inl h
    · exact .inr (.inl ⟨h, g.symm⟩)
    · exact .inr (.inr ⟨h, g.symm⟩)
  · rintro (h | ⟨h, g⟩ | ⟨h, g⟩)
    · exact .inl h
    · exact .inr (.inl ⟨h, g.symm⟩)
    · exact .inr (.inr ⟨h, g.symm⟩)
/-- the looks, one by one -/
def scn (h : Stp → Stp) : List Pt → List Pt × (Stp → Stp)
  | [] => ([], h)
  | c :: cs => if h (false, c.1) = h (true, c.2) then scn h cs else (c :: (scn (Fd.mg h (h (false, c.1)) (h (true, c.2))) cs).1, (scn (Fd.mg h (h (false, c.1)) (h (true, c.2))) cs).2)
theorem scn_keep {h : Stp → Stp} {a b : Stp} : ∀ {cs : List Pt} {h : Stp → Stp}, h a = h b → (scn h cs).2 a = (scn h cs).2 b
  | [], h, e => e
  | c :: cs, h, e => by
    unfold scn
    by_cases q : h (false, c.1) = h (true, c.2)
    · rw [if_pos q]
      exact scn_keep (h := h) e
    · rw [if_neg q]
      exact scn_keep (h := h) (Fd.mg_iff.mpr (.inl e))
theorem scn_done : ∀ {cs : List Pt} {h : Stp → Stp}, ∀ c ∈ cs, (scn h cs).2 (false, c.1) = (scn h cs).2 (true, c.2)
  | [], _, c, hc => by cases hc
  | d :: cs, h, c, hc => by
    unfold scn
    by_cases q : h (false, d.1) = h (true, d.2)
    · rw [if_pos q]
      rcases List.mem_cons.mp hc with rfl | hc
      · exact scn_keep (h := h) q
      · exact scn_done c hc
    · rw [if_neg q]
      rcases List.mem_cons.mp hc with rfl | hc
      · refine scn_keep (h := h) (Fd.mg_iff.mpr (.inr (.inl ⟨rfl, rfl⟩)))
      · exact scn_done c hc
theorem scn_cls {L : List Stp} : ∀ {cs : List Pt} {h : Stp → Stp}, (∀ c ∈ cs, (false, c.1) ∈ L ∧ (true, c.2) ∈ L) → Fd.cls (scn h cs).2 L + (scn h cs).1.length = Fd.cls h L
  | [], h, _ => rfl
  | c :: cs, h, hl => by
    have ih := fun h => scn_cls (L := L) (cs := cs) (h := h) fun d hd => hl d (List.mem_cons_of_mem _ hd)
    obtain ⟨m1, m2⟩ := hl c List.mem_cons_self
    unfold scn
    by_cases q : h (false, c.1) = h (true, c.2)
    · rw [if_pos q]
      exact ih h
    · rw [if_neg q]
      have m := Fd.cls_mg (h := h) q L
      rw [if_pos (by
        rw [Bool.and_eq_true, List.any_eq_true, List.any_eq_true]
        exact ⟨⟨_, m1, decide_eq_true rfl⟩, ⟨_, m2, decide_eq_true rfl⟩⟩)] at m
      have := ih (Fd.mg h (h (false, c.1)) (h (true, c.2)))
      dsimp only
      rw [List.length_cons]
      omega
def rowCs (T : Nat) (x : Nat) : List Pt := (List.range T).map fun y => (((x : Nat) : Int), ((y : Nat) : Int))
def cellsN (W T : Nat) : List Pt := (List.range W).flatMap (rowCs T)
/-- the looks of some facts -/
def looksL (fs : Nfs) (W T : Nat) : List Pt := (scn (fst1 fs (strips W T)) (cellsN W T)).1
theorem cellsN_mem {W T : Nat} {c : Pt} : c ∈ cellsN W T ↔ ∃ x < W, ∃ y < T, c = (((x : Nat) : Int), ((y : Nat) : Int)) := by
  unfold cellsN rowCs
  simp only [List.mem_flatMap, List.mem_range, List.mem_map]
  constructor
  · rintro ⟨x, hx, y, hy, rfl⟩; exact ⟨x, hx, y, hy, rfl⟩
  · rintro ⟨x, hx, y, hy, rfl⟩; exact ⟨x, hx, y, hy, rfl⟩
theorem strips_x {W T x : Nat} (h : x < W) : ((false, ((x : Nat) : Int)) : Stp) ∈ strips W T := List.mem_append_left _ (List.mem_map.mpr ⟨x, List.mem_range.mpr h, rfl⟩)
theorem strips_y {W T y : Nat} (h : y < T) : ((true, ((y : Nat) : Int)) : Stp) ∈ strips W T := List.mem_append_right _ (List.mem_map.mpr ⟨y, List.mem_range.mpr h, rfl⟩)
theorem strips_inv {W T : Nat} {a : Stp} (h : a ∈ strips W T) : (∃ x < W, a = (false, ((x : Nat) : Int))) ∨ ∃ y < T, a = (true, ((y : Nat) : Int)) := by
  rcases List.mem_append.mp h with h | h
  · obtain ⟨x, hx, rfl⟩ := List.mem_map.mp h
    exact .inl ⟨x, List.mem_range.mp hx, rfl⟩
  · obtain ⟨y, hy, rfl⟩ := List.mem_map.mp h
    exact .inr ⟨y, List.mem_range.mp hy, rfl⟩
theorem cells_L {W T : Nat} : ∀ c ∈ cellsN W T, ((false, c.1) : Stp) ∈ strips W T ∧ ((true, c.2) : Stp) ∈ strips W T := fun c hc => by
  obtain ⟨x, hx, y, hy, rfl⟩ := cellsN_mem.mp hc
  exact ⟨strips_x hx, strips_y hy⟩
/-- one look less than there are classes -/
theorem looks_cls (fs : Nfs) {W T : Nat} (hW : 1 ≤ W) (hT : 1 ≤ T) : (looksL fs W T).length + 1 = Fd.cls (fst1 fs (strips W T)) (strips W T) := by
  have h := scn_cls (L := strips W T) (cs := cellsN W T) (h := fst1 fs (strips W T)) cells_L
  have d : ∀ x < W, ∀ y < T, (scn (fst1 fs (strips W T)) (cellsN W T)).2 (false, ((x : Nat) : Int)) = (scn (fst1 fs (strips W T)) (cellsN W T)).2 (true, ((y : Nat) : Int)) := fun x hx y hy => scn_done _ (cellsN_mem.mpr ⟨x, hx, y, hy, rfl⟩)
  have o := Fd.cls_one (h := (scn (fst1 fs (strips W T)) (cellsN W T)).2) (u := (scn (fst1 fs (strips W T)) (cellsN W T)).2 (true, ((0 : Nat) : Int))) (L := strips W T) (List.ne_nil_of_mem (strips_x (x := 0) (by omega))) (fun a ha => by
    rcases strips_inv ha with ⟨x, hx, rfl⟩ | ⟨y, hy, rfl⟩
    · exact d x hx 0 (by omega)
    · exact (d 0 (by omega) y hy).symm.trans (d 0 (by omega) 0 (by omega)))
  unfold looksL
  omega
end GD
namespace GD
open PySem L2 G
open Fd (Stp Fc Nfs Tr3 Cn)
theorem eM_ok {l : MTab} {f : ES} {fs : List ES} {ρ : Sl} {c : Nat} {ds : List D} {R : List D → Out (D × Bool)} {xs : List (D × Kd)} {d : D} {b : Bool} (hf : f ρ = .ok (.obj c ds, .sh)) (hl : l.lookup c = some R) (ha : eArgs fs ρ = .ok xs) (hs : allSolid xs = true) (hR : R (.obj c ds :: xs.map (·.1)) = .ok (d, b)) : eM l f fs ρ = .ok (d, if b then .fr else .sh) := by
  rw [eM_ap l fs hf hl, ha]
  show (match R (.obj c ds :: xs.map (·.1)) with
    | .ok (d, b) => if allSolid xs then Out.ok (d, if b then Kd.fr else .sh) else if flat d && okArgs xs then shr d else if (b && newD d) && okArgs xs then .ok (d, .fr) else .no
    | .ex c gs => if allSolid xs || (gs.isEmpty && okArgs xs) then .ex c gs else .no
    | .no => .no) = _
  rw [hR]
  dsimp only
  rw [if_pos hs]
end GD
namespace GD
open PySem L2 G
open Fd (Stp Fc Nfs Tr3 Cn)
/-- facts that may be kept together; n is the next number -/
structure Gd (w t : Int) (fs : Nfs) (n : Int) : Prop where
  v : ∀ z ∈ fs, FcV w t z.2
  k : ∀ z ∈ fs, z.1 < n
  p : ∃ p, Fd.Pot fs p
theorem Gd.snoc {w t n : Int} {fs : Nfs} (g : Gd w t fs n) {f : Fc} (v : FcV w t f) (hc : ¬ Cn fs (Fd.one f) (Fd.two f)) : Gd w t (fs ++ [(n, f)]) (n + 1) := by
  obtain ⟨p, hp⟩ := g.p
  refine ⟨fun z hz => ?_, fun z hz => ?_, hp.snoc hc⟩
  · rcases List.mem_append.mp hz with hz | hz
    · exact g.v z hz
    · rw [List.mem_singleton.mp hz]; exact v
  · rcases List.mem_append.mp hz with hz | hz
    · have := g.k z hz; omega
    · rw [List.mem_singleton.mp hz]; dsimp only; omega
theorem eBin_ok {op : D → D → Out (D × Kd)} {f g : ES} {ρ : Sl} {a b : D} {k l : Kd} {r : Out (D × Kd)} (h : f ρ = .ok (a, k)) (h2 : g ρ = .ok (b, l)) (ho : op a b = r) : eBin op f g ρ = r := by
  show ((f ρ).bind fun x => (g ρ).bind fun y => op x.1 y.1) = _
  rw [h, h2]
  exact ho
end GD
namespace GD
open PySem L2 G
open Fd (Stp Fc Nfs Tr3 Cn)
abbrev Ak := Option (Bool × Nat)
def akA : Ak → Stp
  | none => (false, 0)
  | some (r, k) => (r, (k : Nat))
def akB : Ak → Stp
  | none => (true, 0)
  | some (r, k) => (r, ((k : Nat) : Int) + 1)
def akF (i : Int) : Ak → Fc
  | none => .cell 0 0 i
  | some (r, k) => .line r (k : Nat) 0 (decide (i = 1))
end GD
namespace GD
open PySem L2 G
open Fd (Stp Fc Nfs Tr3 Cn)
/-- what the bit of an asked pair tells -/
def Tld (gs : Nfs) (a : Ak) (b : Int) : Prop := (b = 0 ∨ b = 1) ∧ Cn gs (akA a) (akB a) ∧ ∀ p, Fd.Pot gs p → (p (akA a) + p (akB a) + b) % 2 = 0
theorem Tld.mono {gs hs : Nfs} {a : Ak} {b : Int} (h : Tld gs a b) (hm : ∀ z ∈ gs, z ∈ hs) : Tld hs a b := ⟨h.1, h.2.1.mono hm, fun p hp => h.2.2 p (hp.mono hm)⟩
section
variable {W T : Nat}
/-- what is asked, in order -/
def asks (W T : Nat) : List Ak := none :: ((List.range (W - 1)).map (fun k => some (false, k)) ++ (List.range (T - 1)).map fun k => some (true, k))
theorem asks_len (h1W : 1 ≤ W) (h1T : 1 ≤ T) : (asks W T).length = W + T - 1 := by
  unfold asks
  simp
  omega
end
end GD
namespace G
open PySem L2
@[simp] theorem oBk0_l (xs : List D) : oBk0 (.lst xs) = .ok (.lst xs.tail.reverse, .fr) := rfl
end G
namespace GD
open PySem L2 G
end GD
namespace GD
open PySem L2 G
end GD
namespace GD
open PySem L2 G
open Fd (Stp Fc Nfs Tr3)
section
variable {s : Int} {us ls : List Int}
/-- what a fact says of a plan -/
def hB (s : Int) (us ls : List Int) : Fc → Bool
  | .cell x y c => decide (colour s us ls x y = c)
  | .line false k t b => decide (decide ((t + gt us k.toNat) % 2 = 1) = b)
  | .line true k t b => decide (decide ((t + gt ls k.toNat) % 2 = 1) = b)
abbrev FcP (us ls : List Int) (f : Fc) : Prop := FcV ((us.length : Int) + 1) ((ls.length : Int) + 1) f
end
end GD
namespace GD
open PySem L2 G
open Fd (Stp Fc Nfs Tr3)
theorem lc_mp {α : Type} (g h : α → D) {tg : Tg} {e : ES} {ρ : Sl} : ∀ (l : List α) (acc : List D), acc.length + l.length < SZ → (∀ a ∈ l, ∃ ρ1 kd, tgSet tg (g a) ρ = some ρ1 ∧ e ρ1 = .ok (h a, kd) ∧ kd.solid = true) → lcA tg G.tYes e ρ acc (l.map g) = .ok (acc ++ l.map h)
  | [], acc, _, _ => by simp [lcA]
  | d :: ds, acc, hl, hh => by
    obtain ⟨ρ1, kd, h1, h2, h3⟩ := hh d List.mem_cons_self
    have := lc_mp g h (tg := tg) (e := e) (ρ := ρ) ds (acc ++ [h d]) (by simp at hl ⊢; omega) fun a ha => hh a (List.mem_cons_of_mem _ ha)
    have hl' : acc.length < SZ := by simp at hl; omega
    rw [List.map_cons]
    unfold lcA
    rw [h1]
    simp [G.tYes, h2, h3, hl', this]
section
variable {s : Int} {us ls : List Int}
/-- facts that law_filled gives -/
structure FsOk (s : Int) (us ls : List Int) (fs : Nfs) : Prop where
  key : ∀ (i : Nat) (z : Int × Fc), fs[i]? = some z → z.1 = (i : Int)
  ok : ∀ z ∈ fs, FcP us ls z.2 ∧ hB s us ls z.2 = true
theorem FsOk.fresh {fs : Nfs} (h : FsOk s us ls fs) : (fs.length : Int) ∉ fs.map (·.1) := fun m => by
  obtain ⟨z, hz, e⟩ := List.mem_map.mp m
  obtain ⟨i, hi⟩ := List.getElem?_of_mem hz
  have := h.key i z hi
  have lt := (List.getElem?_eq_some_iff.mp hi).1
  omega
theorem FsOk.snoc {fs : Nfs} (h : FsOk s us ls fs) {f : Fc} (v : FcP us ls f) (t : hB s us ls f = true) : FsOk s us ls (fs ++ [((fs.length : Int), f)]) := by
  refine ⟨fun i z hz => ?_, fun z hz => ?_⟩
  · by_cases c : i < fs.length
    · rw [List.getElem?_append_left c] at hz
      exact h.key i z hz
    · rw [List.getElem?_append_right (by omega)] at hz
      cases q : i - fs.length with
      | zero =>
        rw [q] at hz
        cases hz
        show (fs.length : Int) = i
        omega
      | succ k => rw [q] at hz; cases hz
  · rcases List.mem_append.mp hz with hz | hz
    · exact h.ok z hz
    · rw [List.mem_singleton.mp hz]
      exact ⟨v, t⟩
end
end GD
namespace GD
open PySem L2 G
open Fd (Stp Fc Nfs Tr3)
theorem eLst1 {f : ES} {ρ : Sl} {d : D} {k : Kd} (h : f ρ = .ok (d, k)) (hk : k.solid = true) : eLst [f] ρ = .ok (.lst [d], .fr) := by
  rw [eLst_ap]
  show (((f ρ).bind fun x => (Out.ok []).bind fun xs => .ok (x :: xs)).bind fun (xs : List (D × Kd)) => if allSolid xs = true ∧ xs.length ≤ SZ then Out.ok (D.lst (xs.map (·.1)), Kd.fr) else .no) = _
  rw [h]
  exact if_pos ⟨by rw [allSolid_cons, hk]; rfl, show 1 ≤ SZ by decide⟩
theorem eTup3 {f g h : ES} {ρ : Sl} {a b c : D} {k l m : Kd} (h1 : f ρ = .ok (a, k)) (h2 : g ρ = .ok (b, l)) (h3 : h ρ = .ok (c, m)) (s1 : k.solid = true) (s2 : l.solid = true) (s3 : m.solid = true) : eTup [f, g, h] ρ = .ok (.tup [a, b, c], .sh) := by
  rw [eTup_ap]
  show (((f ρ).bind fun x => ((g ρ).bind fun y => ((h ρ).bind fun z => (Out.ok []).bind fun xs => .ok (z :: xs)).bind fun xs => .ok (y :: xs)).bind fun xs => .ok (x :: xs)).bind fun (xs : List (D × Kd)) => if allSolid xs = true ∧ xs.length ≤ SZ then shr (D.tup (xs.map (·.1))) else .no) = _
  rw [h1, h2, h3]
  exact if_pos ⟨by rw [allSolid_cons, allSolid_cons, allSolid_cons, s1, s2, s3]; rfl, show 3 ≤ SZ by decide⟩
theorem slE {us : List Int} {f : ES} {ρ : Sl} {lo hi : Option ES} {l h : Option Int} {k : Kd} {vs : List Int} (hf : f ρ = .ok (dI us, k)) (h1 : ePart lo ρ = .ok l) (h2 : ePart hi ρ = .ok h) (hc : cutD (us.map D.int) l h = vs.map D.int) : eSl f lo hi ρ = .ok (dI vs, .fr) := by
  rw [eSl_ap, hf, h1, h2]
  show Out.ok (D.lst (cutD (us.map D.int) l h), Kd.fr) = _
  rw [hc]
end GD
namespace GD
open PySem L2 G
open Fd (Stp Fc Nfs Tr3 Cn)
end GD
namespace GD
open PySem L2 G
open Fd (Stp Fc Nfs Tr3 Cn)
/-- the keys are the places -/
def Keyed (fs : Nfs) : Prop := ∀ (i : Nat) (z : Int × Fc), fs[i]? = some z → z.1 = (i : Int)
theorem Keyed.keys {fs : Nfs} (h : Keyed fs) : fs.map (·.1) = (List.range fs.length).map fun i => ((i : Nat) : Int) := by
  refine List.ext_getElem? fun i => ?_
  rw [List.getElem?_map, List.getElem?_map]
  by_cases c : i < fs.length
  · rw [List.getElem?_eq_getElem c, List.getElem?_range c]
    have := h i _ (List.getElem?_eq_getElem c)
    exact congrArg some this
  · rw [List.getElem?_eq_none (by omega), List.getElem?_eq_none (by simp; omega)]
    rfl
end GD
namespace GD
open PySem L2 G
open Fd (Stp Fc Nfs Tr3 Cn)
/-- the state behind an asked pair -/
def nxG (W T : Nat) (gs : Nfs) (n m : Int) (a : Ak) : Nfs := if Cn gs (akA a) (akB a) then gs else gs ++ [(n, akF (m / 2 ^ ((looksL gs W T).length - 1)) a)]
def nxN (gs : Nfs) (n : Int) (a : Ak) : Int := if Cn gs (akA a) (akB a) then n else n + 1
def nxM (W T : Nat) (gs : Nfs) (m : Int) (a : Ak) : Int := if Cn gs (akA a) (akB a) then m else m % 2 ^ ((looksL gs W T).length - 1)
/-- the facts at the end of a number's run -/
def fin (W T : Nat) : List Ak → Nfs → Int → Int → Nfs
  | [], gs, _, _ => gs
  | a :: as, gs, n, m => fin W T as (nxG W T gs n m a) (nxN gs n a) (nxM W T gs m a)
end GD
namespace GD
open PySem L2 G
open Fd (Stp Fc Nfs Tr3 Cn)
end GD
namespace GD
open PySem L2 G
open Fd (Stp Fc Nfs Tr3 Cn)
section
variable {W T : Nat}
theorem asks_mem_l {r : Bool} {k : Nat} (h : k + 1 < (if r then T else W)) : (some (r, k) : Ak) ∈ asks W T := by
  unfold asks
  refine List.mem_cons_of_mem _ (List.mem_append.mpr ?_)
  cases r with
  | false =>
    have h : k + 1 < W := h
    exact .inl (List.mem_map.mpr ⟨k, List.mem_range.mpr (by omega), rfl⟩)
  | true =>
    have h : k + 1 < T := h
    exact .inr (List.mem_map.mpr ⟨k, List.mem_range.mpr (by omega), rfl⟩)
theorem chain {gs : Nfs} {r : Bool} {N : Nat} (h : ∀ k, k + 1 < N → Cn gs (r, (k : Nat)) (r, ((k : Nat) : Int) + 1)) : ∀ x, x < N → Cn gs (r, 0) (r, ((x : Nat) : Int))
  | 0, _ => Cn.refl _ _
  | x + 1, hx => (chain h x (by omega)).trans (h x hx)
theorem all_tied (hW : 1 ≤ W) (hT : 1 ≤ T) {gs : Nfs} (h : ∀ a ∈ asks W T, Cn gs (akA a) (akB a)) : (looksL gs W T).length = 0 := by
  have hx := chain (gs := gs) (r := false) (N := W) fun k hk => h (some (false, k)) (asks_mem_l (T := T) (W := W) (r := false) hk)
  have hy := chain (gs := gs) (r := true) (N := T) fun k hk => h (some (true, k)) (asks_mem_l (T := T) (W := W) (r := true) hk)
  have h0 : Cn gs (false, 0) (true, 0) := h none List.mem_cons_self
  have all : ∀ a ∈ strips W T, Cn gs (false, 0) a := fun a ha => by
    rcases strips_inv ha with ⟨x, hx', rfl⟩ | ⟨y, hy', rfl⟩
    · exact hx x hx'
    · exact h0.trans (hy y hy')
  have m0 := strips_x (W := W) (T := T) (x := 0) (by omega)
  have c := Fd.cls_one (h := fst1 gs (strips W T)) (u := fst1 gs (strips W T) (false, ((0 : Nat) : Int))) (L := strips W T) (List.ne_nil_of_mem m0) (fun a ha => (fst1_iff ha m0).mpr (all a ha).symm)
  have l := looks_cls gs hW hT
  omega
end
end GD
namespace GD
open PySem L2 G
open Fd (Stp Fc Nfs Tr3)
theorem FsOk.keys {s : Int} {us ls : List Int} {fs : Nfs} (h : FsOk s us ls fs) : (fs.map (·.1)).Nodup := by
  show List.Pairwise (· ≠ ·) _
  rw [List.pairwise_iff_getElem]
  intro i j hi hj hij e
  rw [List.length_map] at hi hj
  rw [List.getElem_map, List.getElem_map] at e
  have a := h.key i _ (List.getElem?_eq_getElem hi)
  have b := h.key j _ (List.getElem?_eq_getElem hj)
  omega
end GD
namespace GD
open PySem L2 G
open Fd (Stp Fc Nfs Tr3 Cn)
end GD
namespace GD
open PySem L2 G
open Fd (Stp Fc Nfs Tr3 Cn)
end GD
namespace GD
open PySem L2 G
open Fd (Stp Fc Nfs Tr3 Cn)
/-- the bits of a number's cloth -/
structure ClN (W T : Nat) (fs : Nfs) (n m : Int) (bs : List Int) : Prop where
  pl : Plan (gt bs 0) ((bs.drop 1).take (W - 1)) (bs.drop W)
  lu : ((bs.drop 1).take (W - 1)).length = W - 1
  ll : (bs.drop W).length = T - 1
  len : bs.length = W + T - 1
  gd : ∃ n', Gd (W : Int) (T : Int) (fin W T (asks W T) fs n m) n'
  tl : ∀ (j : Nat) (a : Ak) (b : Int), (asks W T)[j]? = some a → bs[j]? = some b → Tld (fin W T (asks W T) fs n m) a b
section
variable {W T : Nat} {fs : Nfs} {n : Int}
theorem ClN.none (hW : 1 ≤ W) (hT : 1 ≤ T) {m : Int} {bs : List Int} (c : ClN W T fs n m bs) : (looksL (fin W T (asks W T) fs n m) W T).length = 0 := all_tied hW hT fun a ha => by
  obtain ⟨j, hj⟩ := List.getElem?_of_mem ha
  have lt := (List.getElem?_eq_some_iff.mp hj).1
  have al := asks_len hW hT
  have lb := c.len
  have lt' : j < bs.length := by omega
  exact (c.tl j a _ hj (List.getElem?_eq_getElem lt')).2.1
end
end GD
namespace GD
open PySem L2 G PySem.W
end GD
namespace GD
open PySem L2 G PySem.W PyProof.Rows
abbrev Ky := List Pt × Bool
def pyK (k : Ky) : PyData := .tuple [.list (k.1.map pyPt), .bool k.2]
def leKy (a b : Ky) : Bool := !dataLt (pyK b) (pyK a)
def sortK (ks : List Ky) : List Ky := ks.mergeSort leKy
theorem toks_pts : ∀ (a b : List Pt) (r t : List (Int ⊕ List Nat)), keyToksAll (a.map pyPt) ++ r = keyToksAll (b.map pyPt) ++ t → a = b ∧ r = t
  | [], [], r, t, h => by
    simp [keyToksAll] at h
    exact ⟨rfl, h⟩
  | [], y :: b, r, t, h => by
    simp [keyToksAll] at h
  | x :: a, [], r, t, h => by
    simp [keyToksAll] at h
  | x :: a, y :: b, r, t, h => by
    have e : ∀ (z : Pt) (c : List Pt) (r : List (Int ⊕ List Nat)), keyToksAll ((z :: c).map pyPt) ++ r = .inl 1 :: .inl 1 :: .inl z.1 :: .inl 1 :: .inl z.2 :: .inl 0 :: (keyToksAll (c.map pyPt) ++ r) := fun z c r => by
      rw [List.map_cons]
      simp [keyToksAll, keyToks, pyPt]
    rw [e, e] at h
    injection h with _ h
    injection h with _ h
    injection h with h1 h
    injection h with _ h
    injection h with h2 h
    injection h with _ h
    injection h1 with h1
    injection h2 with h2
    obtain ⟨h3, h4⟩ := toks_pts a b r t h
    exact ⟨by rw [h3, Prod.ext h1 h2], h4⟩
theorem toks_k {a b : Ky} (h : keyToks (pyK a) = keyToks (pyK b)) : a = b := by
  have e : ∀ c : Ky, keyToks (pyK c) = .inl 1 :: (keyToksAll (c.1.map pyPt) ++ [.inl 1, .inl (if c.2 = true then 1 else 0), .inl 0]) := fun c => by
    simp [pyK, keyToks, keyToksAll]
  rw [e, e] at h
  injection h with _ h
  obtain ⟨h1, h2⟩ := toks_pts _ _ _ _ h
  refine Prod.ext h1 ?_
  injection h2 with _ h2
  injection h2 with h2 _
  injection h2 with h2
  cases ha : a.2 <;> cases hb : b.2 <;> rw [ha, hb] at h2 <;> first | rfl | simp at h2
theorem lt_asym {x y : PyData} (h : dataLt x y = true) : dataLt y x = false := by
  cases q : dataLt y x with
  | false => rfl
  | true =>
    have h1 := lex_trans (O := itemOrd) _ _ _ h q
    have h2 := lex_irrefl (O := itemOrd) (keyToks x)
    unfold dataLt at h1 h2
    rw [h2] at h1
    cases h1
theorem sortK_lt {ks : List Ky} (nd : ks.Nodup) : (sortK ks).Pairwise fun a b => dataLt (pyK a) (pyK b) = true := by
  have so := List.pairwise_mergeSort (le := leKy) (fun a b c h1 h2 => by
    unfold leKy at *
    rw [Bool.not_eq_true'] at *
    cases q : dataLt (pyK c) (pyK a) with
    | false => rfl
    | true =>
      rcases lex_negTrans (O := itemOrd) (keyToks (pyK c)) (keyToks (pyK b)) (keyToks (pyK a)) q with z | z
      · rw [show dataLt (pyK c) (pyK b) = true from z] at h2; cases h2
      · rw [show dataLt (pyK b) (pyK a) = true from z] at h1; cases h1) (fun a b => by
    unfold leKy
    rw [Bool.or_eq_true, Bool.not_eq_true', Bool.not_eq_true']
    cases q : dataLt (pyK b) (pyK a) with
    | false => exact .inl rfl
    | true => exact .inr (lt_asym q)) ks
  have n2 : (sortK ks).Nodup := (List.mergeSort_perm ks leKy).nodup_iff.mpr nd
  refine List.Pairwise.imp (R := fun a b => leKy a b = true ∧ a ≠ b) (fun {a b} ⟨h1, h2⟩ => ?_) (List.Pairwise.and so n2)
  unfold leKy at h1
  rw [Bool.not_eq_true'] at h1
  cases q : dataLt (pyK a) (pyK b) with
  | true => rfl
  | false => exact absurd (toks_k (lex_total (O := itemOrd) _ _ q h1)) h2
theorem sortK_same {a b : List Ky} (na : a.Nodup) (nb : b.Nodup) (h : ∀ z, z ∈ a ↔ z ∈ b) : sortK a = sortK b := by
  refine sorted_eq (R := fun a b => dataLt (pyK a) (pyK b) = true) (fun x y h1 h2 => ?_) (sortK_lt na) (sortK_lt nb) fun z => ?_
  · rw [lt_asym h1] at h2
    cases h2
  · unfold sortK
    rw [(List.mergeSort_perm a leKy).mem_iff, (List.mergeSort_perm b leKy).mem_iff, h]
section
variable {us ls us' ls' : List Int} {φ ψ : Pt → Pt}
/-- φ takes one cloth's points to the other's, with their neighbours -/
structure Img (us ls us' ls' : List Int) (φ ψ : Pt → Pt) : Prop where
  go : ∀ z, InC us ls z → InC us' ls' (φ z)
  bk : ∀ z, InC us' ls' z → InC us ls (ψ z)
  pf : ∀ z, ψ (φ z) = z
  fp : ∀ z, φ (ψ z) = z
  nbs : ∀ z, InC us ls z → (nb us' ls' (φ z)).Perm ((nb us ls z).map φ)
theorem Img.mem (I : Img us ls us' ls' φ ψ) {z w : Pt} (h : InC us ls z) : w ∈ nb us' ls' (φ z) ↔ ∃ v ∈ nb us ls z, φ v = w := by
  rw [(I.nbs z h).mem_iff, List.mem_map]
theorem Img.inj (I : Img us ls us' ls' φ ψ) {a b : Pt} (h : φ a = φ b) : a = b := by rw [← I.pf a, ← I.pf b, h]
theorem Img.seam (I : Img us ls us' ls' φ ψ) {c : Bool} {l : List Pt} (q : Sm.Seam (nb us ls) c l) (hin : ∀ z ∈ l, InC us ls z) : Sm.Seam (nb us' ls') c (l.map φ) := by
  have up : ∀ {a b : Pt}, a ∈ l → b ∈ nb us ls a → φ b ∈ nb us' ls' (φ a) := fun {a b} ha hb => (I.mem (hin a ha)).mpr ⟨b, hb, rfl⟩
  have gm : ∀ {i : Nat} {a : Pt}, (l.map φ)[i]? = some a → ∃ b, l[i]? = some b ∧ a = φ b := fun h => map_get h
  refine ⟨List.pairwise_map.mpr (q.nd.imp fun h e => h (I.inj e)), by rw [List.length_map]; exact q.two, fun i a b h1 h2 => ?_, fun a ha b hb => ?_, fun h => ⟨by rw [List.length_map]; exact (q.shut h).1, fun a b h1 h2 => ?_⟩, fun i a h => ?_⟩
  · obtain ⟨a, k1, rfl⟩ := gm h1
    obtain ⟨b, k2, rfl⟩ := gm h2
    obtain ⟨z1, z2⟩ := q.step i a b k1 k2
    exact ⟨up (List.mem_of_getElem? k1) z1, up (List.mem_of_getElem? k2) z2⟩
  · obtain ⟨a, ha', rfl⟩ := List.mem_map.mp ha
    obtain ⟨v, hv, rfl⟩ := (I.mem (hin a ha')).mp hb
    exact List.mem_map_of_mem (q.cl a ha' v hv)
  · rw [List.length_map] at h2
    obtain ⟨a, k1, rfl⟩ := gm h1
    obtain ⟨b, k2, rfl⟩ := gm h2
    obtain ⟨z1, z2⟩ := (q.shut h).2 a b k1 k2
    exact ⟨up (List.mem_of_getElem? k1) z1, up (List.mem_of_getElem? k2) z2⟩
  · obtain ⟨a, k, rfl⟩ := gm h
    rw [List.length_map, (I.nbs a (hin a (List.mem_of_getElem? k))).length_eq, List.length_map]
    exact q.deg i a k
/-- two seams with a point in common are one -/
theorem seam_uniq {N : Pt → List Pt} {c c' : Bool} {l l' : List Pt} (q : Sm.Seam N c l) (q' : Sm.Seam N c' l') {z : Pt} (h : z ∈ l) (h' : z ∈ l') : c = c' ∧ ∀ w, w ∈ l ↔ w ∈ l' := by
  have a := q.conn (V := fun z => z ∈ l') (fun a ha b hb => q'.cl a ha b hb) h h'
  have b := q'.conn (V := fun z => z ∈ l) (fun a ha b hb => q.cl a ha b hb) h' h
  refine ⟨?_, fun w => ⟨a w, b w⟩⟩
  have key : ∀ {l l' : List Pt}, Sm.Seam N true l → Sm.Seam N false l' → (∀ w ∈ l', w ∈ l) → False := fun {l l'} q q' b => by
    have h2 := q'.two
    have e0 : l'[0]? = some (l'[0]'(by omega)) := List.getElem?_eq_getElem _
    generalize l'[0]'(by omega) = w at e0
    have d1 := q'.deg 0 w e0
    rw [if_neg (by intro z; rcases z with z | z; cases z; omega)] at d1
    obtain ⟨i, hi⟩ := List.getElem?_of_mem (b w (List.mem_of_getElem? e0))
    have d2 := q.deg i w hi
    rw [if_pos (.inl rfl)] at d2
    omega
  cases c <;> cases c'
  · rfl
  · exact (key q' q a).elim
  · exact (key q q' b).elim
  · rfl
def keyS (x : Sm1) : Ky := (sortP x.2, x.1)
def keyI (φ : Pt → Pt) (x : Sm1) : Ky := (sortP (x.2.map φ), x.1)
theorem seamsL_nodup {f : Sm1 → Ky} (hf : ∀ x ∈ seamsL us ls, ∀ y ∈ seamsL us ls, f x = f y → ∃ z, z ∈ x.2 ∧ z ∈ y.2) : ((seamsL us ls).map f).Nodup := by
  refine List.pairwise_map.mpr (List.Pairwise.imp_of_mem (fun {x y} hx hy ap e => ?_) (seamsL_apart (us := us) (ls := ls)))
  obtain ⟨z, h1, h2⟩ := hf x hx y hy e
  exact ap z h1 h2
theorem keys_nodup : ((seamsL us ls).map keyS).Nodup := seamsL_nodup fun x hx y hy e => by
  refine ⟨fstP x, seam_ne hx, ?_⟩
  have e1 : sortP x.2 = sortP y.2 := congrArg Prod.fst e
  rw [← (sortP_perm y.2).mem_iff, ← e1, (sortP_perm x.2).mem_iff]
  exact seam_ne hx
theorem Img.keys_nodup (I : Img us ls us' ls' φ ψ) : ((seamsL us ls).map (keyI φ)).Nodup := seamsL_nodup fun x hx y hy e => by
  refine ⟨fstP x, seam_ne hx, ?_⟩
  have e1 : sortP (x.2.map φ) = sortP (y.2.map φ) := congrArg Prod.fst e
  have : φ (fstP x) ∈ y.2.map φ := by
    rw [← (sortP_perm (y.2.map φ)).mem_iff, ← e1, (sortP_perm (x.2.map φ)).mem_iff]
    exact List.mem_map_of_mem (seam_ne hx)
  obtain ⟨z, hz, e⟩ := List.mem_map.mp this
  rw [← I.inj e]
  exact hz
theorem sortP_mem {a b : List Pt} (na : a.Nodup) (nb : b.Nodup) (h : ∀ z, z ∈ a ↔ z ∈ b) : sortP a = sortP b := sortP_same na nb h
/-- a seam's image is the other cloth's seam -/
theorem Img.pair (I : Img us ls us' ls' φ ψ) {x x' : Sm1} (hx : x ∈ seamsL us ls) (hx' : x' ∈ seamsL us' ls') {z : Pt} (h1 : z ∈ x.2) (h2 : φ z ∈ x'.2) : keyS x' = keyI φ x := by
  obtain ⟨q, hin⟩ := found_ev (seamsL_mem.mp hx)
  obtain ⟨q', _⟩ := found_ev (seamsL_mem.mp hx')
  have qi := I.seam q hin
  obtain ⟨ec, em⟩ := seam_uniq q' qi h2 (List.mem_map_of_mem h1)
  unfold keyS keyI
  rw [ec, sortP_mem q'.nd qi.nd em]
theorem Img.keys_mem (I : Img us ls us' ls' φ ψ) (k : Ky) : k ∈ (seamsL us' ls').map keyS ↔ k ∈ (seamsL us ls).map (keyI φ) := by
  constructor
  · intro h
    obtain ⟨x', hx', rfl⟩ := List.mem_map.mp h
    obtain ⟨q', hin'⟩ := found_ev (seamsL_mem.mp hx')
    have hf := seam_ne hx'
    have hz := I.bk _ (hin' _ hf)
    have ne : nb us ls (ψ (fstP x')) ≠ [] := by
      intro e
      have h2 := q'.two
      obtain ⟨i, hi⟩ := List.getElem?_of_mem hf
      have d := q'.deg i _ hi
      have p := (I.nbs _ hz).length_eq
      rw [I.fp, e] at p
      simp at p
      split at d <;> simp [p] at d
    obtain ⟨x, hx, hm⟩ := (found_inv us ls).2 _ hz ne
    have hx := seamsL_mem.mpr hx
    exact List.mem_map.mpr ⟨x, hx, (I.pair hx hx' hm (by rw [I.fp]; exact hf)).symm⟩
  · intro h
    obtain ⟨x, hx, rfl⟩ := List.mem_map.mp h
    obtain ⟨q, hin⟩ := found_ev (seamsL_mem.mp hx)
    have hf := seam_ne hx
    have hz := I.go _ (hin _ hf)
    have ne : nb us' ls' (φ (fstP x)) ≠ [] := by
      intro e
      obtain ⟨i, hi⟩ := List.getElem?_of_mem hf
      have d := q.deg i _ hi
      have p := (I.nbs _ (hin _ hf)).length_eq
      rw [e] at p
      simp at p
      split at d <;> simp [← p] at d
    obtain ⟨x', hx', hm⟩ := (found_inv us' ls').2 _ hz ne
    have hx' := seamsL_mem.mpr hx'
    exact List.mem_map.mpr ⟨x', hx', I.pair hx hx' hf hm⟩
theorem Img.kept (I : Img us ls us' ls' φ ψ) : sortK ((seamsL us' ls').map keyS) = sortK ((seamsL us ls).map (keyI φ)) := sortK_same GD.keys_nodup I.keys_nodup I.keys_mem
end
end GD
namespace GD
open PySem L2 G PySem.W PyProof.Rows
end GD
namespace GD
open PySem L2 G
open Fd (Stp Fc Nfs Tr3 Cn)
abbrev k5 (D0 A P : D) (W T : Nat) (fs : Nfs) (n : Int) (F Q : D) (s8 s9 s10 s11 : Slot) (rs ts : List D) (s14 s15 s16 s17 s18 s19 s20 : Slot) : Sl := [.va D0, .va A, .va P, .va (.int (W : Nat)), .va (.int (T : Nat)), ownW false 22 (fnL (W : Int) (T : Int) fs n), .va F, .va Q, s8, s9, s10, s11, .ow (.lst rs), .ow (.lst ts), s14, s15, s16, s17, s18, s19, s20]
end GD
namespace GD
open PySem L2 G
open Fd (Stp Fc Nfs Tr3 Cn)
end GD
namespace GD
open PySem L2 G
open Fd (Stp Fc Nfs Tr3 Cn)
end GD
namespace GD
open PySem L2 G
open Fd (Stp Fc Nfs Tr3 Cn)
end GD
namespace GD
open PySem L2 G
open Fd (Stp Fc Nfs Tr3 Cn)
end GD
namespace GD
open PySem L2 G
open Fd (Stp Fc Nfs Tr3 Cn)
end GD
namespace GD
open PySem L2 G
open Fd (Stp Fc Nfs Tr3 Cn)
end GD
namespace GD
open PySem L2 G
open Fd (Stp Fc Nfs Tr3 Cn)
end GD
namespace GD
open PySem L2 G
open Fd (Stp Fc Nfs Tr3 Cn)
end GD
namespace GD
open PySem L2 G
open Fd (Stp Fc Nfs Tr3 Cn)
end GD
namespace GD
open PySem L2 G
open Fd (Stp Fc Nfs Tr3 Cn)
end GD
namespace GD
open PySem L2 G
open Fd (Stp Fc Nfs Tr3 Cn)
theorem eFn_ex {R : List D → Out (D × Bool)} {fs : List ES} {ρ : Sl} {xs : List (D × Kd)} {n : Nat} {gs : List D} (ha : eArgs fs ρ = .ok xs) (hs : allSolid xs = true) (hR : R (xs.map (·.1)) = .ex n gs) : eFn R fs ρ = .ex n gs := by
  unfold eFn eCall
  rw [ha]
  show (match R (xs.map (·.1)) with
    | .ok (d, b) => if allSolid xs then Out.ok (d, if b then Kd.fr else .sh) else if flat d && okArgs xs then shr d else if (b && newD d) && okArgs xs then .ok (d, .fr) else .no
    | .ex c gs => if allSolid xs || (gs.isEmpty && okArgs xs) then .ex c gs else .no
    | .no => .no) = _
  rw [hR]
  dsimp only
  rw [hs]
  rfl
end GD
namespace GD
open PySem L2 G
open Fd (Stp Fc Nfs Tr3 Cn)
/-- the bit of a strip, counted from one -/
def sq (p : Stp → Int) (s a : Stp) : Int := (p s + p a) % 2
section
variable {fs : Nfs} {p : Stp → Int} {s : Stp}
structure Sq (fs : Nfs) (s : Stp) (K : List Stp) : Prop where
  nd : K.Nodup
  m : s ∈ K
  c : ∀ a ∈ K, Fd.Cn fs s a
theorem Sq.len {K : List Stp} (h : Sq fs s K) : K.length ≤ 2 * fs.length + 1 := by
  have := Orb.nodup_le (L := (Fd.reach fs s).map (fun e : Fd.E => e.k)) h.nd fun x hx => h.c x hx
  rw [List.length_map] at this
  exact Nat.le_trans this (Fd.reach_len fs s _)
theorem Sq.new {K : List Stp} (h : Sq fs s K) {a b : Stp} (ha : a ∈ K) (hb : b ∉ K) (hc : Cn fs a b) : Sq fs s (K ++ [b]) :=
  ⟨by
    rw [List.nodup_append]
    refine ⟨h.nd, by simp, fun x hx y hy => ?_⟩
    rw [List.mem_singleton.mp hy]
    rintro rfl
    exact hb hx, List.mem_append_left _ h.m, fun x hx => by
    rcases List.mem_append.mp hx with hx | hx
    · exact h.c x hx
    · rw [List.mem_singleton.mp hx]
      exact (h.c a ha).trans hc⟩
end
end GD
namespace GD
open PySem L2 G
open Fd (Stp Fc Nfs Tr3 Cn)
section
variable {w t n : Int} {fs : Nfs}
/-- the numbers rise -/
def Rises (fs : Nfs) : Prop := List.Pairwise (fun a b : Int => a < b) (fs.map (·.1))
theorem Rises.nd (h : Rises fs) : (fs.map (·.1)).Nodup := h.imp fun {a b} e => by omega
/-- it tells the other thing -/
abbrev Cl (p : Stp → Int) (fs : Nfs) (f : Fc) : Prop := Cn fs (Fd.one f) (Fd.two f) ∧ ¬ (p (Fd.one f) + p (Fd.two f) + Fd.wt f) % 2 = 0
end
end GD
namespace GD
open PySem L2 G
open Fd (Stp Fc Nfs Tr3 Cn)
end GD
namespace GD
open PySem L2 G
open Fd (Stp Fc Nfs Tr3 Cn)
end GD
namespace GD
open PySem L2 G PySem.W
end GD
namespace GD
open PySem L2 G
open Fd (Stp Fc Nfs Tr3 Cn)
structure G9 (W T : Nat) (fs : Nfs) (n : Int) : Prop where
  g : Gd (W : Int) (T : Int) fs n
  r : Rises fs
  n0 : 0 ≤ n
  hw : W ≤ 40
  ht : T ≤ 40
section
variable {D0 A P : D} {W T : Nat} {fs : Nfs} {n : Int} {hs : List Int}
theorem sq_nx {a b : SS} {ρ ρ' : Sl} (h : a ρ = .nx ρ') : sSeq a b ρ = b ρ' := by rw [sSeq_ap, h]
theorem eLst_of {fs : List ES} {ρ : Sl} {xs : List (D × Kd)} (h : eArgs fs ρ = .ok xs) (hs : allSolid xs = true) (hl : xs.length ≤ SZ) : eLst fs ρ = .ok (.lst (xs.map (·.1)), .fr) := by
  rw [eLst_ap, h]
  exact if_pos ⟨hs, hl⟩
theorem G9.snoc (h : G9 W T fs n) {p : Stp → Int} (hp : Fd.Pot fs p) {f : Fc} (v : FcV (W : Int) (T : Int) f) (hc : ¬ Cl p fs f) : G9 W T (fs ++ [(n, f)]) (n + 1) := by
  refine ⟨⟨fun z hz => ?_, fun z hz => ?_, ?_⟩, ?_, by have := h.n0; omega, h.hw, h.ht⟩
  · rcases List.mem_append.mp hz with hz | hz
    · exact h.g.v z hz
    · rw [List.mem_singleton.mp hz]; exact v
  · rcases List.mem_append.mp hz with hz | hz
    · have := h.g.k z hz; omega
    · rw [List.mem_singleton.mp hz]; show n < n + 1; omega
  · by_cases c : Cn fs (Fd.one f) (Fd.two f)
    · refine ⟨p, fun z hz => ?_⟩
      rcases List.mem_append.mp hz with hz | hz
      · exact hp z hz
      · rw [List.mem_singleton.mp hz]
        exact Decidable.not_not.mp fun e => hc ⟨c, e⟩
    · exact hp.snoc c
  · unfold Rises
    rw [List.map_append, List.pairwise_append]
    refine ⟨h.r, by simp, fun a ha b hb => ?_⟩
    obtain ⟨z, hz, rfl⟩ := List.mem_map.mp ha
    rw [List.mem_singleton.mp (show b ∈ [n] from hb)]
    exact h.g.k z hz
end
end GD
namespace GD
open PySem L2 G
open Fd (Stp Fc Nfs Tr3 Cn)
/-- the same facts, by other numbers -/
def Sam (fs gs : Nfs) : Prop := ∀ f, f ∈ fs.map (·.2) ↔ f ∈ gs.map (·.2)
section
variable {fs gs : Nfs}
theorem Sam.symm (h : Sam fs gs) : Sam gs fs := fun f => (h f).symm
theorem Sam.of (h : Sam fs gs) {z : Int × Fc} (hz : z ∈ fs) : ∃ y ∈ gs, y.2 = z.2 := by
  have := (h z.2).mp (List.mem_map_of_mem (f := fun z : Int × Fc => z.2) hz)
  obtain ⟨y, hy, e⟩ := List.mem_map.mp this
  exact ⟨y, hy, e⟩
theorem Sam.pth (h : Sam fs gs) {a : Stp} : ∀ {rs : List Int} {w : Int} {c : Stp}, Fd.Pth (Fd.ties fs) a rs w c → Cn gs a c
  | _, _, _, .nil => Cn.refl _ _
  | _, _, _, .snoc h1 h2 => by
    have h3 := Sam.pth h h1
    obtain ⟨z, hz, _, _, h4⟩ := Fd.mem_ties.mp h2
    obtain ⟨y, hy, e⟩ := h.of hz
    have cf := Cn.fact hy
    rw [e] at cf
    rcases h4 with ⟨e1, e2⟩ | ⟨e1, e2⟩
    · dsimp only at e2
      rw [← e2]
      rw [← e1] at h3
      exact h3.trans cf
    · dsimp only at e2
      rw [← e2]
      rw [← e1] at h3
      exact h3.trans cf.symm
theorem Sam.cn (h : Sam fs gs) {a b : Stp} : Cn fs a b ↔ Cn gs a b := by
  constructor
  · intro c
    obtain ⟨rs, w, p⟩ := c.path
    exact h.pth p
  · intro c
    obtain ⟨rs, w, p⟩ := c.path
    exact h.symm.pth p
theorem Sam.snoc (h : Sam fs gs) (n m : Int) (f : Fc) : Sam (fs ++ [(n, f)]) (gs ++ [(m, f)]) := fun g => by
  rw [List.map_append, List.map_append, List.mem_append, List.mem_append, h g]
  rfl
theorem Sam.cl (h : Sam fs gs) {p : Stp → Int} {f : Fc} : Cl p fs f ↔ Cl p gs f := by
  unfold Cl
  rw [h.cn]
end
end GD
namespace GD
open PySem L2 G
open Fd (Stp Fc Nfs Tr3 Cn)
/-- where a says something, a' says the same -/
def Ref (a a' : SS) : Prop := ∀ ρ, a ρ ≠ .no → a' ρ = a ρ
theorem Ref.refl (a : SS) : Ref a a := fun _ _ => rfl
theorem Ref.no (a : SS) : Ref (fun _ => .no) a := fun _ h => absurd rfl h
theorem Ref.seq {a a' b b' : SS} (h1 : Ref a a') (h2 : Ref b b') : Ref (sSeq a b) (sSeq a' b') := fun ρ h => by
  rw [sSeq_ap] at h ⊢
  rw [sSeq_ap]
  have n : a ρ ≠ .no := fun e => by rw [e] at h; exact h rfl
  rw [h1 ρ n]
  cases q : a ρ with
  | nx ρ' =>
    rw [q] at h
    exact h2 ρ' h
  | _ => rfl
theorem Ref.drop {c i : Nat} {R R' : List D → List D → Lo} {fs : List ES} (h : ∀ os ds, R os ds ≠ .no → R' os ds = R os ds) : Ref (smDrop (emCall c R i fs)) (smDrop (emCall c R' i fs)) := fun ρ hn => by
  unfold smDrop emCall at hn ⊢
  cases q : ownS ρ i with
  | none => rfl
  | some o =>
    obtain ⟨b, c', ds⟩ := o
    rw [q] at hn
    dsimp only at hn ⊢
    by_cases e : c' = c
    · rw [if_pos e] at hn ⊢
      rw [if_pos e]
      cases w : eArgs fs ρ with
      | ok xs =>
        rw [w] at hn
        dsimp only at hn ⊢
        by_cases e2 : allSolid xs = true
        · rw [if_pos e2] at hn ⊢
          rw [if_pos e2, h ds _ fun z => by rw [z] at hn; exact hn rfl]
        · rw [if_neg e2, if_neg e2]
      | ex n gs => rfl
      | no => rfl
    · rw [if_neg e, if_neg e]
/-- both ends of a fact are there -/
def Used (fs : Nfs) (K : List Stp) (m : Int) : Prop := ∀ z ∈ fs, z.1 = m → Fd.one z.2 ∈ K ∧ Fd.two z.2 ∈ K
theorem Used.mono {fs : Nfs} {K L : List Stp} {m : Int} (h : Used fs K m) (s : ∀ x ∈ K, x ∈ L) : Used fs L m := fun z hz e => ⟨s _ (h z hz e).1, s _ (h z hz e).2⟩
end GD
namespace GD
open PySem L2 G
open Fd (Stp Fc Nfs Tr3 Cn)
end GD
namespace GD
open PySem L2 G
open Fd (Stp Fc Nfs Tr3 Cn)
section
variable {W T : Nat} {fs : Nfs} {n : Int}
abbrev c2 (O L : D) (x y : Int) (s4 s5 s6 s7 : Slot) : Sl := [.va O, .va L, .va (.int x), .va (.int y), s4, s5, s6, s7]
abbrev l2 (O L : D) (r : Bool) (k : Int) (s4 s5 s6 : Slot) : Sl := [.va O, .va L, .va (.str (lnW r)), .va (.int k), s4, s5, s6]
end
end GD
namespace GD
open PySem L2 G
open Fd (Stp Fc Nfs Tr3 Cn)
end GD
namespace GD
open PySem L2 G
open Fd (Stp Fc Nfs Tr3 Cn)
section
variable {W T : Nat} {fs : Nfs} {n : Int}
abbrev d1 (O L : D) (W T : Nat) (s4 s5 s6 s7 s8 : Slot) : Sl := [.va O, .va L, .va (.int (W : Nat)), .va (.int (T : Nat)), s4, s5, s6, s7, s8]
end
end GD
namespace GD
open PySem L2 G
open Fd (Stp Fc Nfs Tr3 Cn)
section
variable {W T : Nat} {fs : Nfs} {n : Int} {p : Stp → Int}
abbrev h8 (F : D) (W T : Nat) (K : List Stp) (h : Stp → Stp) (s4 s5 : Slot) : Sl := [.va F, .va (.int (W : Nat)), .va (.int (T : Nat)), .ow (hD K h), s4, s5, .un, .un]
end
end GD
namespace GD
open PySem L2 G
open Fd (Stp Fc Nfs Tr3 Cn)
structure Idm (h : Stp → Stp) (K : List Stp) : Prop where
  m : ∀ a ∈ K, h a ∈ K
  i : ∀ a ∈ K, h (h a) = h a
theorem Idm.mg {h : Stp → Stp} {K : List Stp} (d : Idm h K) {x y : Stp} (hx : x ∈ K) (hy : y ∈ K) : Idm (Fd.mg h (h x) (h y)) K := by
  have hu := d.i x hx
  refine ⟨fun a ha => ?_, fun a ha => ?_⟩
  · unfold Fd.mg
    split
    · exact d.m x hx
    · exact d.m a ha
  · have mu : Fd.mg h (h x) (h y) (h x) = h x := by
      unfold Fd.mg
      split
      · rfl
      · exact hu
    by_cases c : h a = h y
    · have e : Fd.mg h (h x) (h y) a = h x := if_pos c
      rw [e, mu]
    · have e : Fd.mg h (h x) (h y) a = h a := if_neg c
      rw [e]
      unfold Fd.mg
      rw [d.i a ha, if_neg c]
end GD
namespace GD
open PySem L2 G
open Fd (Stp Fc Nfs Tr3 Cn)
end GD
namespace GD
open PySem L2 G
open Fd (Stp Fc Nfs Tr3 Cn)
end GD
namespace GD
open PySem L2 G
open Fd (Stp Fc Nfs Tr3 Cn)
end GD
namespace GD
open PySem L2 G
open Fd (Stp Fc Nfs Tr3 Cn)
section
variable {W T : Nat} {fs : Nfs} {n : Int} {s : Int} {us ls : List Int}
abbrev q9 (O F : D) (s2 s3 s4 s5 s6 s7 s8 : G.Slot) : Sl := [.va O, .va F, s2, s3, s4, s5, s6, s7, s8]
end
end GD
namespace GD
open PySem L2 G
open Fd (Stp Fc Nfs Tr3 Cn)
section
variable {W T : Nat} {fs : Nfs} {n : Int} {us : List Int}
abbrev e7 (O F A : D) (W T : Nat) (s5 s6 : G.Slot) : Sl := [.va O, .va F, .va (.int (W : Nat)), .va (.int (T : Nat)), .va A, s5, s6]
theorem eLst2k {f g : ES} {ρ : Sl} {a b : D} {k l : Kd} (h1 : f ρ = .ok (a, k)) (h2 : g ρ = .ok (b, l)) (s1 : k.solid = true) (s2 : l.solid = true) : eLst [f, g] ρ = .ok (.lst [a, b], .fr) :=
  eLst_of (eArgs2 h1 h2) (by rw [allSolid_cons, allSolid_cons, s1, s2]; rfl) (show 2 ≤ SZ by decide)
end
end GD
namespace GD
open PySem L2 G
open Fd (Stp Fc Nfs Tr3 Cn)
section
variable {W T : Nat} {fs : Nfs} {n : Int} {us : List Int}
abbrev t8 (O F A : D) (W T : Nat) (gs : Nfs) (n : Int) (s7 : G.Slot) : Sl := [.va O, .va F, .va (.int (W : Nat)), .va (.int (T : Nat)), .va A, ownW false 22 (fnL (W : Int) (T : Int) gs n), .ow (.lst (gs.map fcT)), s7]
end
end GD
namespace GD
open PySem L2 G
open Fd (Stp Fc Nfs Tr3 Cn)
section
variable {W T : Nat} {fs : Nfs} {n : Int} {us : List Int}
theorem G9.drop (h : G9 W T fs n) (k : Nat) : G9 W T (fs.drop k) n := by
  obtain ⟨p, hp⟩ := h.g.p
  have m : ∀ z ∈ fs.drop k, z ∈ fs := fun z hz => List.mem_of_mem_drop hz
  exact ⟨⟨fun z hz => h.g.v z (m z hz), fun z hz => h.g.k z (m z hz), ⟨p, hp.mono m⟩⟩, List.Pairwise.sublist (List.Sublist.map _ (List.drop_sublist k fs)) h.r, h.n0, h.hw, h.ht⟩
end
end GD
namespace GD
open PySem L2 G
open Fd (Stp Fc Nfs Tr3 Cn)
abbrev v1 (D0 A P : D) (W T : Nat) (gs : Nfs) (n : Int) (s6 s7 s8 s9 : Slot) : Sl := [.va D0, .va A, .va P, .va (.int (W : Nat)), .va (.int (T : Nat)), ownW false 22 (fnL (W : Int) (T : Int) gs n), s6, s7, s8, s9]
end GD
namespace GD
open PySem L2 G
open Fd (Stp Fc Nfs Tr3 Cn)
end GD
namespace GD
open PySem L2 G
open Fd (Stp Fc Nfs Tr3 Cn)
end GD
namespace GD
open PySem L2 G
open Fd (Stp Fc Nfs Tr3 Cn)
end GD
namespace GD
open PySem L2 G
def colsF (F : List (List Int)) (n : Nat) : List Int := (List.range (n - 1)).map fun k => (gt (rowA F 0) k + gt (rowA F 0) (k + 1)) % 2
def rowsF (F : List (List Int)) (m : Nat) : List Int := (List.range (m - 1)).map fun k => (gt (rowA F k) 0 + gt (rowA F (k + 1)) 0) % 2
theorem map_gt {f : Nat → Int} {n k : Nat} (h : k < n) : gt ((List.range n).map f) k = f k := by
  rw [gt_eq (by simpa using h)]
  simp
section
variable {F : List (List Int)} {m n : Nat}
theorem ev_none (ev : evens F (m - 1) (n - 1) = []) {x y : Nat} (hx : x + 1 < n) (hy : y + 1 < m) : (gt (rowA F y) x + gt (rowA F y) (x + 1) + gt (rowA F (y + 1)) x + gt (rowA F (y + 1)) (x + 1)) % 2 = 1 := by
  by_cases q : evenB F x y = true
  · have : (((x : Nat) : Int), ((y : Nat) : Int)) ∈ evens F (m - 1) (n - 1) := by
      unfold evens
      refine List.mem_flatten.mpr ⟨_, List.mem_map.mpr ⟨y, List.mem_range.mpr (by omega), rfl⟩, ?_⟩
      unfold evRow
      exact List.mem_map.mpr ⟨x, List.mem_filter.mpr ⟨List.mem_range.mpr (by omega), q⟩, rfl⟩
    rw [ev] at this
    cases this
  · have := of_decide_eq_false (Bool.eq_false_iff.mpr q)
    omega
theorem bitF (h : Rect F m n) {y : Nat} (hy : y < m) (x : Nat) : gt (rowA F y) x = 0 ∨ gt (rowA F y) x = 1 := (h.bit _ (rowA_mem (by rw [h.len]; exact hy))).get x
theorem step_y (h : Rect F m n) (ev : evens F (m - 1) (n - 1) = []) {x : Nat} (hx : x + 1 < n) : ∀ y : Nat, y < m → (gt (rowA F y) x + gt (rowA F y) (x + 1)) % 2 = (gt (colsF F n) x + y) % 2
  | 0, _ => by
    unfold colsF
    rw [map_gt (by omega)]
    omega
  | y + 1, hy => by
    have ih := step_y h ev hx y (by omega)
    have e := ev_none ev hx hy
    push_cast
    omega
theorem col_0 (h : Rect F m n) (hm : 1 ≤ m) : ∀ y : Nat, y < m → (gt (rowA F 0) 0 + ((rowsF F m).take y).sum) % 2 = gt (rowA F y) 0
  | 0, _ => by
    have := bitF h hm 0
    simp
    omega
  | y + 1, hy => by
    have ih := col_0 h hm y (by omega)
    have l : y < (rowsF F m).length := by unfold rowsF; simp; omega
    have st := sum_take (us := rowsF F m) (x := (y : Int)) (by omega) (by omega)
    rw [show ((y : Int) + 1).toNat = y + 1 by omega, Int.toNat_natCast] at st
    have g : gt (rowsF F m) y = (gt (rowA F y) 0 + gt (rowA F (y + 1)) 0) % 2 := by
      unfold rowsF
      rw [map_gt (by omega)]
    have b1 := bitF h hy 0
    have b0 := bitF h (y := y) (by omega) 0
    rw [st, g]
    omega
theorem back (h : Rect F m n) (hm : 1 ≤ m) (ev : evens F (m - 1) (n - 1) = []) {y : Nat} (hy : y < m) : ∀ x : Nat, x < n → colour (gt (rowA F 0) 0) (colsF F n) (rowsF F m) x y = gt (rowA F y) x
  | 0, _ => by
    have := col_0 h hm y hy
    unfold colour
    rw [Int.toNat_natCast, Int.toNat_natCast]
    simp
    exact this
  | x + 1, hx => by
    have ih := back h hm ev hy x (by omega)
    have sy := step_y h ev hx y hy
    have b1 := bitF h hy (x + 1)
    have b0 := bitF h hy x
    have l : x < (colsF F n).length := by unfold colsF; simp; omega
    have st := sum_take (us := colsF F n) (x := (x : Int)) (by omega) (by omega)
    unfold colour at ih ⊢
    rw [show ((x : Int) + 1).toNat = x + 1 by omega, Int.toNat_natCast] at st
    rw [Int.toNat_natCast, Int.toNat_natCast] at ih ⊢
    rw [st]
    have e : ((x + 1 : Nat) : Int) * (y : Int) = (x : Int) * y + y := by push_cast; rw [Int.add_mul, Int.one_mul]
    rw [e]
    generalize (x : Int) * (y : Int) = q at ih ⊢
    omega
end
end GD
namespace GD
open PySem L2 G
abbrev sgn (c : Nat) : D := .str ⟨#[c]⟩
theorem itE_s {st : Bool} {f : ES} {ρ : Sl} {s : Str} (h : f ρ = .ok (.str s, .sh)) : itE st f ρ = .ok ((TL.tl s).map sgn) := by
  rw [itE_ap, h]
  show (if (st && !Kd.sh.solid) = true then Out.no else .ok ((TL.tl s).map sgn)) = _
  rw [if_neg (by cases st <;> simp)]
theorem tl01 : TL.tl ("01" : Str) = [48, 49] := by decide +kernel
theorem inB_s (c : Nat) (z : Str) : inB (sgn c) (.str z) = some (decide (c ∈ TL.tl z)) := rfl
theorem oNi01 (c : Nat) : oNi (sgn c) (.str "01") = .ok (.bl (!decide (c = 48 ∨ c = 49)), .sh) := by
  unfold oNi
  rw [inB_s, tl01]
  show Out.ok (D.bl (!decide (c ∈ [48, 49])), Kd.sh) = _
  simp
theorem oIn01 (c : Nat) : oIn (sgn c) (.str "01") = .ok (.bl (decide (c = 48 ∨ c = 49)), .sh) := by
  unfold oIn
  rw [inB_s, tl01]
  show Out.ok (D.bl (decide (c ∈ [48, 49])), Kd.sh) = _
  simp
/-- the number that a sign tells -/
def sv (c : Nat) : Int := if c = 48 then 0 else 1
theorem int0 : PySem.intText? ⟨#[48]⟩ = some 0 := by decide +kernel
theorem int1 : PySem.intText? ⟨#[49]⟩ = some 1 := by decide +kernel
theorem oIntS_b {c : Nat} (h : c = 48 ∨ c = 49) : oIntS (sgn c) = .ok (.int (sv c), .sh) := by
  rcases h with rfl | rfl
  · unfold oIntS
    dsimp only
    rw [int0]
    rfl
  · unfold oIntS
    dsimp only
    rw [int1]
    rfl
/-- a word of bits: its bits -/
noncomputable def bw (w : Str) : Option (List Int) := if w = ("-" : Str) then some [] else if w = ("" : Str) then none else if ∀ c ∈ TL.tl w, c = 48 ∨ c = 49 then some ((TL.tl w).map sv) else none
theorem sv_bits (cs : List Nat) : Bits (cs.map sv) := fun b hb => by
  obtain ⟨c, _, rfl⟩ := List.mem_map.mp hb
  unfold sv
  split <;> omega
theorem bw_bits {w : Str} {bs : List Int} (h : bw w = some bs) : Bits bs := by
  unfold bw at h
  split at h
  · cases h
    exact fun b hb => nomatch hb
  · split at h
    · cases h
    · split at h
      · cases h
        exact sv_bits _
      · cases h
theorem bits_loop : ∀ (cs : List Nat) (w s : Slot), ((∀ c ∈ cs, c = 48 ∨ c = 49) → ∃ s', forL (.one 1) S_bits_in_b1 (cs.map sgn) [w, s] = .nx [w, s']) ∧ ((¬ ∀ c ∈ cs, c = 48 ∨ c = 49) → ∃ ρ', forL (.one 1) S_bits_in_b1 (cs.map sgn) [w, s] = .ex 7 [] ρ')
  | [], w, s => ⟨fun _ => ⟨s, rfl⟩, fun h => absurd (fun c hc => nomatch hc) h⟩
  | c :: cs, w, s => by
    have tg : tgSet (.one 1) (sgn c) [w, s] = some [w, .va (sgn c)] := rfl
    by_cases hc : c = 48 ∨ c = 49
    · have b1 : S_bits_in_b1 [w, .va (sgn c)] = .nx [w, .va (sgn c)] := by
        unfold S_bits_in_b1
        rw [sIf_no (by rw [tBl_ap, eBin_ok (r := .ok (.bl false, .sh)) (show eVar 1 [w, .va (sgn c)] = .ok (sgn c, .sh) from rfl) (show eC (.str "01") [w, .va (sgn c)] = .ok (.str "01", .sh) from rfl) (by rw [oNi01, decide_eq_true hc]; rfl)]; rfl)]
        rfl
      have e : forL (.one 1) S_bits_in_b1 ((c :: cs).map sgn) [w, s] = forL (.one 1) S_bits_in_b1 (cs.map sgn) [w, .va (sgn c)] := by
        rw [List.map_cons]
        show (match tgSet (.one 1) (sgn c) [w, s] with
          | none => Fl.no
          | some ρ1 => match S_bits_in_b1 ρ1 with
            | .nx ρ2 => forL (.one 1) S_bits_in_b1 (cs.map sgn) ρ2
            | .ct ρ2 => forL (.one 1) S_bits_in_b1 (cs.map sgn) ρ2
            | .bk ρ2 => .nx ρ2
            | o => o) = _
        rw [tg]
        dsimp only
        rw [b1]
      rw [e]
      obtain ⟨i1, i2⟩ := bits_loop cs w (.va (sgn c))
      refine ⟨fun h => i1 fun d hd => h d (List.mem_cons_of_mem _ hd), fun h => i2 fun g => h fun d hd => ?_⟩
      rcases List.mem_cons.mp hd with rfl | hd
      · exact hc
      · exact g d hd
    · have b1 : S_bits_in_b1 [w, .va (sgn c)] = .ex 7 [] [w, .va (sgn c)] := by
        unfold S_bits_in_b1
        rw [sIf_yes (by rw [tBl_ap, eBin_ok (r := .ok (.bl true, .sh)) (show eVar 1 [w, .va (sgn c)] = .ok (sgn c, .sh) from rfl) (show eC (.str "01") [w, .va (sgn c)] = .ok (.str "01", .sh) from rfl) (by rw [oNi01, decide_eq_false hc]; rfl)]; rfl)]
        rfl
      refine ⟨fun h => absurd (h c List.mem_cons_self) hc, fun _ => ⟨[w, .va (sgn c)], ?_⟩⟩
      rw [List.map_cons]
      show (match tgSet (.one 1) (sgn c) [w, s] with
        | none => Fl.no
        | some ρ1 => match S_bits_in_b1 ρ1 with
          | .nx ρ2 => forL (.one 1) S_bits_in_b1 (cs.map sgn) ρ2
          | .ct ρ2 => forL (.one 1) S_bits_in_b1 (cs.map sgn) ρ2
          | .bk ρ2 => .nx ρ2
          | o => o) = _
      rw [tg]
      dsimp only
      rw [b1]
theorem tEqS {i : Nat} {ρ : Sl} {w z : Str} (h : ρ[i]? = some (.va (.str w))) : tBl (eBin oEq (eVar i) (eC (.str z))) ρ = .ok (decide (w = z)) := by
  rw [tBl_ap, eBin_ok (r := .ok (.bl (decide (w = z)), .sh)) (show eVar i ρ = .ok (.str w, .sh) by rw [eVar_ap, h]) (show eC (.str z) ρ = .ok (.str z, .sh) from rfl) (oEq_ss w z)]
  rfl
/-- [int(sign) for sign in word] -/
theorem ints_ok {cs : List Nat} {ρ : Sl} {w : Str} (hw : TL.tl w = cs) (h : ∀ c ∈ cs, c = 48 ∨ c = 49) (hl : cs.length < SZ) (h0 : ρ = [.va (.str w), .un] ∨ ∃ s, ρ = [.va (.str w), s]) :
    eLc (itE false (eVar 0)) (.one 1) tYes (eUn oIntS (eVar 1)) [1] ρ = .ok (dI (cs.map sv), .fr) := by
  have h0 : ∃ s, ρ = [.va (.str w), s] := by
    rcases h0 with h0 | h0
    · exact ⟨_, h0⟩
    · exact h0
  obtain ⟨s, rfl⟩ := h0
  unfold eLc
  rw [itE_s (s := w) rfl, hw]
  show ((lcA (.one 1) tYes (eUn oIntS (eVar 1)) (wipeS [.va (.str w), s] [1]) [] (cs.map sgn)).bind fun r => Out.ok (D.lst r, Kd.fr)) = _
  rw [lc_mp sgn (fun c => D.int (sv c)) cs [] (by simpa using hl) (fun c hc => ⟨_, .sh, rfl, by
    show eUn oIntS (eVar 1) [.va (.str w), .va (sgn c)] = _
    rw [eUn_ap]
    exact oIntS_b (h c hc), rfl⟩)]
  show Out.ok (D.lst ([] ++ cs.map fun c => D.int (sv c)), Kd.fr) = _
  rw [List.nil_append, dI, List.map_map]
  rfl
theorem bits_in_ok {w : Str} (hl : w.length < SZ) : R_bits_in [.str w] = match bw w with
    | some bs => .ok (dI bs, true)
    | none => .ex 7 [] := by
  have sl : slots 2 [.str w] = [.va (.str w), .un] := rfl
  show denF 2 S_bits_in [.str w] = _
  unfold denF
  rw [sl]
  unfold S_bits_in
  by_cases h1 : w = ("-" : Str)
  · have e : bw w = some [] := if_pos h1
    rw [e, sSeq_ap, sIf_yes (by rw [tEqS rfl, decide_eq_true h1])]
    rfl
  rw [sSeq_nx (ρ' := [.va (.str w), .un]) (by rw [sIf_no (by rw [tEqS rfl, decide_eq_false h1])]; rfl)]
  by_cases h2 : w = ("" : Str)
  · have e : bw w = none := (if_neg h1).trans (if_pos h2)
    rw [e, sSeq_ap, sIf_yes (by rw [tEqS rfl, decide_eq_true h2])]
    rfl
  rw [sSeq_nx (ρ' := [.va (.str w), .un]) (by rw [sIf_no (by rw [tEqS rfl, decide_eq_false h2])]; rfl)]
  obtain ⟨i1, i2⟩ := bits_loop (TL.tl w) (.va (.str w)) .un
  have lp : G.sFor (itE true (eVar 0)) (.one 1) S_bits_in_b1 [.va (.str w), .un] = forL (.one 1) S_bits_in_b1 ((TL.tl w).map sgn) [.va (.str w), .un] := by
    rw [sFor_ap, itE_s (s := w) rfl]
    rfl
  by_cases h3 : ∀ c ∈ TL.tl w, c = 48 ∨ c = 49
  · have e : bw w = some ((TL.tl w).map sv) := (if_neg h1).trans ((if_neg h2).trans (if_pos h3))
    obtain ⟨s', e'⟩ := i1 h3
    rw [e, sSeq_nx (lp.trans e'), sRet_ap, ints_ok rfl h3 (by rw [← TL.len_tl]; exact hl) (.inr ⟨s', rfl⟩)]
    rfl
  · have e : bw w = none := (if_neg h1).trans ((if_neg h2).trans (if_neg h3))
    obtain ⟨ρ', e'⟩ := i2 h3
    rw [e, sSeq_ap, lp, e']
theorem all_bools (l : List Bool) : oBi .all [.lst (l.map D.bl)] = .ok (.bl (l.all id), .sh) := by
  have h : boolsOf (l.map D.bl) = some l := by
    induction l with
    | nil => rfl
    | cons a l ih =>
      show (boolsOf (l.map D.bl)).map (a :: ·) = _
      rw [ih]
      rfl
  show (match boolsOf (l.map D.bl) with
    | some bs => shr (.bl (bs.all id))
    | none => .no) = _
  rw [h]
  rfl
/-- the law's reading of a word -/
theorem bits_word_ok {w : Str} (hl : w.length < SZ) : R__law_bits_word [.str w] = match bw w with
    | some bs => if bs.length ≤ 39 then .ok (dI bs, true) else .ok (.non, false)
    | none => .ok (.non, false) := by
  have sl : slots 2 [.str w] = [.va (.str w), .un] := rfl
  show denF 2 S__law_bits_word [.str w] = _
  unfold denF
  rw [sl]
  unfold S__law_bits_word
  by_cases h1 : w = ("-" : Str)
  · have e : bw w = some [] := if_pos h1
    rw [e, sSeq_ap, sIf_yes (by rw [tEqS rfl, decide_eq_true h1])]
    rfl
  rw [sSeq_nx (ρ' := [.va (.str w), .un]) (by rw [sIf_no (by rw [tEqS rfl, decide_eq_false h1])]; rfl)]
  by_cases h2 : w = ("" : Str)
  · have e : bw w = none := (if_neg h1).trans (if_pos h2)
    rw [e, sSeq_ap, sIf_yes (by rw [tOr_ap, tEqS rfl, decide_eq_true h2]; rfl)]
    rfl
  have e1 : tBl (eBin oEq (eVar 0) (eC (.str ""))) [.va (.str w), .un] = .ok false := by rw [tEqS rfl, decide_eq_false h2]
  have e2 : tBl (eBin oGt (eBi .len [eVar 0]) (eC (.int 39))) [.va (.str w), .un] = .ok (decide (39 < (w.length : Int))) := by
    rw [tBl_ap, eBin_ok (r := .ok (.bl (decide ((39 : Int) < w.length)), .sh)) (a := .int w.length) (k := .sh) (by
      rw [eBi_ap]
      show oBi .len [.str w] = _
      exact if_pos (Nat.le_of_lt hl)) (show eC (.int 39) _ = .ok (.int 39, .sh) from rfl) rfl]
    rfl
  have e3 : eLc (itE false (eVar 0)) (.one 1) tYes (eBin oIn (eVar 1) (eC (.str "01"))) [1] [.va (.str w), .un] = .ok (.lst (((TL.tl w).map fun c => decide (c = 48 ∨ c = 49)).map D.bl), .fr) := by
    unfold eLc
    rw [itE_s (s := w) rfl]
    show ((lcA (.one 1) tYes (eBin oIn (eVar 1) (eC (.str "01"))) (wipeS [.va (.str w), .un] [1]) [] ((TL.tl w).map sgn)).bind fun r => Out.ok (D.lst r, Kd.fr)) = _
    rw [lc_mp sgn (fun c => D.bl (decide (c = 48 ∨ c = 49))) (TL.tl w) [] (by rw [← TL.len_tl]; simpa using hl) (fun c hc => ⟨_, .sh, rfl, by
      show eBin oIn (eVar 1) (eC (.str "01")) [.va (.str w), .va (sgn c)] = _
      rw [eBin_ap]
      exact oIn01 c, rfl⟩)]
    show Out.ok (D.lst ([] ++ (TL.tl w).map fun c => D.bl (decide (c = 48 ∨ c = 49))), Kd.fr) = _
    rw [List.nil_append, List.map_map]
    rfl
  have e4 : G.tNot (tTru (eBi .all [eLc (itE false (eVar 0)) (.one 1) (tYes) (eBin oIn (eVar 1) (eC (.str "01"))) [1]])) [.va (.str w), .un] = .ok (!((TL.tl w).all fun c => decide (c = 48 ∨ c = 49))) := by
    rw [tNot_ap, tTru_ap, eBi_ap, eArgs1 e3]
    show (((oBi .all [.lst (((TL.tl w).map fun c => decide (c = 48 ∨ c = 49)).map D.bl)]).bind fun x => oTru x.1).bind fun b => Out.ok (!b)) = _
    rw [all_bools, List.all_map]
    rfl
  by_cases h3 : ∀ c ∈ TL.tl w, c = 48 ∨ c = 49
  · have e : bw w = some ((TL.tl w).map sv) := (if_neg h1).trans ((if_neg h2).trans (if_pos h3))
    have h4 : ((TL.tl w).all fun c => decide (c = 48 ∨ c = 49)) = true := List.all_eq_true.mpr fun c hc => decide_eq_true (h3 c hc)
    rw [h4] at e4
    rw [e]
    dsimp only
    rw [List.length_map, ← TL.len_tl]
    by_cases h5 : w.length ≤ 39
    · rw [if_pos h5, sSeq_nx (ρ' := [.va (.str w), .un]) (by
        rw [sIf_no (by
          rw [tOr_ap, e1]
          show G.tOr _ _ _ = _
          rw [tOr_ap, e2, decide_eq_false (by omega)]
          exact e4)]
        rfl), sRet_ap, ints_ok rfl h3 (by rw [← TL.len_tl]; exact hl) (.inl rfl)]
      rfl
    · rw [if_neg h5, sSeq_ap, sIf_yes (by
        rw [tOr_ap, e1]
        show G.tOr _ _ _ = _
        rw [tOr_ap, e2, decide_eq_true (by omega)]
        rfl)]
      rfl
  · have e : bw w = none := (if_neg h1).trans ((if_neg h2).trans (if_neg h3))
    have h4 : ((TL.tl w).all fun c => decide (c = 48 ∨ c = 49)) = false := by
      cases q : (TL.tl w).all fun c => decide (c = 48 ∨ c = 49) with
      | false => rfl
      | true => exact absurd (fun c hc => of_decide_eq_true (List.all_eq_true.mp q c hc)) h3
    rw [h4] at e4
    rw [e, sSeq_ap, sIf_yes (by
      rw [tOr_ap, e1]
      show G.tOr _ _ _ = _
      rw [tOr_ap, e2]
      by_cases h5 : (39 : Int) < w.length
      · rw [decide_eq_true h5]
        rfl
      · rw [decide_eq_false h5]
        exact e4)]
    rfl
end GD
namespace GD
open PySem L2 G
abbrev wsD (ws : List Str) : D := .lst (ws.map D.str)
noncomputable def rdW : List Str → Option (Int × List Int × List Int)
  | [a, b, c] => if a = ("0" : Str) ∨ a = ("1" : Str) then (match bw b, bw c with
    | some us, some ls => if us.length ≤ 39 ∧ ls.length ≤ 39 then some (if a = ("0" : Str) then 0 else 1, us, ls) else none
    | _, _ => none) else none
  | _ => none
theorem init_bad {s : Int} {us ls : List Int} (h : ¬ (us.length ≤ 39 ∧ ls.length ≤ 39)) : R_Cloth___init__ [.int s, dI us, dI ls] = .ex 1 [] := by
  show denI 4 20 3 S_Cloth___init__ [.int s, dI us, dI ls] = _
  unfold denI
  have sl : (Slot.me 20 [] :: slots (4 - 1) [D.int s, dI us, dI ls] : Sl) = [.me 20 [], .va (.int s), .va (dI us), .va (dI ls)] := rfl
  rw [sl]
  unfold S_Cloth___init__
  have t : G.tOr (tBl (eBin oGe (eBi .len [eVar 2]) (eC (.int 40)))) (tBl (eBin oGe (eBi .len [eVar 3]) (eC (.int 40)))) [.me 20 [], .va (.int s), .va (dI us), .va (dI ls)] = .ok true := by
    rw [tOr_ap]
    show ((Out.ok (decide ((40 : Int) ≤ ((us.map D.int).length : Nat)))).bind fun b => if b = true then Out.ok true else .ok (decide ((40 : Int) ≤ ((ls.map D.int).length : Nat)))) = _
    rw [List.length_map, List.length_map]
    by_cases g : (40 : Int) ≤ us.length
    · rw [decide_eq_true g]
      rfl
    · rw [decide_eq_false g]
      show Out.ok (decide ((40 : Int) ≤ ls.length)) = _
      rw [decide_eq_true (by omega)]
  rw [sSeq_ap, sIf_yes t]
  rfl
theorem tl0 : TL.tl ("0" : Str) = [48] := by decide +kernel
theorem tl1 : TL.tl ("1" : Str) = [49] := by decide +kernel
theorem one_sign {a : Str} (h : a.length = 1) : ∃ c, a = ⟨#[c]⟩ := by
  rw [TL.len_tl] at h
  match q : TL.tl a, h with
  | [c], _ => exact ⟨c, TL.ext_tl q⟩
theorem is01 (c : Nat) : (c = 48 ∨ c = 49) ↔ ((⟨#[c]⟩ : Str) = ("0" : Str) ∨ (⟨#[c]⟩ : Str) = ("1" : Str)) := by
  constructor
  · rintro (rfl | rfl)
    · exact .inl (TL.ext_tl (by rw [tl0]))
    · exact .inr (TL.ext_tl (by rw [tl1]))
  · rintro (h | h)
    · have := congrArg TL.tl h
      rw [tl0] at this
      exact .inl (List.cons.inj this).1
    · have := congrArg TL.tl h
      rw [tl1] at this
      exact .inr (List.cons.inj this).1
theorem len01 {a : Str} (h : a = ("0" : Str) ∨ a = ("1" : Str)) : a.length = 1 := by
  rcases h with rfl | rfl <;> rfl
/-- int(a), a sign 0 or 1 -/
theorem int01 {a : Str} (h : a = ("0" : Str) ∨ a = ("1" : Str)) : oIntS (.str a) = .ok (.int (if a = ("0" : Str) then 0 else 1), .sh) := by
  obtain ⟨c, rfl⟩ := one_sign (len01 h)
  have hc := (is01 c).mpr h
  rw [oIntS_b hc]
  unfold sv
  by_cases z : c = 48
  · subst z
    rw [if_pos rfl, if_pos (TL.ext_tl (by rw [tl0]))]
  · rw [if_neg z, if_neg (fun g => z (by
      have := congrArg TL.tl g
      rw [tl0] at this
      exact (List.cons.inj this).1))]
section
variable {a b c : Str} {ρ : Sl}
abbrev w3 (a b c : Str) : Sl := [.va (wsD [a, b, c])]
theorem ix3 (h : ρ[0]? = some (.va (wsD [a, b, c]))) : eBin oIx (eVar 0) (eC (.int 0)) ρ = .ok (.str a, .sh) ∧ eBin oIx (eVar 0) (eC (.int 1)) ρ = .ok (.str b, .sh) ∧ eBin oIx (eVar 0) (eC (.int 2)) ρ = .ok (.str c, .sh) := by
  have e : eVar 0 ρ = .ok (wsD [a, b, c], .sh) := by rw [eVar_ap, h]
  exact ⟨eBin_ok e rfl rfl, eBin_ok e rfl rfl, eBin_ok e rfl rfl⟩
theorem test_in (la : a.length < SZ) (h : ρ[0]? = some (.va (wsD [a, b, c]))) : G.tOr (tBl (eBin oNe (eBi .len [eVar 0]) (eC (.int 3)))) (G.tOr (tBl (eBin oNe (eBi .len [eBin oIx (eVar 0) (eC (.int 0))]) (eC (.int 1)))) (tBl (eBin oNi (eBin oIx (eVar 0) (eC (.int 0))) (eC (.str "01"))))) ρ = .ok (!decide (a = ("0" : Str) ∨ a = ("1" : Str))) := by
  obtain ⟨i0, _, _⟩ := ix3 h
  have e : eVar 0 ρ = .ok (wsD [a, b, c], .sh) := by rw [eVar_ap, h]
  have t1 : tBl (eBin oNe (eBi .len [eVar 0]) (eC (.int 3))) ρ = .ok false := by
    rw [tBl_ap, eBin_ok (r := .ok (.bl false, .sh)) (a := .int 3) (k := .sh) (by rw [eBi_ap, eArgs1 e]; rfl) (show eC (.int 3) ρ = .ok (.int 3, .sh) from rfl) rfl]
    rfl
  have t2 : tBl (eBin oNe (eBi .len [eBin oIx (eVar 0) (eC (.int 0))]) (eC (.int 1))) ρ = .ok (!decide ((a.length : Int) = 1)) := by
    rw [tBl_ap, eBin_ok (r := .ok (.bl (!decide ((a.length : Int) = 1)), .sh)) (a := .int a.length) (k := .sh) (by
      rw [eBi_ap, eArgs1 i0]
      show oBi .len [.str a] = _
      exact if_pos (Nat.le_of_lt la)) (show eC (.int 1) ρ = .ok (.int 1, .sh) from rfl) rfl]
    rfl
  rw [tOr_ap, t1]
  show G.tOr _ _ ρ = _
  rw [tOr_ap, t2]
  by_cases l1 : a.length = 1
  · obtain ⟨d, rfl⟩ := one_sign l1
    rw [decide_eq_true (by omega)]
    show tBl _ ρ = _
    rw [tBl_ap, eBin_ok i0 (show eC (.str "01") ρ = .ok (.str "01", .sh) from rfl) (oNi01 d)]
    show Out.ok _ = _
    rw [decide_eq_decide.mpr (is01 d)]
  · rw [decide_eq_false (by omega), decide_eq_false (fun z => l1 (len01 z))]
    rfl
theorem cloth_in3 (la : a.length < SZ) (lb : b.length < SZ) (lc : c.length < SZ) : (∀ s us ls, rdW [a, b, c] = some (s, us, ls) → R_cloth_in [wsD [a, b, c]] = .ok (cl s us ls, true) ∧ Plan s us ls) ∧ (rdW [a, b, c] = none → ∃ n, (n = 7 ∨ n = 1) ∧ R_cloth_in [wsD [a, b, c]] = .ex n []) := by
  have h : (w3 a b c)[0]? = some (.va (wsD [a, b, c])) := rfl
  obtain ⟨i0, i1, i2⟩ := ix3 h
  have t := test_in (b := b) (c := c) la h
  have e0 : R_cloth_in [wsD [a, b, c]] = denF 1 S_cloth_in [wsD [a, b, c]] := rfl
  rw [e0]
  unfold denF
  rw [show slots 1 [wsD [a, b, c]] = w3 a b c from rfl]
  unfold S_cloth_in
  by_cases h1 : a = ("0" : Str) ∨ a = ("1" : Str)
  · rw [decide_eq_true h1] at t
    rw [sSeq_nx (ρ' := w3 a b c) (by rw [sIf_no t]; rfl), sRet_ap]
    have ei : eUn oIntS (eBin oIx (eVar 0) (eC (.int 0))) (w3 a b c) = .ok (.int (if a = ("0" : Str) then 0 else 1), .sh) := by
      rw [eUn_ap, i0]
      exact int01 h1
    have rb := bits_in_ok lb
    have rc := bits_in_ok lc
    have hs : (if a = ("0" : Str) then (0 : Int) else 1) = 0 ∨ (if a = ("0" : Str) then (0 : Int) else 1) = 1 := by split <;> omega
    have e1 : rdW [a, b, c] = (match bw b, bw c with
      | some us, some ls => if us.length ≤ 39 ∧ ls.length ≤ 39 then some (if a = ("0" : Str) then (0 : Int) else 1, us, ls) else none
      | _, _ => none) := if_pos h1
    rw [e1]
    cases qb : bw b with
    | none =>
      rw [qb] at rb
      refine ⟨fun s us ls z => (nomatch z), fun _ => ⟨7, .inl rfl, ?_⟩⟩
      have eb : eFn R_bits_in [eBin oIx (eVar 0) (eC (.int 1))] (w3 a b c) = .ex 7 [] := eFn_ex (eArgs1 i1) rfl rb
      have ea : eFn R_Cloth___init__ [eUn oIntS (eBin oIx (eVar 0) (eC (.int 0))), eFn R_bits_in [eBin oIx (eVar 0) (eC (.int 1))], eFn R_bits_in [eBin oIx (eVar 0) (eC (.int 2))]] (w3 a b c) = .ex 7 [] := by
        rw [eFn_ap, eArgs_cons, ei]
        show ((eArgs _ (w3 a b c)).bind _).bind _ = _
        rw [eArgs_cons, eb]
        rfl
      rw [ea]
      rfl
    | some us =>
      rw [qb] at rb
      have eb : eFn R_bits_in [eBin oIx (eVar 0) (eC (.int 1))] (w3 a b c) = .ok (dI us, .fr) := eFn_ok (eArgs1 i1) rfl rb
      cases qc : bw c with
      | none =>
        rw [qc] at rc
        refine ⟨fun s us ls z => (nomatch z), fun _ => ⟨7, .inl rfl, ?_⟩⟩
        have ec : eFn R_bits_in [eBin oIx (eVar 0) (eC (.int 2))] (w3 a b c) = .ex 7 [] := eFn_ex (eArgs1 i2) rfl rc
        have ea : eFn R_Cloth___init__ [eUn oIntS (eBin oIx (eVar 0) (eC (.int 0))), eFn R_bits_in [eBin oIx (eVar 0) (eC (.int 1))], eFn R_bits_in [eBin oIx (eVar 0) (eC (.int 2))]] (w3 a b c) = .ex 7 [] := by
          rw [eFn_ap, eArgs_cons, ei]
          show ((eArgs _ (w3 a b c)).bind _).bind _ = _
          rw [eArgs_cons, eb]
          show (((eArgs _ (w3 a b c)).bind _).bind _).bind _ = _
          rw [eArgs_cons, ec]
          rfl
        rw [ea]
        rfl
      | some ls =>
        rw [qc] at rc
        have ec : eFn R_bits_in [eBin oIx (eVar 0) (eC (.int 2))] (w3 a b c) = .ok (dI ls, .fr) := eFn_ok (eArgs1 i2) rfl rc
        have eA : eArgs [eUn oIntS (eBin oIx (eVar 0) (eC (.int 0))), eFn R_bits_in [eBin oIx (eVar 0) (eC (.int 1))], eFn R_bits_in [eBin oIx (eVar 0) (eC (.int 2))]] (w3 a b c) = .ok [(.int (if a = ("0" : Str) then 0 else 1), .sh), (dI us, .fr), (dI ls, .fr)] := by
          rw [eArgs_cons, ei]
          show (eArgs _ (w3 a b c)).bind _ = _
          rw [eArgs2 eb ec]
          rfl
        dsimp only
        by_cases h2 : us.length ≤ 39 ∧ ls.length ≤ 39
        · rw [if_pos h2]
          have p : Plan (if a = ("0" : Str) then 0 else 1) us ls := ⟨hs, bw_bits qb, bw_bits qc, h2.1, h2.2⟩
          refine ⟨fun s us' ls' z => ?_, fun z => nomatch z⟩
          cases z
          rw [eFn_ok eA rfl (init_cl p)]
          exact ⟨rfl, p⟩
        · rw [if_neg h2]
          refine ⟨fun s us ls z => (nomatch z), fun _ => ⟨1, .inr rfl, ?_⟩⟩
          rw [eFn_ex eA rfl (init_bad h2)]
          rfl
  · rw [decide_eq_false h1] at t
    have e1 : rdW [a, b, c] = none := if_neg h1
    rw [e1]
    refine ⟨fun s us ls z => (nomatch z), fun _ => ⟨7, .inl rfl, ?_⟩⟩
    rw [sSeq_ap, sIf_yes t]
    rfl
theorem oNi_t {a : Str} : oNi (.str a) (.tup [.str "0", .str "1"]) = .ok (.bl (!decide (a = ("0" : Str) ∨ a = ("1" : Str))), .sh) := by
  have e : inB (.str a) (.tup [.str "0", .str "1"]) = some (eqV (.str "0") (.str a) || (eqV (.str "1") (.str a) || false)) := rfl
  have e1 : ∀ z : Str, eqV (.str z) (.str a) = decide (a = z) := fun z => by
    show (z == a) = _
    by_cases q : a = z
    · subst q
      rw [decide_eq_true rfl]
      exact beq_self_eq_true a
    · rw [decide_eq_false q]
      exact beq_eq_false_iff_ne.mpr fun g => q g.symm
  unfold oNi
  rw [e, e1, e1]
  show Out.ok (D.bl (!(decide (a = ("0" : Str)) || (decide (a = ("1" : Str)) || false))), Kd.sh) = _
  rw [Bool.or_false, Bool.decide_or]
theorem cloth_words3 (lb : b.length < SZ) (lc : c.length < SZ) : R__law_cloth_words [wsD [a, b, c]] = match rdW [a, b, c] with
    | some (s, us, ls) => .ok (planD s us ls, false)
    | none => .ok (.non, false) := by
  have e0 : R__law_cloth_words [wsD [a, b, c]] = denF 3 S__law_cloth_words [wsD [a, b, c]] := rfl
  rw [e0]
  unfold denF
  rw [show slots 3 [wsD [a, b, c]] = [.va (wsD [a, b, c]), .un, .un] from rfl]
  unfold S__law_cloth_words
  have t : G.tOr (tBl (eBin oNe (eBi .len [eVar 0]) (eC (.int 3)))) (tBl (eBin oNi (eBin oIx (eVar 0) (eC (.int 0))) (eTup [eC (.str "0"), eC (.str "1")]))) [.va (wsD [a, b, c]), .un, .un] = .ok (!decide (a = ("0" : Str) ∨ a = ("1" : Str))) := by
    have e : eVar 0 [.va (wsD [a, b, c]), .un, .un] = .ok (wsD [a, b, c], .sh) := rfl
    have t1 : tBl (eBin oNe (eBi .len [eVar 0]) (eC (.int 3))) [.va (wsD [a, b, c]), .un, .un] = .ok false := by
      rw [tBl_ap, eBin_ok (r := .ok (.bl false, .sh)) (a := .int 3) (k := .sh) (by rw [eBi_ap, eArgs1 e]; rfl) (show eC (.int 3) _ = .ok (.int 3, .sh) from rfl) rfl]
      rfl
    rw [tOr_ap, t1]
    show tBl (eBin oNi (eBin oIx (eVar 0) (eC (.int 0))) (eTup [eC (.str "0"), eC (.str "1")])) [.va (wsD [a, b, c]), .un, .un] = .ok (!decide (a = ("0" : Str) ∨ a = ("1" : Str)))
    rw [tBl_ap, eBin_ok (ix3 rfl).1 (eTup2 (show eC (.str "0") _ = .ok (.str "0", .sh) from rfl) (show eC (.str "1") _ = .ok (.str "1", .sh) from rfl) rfl rfl) oNi_t]
    rfl
  by_cases h1 : a = ("0" : Str) ∨ a = ("1" : Str)
  · rw [decide_eq_true h1] at t
    have e1 : rdW [a, b, c] = (match bw b, bw c with
      | some us, some ls => if us.length ≤ 39 ∧ ls.length ≤ 39 then some (if a = ("0" : Str) then (0 : Int) else 1, us, ls) else none
      | _, _ => none) := if_pos h1
    rw [e1, sSeq_nx (ρ' := [.va (wsD [a, b, c]), .un, .un]) (by rw [sIf_no t]; rfl)]
    have wb : ∃ x, ∃ bb, R__law_bits_word [.str b] = .ok (x, bb) ∧ ((x = .non ∧ ∀ us, bw b = some us → ¬ us.length ≤ 39) ∨ ∃ us, bw b = some us ∧ us.length ≤ 39 ∧ x = dI us) := by
      have r := bits_word_ok lb
      cases q : bw b with
      | none => rw [q] at r; exact ⟨_, _, r, .inl ⟨rfl, fun us z => nomatch z⟩⟩
      | some us =>
        rw [q] at r
        dsimp only at r
        by_cases g : us.length ≤ 39
        · rw [if_pos g] at r; exact ⟨_, _, r, .inr ⟨us, rfl, g, rfl⟩⟩
        · rw [if_neg g] at r; exact ⟨_, _, r, .inl ⟨rfl, fun us' z => by cases z; exact g⟩⟩
    have wc : ∃ x, ∃ bb, R__law_bits_word [.str c] = .ok (x, bb) ∧ ((x = .non ∧ ∀ us, bw c = some us → ¬ us.length ≤ 39) ∨ ∃ us, bw c = some us ∧ us.length ≤ 39 ∧ x = dI us) := by
      have r := bits_word_ok lc
      cases q : bw c with
      | none => rw [q] at r; exact ⟨_, _, r, .inl ⟨rfl, fun us z => nomatch z⟩⟩
      | some us =>
        rw [q] at r
        dsimp only at r
        by_cases g : us.length ≤ 39
        · rw [if_pos g] at r; exact ⟨_, _, r, .inr ⟨us, rfl, g, rfl⟩⟩
        · rw [if_neg g] at r; exact ⟨_, _, r, .inl ⟨rfl, fun us' z => by cases z; exact g⟩⟩
    obtain ⟨x, bx, rx, hx⟩ := wb
    obtain ⟨y, by', ry, hy⟩ := wc
    have s1 : G.sAsg false 1 (eFn R__law_bits_word [eBin oIx (eVar 0) (eC (.int 1))]) [.va (wsD [a, b, c]), .un, .un] = .nx [.va (wsD [a, b, c]), .va x, .un] := by
      rw [sAsg_ap, eFn_ok (eArgs1 (ix3 rfl).2.1) rfl rx]
      cases bx <;> rfl
    have s2 : G.sAsg false 2 (eFn R__law_bits_word [eBin oIx (eVar 0) (eC (.int 2))]) [.va (wsD [a, b, c]), .va x, .un] = .nx [.va (wsD [a, b, c]), .va x, .va y] := by
      rw [sAsg_ap, eFn_ok (eArgs1 (ix3 rfl).2.2) rfl ry]
      cases by' <;> rfl
    rw [sSeq_nx s1, sSeq_nx s2]
    have tn : ∀ x y : D, G.tOr (tBl (eUn (fun d => shr (.bl (isNon d))) (eVar 1))) (tBl (eUn (fun d => shr (.bl (isNon d))) (eVar 2))) [.va (wsD [a, b, c]), .va x, .va y] = .ok (isNon x || isNon y) := fun x y => by
      rw [tOr_ap]
      show ((Out.ok (isNon x)).bind fun b => if b = true then Out.ok true else .ok (isNon y)) = _
      cases isNon x <;> rfl
    have bad : isNon x = true ∨ isNon y = true → (match bw b, bw c with
      | some us, some ls => if us.length ≤ 39 ∧ ls.length ≤ 39 then some (if a = ("0" : Str) then (0 : Int) else 1, us, ls) else none
      | _, _ => none) = none := fun g => by
      rcases hx with ⟨rfl, hx⟩ | ⟨us, ub, ul, rfl⟩
      · cases q : bw b with
        | none => rfl
        | some us =>
          cases q2 : bw c with
          | none => rfl
          | some ls => exact if_neg fun z => hx us q z.1
      · rcases hy with ⟨rfl, hy⟩ | ⟨ls, vb, vl, rfl⟩
        · cases q2 : bw c with
          | none => rw [ub]
          | some ls => rw [ub]; exact if_neg fun z => hy ls q2 z.2
        · rcases g with g | g <;> cases g
    have tt := tn x y
    by_cases g : isNon x = true ∨ isNon y = true
    · rw [bad g, sSeq_ap, sIf_yes (by rw [tt]; rcases g with g | g <;> rw [g] <;> simp)]
      rfl
    · have gx : isNon x = false := by simpa using fun z => g (.inl z)
      have gy : isNon y = false := by simpa using fun z => g (.inr z)
      rcases hx with ⟨rfl, hx⟩ | ⟨us, ub, ul, rfl⟩
      · cases gx
      rcases hy with ⟨rfl, hy⟩ | ⟨ls, vb, vl, rfl⟩
      · cases gy
      rw [sSeq_nx (ρ' := [.va (wsD [a, b, c]), .va (dI us), .va (dI ls)]) (by rw [sIf_no (by rw [tt, gx, gy]; rfl)]; rfl), ub, vb, sRet_ap]
      dsimp only
      rw [if_pos ⟨ul, vl⟩, eTup3 (a := .int (if a = ("0" : Str) then 0 else 1)) (k := .sh) (by
        rw [eUn_ap, (ix3 (b := b) (c := c) rfl).1]
        exact int01 h1) (show eVar 1 _ = .ok (dI us, .sh) from rfl) (show eVar 2 _ = .ok (dI ls, .sh) from rfl) rfl rfl rfl]
      rfl
  · rw [decide_eq_false h1] at t
    have e1 : rdW [a, b, c] = none := if_neg h1
    rw [e1, sSeq_ap, sIf_yes t]
    rfl
end
/-- not three words -/
theorem rdW_none {ws : List Str} (h : ws.length ≠ 3) : rdW ws = none := by
  match ws, h with
  | [], _ => rfl
  | [_], _ => rfl
  | [_, _], _ => rfl
  | [_, _, _], h => exact absurd rfl h
  | _ :: _ :: _ :: _ :: _, _ => rfl
theorem len_ne {ws : List Str} {ρ : Sl} (h : ws.length ≠ 3) (h0 : ρ[0]? = some (.va (wsD ws))) : tBl (eBin oNe (eBi .len [eVar 0]) (eC (.int 3))) ρ = .ok true := by
  rw [tBl_ap, eBin_ok (r := .ok (.bl true, .sh)) (a := .int ws.length) (k := .sh) (by
    rw [eBi_ap, eArgs1 (x := (wsD ws, .sh)) (by rw [eVar_ap, h0])]
    show oBi .len [.lst (ws.map D.str)] = _
    rw [oBi_lenL, List.length_map]) (show eC (.int 3) ρ = .ok (.int 3, .sh) from rfl) (by rw [oNe_ii, decide_eq_false (by omega)]; rfl)]
  rfl
theorem cloth_in_ok {ws : List Str} (hl : ∀ w ∈ ws, w.length < SZ) : (∀ s us ls, rdW ws = some (s, us, ls) → R_cloth_in [wsD ws] = .ok (cl s us ls, true) ∧ Plan s us ls) ∧ (rdW ws = none → ∃ n, (n = 7 ∨ n = 1) ∧ R_cloth_in [wsD ws] = .ex n []) := by
  by_cases h : ws.length = 3
  · match ws, h with
    | [a, b, c], _ => exact cloth_in3 (hl a (by simp)) (hl b (by simp)) (hl c (by simp))
  · rw [rdW_none h]
    refine ⟨fun s us ls z => (nomatch z), fun _ => ⟨7, .inl rfl, ?_⟩⟩
    show denF 1 S_cloth_in [wsD ws] = _
    unfold denF
    rw [show slots 1 [wsD ws] = [.va (wsD ws)] from rfl]
    unfold S_cloth_in
    rw [sSeq_ap, sIf_yes (by rw [tOr_ap, len_ne h rfl]; rfl)]
    rfl
theorem cloth_words_ok {ws : List Str} (hl : ∀ w ∈ ws, w.length < SZ) : R__law_cloth_words [wsD ws] = match rdW ws with
    | some (s, us, ls) => .ok (planD s us ls, false)
    | none => .ok (.non, false) := by
  by_cases h : ws.length = 3
  · match ws, h with
    | [a, b, c], _ => exact cloth_words3 (hl b (by simp)) (hl c (by simp))
  · rw [rdW_none h]
    show denF 3 S__law_cloth_words [wsD ws] = _
    unfold denF
    rw [show slots 3 [wsD ws] = [.va (wsD ws), .un, .un] from rfl]
    unfold S__law_cloth_words
    rw [sSeq_ap, sIf_yes (by rw [tOr_ap, len_ne h rfl]; rfl)]
    rfl
theorem spl_len (S : List Nat) : ∀ (l : List Nat) (k : Nat) (acc p : List Nat), p ∈ TL.spl S k acc l → p.length ≤ acc.length + l.length
  | [], k, acc, p, h => by
    rw [TL.spl_nil] at h
    rw [List.mem_singleton.mp h]
    omega
  | c :: r, 0, acc, p, h => by
    by_cases q : TL.pre S (c :: r) = true
    · rw [TL.spl_hit q] at h
      rcases List.mem_cons.mp h with rfl | h
      · omega
      · have := spl_len S r _ [] p h
        rw [List.length_cons]
        simp at this
        omega
    · rw [TL.spl_miss (by simpa using q)] at h
      have := spl_len S r _ _ p h
      rw [List.length_append] at this
      simp at this ⊢
      omega
  | c :: r, k + 1, acc, p, h => by
    have := spl_len S r k acc p h
    rw [List.length_cons]
    omega
theorem split_mem {t : Str} {c : Nat} (hc : c < 256) {w : Str} (h : w ∈ Txt.split t ⟨#[c]⟩) : w.length ≤ t.length := by
  have e := TL.split_spl t ⟨#[c]⟩ (by simp [TL.tl]) (TL.kind_ok (by simp; exact hc))
  have hm : TL.tl w ∈ (Txt.split t ⟨#[c]⟩).map TL.tl := List.mem_map.mpr ⟨w, h, rfl⟩
  rw [e] at hm
  have := spl_len _ _ _ _ _ hm
  rw [TL.len_tl, TL.len_tl t]
  simpa using this
theorem spl_ne (S : List Nat) : ∀ (l : List Nat) (k : Nat) (acc : List Nat), TL.spl S k acc l ≠ []
  | [], k, acc => by
    rw [TL.spl_nil]
    simp
  | c :: r, 0, acc => by
    by_cases q : TL.pre S (c :: r) = true
    · rw [TL.spl_hit q]
      simp
    · rw [TL.spl_miss (by simpa using q)]
      exact spl_ne S r _ _
  | c :: r, k + 1, acc => spl_ne S r k acc
theorem split_ne {t : Str} {c : Nat} (hc : c < 256) : Txt.split t ⟨#[c]⟩ ≠ [] := fun z => by
  have e := TL.split_spl t ⟨#[c]⟩ (by simp [TL.tl]) (TL.kind_ok (by simp; exact hc))
  rw [z] at e
  exact spl_ne _ _ _ _ e.symm
theorem blank_eq : (" " : Str) = ⟨#[32]⟩ := by decide +kernel
theorem line_eq : ("\n" : Str) = ⟨#[10]⟩ := by decide +kernel
theorem split_ok {f g : ES} {ρ : Sl} {t y : Str} {k k' : Kd} {c : Nat} (hf : f ρ = .ok (.str t, k)) (hg : g ρ = .ok (.str y, k')) (hy : y = ⟨#[c]⟩) (hl : t.length + 2 ≤ SZ) : eMS oSplit f g ρ = .ok (wsD (Txt.split t y), .fr) := by
  unfold eMS
  rw [hf]
  show ((g ρ).bind fun y => oSplit t y.1) = _
  rw [hg]
  show (if (y.length == 0) = false ∧ t.length + 2 ≤ SZ then Out.ok (D.lst ((Txt.split t y).map D.str), Kd.fr) else .no) = _
  rw [if_pos ⟨by rw [hy]; rfl, hl⟩]
noncomputable def rd (t : Str) : Option (Int × List Int × List Int) := rdW (Txt.split t (" " : Str))
/-- what is due: the plan, or how it is refused -/
noncomputable def dueT (t : Str) : D := match rd t with
  | some (s, us, ls) => planD s us ls
  | none => .tup [.bl true, .bl false, .bl true]
section
variable {t : Str} (hl : t.length + 2 ≤ SZ)
include hl
theorem words_small : ∀ w ∈ Txt.split t (" " : Str), w.length < SZ := fun w h => by
  rw [blank_eq] at h
  have := split_mem (by decide) h
  omega
theorem read_cloth_ok : (∀ s us ls, rd t = some (s, us, ls) → R_read_cloth [.str t] = .ok (cl s us ls, true) ∧ Plan s us ls) ∧ (rd t = none → R_read_cloth [.str t] = .ex 7 []) := by
  have ci := cloth_in_ok (words_small hl)
  have sp : eMS oSplit (eVar 0) (eC (.str " ")) [.va (.str t)] = .ok (wsD (Txt.split t (" " : Str)), .fr) := split_ok rfl rfl blank_eq hl
  have e0 : R_read_cloth [.str t] = denF 1 S_read_cloth [.str t] := rfl
  rw [e0]
  unfold denF
  rw [show slots 1 [.str t] = [.va (.str t)] from rfl]
  unfold S_read_cloth sTryR rd
  refine ⟨fun s us ls h => ?_, fun h => ?_⟩
  · obtain ⟨r, p⟩ := ci.1 s us ls h
    rw [sRet_ap, eFn_ok (eArgs1 sp) rfl r]
    exact ⟨rfl, p⟩
  · obtain ⟨n, hn, r⟩ := ci.2 h
    rw [sRet_ap, eFn_ex (eArgs1 sp) rfl r]
    rcases hn with rfl | rfl <;> rfl
theorem law_read_ok : R__law_read [.str t] = .ok (dueT t, false) := by
  have rc := read_cloth_ok hl
  show denF 3 S__law_read [.str t] = _
  unfold denF
  rw [show slots 3 [.str t] = [.va (.str t), .un, .un] from rfl]
  unfold S__law_read
  cases q : rd t with
  | some z =>
    obtain ⟨s, us, ls⟩ := z
    obtain ⟨r, p⟩ := rc.1 s us ls q
    have e : dueT t = planD s us ls := by unfold dueT; rw [q]
    have s1 : G.sAsg false 1 (eFn R__law_told [eFn R_read_cloth [eVar 0]]) [.va (.str t), .un, .un] = .nx [.va (.str t), .va (planD s us ls), .un] := by
      rw [sAsg_ap, eFn_ok (eArgs1 (eFn_ok (eArgs1 (x := (.str t, .sh)) rfl) rfl r)) rfl (told_cl s us ls)]
      rfl
    rw [e, sSeq_nx (ρ' := [.va (.str t), .va (planD s us ls), .un]) (by unfold sTryC sTry; rw [s1])]
    rfl
  | none =>
    have r := rc.2 q
    have e : dueT t = .tup [.bl true, .bl false, .bl true] := by unfold dueT; rw [q]
    have s1 : G.sAsg false 1 (eFn R__law_told [eFn R_read_cloth [eVar 0]]) [.va (.str t), .un, .un] = .ex 7 [] [.va (.str t), .un, .un] := by
      rw [sAsg_ap, eFn_ap, eArgs_cons, eFn_ex (eArgs1 (x := (.str t, .sh)) rfl) rfl r]
      rfl
    rw [e, sSeq_nx (ρ' := [.va (.str t), .va (.tup [.bl true, .bl false, .bl true]), .un]) (by
      unfold sTryC sTry
      rw [s1]
      rfl)]
    rfl
theorem law_due_ok : R__law_due_read [.str t] = .ok (dueT t, false) := by
  have cw := cloth_words_ok (words_small hl)
  have sp : eMS oSplit (eVar 0) (eC (.str " ")) [.va (.str t), .un] = .ok (wsD (Txt.split t (" " : Str)), .fr) := split_ok rfl rfl blank_eq hl
  show denF 2 S__law_due_read [.str t] = _
  unfold denF
  rw [show slots 2 [.str t] = [.va (.str t), .un] from rfl]
  unfold S__law_due_read
  have e : rd t = rdW (Txt.split t (" " : Str)) := rfl
  rw [← e] at cw
  unfold dueT
  cases q : rd t with
  | some z =>
    obtain ⟨s, us, ls⟩ := z
    rw [q] at cw
    rw [sSeq_nx (ρ' := [.va (.str t), .va (planD s us ls)]) (by rw [sAsg_ap, eFn_ok (eArgs1 sp) rfl cw]; rfl)]
    rfl
  | none =>
    rw [q] at cw
    rw [sSeq_nx (ρ' := [.va (.str t), .va .non]) (by rw [sAsg_ap, eFn_ok (eArgs1 sp) rfl cw]; rfl)]
    rfl
theorem nice_due : Nice 6 (dueT t) := by
  unfold dueT
  cases q : rd t with
  | some z =>
    obtain ⟨s, us, ls⟩ := z
    exact nice_plan (((read_cloth_ok hl).1 s us ls q).2)
  | none =>
    refine .tup (show 3 < SZ by decide) fun x hx => ?_
    simp only [List.mem_cons, List.not_mem_nil, or_false] at hx
    rcases hx with rfl | rfl | rfl <;> exact .bl _ _
end
end GD
namespace GD
open PySem L2 G
/-- a bit's sign -/
def bs (b : Int) : Str := if b = 0 then "0" else "1"
def bt (us : List Int) : Str := if us = [] then "-" else Txt.join "" (us.map bs)
theorem str0 : (PySem.Str.ofString (toString (0 : Int))) = ("0" : Str) := by decide +kernel
theorem str1 : (PySem.Str.ofString (toString (1 : Int))) = ("1" : Str) := by decide +kernel
theorem oBi_str {b : Int} (h : b = 0 ∨ b = 1) : oBi .str [.int b] = .ok (.str (bs b), .sh) := by
  rcases h with rfl | rfl
  · show (if (0 : Int).natAbs.log2 < 1920 then shr (D.str (PySem.Str.ofString (toString (0 : Int)))) else .no) = _
    rw [if_pos (by decide +kernel), str0]
    rfl
  · show (if (1 : Int).natAbs.log2 < 1920 then shr (D.str (PySem.Str.ofString (toString (1 : Int)))) else .no) = _
    rw [if_pos (by decide +kernel), str1]
    rfl
theorem tl_bs (b : Int) : TL.tl (bs b) = [if b = 0 then 48 else 49] := by
  unfold bs
  by_cases h : b = 0
  · rw [if_pos h, if_pos h, tl0]
  · rw [if_neg h, if_neg h, tl1]
theorem len_bs (b : Int) : (bs b).length = 1 := by rw [TL.len_tl, tl_bs]; rfl
theorem sum_ones (us : List Int) : ((us.map bs).map fun z : Str => z.length).sum = us.length := by
  induction us with
  | nil => rfl
  | cons b us ih => rw [List.map_cons, List.map_cons, List.sum_cons, ih, len_bs, List.length_cons]; omega
theorem joinL_nil : ∀ ps : List (List Nat), TL.joinL [] ps = ps.flatten
  | [] => rfl
  | [p] => by simp [TL.joinL]
  | p :: q :: r => by
    show p ++ ([] ++ TL.joinL [] (q :: r)) = _
    rw [joinL_nil (q :: r)]
    simp
theorem tl_bt {us : List Int} (h : us ≠ []) : TL.tl (bt us) = us.map fun b => if b = 0 then 48 else 49 := by
  unfold bt
  rw [if_neg h, TL.join_eq, TL.tl_join, List.map_map]
  have e : TL.tl ("" : Str) = [] := by decide +kernel
  rw [e, joinL_nil]
  clear h
  induction us with
  | nil => rfl
  | cons b us ih =>
    rw [List.map_cons, List.flatten_cons, ih, List.map_cons]
    show TL.tl (bs b) ++ _ = _
    rw [tl_bs]
    rfl
theorem tlm : TL.tl ("-" : Str) = [45] := by decide +kernel
theorem tle : TL.tl ("" : Str) = [] := by decide +kernel
theorem len_bt (us : List Int) : (bt us).length ≤ us.length + 1 := by
  by_cases h : us = []
  · subst h
    show ("-" : Str).length ≤ 1
    decide +kernel
  · rw [TL.len_tl, tl_bt h, List.length_map]
    omega
theorem bw_bt {us : List Int} (h : Bits us) : bw (bt us) = some us := by
  unfold bw
  by_cases hn : us = []
  · subst hn
    exact if_pos rfl
  have e := tl_bt hn
  have ne1 : bt us ≠ ("-" : Str) := fun z => by
    rw [z, tlm] at e
    cases us with
    | nil => exact hn rfl
    | cons b us =>
      have : 45 = (if b = 0 then 48 else 49) := (List.cons.inj e).1
      split at this <;> omega
  have ne2 : bt us ≠ ("" : Str) := fun z => by
    rw [z, tle] at e
    cases us with
    | nil => exact hn rfl
    | cons b us => cases e
  rw [if_neg ne1, if_neg ne2, e, if_pos (by
    intro c hc
    obtain ⟨b, _, rfl⟩ := List.mem_map.mp hc
    by_cases q : b = 0
    · rw [if_pos q]; exact .inl rfl
    · rw [if_neg q]; exact .inr rfl), List.map_map]
  congr 1
  refine Eq.trans (List.map_congr_left fun b hb => ?_) (List.map_id us)
  show sv (if b = 0 then 48 else 49) = b
  rcases h b hb with rfl | rfl <;> rfl
theorem join_ok {f g : ES} {ρ : Sl} {y : Str} {ys : List Str} {k k' : Kd} (hf : f ρ = .ok (.str y, k)) (hg : g ρ = .ok (wsD ys, k')) (hl : (ys.map fun z : Str => z.length).sum + ys.length * y.length ≤ 16777216) : eMS oJoin f g ρ = .ok (.str (Txt.join y ys), .sh) := by
  unfold eMS
  rw [hf]
  show ((g ρ).bind fun z => oJoin y z.1) = _
  rw [hg]
  show (match strsOf (ys.map D.str) with
    | some ys => if (ys.map fun z : Str => z.length).sum + ys.length * y.length ≤ 16777216 then shr (D.str (Txt.join y ys)) else .no
    | none => .no) = _
  rw [strsOf_map]
  exact if_pos hl
theorem join_len (y : Str) : ∀ ys : List Str, (Txt.join y ys).length ≤ (ys.map fun z : Str => z.length).sum + ys.length * y.length := fun ys => by
  have key : ∀ (S : List Nat) (ps : List (List Nat)), (TL.joinL S ps).length ≤ (ps.map fun z : List Nat => z.length).sum + ps.length * S.length := by
    intro S ps
    induction ps with
    | nil => simp [TL.joinL]
    | cons p r ih =>
      cases r with
      | nil => simp [TL.joinL]
      | cons q r =>
        show (p ++ (S ++ TL.joinL S (q :: r))).length ≤ _
        rw [List.length_append, List.length_append, List.map_cons, List.sum_cons, List.length_cons, Nat.succ_mul]
        omega
  have h := key (TL.tl y) (ys.map TL.tl)
  rw [TL.len_tl, TL.join_eq, TL.tl_join]
  refine Nat.le_trans h ?_
  rw [List.map_map, List.length_map, ← TL.len_tl]
  refine Nat.le_of_eq ?_
  congr 2
/-- ''.join([str(bit) for bit in bits]) -/
theorem join_bits {i j : Nat} {us : List Int} {ρ : Sl} (h : Bits us) (hl : us.length ≤ 1000) (hi : ρ[i]? = some (.va (dI us))) (hj : j < ρ.length) (ne : i ≠ j) : eMS oJoin (eC (.str "")) (eLc (itE false (eVar i)) (.one j) (tYes) (eBi .str [eVar j]) [j]) ρ = .ok (.str (Txt.join "" (us.map bs)), .sh) := by
  refine join_ok (ys := us.map bs) (k := .sh) (k' := .fr) rfl ?_ ?_
  · unfold eLc
    have e : itE false (eVar i) ρ = .ok (us.map D.int) := by
      rw [itE_ap, eVar_ap, hi]
      rfl
    rw [e]
    show ((lcA (.one j) tYes (eBi .str [eVar j]) (wipeS ρ [j]) [] (us.map D.int)).bind fun r => Out.ok (D.lst r, Kd.fr)) = _
    rw [lc_mp D.int (fun b => D.str (bs b)) us [] (by unfold SZ; simp; omega) (fun b hb => ⟨(wipeS ρ [j]).set j (.va (.int b)), .sh, by
      rw [tgSet_one, if_pos (by simpa [wipeS] using hj)], by
      rw [eBi_ap, eArgs1 (x := (.int b, .sh)) (by
        rw [eVar_ap, List.getElem?_set_self (by simpa [wipeS] using hj)])]
      exact oBi_str (h b hb), rfl⟩)]
    show Out.ok (D.lst ([] ++ us.map fun b => D.str (bs b)), Kd.fr) = _
    rw [List.nil_append, wsD, List.map_map]
    rfl
  · rw [sum_ones]
    show us.length + (us.map bs).length * ("" : Str).length ≤ _
    have : ("" : Str).length = 0 := by decide +kernel
    rw [this]
    omega
theorem tEqL {i : Nat} {ρ : Sl} {us : List Int} (h : ρ[i]? = some (.va (dI us))) : tBl (eBin oEq (eVar i) (eLst [])) ρ = .ok (decide (us = [])) := by
  rw [tBl_ap, eBin_ok (r := .ok (.bl (decide (us = [])), .sh)) (show eVar i ρ = .ok (dI us, .sh) by rw [eVar_ap, h]) (show eLst [] ρ = .ok (dI [], .fr) from rfl) (eq_dI us [])]
  rfl
theorem bits_text_ok {us : List Int} (h : Bits us) (hl : us.length ≤ 1000) : R_bits_text [dI us] = .ok (.str (bt us), false) := by
  show denF 2 S_bits_text [dI us] = _
  unfold denF
  rw [show slots 2 [dI us] = [.va (dI us), .un] from rfl]
  unfold S_bits_text bt
  by_cases e : us = []
  · rw [sSeq_ap, sIf_yes (by rw [tEqL rfl, decide_eq_true e]), if_pos e]
    rfl
  · rw [sSeq_nx (ρ' := [.va (dI us), .un]) (by rw [sIf_no (by rw [tEqL rfl, decide_eq_false e])]; rfl), sRet_ap, join_bits h hl rfl (by simp) (by decide), if_neg e]
    rfl
def textT (s : Int) (us ls : List Int) : Str := Txt.join " " [bs s, bt us, bt ls]
theorem textT_eq (s : Int) (us ls : List Int) : bs s ++ (" " : Str) ++ bt us ++ (" " : Str) ++ bt ls = textT s us ls := by
  unfold textT
  rw [TL.join_eq]
  show _ = bs s ++ (" " : Str) ++ (bt us ++ (" " : Str) ++ bt ls)
  refine TL.ext_tl ?_
  simp only [TL.tl_append, List.append_assoc]
theorem textT_len (s : Int) (us ls : List Int) : (textT s us ls).length ≤ us.length + ls.length + 6 := by
  have h := join_len (" " : Str) [bs s, bt us, bt ls]
  have e : (" " : Str).length = 1 := by decide +kernel
  have h1 := len_bt us
  have h2 := len_bt ls
  have h3 := len_bs s
  unfold textT
  simp only [List.map_cons, List.map_nil, List.sum_cons, List.sum_nil, List.length_cons, List.length_nil, e] at h
  omega
theorem free_bt (us : List Int) : 32 ∉ TL.tl (bt us) := by
  by_cases h : us = []
  · subst h
    show 32 ∉ TL.tl ("-" : Str)
    rw [tlm]
    decide
  · rw [tl_bt h]
    intro z
    obtain ⟨b, _, e⟩ := List.mem_map.mp z
    split at e <;> omega
theorem split_text (s : Int) (us ls : List Int) : Txt.split (textT s us ls) (" " : Str) = [bs s, bt us, bt ls] := by
  refine TL.split_join (s := 32) (S := []) (by decide +kernel) (by decide +kernel) (by simp) fun p hp => ?_
  simp only [List.mem_cons, List.not_mem_nil, or_false] at hp
  rcases hp with rfl | rfl | rfl
  · rw [tl_bs]
    intro z
    have := List.mem_singleton.mp z
    split at this <;> omega
  · exact free_bt us
  · exact free_bt ls
theorem rd_text {s : Int} {us ls : List Int} (p : Plan s us ls) : rd (textT s us ls) = some (s, us, ls) := by
  unfold rd
  rw [split_text]
  have h1 : bs s = ("0" : Str) ∨ bs s = ("1" : Str) := by
    unfold bs
    split
    · exact .inl rfl
    · exact .inr rfl
  have e : rdW [bs s, bt us, bt ls] = (match bw (bt us), bw (bt ls) with
    | some us, some ls => if us.length ≤ 39 ∧ ls.length ≤ 39 then some (if bs s = ("0" : Str) then (0 : Int) else 1, us, ls) else none
    | _, _ => none) := if_pos h1
  rw [e, bw_bt p.bu, bw_bt p.bl]
  dsimp only
  rw [if_pos ⟨p.lu, p.ll⟩]
  congr 2
  rcases p.bs with rfl | rfl
  · exact if_pos rfl
  · refine if_neg fun z => ?_
    have := congrArg TL.tl z
    rw [tl_bs, tl0] at this
    revert this
    decide
theorem due_text {s : Int} {us ls : List Int} (p : Plan s us ls) : dueT (textT s us ls) = planD s us ls := by
  unfold dueT
  rw [rd_text p]
theorem cloth_text_ok {s : Int} {us ls : List Int} (p : Plan s us ls) : R_cloth_text [cl s us ls] = .ok (.str (textT s us ls), false) := by
  have hu : us.length ≤ 1000 := by have := p.lu; omega
  have hv : ls.length ≤ 1000 := by have := p.ll; omega
  have c1 := shade_cl s us ls
  have c2 := cols_cl s us ls
  have c3 := rows_cl s us ls
  have b1 := bits_text_ok p.bu hu
  have b2 := bits_text_ok p.bl hv
  have l1 := len_bt us
  have l2 := len_bt ls
  have l3 := len_bs s
  have l4 : (" " : Str).length = 1 := by decide +kernel
  have pu := p.lu
  have pl := p.ll
  show denF 1 S_cloth_text [cl s us ls] = _
  unfold denF
  rw [show slots 1 [cl s us ls] = [.va (cl s us ls)] from rfl]
  unfold S_cloth_text
  have em : ∀ {R : List D → Out (D × Bool)} {d : D} {b : Bool}, R [cl s us ls] = .ok (d, b) → eM [(20, R)] (eVar 0) [] [.va (cl s us ls)] = .ok (d, if b then .fr else .sh) := fun {R d b} hR =>
    eM_ok (f := eVar 0) (fs := []) (xs := []) (c := 20) (ds := [.int s, dI us, dI ls]) (R := R) rfl rfl rfl rfl hR
  have ad : ∀ x y : Str, x.length + y.length ≤ 1000 → oAdd (.str x) (.str y) = .ok (.str (x ++ y), .sh) := fun x y h => if_pos (Nat.le_trans h (by decide))
  have la : ∀ x y : Str, (x ++ y).length = x.length + y.length := fun x y => by rw [TL.len_tl, TL.tl_append, List.length_append, ← TL.len_tl, ← TL.len_tl]
  have e1 : eBi .str [eM [(20, R_Cloth_shade)] (eVar 0) []] [.va (cl s us ls)] = .ok (.str (bs s), .sh) := by
    rw [eBi_ap, eArgs1 (em c1)]
    exact oBi_str p.bs
  have e2 := eFn_ok (R := R_bits_text) (fs := [eM [(20, R_Cloth_cols)] (eVar 0) []]) (ρ := [.va (cl s us ls)]) (eArgs1 (em c2)) rfl b1
  have e3 := eFn_ok (R := R_bits_text) (fs := [eM [(20, R_Cloth_rows)] (eVar 0) []]) (ρ := [.va (cl s us ls)]) (eArgs1 (em c3)) rfl b2
  have eb : eC (.str " ") [.va (cl s us ls)] = .ok (.str (" " : Str), .sh) := rfl
  have a1 := eBin_ok e1 eb (ad _ _ (by omega))
  have a2 := eBin_ok a1 e2 (ad _ _ (by rw [la]; omega))
  have a3 := eBin_ok a2 eb (ad _ _ (by rw [la, la]; omega))
  have a4 := eBin_ok a3 e3 (ad _ _ (by rw [la, la, la]; omega))
  rw [sRet_ap, a4, textT_eq]
  rfl
theorem text_b1 {P s3 s4 : Slot} {ws : List Str} {us : List Int} (h : Bits us) (hl : us.length ≤ 1000) (hw : ws.length ≤ 5) : S__law_text_b1 [P, .ow (wsD ws), .va (dI us), s3, s4] = .nx [P, .ow (wsD (ws ++ [bt us])), .va (dI us), .va (.str (bt us)), s4] := by
  unfold S__law_text_b1
  have ap : ∀ w : Str, sOwL 1 kAp (eVar 3) [P, .ow (wsD ws), .va (dI us), .va (.str w), s4] = .nx [P, .ow (wsD (ws ++ [w])), .va (dI us), .va (.str w), s4] := fun w => by
    have k : kAp (ws.map D.str) (.str w) = some ((ws ++ [w]).map D.str) := by
      unfold kAp
      rw [if_pos (by rw [List.length_map]; unfold SZ; omega), List.map_append]
      rfl
    rw [sOwL_ap]
    show (match kAp (ws.map D.str) (.str w) with
      | some ys => Fl.nx [P, .ow (.lst ys), .va (dI us), .va (.str w), s4]
      | none => .no) = _
    rw [k]
  rw [sSeq_nx (ρ' := [P, .ow (wsD ws), .va (dI us), .va (.str (Txt.join "" (us.map bs))), s4]) (by
    rw [sAsg_ap, join_bits h hl rfl (by simp) (by decide)]
    rfl)]
  unfold bt
  by_cases e : us = []
  · rw [if_pos e, sSeq_nx (ρ' := [P, .ow (wsD ws), .va (dI us), .va (.str ("-" : Str)), s4]) (by rw [sIf_yes (by rw [tEqL rfl, decide_eq_true e])]; rfl)]
    exact ap _
  · rw [if_neg e, sSeq_nx (ρ' := [P, .ow (wsD ws), .va (dI us), .va (.str (Txt.join "" (us.map bs))), s4]) (by rw [sIf_no (by rw [tEqL rfl, decide_eq_false e])]; rfl)]
    exact ap _
theorem law_text_ok {s : Int} {us ls : List Int} (hs : s = 0 ∨ s = 1) (hu : Bits us) (hv : Bits ls) (lu : us.length ≤ 1000) (lv : ls.length ≤ 1000) : R__law_text [planD s us ls] = .ok (.str (textT s us ls), false) := by
  show denF 5 S__law_text [planD s us ls] = _
  unfold denF
  rw [show slots 5 [planD s us ls] = [.va (planD s us ls), .un, .un, .un, .un] from rfl]
  unfold S__law_text
  have s1 : G.sAsg true 1 (eLst [eBi .str [eBin oIx (eVar 0) (eC (.int 0))]]) [.va (planD s us ls), .un, .un, .un, .un] = .nx [.va (planD s us ls), .ow (wsD [bs s]), .un, .un, .un] := by
    rw [sAsg_ap, eLst1 (d := .str (bs s)) (k := .sh) (by
      rw [eBi_ap, eArgs1 (x := (.int s, .sh)) rfl]
      exact oBi_str hs) rfl]
    rfl
  have s2 : G.sFor (itE true (eSl (eVar 0) (some (eC (.int 1))) none)) (.one 2) S__law_text_b1 [.va (planD s us ls), .ow (wsD [bs s]), .un, .un, .un] = .nx [.va (planD s us ls), .ow (wsD [bs s, bt us, bt ls]), .va (dI ls), .va (.str (bt ls)), .un] := by
    rw [sFor_ap]
    have e : itE true (eSl (eVar 0) (some (eC (.int 1))) none) [.va (planD s us ls), .ow (wsD [bs s]), .un, .un, .un] = .ok [dI us, dI ls] := rfl
    rw [e]
    show forL (.one 2) S__law_text_b1 [dI us, dI ls] [.va (planD s us ls), .ow (wsD [bs s]), .un, .un, .un] = _
    unfold forL
    show (match S__law_text_b1 [.va (planD s us ls), .ow (wsD [bs s]), .va (dI us), .un, .un] with
      | .nx ρ2 => forL (.one 2) S__law_text_b1 [dI ls] ρ2
      | .ct ρ2 => forL (.one 2) S__law_text_b1 [dI ls] ρ2
      | .bk ρ2 => .nx ρ2
      | o => o) = _
    rw [text_b1 hu lu (by simp)]
    dsimp only
    unfold forL
    show (match S__law_text_b1 [.va (planD s us ls), .ow (wsD ([bs s] ++ [bt us])), .va (dI ls), .va (.str (bt us)), .un] with
      | .nx ρ2 => forL (.one 2) S__law_text_b1 [] ρ2
      | .ct ρ2 => forL (.one 2) S__law_text_b1 [] ρ2
      | .bk ρ2 => .nx ρ2
      | o => o) = _
    rw [text_b1 hv lv (by simp)]
    rfl
  rw [sSeq_nx s1, sSeq_nx s2, sSeq_nx (a := sFrz 1) (ρ' := [.va (planD s us ls), .va (wsD [bs s, bt us, bt ls]), .va (dI ls), .va (.str (bt ls)), .un]) rfl, sRet_ap, join_ok (y := " ") (ys := [bs s, bt us, bt ls]) (k := .sh) (k' := .sh) rfl rfl (by
    have e : (" " : Str).length = 1 := by decide +kernel
    have h1 := len_bt us
    have h2 := len_bt ls
    have h3 := len_bs s
    simp only [List.map_cons, List.map_nil, List.sum_cons, List.sum_nil, List.length_cons, List.length_nil, e]
    omega)]
  rfl
end GD
namespace GD
open PySem L2 G
/-- a text of no more than n signs -/
def TxB (f : ES) (ρ : Sl) (n : Nat) : Prop := ∃ t : Str, f ρ = .ok (.str t, .sh) ∧ t.length ≤ n
/-- a list of no more than m texts of no more than n signs -/
def WsB (f : ES) (ρ : Sl) (m n : Nat) : Prop := ∃ ws : List Str, ∃ k, f ρ = .ok (wsD ws, k) ∧ k.solid = true ∧ ws.length ≤ m ∧ ∀ w ∈ ws, w.length ≤ n
theorem la_app (x y : Str) : (x ++ y).length = x.length + y.length := by rw [TL.len_tl, TL.tl_append, List.length_append, ← TL.len_tl, ← TL.len_tl]
theorem TxB.add {f g : ES} {ρ : Sl} {m n : Nat} (h : TxB f ρ m) (h2 : TxB g ρ n) (hl : m + n ≤ SZ) : TxB (eBin oAdd f g) ρ (m + n) := by
  obtain ⟨t, e, l⟩ := h
  obtain ⟨u, e2, l2⟩ := h2
  refine ⟨t ++ u, eBin_ok e e2 (if_pos (by omega)), by rw [la_app]; omega⟩
theorem TxB.sl {i : Nat} {ρ : Sl} {n : Nat} {t : Str} {lo hi : Option ES} {l h : Option Int} (ht : ρ[i]? = some (.va (.str t))) (hn : t.length ≤ n) (hs : n ≤ SZ) (h1 : ePart lo ρ = .ok l) (h2 : ePart hi ρ = .ok h) : TxB (eSlS (eVar i) lo hi) ρ n := by
  refine ⟨L2.cutS t l h, ?_, Nat.le_trans (L2.cutS_length t l h) hn⟩
  unfold eSlS
  rw [eVar_ap, ht]
  show ((ePart lo ρ).bind fun l => (ePart hi ρ).bind fun h => oSlS (.str t) l h) = _
  rw [h1]
  show ((ePart hi ρ).bind fun h => oSlS (.str t) l h) = _
  rw [h2]
  exact if_pos (Nat.le_trans hn hs)
theorem WsB.sl {i : Nat} {ρ : Sl} {m n : Nat} {ws : List Str} {lo hi : Option ES} {l h : Option Int} (ht : ρ[i]? = some (.va (wsD ws))) (hm : ws.length ≤ m) (hn : ∀ w ∈ ws, w.length ≤ n) (h1 : ePart lo ρ = .ok l) (h2 : ePart hi ρ = .ok h) : WsB (eSl (eVar i) lo hi) ρ m n := by
  refine ⟨(ws.drop (HT.sIx ws.length 0 l)).take (HT.sIx ws.length ws.length h - HT.sIx ws.length 0 l), .fr, ?_, rfl, ?_, fun w hw => hn w (List.mem_of_mem_drop (List.mem_of_mem_take hw))⟩
  · rw [eSl_ap, eVar_ap, ht]
    show ((ePart lo ρ).bind fun l => (ePart hi ρ).bind fun h => oSl (wsD ws) l h) = _
    rw [h1]
    show ((ePart hi ρ).bind fun h => oSl (wsD ws) l h) = _
    rw [h2]
    show Out.ok (D.lst (cutD (ws.map D.str) l h), Kd.fr) = _
    unfold cutD
    rw [List.length_map, ← List.map_drop, ← List.map_take]
  · rw [List.length_take, List.length_drop]
    omega
theorem WsB.add {f g : ES} {ρ : Sl} {m m2 n : Nat} (h : WsB f ρ m n) (h2 : WsB g ρ m2 n) (hl : m + m2 ≤ SZ) : WsB (eBin oAdd f g) ρ (m + m2) n := by
  obtain ⟨t, k, e, _, l, b⟩ := h
  obtain ⟨u, k2, e2, _, l2, b2⟩ := h2
  refine ⟨t ++ u, .fr, eBin_ok e e2 ?_, rfl, by rw [List.length_append]; omega, fun w hw => (List.mem_append.mp hw).elim (b w) (b2 w)⟩
  rw [oAdd_ll, if_pos (by rw [List.length_map, List.length_map]; omega), ← List.map_append]
theorem ix_ws {i j : Nat} {ρ : Sl} {ws : List Str} {k : Nat} (ht : ρ[i]? = some (.va (wsD ws))) (hj : ρ[j]? = some (.va (.int k))) (hk : k < ws.length) : ∃ w ∈ ws, eBin oIx (eVar i) (eVar j) ρ = .ok (.str w, .sh) := by
  refine ⟨ws[k], List.getElem_mem hk, eBin_ok (by rw [eVar_ap, ht]) (by rw [eVar_ap, hj]) ?_⟩
  refine oIx_l (by omega) ?_
  rw [List.getElem?_map, Int.toNat_natCast, List.getElem?_eq_getElem hk]
  rfl
theorem WsB.one {i j : Nat} {ρ : Sl} {ws : List Str} {k n : Nat} (ht : ρ[i]? = some (.va (wsD ws))) (hj : ρ[j]? = some (.va (.int k))) (hk : k < ws.length) (hn : ∀ w ∈ ws, w.length ≤ n) : WsB (eLst [eBin oIx (eVar i) (eVar j)]) ρ 1 n := by
  obtain ⟨w, hw, e⟩ := ix_ws ht hj hk
  exact ⟨[w], .fr, eLst1 e rfl, rfl, Nat.le_refl _, fun z hz => by rw [List.mem_singleton.mp hz]; exact hn w hw⟩
theorem sum_le {n : Nat} : ∀ ws : List Str, (∀ w ∈ ws, w.length ≤ n) → (ws.map fun z : Str => z.length).sum ≤ ws.length * n
  | [], _ => by simp
  | w :: ws, h => by
    have := sum_le ws fun z hz => h z (List.mem_cons_of_mem _ hz)
    have h0 := h w List.mem_cons_self
    rw [List.map_cons, List.sum_cons, List.length_cons, Nat.succ_mul]
    omega
theorem WsB.join {f : ES} {ρ : Sl} {m n : Nat} {y : Str} (h : WsB f ρ m n) (hy : y.length = 1) (hl : m * (n + 1) ≤ 16777216) : TxB (eMS oJoin (eC (.str y)) f) ρ (m * (n + 1)) := by
  obtain ⟨ws, k, e, _, l, b⟩ := h
  have s := sum_le ws b
  have le : (ws.map fun z : Str => z.length).sum + ws.length * y.length ≤ m * (n + 1) := by
    rw [hy, Nat.mul_one]
    have : ws.length * n + ws.length = ws.length * (n + 1) := by rw [Nat.mul_succ]
    have := Nat.mul_le_mul_right (n + 1) l
    omega
  exact ⟨_, join_ok (k := .sh) (y := y) rfl e (Nat.le_trans le hl), Nat.le_trans (join_len y ws) le⟩
/-- abs(z) % n -/
theorem abs_mod {f g : ES} {ρ : Sl} {z : Int} {n : Nat} {k k' : Kd} (hf : f ρ = .ok (.int z, k)) (hg : g ρ = .ok (.int n, k')) (hn : 0 < n) : ∃ j : Nat, j < n ∧ eBin oMod (eBi .abs [f]) g ρ = .ok (.int j, .sh) := by
  have z0 : 0 ≤ (if z < 0 then -z else z) % (n : Int) := Int.emod_nonneg _ (by omega)
  have z1 : (if z < 0 then -z else z) % (n : Int) < n := Int.emod_lt_of_pos _ (by omega)
  obtain ⟨j, hj⟩ := Int.eq_ofNat_of_zero_le z0
  refine ⟨j, by omega, eBin_ok (a := .int (if z < 0 then -z else z)) (k := .sh) (by rw [eBi_ap, eArgs1 hf]; rfl) hg ?_⟩
  rw [oMod_ii, if_pos (by omega), hj]
theorem oIx_s {s : Str} {j : Nat} (h : j < s.length) (hs : s.length ≤ SZ) : ∃ c, oIx (.str s) (.int j) = .ok (sgn c, .sh) := by
  have hl := TL.len_tl s
  refine ⟨(TL.tl s)[j]'(by omega), ?_⟩
  show (if s.length ≤ SZ then (match atI s.cps.toList j with
    | some c => shr (D.str ⟨#[c]⟩)
    | none => .no) else .no) = _
  rw [if_pos hs]
  have e : atI s.cps.toList (j : Int) = some ((TL.tl s)[j]'(by omega)) := by
    unfold atI
    rw [ixN_ok (by omega) (by have : (s.cps.toList).length = s.length := hl.symm; omega)]
    show s.cps.toList[(j : Int).toNat]? = _
    rw [Int.toNat_natCast]
    exact List.getElem?_eq_getElem _
  rw [e]
  rfl
theorem zs_at {zs : List Int} {ρ : Sl} {i : Nat} (h : ρ[i]? = some (.va (dI zs))) {k : Nat} (hk : k < zs.length) : eBin oIx (eVar i) (eC (.int k)) ρ = .ok (.int (gt zs k), .sh) := by
  refine eBin_ok (by rw [eVar_ap, h]) (show eC (.int k) ρ = .ok (.int k, .sh) from rfl) ?_
  have := oIx_i (us := zs) (i := (k : Int)) (by omega) (by omega)
  rw [this, Int.toNat_natCast]
theorem tEqI {i : Nat} {ρ : Sl} {w z : Int} (h : ρ[i]? = some (.va (.int w))) : tBl (eBin oEq (eVar i) (eC (.int z))) ρ = .ok (decide (w = z)) := by
  rw [tBl_ap, eBin_ok (r := .ok (.bl (decide (w = z)), .sh)) (show eVar i ρ = .ok (.int w, .sh) by rw [eVar_ap, h]) (show eC (.int z) ρ = .ok (.int z, .sh) from rfl) (oEq_ii w z)]
  rfl
theorem len1S {y : Str} {c : Nat} (h : y = ⟨#[c]⟩) : y.length = 1 := by rw [h]; rfl
theorem len_var {i : Nat} {ρ : Sl} {t : Str} (h : ρ[i]? = some (.va (.str t))) (hl : t.length ≤ SZ) : eBi .len [eVar i] ρ = .ok (.int t.length, .sh) := by
  rw [eBi_ap, eArgs1 (x := (.str t, .sh)) (by rw [eVar_ap, h])]
  exact if_pos hl
theorem len_ws {i : Nat} {ρ : Sl} {ws : List Str} (h : ρ[i]? = some (.va (wsD ws))) : eBi .len [eVar i] ρ = .ok (.int ws.length, .sh) := by
  rw [eBi_ap, eArgs1 (x := (wsD ws, .sh)) (by rw [eVar_ap, h])]
  show oBi .len [.lst (ws.map D.str)] = _
  rw [oBi_lenL, List.length_map]
theorem if_ret {i : Nat} {ρ : Sl} {z w : Int} {f : ES} {rest : SS} {B : Nat} (hw : ρ[i]? = some (.va (.int w))) (h : TxB f ρ B) (hr : ∃ t : Str, ∃ ρ', rest ρ = .rt (.str t) .sh ρ' ∧ t.length ≤ B) :
    ∃ t : Str, ∃ ρ', sSeq (G.sIf (tBl (eBin oEq (eVar i) (eC (.int z)))) (sRet f) (sSkip)) rest ρ = .rt (.str t) .sh ρ' ∧ t.length ≤ B := by
  by_cases q : w = z
  · obtain ⟨t, e, l⟩ := h
    refine ⟨t, ρ, ?_, l⟩
    rw [sSeq_ap, sIf_yes (by rw [tEqI hw, decide_eq_true q]), sRet_ap, e]
    rfl
  · rw [sSeq_nx (ρ' := ρ) (by rw [sIf_no (by rw [tEqI hw, decide_eq_false q])]; rfl)]
    exact hr
theorem TxB.mono {f : ES} {ρ : Sl} {m n : Nat} (h : TxB f ρ m) (l : m ≤ n) : TxB f ρ n := by
  obtain ⟨t, e, b⟩ := h
  exact ⟨t, e, Nat.le_trans b l⟩
theorem spoilt_ok {t : Str} {zs : List Int} (hl : t.length ≤ 200) (hz : 4 ≤ zs.length) : ∃ t' : Str, R__law_spoilt [.str t, dI zs] = .ok (.str t', false) ∧ t'.length ≤ 100000 := by
  have e0 : R__law_spoilt [.str t, dI zs] = denF 10 S__law_spoilt [.str t, dI zs] := rfl
  rw [e0]
  have szv : (200 : Nat) ≤ SZ := by decide
  suffices h : ∃ t' : Str, ∃ ρ', S__law_spoilt [.va (.str t), .va (dI zs), .un, .un, .un, .un, .un, .un, .un, .un] = .rt (.str t') .sh ρ' ∧ t'.length ≤ 100000 by
    obtain ⟨t', ρ', e, l⟩ := h
    refine ⟨t', ?_, l⟩
    unfold denF
    rw [show slots 10 [.str t, dI zs] = [.va (.str t), .va (dI zs), .un, .un, .un, .un, .un, .un, .un, .un] from rfl, e]
  unfold S__law_spoilt
  generalize hsg : PySem.Str.ofString " !\"#$&'()*+,-./0123456789:;<=>?\x40ABCDEFGHIJKLMNOPQRSTUVWXYZ[]^_`abcdefghijklmnopqrstuvwxyz{|}~\n" = SG
  have lsg : 0 < SG.length ∧ SG.length ≤ SZ := by
    rw [← hsg]
    decide +kernel
  clear hsg
  have l6 : (" -01a\n" : Str).length = 6 := by decide +kernel
  generalize (" -01a\n" : Str) = S6 at l6 ⊢
  rw [sSeq_nx (a := G.sAsg false 2 (eC (.str SG))) (ρ' := [.va (.str t), .va (dI zs), .va (.str SG), .un, .un, .un, .un, .un, .un, .un]) rfl]
  obtain ⟨a, ha, ea⟩ := abs_mod (f := eBin oIx (eVar 1) (eC (.int 1))) (g := eBin oAdd (eBi .len [eVar 0]) (eC (.int 1))) (ρ := [.va (.str t), .va (dI zs), .va (.str SG), .un, .un, .un, .un, .un, .un, .un]) (n := t.length + 1) (zs_at (k := 1) rfl (by omega)) (eBin_ok (r := .ok (.int ((t.length + 1 : Nat) : Int), .sh)) (len_var rfl (by omega)) (show eC (.int 1) _ = .ok (.int 1, .sh) from rfl) (by rw [oAdd_ii]; rfl)) (by omega)
  rw [sSeq_nx (ρ' := [.va (.str t), .va (dI zs), .va (.str SG), .va (.int a), .un, .un, .un, .un, .un, .un]) (by rw [sAsg_ap, ea]; rfl)]
  obtain ⟨b, hb, eb⟩ := abs_mod (f := eBin oIx (eVar 1) (eC (.int 2))) (g := eBi .len [eVar 2]) (ρ := [.va (.str t), .va (dI zs), .va (.str SG), .va (.int a), .un, .un, .un, .un, .un, .un]) (n := SG.length) (zs_at (k := 2) rfl (by omega)) (len_var rfl lsg.2) lsg.1
  obtain ⟨c, ec⟩ := oIx_s hb lsg.2
  rw [sSeq_nx (ρ' := [.va (.str t), .va (dI zs), .va (.str SG), .va (.int a), .va (sgn c), .un, .un, .un, .un, .un]) (by rw [sAsg_ap, eBin_ok (show eVar 2 _ = .ok (.str SG, .sh) from rfl) eb ec]; rfl)]
  obtain ⟨d, hd⟩ : ∃ d, G.sIf (tBl (eBin oEq (eBin oMod (eBin oIx (eVar 1) (eC (.int 3))) (eC (.int 2))) (eC (.int 0)))) (G.sAsg false 4 (eBin oIx (eC (.str S6)) (eBin oMod (eBi .abs [eBin oIx (eVar 1) (eC (.int 2))]) (eC (.int 6))))) (sSkip) [.va (.str t), .va (dI zs), .va (.str SG), .va (.int a), .va (sgn c), .un, .un, .un, .un, .un] = .nx [.va (.str t), .va (dI zs), .va (.str SG), .va (.int a), .va (sgn d), .un, .un, .un, .un, .un] := by
    have tt : tBl (eBin oEq (eBin oMod (eBin oIx (eVar 1) (eC (.int 3))) (eC (.int 2))) (eC (.int 0))) [.va (.str t), .va (dI zs), .va (.str SG), .va (.int a), .va (sgn c), .un, .un, .un, .un, .un] = .ok (decide (gt zs 3 % 2 = 0)) := by
      rw [tBl_ap, eBin_ok (r := .ok (.bl (decide (gt zs 3 % 2 = 0)), .sh)) (eBin_ok (r := .ok (.int (gt zs 3 % 2), .sh)) (show eBin oIx (eVar 1) (eC (.int 3)) _ = .ok (.int (gt zs 3), .sh) from zs_at (k := 3) rfl (by omega)) (show eC (.int 2) _ = .ok (.int 2, .sh) from rfl) rfl) (show eC (.int 0) _ = .ok (.int 0, .sh) from rfl) rfl]
      rfl
    by_cases q : gt zs 3 % 2 = 0
    · obtain ⟨b2, hb2, eb2⟩ := abs_mod (f := eBin oIx (eVar 1) (eC (.int 2))) (g := eC (.int 6)) (ρ := [.va (.str t), .va (dI zs), .va (.str SG), .va (.int a), .va (sgn c), .un, .un, .un, .un, .un]) (n := 6) (zs_at (k := 2) rfl (by omega)) (show eC (.int 6) _ = .ok (.int 6, .sh) from rfl) (by decide)
      obtain ⟨d, ed⟩ := oIx_s (s := S6) (by rw [l6]; exact hb2) (by rw [l6]; decide)
      refine ⟨d, ?_⟩
      rw [sIf_yes (by rw [tt, decide_eq_true q]), sAsg_ap, eBin_ok (show eC (.str S6) _ = .ok (.str S6, .sh) from rfl) eb2 ed]
      rfl
    · refine ⟨c, ?_⟩
      rw [sIf_no (by rw [tt, decide_eq_false q])]
      rfl
  rw [sSeq_nx hd]
  obtain ⟨ws, hws⟩ : ∃ ws, ws = Txt.split t ("\n" : Str) := ⟨_, rfl⟩
  have wl : ws.length ≤ 202 := by have := PyProof.Rows.split_le t ("\n" : Str); rw [← hws] at this; omega
  have wn : ws ≠ [] := by rw [hws, line_eq]; exact split_ne (by decide)
  have wm : ∀ w ∈ ws, w.length ≤ 200 := fun w hw => by
    rw [hws, line_eq] at hw
    exact Nat.le_trans (split_mem (by decide) hw) hl
  have wp : 0 < ws.length := List.length_pos_iff.mpr wn
  rw [sSeq_nx (ρ' := [.va (.str t), .va (dI zs), .va (.str SG), .va (.int a), .va (sgn d), .va (wsD ws), .un, .un, .un, .un]) (by
    rw [sAsg_ap, split_ok (t := t) (y := ("\n" : Str)) (k := .sh) (k' := .sh) rfl rfl line_eq (by unfold SZ; omega), ← hws]
    rfl)]
  obtain ⟨p, hp, ep⟩ := abs_mod (f := eBin oIx (eVar 1) (eC (.int 1))) (g := eBi .len [eVar 5]) (ρ := [.va (.str t), .va (dI zs), .va (.str SG), .va (.int a), .va (sgn d), .va (wsD ws), .un, .un, .un, .un]) (n := ws.length) (zs_at (k := 1) rfl (by omega)) (len_ws rfl) wp
  rw [sSeq_nx (ρ' := [.va (.str t), .va (dI zs), .va (.str SG), .va (.int a), .va (sgn d), .va (wsD ws), .va (.int p), .un, .un, .un]) (by rw [sAsg_ap, ep]; rfl)]
  obtain ⟨w, hw⟩ : ∃ w, w = gt zs 0 % 8 := ⟨_, rfl⟩
  rw [sSeq_nx (ρ' := [.va (.str t), .va (dI zs), .va (.str SG), .va (.int a), .va (sgn d), .va (wsD ws), .va (.int p), .va (.int w), .un, .un]) (by
    rw [sAsg_ap, eBin_ok (op := oMod) (r := .ok (.int w, .sh)) (show eBin oIx (eVar 1) (eC (.int 0)) _ = .ok (.int (gt zs 0), .sh) from zs_at (k := 0) rfl (by omega)) (show eC (.int 8) _ = .ok (.int 8, .sh) from rfl) (by rw [hw]; rfl)]
    rfl)]
  obtain ⟨ρ, hρ⟩ : ∃ ρ : Sl, ρ = [.va (.str t), .va (dI zs), .va (.str SG), .va (.int a), .va (sgn d), .va (wsD ws), .va (.int p), .va (.int w), .un, .un] := ⟨_, rfl⟩
  have r0 : ρ[0]? = some (.va (.str t)) := by rw [hρ]; rfl
  have r3 : ρ[3]? = some (.va (.int a)) := by rw [hρ]; rfl
  have r5 : ρ[5]? = some (.va (wsD ws)) := by rw [hρ]; rfl
  have r6 : ρ[6]? = some (.va (.int p)) := by rw [hρ]; rfl
  have r7 : ρ[7]? = some (.va (.int w)) := by rw [hρ]; rfl
  have r4 : TxB (eVar 4) ρ 1 := ⟨⟨#[d]⟩, by rw [hρ]; rfl, Nat.le_refl _⟩
  have pn : ePart none ρ = .ok none := rfl
  have p3 : ePart (some (eVar 3)) ρ = .ok (some a) := by rw [ePart_some, eVar_ap, r3]; rfl
  have p31 : ePart (some (eBin oAdd (eVar 3) (eC (.int 1)))) ρ = .ok (some (a + 1)) := by rw [ePart_some, eBin_ap, eVar_ap, r3]; rfl
  have p6 : ePart (some (eVar 6)) ρ = .ok (some p) := by rw [ePart_some, eVar_ap, r6]; rfl
  have p61 : ePart (some (eBin oAdd (eVar 6) (eC (.int 1)))) ρ = .ok (some (p + 1)) := by rw [ePart_some, eBin_ap, eVar_ap, r6]; rfl
  have S : ∀ {lo hi : Option ES} {l h : Option Int}, ePart lo ρ = .ok l → ePart hi ρ = .ok h → TxB (eSlS (eVar 0) lo hi) ρ 200 := fun h1 h2 => TxB.sl r0 hl szv h1 h2
  have Wl : ∀ {lo hi : Option ES} {l h : Option Int}, ePart lo ρ = .ok l → ePart hi ρ = .ok h → WsB (eSl (eVar 5) lo hi) ρ 202 200 := fun h1 h2 => WsB.sl r5 wl wm h1 h2
  have o1 := WsB.one r5 r6 hp wm
  have nl1 := len1S line_eq
  have bl1 := len1S blank_eq
  rw [← hρ]
  refine if_ret r7 (((S pn p3).add r4 (by decide)).add (S p3 pn) (by decide) |>.mono (by decide)) ?_
  refine if_ret r7 ((S pn p3).add (S p31 pn) (by decide) |>.mono (by decide)) ?_
  refine if_ret r7 (((S pn p3).add r4 (by decide)).add (S p31 pn) (by decide) |>.mono (by decide)) ?_
  refine if_ret r7 (((Wl pn p6).add (Wl p61 pn) (by decide)).join nl1 (by decide) |>.mono (by decide)) ?_
  refine if_ret r7 ((((Wl pn p6).add o1 (by decide)).add (Wl p6 pn) (by decide)).join nl1 (by decide) |>.mono (by decide)) ?_
  refine if_ret r7 (((Wl p6 pn).add (Wl pn p6) (by decide)).join nl1 (by decide) |>.mono (by decide)) ?_
  obtain ⟨vs, hvs⟩ : ∃ vs, vs = Txt.split t (" " : Str) := ⟨_, rfl⟩
  have vl : vs.length ≤ 202 := by have := PyProof.Rows.split_le t (" " : Str); rw [← hvs] at this; omega
  have vn : vs ≠ [] := by rw [hvs, blank_eq]; exact split_ne (by decide)
  have vm : ∀ w ∈ vs, w.length ≤ 200 := fun w hw => by
    rw [hvs, blank_eq] at hw
    exact Nat.le_trans (split_mem (by decide) hw) hl
  have vp : 0 < vs.length := List.length_pos_iff.mpr vn
  rw [hρ, sSeq_nx (ρ' := [.va (.str t), .va (dI zs), .va (.str SG), .va (.int a), .va (sgn d), .va (wsD ws), .va (.int p), .va (.int w), .va (wsD vs), .un]) (by
    rw [sAsg_ap, split_ok (t := t) (y := (" " : Str)) (k := .sh) (k' := .sh) rfl rfl blank_eq (by unfold SZ; omega), ← hvs]
    rfl)]
  obtain ⟨q, hq, eq⟩ := abs_mod (f := eBin oIx (eVar 1) (eC (.int 1))) (g := eBi .len [eVar 8]) (ρ := [.va (.str t), .va (dI zs), .va (.str SG), .va (.int a), .va (sgn d), .va (wsD ws), .va (.int p), .va (.int w), .va (wsD vs), .un]) (n := vs.length) (zs_at (k := 1) rfl (by omega)) (len_ws rfl) vp
  rw [sSeq_nx (ρ' := [.va (.str t), .va (dI zs), .va (.str SG), .va (.int a), .va (sgn d), .va (wsD ws), .va (.int p), .va (.int w), .va (wsD vs), .va (.int q)]) (by rw [sAsg_ap, eq]; rfl)]
  obtain ⟨τ, hτ⟩ : ∃ τ : Sl, τ = [.va (.str t), .va (dI zs), .va (.str SG), .va (.int a), .va (sgn d), .va (wsD ws), .va (.int p), .va (.int w), .va (wsD vs), .va (.int q)] := ⟨_, rfl⟩
  have t7 : τ[7]? = some (.va (.int w)) := by rw [hτ]; rfl
  have t8 : τ[8]? = some (.va (wsD vs)) := by rw [hτ]; rfl
  have t9 : τ[9]? = some (.va (.int q)) := by rw [hτ]; rfl
  have qn : ePart none τ = .ok none := rfl
  have q9 : ePart (some (eVar 9)) τ = .ok (some q) := by rw [ePart_some, eVar_ap, t9]; rfl
  have q91 : ePart (some (eBin oAdd (eVar 9) (eC (.int 1)))) τ = .ok (some (q + 1)) := by rw [ePart_some, eBin_ap, eVar_ap, t9]; rfl
  have V : ∀ {lo hi : Option ES} {l h : Option Int}, ePart lo τ = .ok l → ePart hi τ = .ok h → WsB (eSl (eVar 8) lo hi) τ 202 200 := fun h1 h2 => WsB.sl t8 vl vm h1 h2
  have o2 := WsB.one t8 t9 hq vm
  rw [← hτ]
  refine if_ret t7 (((V qn q9).add (V q91 qn) (by decide)).join bl1 (by decide) |>.mono (by decide)) ?_
  obtain ⟨t', e, l⟩ := ((((V qn q9).add o2 (by decide)).add (V q9 qn) (by decide)).join bl1 (by decide)).mono (show _ ≤ 100000 by decide)
  exact ⟨t', τ, by rw [sRet_ap, e]; rfl, l⟩
end GD
namespace GD
open PySem L2 G
abbrev near1 : List Str := ["", " ", "0", "0 -", "0 - -", "1 - 1", "0  -", "2 - -", "0 -- -", "00 - -", "0 - - ", "0 - -\n"]
abbrev near2 : List Str := ["0 2 -", "0 -1 -", "- - -"]
theorem near_len : ∀ w ∈ near1 ++ near2, w.length ≤ 100000 := by decide +kernel
theorem same_read {i : Nat} {ρ : Sl} {t : Str} (h : ρ[i]? = some (.va (.str t))) (hl : t.length + 2 ≤ SZ) : eFn R__law_same [eFn R__law_read [eVar i], eFn R__law_due_read [eVar i]] ρ = .ok (.bl true, .sh) := by
  have e : eVar i ρ = .ok (.str t, .sh) := by rw [eVar_ap, h]
  have e1 : eFn R__law_read [eVar i] ρ = .ok (dueT t, .sh) := eFn_ok (eArgs1 e) rfl (law_read_ok hl)
  have e2 : eFn R__law_due_read [eVar i] ρ = .ok (dueT t, .sh) := eFn_ok (eArgs1 e) rfl (law_due_ok hl)
  exact eFn_ok (eArgs2 e1 e2) rfl (same (nice_due hl))
theorem add_ws {f g : ES} {ρ : Sl} {xs ys : List Str} {k k' : Kd} (hf : f ρ = .ok (wsD xs, k)) (hg : g ρ = .ok (wsD ys, k')) (hl : xs.length + ys.length ≤ SZ) : eBin oAdd f g ρ = .ok (wsD (xs ++ ys), .fr) := by
  refine eBin_ok hf hg ?_
  rw [oAdd_ll, if_pos (by rw [List.length_map, List.length_map]; exact hl), ← List.map_append]
theorem law_k54 {ns : List Int} (h : ns.length ≤ 63) : R_law_k54 [.frl ns] = .ok (.bl true, false) := by
  obtain ⟨zs, d1, d2, d3⟩ := draws (n := 50) h (by decide) (by decide)
  have d2' : 50 ≤ zs.length := by omega
  obtain ⟨s, us, ls, pl, p⟩ := plan (us := zs) (by omega)
  obtain ⟨N, hN⟩ : ∃ N, N = D.frl ns := ⟨_, rfl⟩
  have md := made p
  have ct := cloth_text_ok p
  have pu := p.lu
  have pv := p.ll
  have lt := law_text_ok p.bs p.bu p.bl (by omega) (by omega)
  obtain ⟨T, hT⟩ : ∃ T, T = textT s us ls := ⟨_, rfl⟩
  have lenT : T.length ≤ 200 := by have := textT_len s us ls; rw [← hT] at this; omega
  have dT : dueT T = planD s us ls := by rw [hT]; exact due_text p
  rw [← hT] at ct lt
  have szv : (100002 : Nat) ≤ SZ := by decide
  have lr := law_read_ok (t := T) (by omega)
  rw [dT] at lr
  rw [← hN] at d1 ⊢
  have t1 : G.sAsg false 1 (eFn R__law_draws [eVar 0, eC (.int 50)]) [.va N, .un, .un, .un, .un, .un, .un, .un, .un] = .nx [.va N, .va (dI zs), .un, .un, .un, .un, .un, .un, .un] := by
    rw [sAsg_ap, eFn_ok (eArgs2 (x := (N, .sh)) (y := (.int 50, .sh)) rfl rfl) rfl d1]
    rfl
  have t2 : G.sAsg false 2 (eFn R__law_plan [eVar 1]) [.va N, .va (dI zs), .un, .un, .un, .un, .un, .un, .un] = .nx [.va N, .va (dI zs), .va (planD s us ls), .un, .un, .un, .un, .un, .un] := by
    rw [sAsg_ap, eFn_ok (eArgs1 (x := (dI zs, .sh)) rfl) rfl pl]
    rfl
  have t3 : G.sAsg false 3 (eFn R_cloth_text [eFn R__law_made [eVar 2]]) [.va N, .va (dI zs), .va (planD s us ls), .un, .un, .un, .un, .un, .un] = .nx [.va N, .va (dI zs), .va (planD s us ls), .va (.str T), .un, .un, .un, .un, .un] := by
    rw [sAsg_ap, eFn_ok (eArgs1 (eFn_ok (eArgs1 (x := (planD s us ls, .sh)) rfl) rfl md)) rfl ct]
    rfl
  have t4 : G.sIf (G.tOr (G.tNot (tTru (eFn R__law_same [eVar 3, eFn R__law_text [eVar 2]]))) (G.tNot (tTru (eFn R__law_same [eFn R__law_read [eVar 3], eVar 2])))) (sRet (eC (.bl false))) (sSkip) [.va N, .va (dI zs), .va (planD s us ls), .va (.str T), .un, .un, .un, .un, .un] = .nx [.va N, .va (dI zs), .va (planD s us ls), .va (.str T), .un, .un, .un, .un, .un] := by
    obtain ⟨ρ, hρ⟩ : ∃ ρ : Sl, ρ = [.va N, .va (dI zs), .va (planD s us ls), .va (.str T), .un, .un, .un, .un, .un] := ⟨_, rfl⟩
    rw [← hρ]
    have e3 : eVar 3 ρ = .ok (.str T, .sh) := by rw [hρ]; rfl
    have e2 : eVar 2 ρ = .ok (planD s us ls, .sh) := by rw [hρ]; rfl
    have a1 : eFn R__law_same [eVar 3, eFn R__law_text [eVar 2]] ρ = .ok (.bl true, .sh) := eFn_ok (eArgs2 e3 (eFn_ok (eArgs1 e2) rfl lt)) rfl (same (.str _ _))
    have a2 : eFn R__law_same [eFn R__law_read [eVar 3], eVar 2] ρ = .ok (.bl true, .sh) := eFn_ok (eArgs2 (eFn_ok (eArgs1 e3) rfl lr) e2) rfl (same (nice_plan p))
    have b1 : G.tNot (tTru (eFn R__law_same [eVar 3, eFn R__law_text [eVar 2]])) ρ = .ok false := by rw [tNot_ap, tTru_ap, a1]; rfl
    have b2 : G.tNot (tTru (eFn R__law_same [eFn R__law_read [eVar 3], eVar 2])) ρ = .ok false := by rw [tNot_ap, tTru_ap, a2]; rfl
    rw [sIf_no (by
      rw [tOr_ap, b1]
      exact b2)]
    rfl
  -- the other text
  have i12 := oIx_i (us := zs) (i := 12) (by omega) (by omega)
  have i13 := oIx_i (us := zs) (i := 13) (by omega) (by omega)
  have m12 : 0 ≤ gt zs 12 % 44 ∧ gt zs 12 % 44 < 44 := ⟨Int.emod_nonneg _ (by omega), Int.emod_lt_of_pos _ (by omega)⟩
  have m13 : 0 ≤ gt zs 13 % 44 ∧ gt zs 13 % 44 < 44 := ⟨Int.emod_nonneg _ (by omega), Int.emod_lt_of_pos _ (by omega)⟩
  obtain ⟨as, r1, l1, b1⟩ := row (us := zs.drop 4) (many := gt zs 12 % 44) (by simp; omega) m12.1 (by omega)
  obtain ⟨cs, r2, l2, b2⟩ := row (us := zs.drop 8) (many := gt zs 13 % 44) (by simp; omega) m13.1 (by omega)
  have c4 := cut_us (us := zs) (k := 4) (by omega) (by omega)
  have c8 := cut_us (us := zs) (k := 8) (by omega) (by omega)
  have lt2 := law_text_ok (s := s) (us := as) (ls := cs) p.bs b1 b2 (by omega) (by omega)
  obtain ⟨M, hM⟩ : ∃ M, M = textT s as cs := ⟨_, rfl⟩
  have lenM : M.length ≤ 200 := by have := textT_len s as cs; rw [← hM] at this; omega
  rw [← hM] at lt2
  have t5 : G.sAsg false 4 (eFn R__law_text [eTup [eBin oIx (eVar 2) (eC (.int 0)), eFn R__law_row [eSl (eVar 1) (some (eC (.int 4))) none, eBin oMod (eBin oIx (eVar 1) (eC (.int 12))) (eC (.int 44))], eFn R__law_row [eSl (eVar 1) (some (eC (.int 8))) none, eBin oMod (eBin oIx (eVar 1) (eC (.int 13))) (eC (.int 44))]]]) [.va N, .va (dI zs), .va (planD s us ls), .va (.str T), .un, .un, .un, .un, .un] = .nx [.va N, .va (dI zs), .va (planD s us ls), .va (.str T), .va (.str M), .un, .un, .un, .un] := by
    obtain ⟨ρ, hρ⟩ : ∃ ρ : Sl, ρ = [.va N, .va (dI zs), .va (planD s us ls), .va (.str T), .un, .un, .un, .un, .un] := ⟨_, rfl⟩
    have e1 : eVar 1 ρ = .ok (dI zs, .sh) := by rw [hρ]; rfl
    have e2 : eVar 2 ρ = .ok (planD s us ls, .sh) := by rw [hρ]; rfl
    have s4 : eSl (eVar 1) (some (eC (.int 4))) none ρ = .ok (dI (zs.drop 4), .fr) := by
      rw [eSl_ap, e1]
      show Out.ok (D.lst (cutD (zs.map D.int) (some 4) none), Kd.fr) = _
      rw [c4]
      rfl
    have s8 : eSl (eVar 1) (some (eC (.int 8))) none ρ = .ok (dI (zs.drop 8), .fr) := by
      rw [eSl_ap, e1]
      show Out.ok (D.lst (cutD (zs.map D.int) (some 8) none), Kd.fr) = _
      rw [c8]
      rfl
    have q12 : eBin oMod (eBin oIx (eVar 1) (eC (.int 12))) (eC (.int 44)) ρ = .ok (.int (gt zs 12 % 44), .sh) := eBin_ok (eBin_ok e1 (show eC (.int 12) ρ = .ok (.int 12, .sh) from rfl) i12) (show eC (.int 44) ρ = .ok (.int 44, .sh) from rfl) rfl
    have q13 : eBin oMod (eBin oIx (eVar 1) (eC (.int 13))) (eC (.int 44)) ρ = .ok (.int (gt zs 13 % 44), .sh) := eBin_ok (eBin_ok e1 (show eC (.int 13) ρ = .ok (.int 13, .sh) from rfl) i13) (show eC (.int 44) ρ = .ok (.int 44, .sh) from rfl) rfl
    have ix0 : eBin oIx (eVar 2) (eC (.int 0)) ρ = .ok (.int s, .sh) := eBin_ok e2 (show eC (.int 0) ρ = .ok (.int 0, .sh) from rfl) rfl
    rw [← hρ, sAsg_ap, eFn_ok (eArgs1 (eTup3 ix0 (eFn_ok (eArgs2 s4 q12) rfl r1) (eFn_ok (eArgs2 s8 q13) rfl r2) rfl rfl rfl)) rfl lt2, hρ]
    rfl
  have t6 : G.sAsg false 5 (eLst [eC (.str ""), eC (.str " "), eC (.str "0"), eC (.str "0 -"), eC (.str "0 - -"), eC (.str "1 - 1"), eC (.str "0  -"), eC (.str "2 - -"), eC (.str "0 -- -"), eC (.str "00 - -"), eC (.str "0 - - "), eC (.str "0 - -\n")]) [.va N, .va (dI zs), .va (planD s us ls), .va (.str T), .va (.str M), .un, .un, .un, .un] = .nx [.va N, .va (dI zs), .va (planD s us ls), .va (.str T), .va (.str M), .va (wsD near1), .un, .un, .un] := rfl
  have t7 : G.sAsg false 5 (eBin oAdd (eVar 5) (eLst [eC (.str "0 2 -"), eC (.str "0 -1 -"), eC (.str "- - -")])) [.va N, .va (dI zs), .va (planD s us ls), .va (.str T), .va (.str M), .va (wsD near1), .un, .un, .un] = .nx [.va N, .va (dI zs), .va (planD s us ls), .va (.str T), .va (.str M), .va (wsD (near1 ++ near2)), .un, .un, .un] := by
    rw [sAsg_ap, add_ws (xs := near1) (ys := near2) (k := .sh) (k' := .fr) rfl rfl (by decide)]
    rfl
  have nl := near_len
  have wl : (near1 ++ near2).length ≤ 100 := by decide
  generalize near1 ++ near2 = W at t7 nl wl
  obtain ⟨f, hf⟩ := Classical.axiomOfChoice (r := fun (k : Nat) (t' : Str) => k < 8 → R__law_spoilt [.str (if k % 2 = 0 then T else M), dI (zs.drop (14 + 4 * k))] = .ok (.str t', false) ∧ t'.length ≤ 100000) fun k => by
    by_cases hk : k < 8
    · obtain ⟨t', e, l⟩ := spoilt_ok (t := if k % 2 = 0 then T else M) (zs := zs.drop (14 + 4 * k)) (by split <;> assumption) (by simp; omega)
      exact ⟨t', fun _ => ⟨e, l⟩⟩
    · exact ⟨T, fun z => absurd z hk⟩
  have t8 : G.sAsg false 6 (eLc (itR1 (eC (.int 8))) (.one 7) (tYes) (eFn R__law_spoilt [eBin oIx (eLst [eVar 3, eVar 4]) (eBin oMod (eVar 7) (eC (.int 2))), eSl (eVar 1) (some (eBin oAdd (eC (.int 14)) (eBin oMul (eC (.int 4)) (eVar 7)))) none]) [7]) [.va N, .va (dI zs), .va (planD s us ls), .va (.str T), .va (.str M), .va (wsD W), .un, .un, .un] = .nx [.va N, .va (dI zs), .va (planD s us ls), .va (.str T), .va (.str M), .va (wsD W), .va (wsD ((List.range 8).map f)), .un, .un] := by
    rw [sAsg_ap]
    have e : eLc (itR1 (eC (.int 8))) (.one 7) (tYes) (eFn R__law_spoilt [eBin oIx (eLst [eVar 3, eVar 4]) (eBin oMod (eVar 7) (eC (.int 2))), eSl (eVar 1) (some (eBin oAdd (eC (.int 14)) (eBin oMul (eC (.int 4)) (eVar 7)))) none]) [7] [.va N, .va (dI zs), .va (planD s us ls), .va (.str T), .va (.str M), .va (wsD W), .un, .un, .un] = .ok (wsD ((List.range 8).map f), .fr) := by
      unfold eLc
      have e0 : itR1 (eC (.int 8)) [.va N, .va (dI zs), .va (planD s us ls), .va (.str T), .va (.str M), .va (wsD W), .un, .un, .un] = .ok (rngD 0 (8 : Nat)) := rfl
      rw [e0]
      show ((lcA (.one 7) tYes _ (wipeS [.va N, .va (dI zs), .va (planD s us ls), .va (.str T), .va (.str M), .va (wsD W), .un, .un, .un] [7]) [] (rngD 0 (8 : Nat))).bind fun r => Out.ok (D.lst r, Kd.fr)) = _
      rw [lc_nat (fun k => D.str (f k)) (n := 8) (by decide) (fun k hk => ⟨[.va N, .va (dI zs), .va (planD s us ls), .va (.str T), .va (.str M), .va (wsD W), .un, .va (.int k), .un], .sh, rfl, by
        obtain ⟨ρ, hρ⟩ : ∃ ρ : Sl, ρ = [.va N, .va (dI zs), .va (planD s us ls), .va (.str T), .va (.str M), .va (wsD W), .un, .va (.int k), .un] := ⟨_, rfl⟩
        rw [← hρ]
        have e1 : eVar 1 ρ = .ok (dI zs, .sh) := by rw [hρ]; rfl
        have e3 : eVar 3 ρ = .ok (.str T, .sh) := by rw [hρ]; rfl
        have e4 : eVar 4 ρ = .ok (.str M, .sh) := by rw [hρ]; rfl
        have e7 : eVar 7 ρ = .ok (.int k, .sh) := by rw [hρ]; rfl
        have q1 : eBin oMod (eVar 7) (eC (.int 2)) ρ = .ok (.int ((k % 2 : Nat) : Int), .sh) := eBin_ok e7 (show eC (.int 2) ρ = .ok (.int 2, .sh) from rfl) (by rw [oMod_ii, if_pos (by decide)]; rfl)
        have q2 : eBin oIx (eLst [eVar 3, eVar 4]) (eBin oMod (eVar 7) (eC (.int 2))) ρ = .ok (.str (if k % 2 = 0 then T else M), .sh) := by
          refine eBin_ok (eLst2k e3 e4 rfl rfl) q1 ?_
          have : k % 2 = 0 ∨ k % 2 = 1 := by omega
          rcases this with z | z <;> rw [z] <;> rfl
        have q3 : ePart (some (eBin oAdd (eC (.int 14)) (eBin oMul (eC (.int 4)) (eVar 7)))) ρ = .ok (some (14 + 4 * k)) := by
          rw [ePart_some, eBin_ok (op := oAdd) (r := .ok (.int (14 + 4 * k), .sh)) (show eC (.int 14) ρ = .ok (.int 14, .sh) from rfl) (eBin_ok (op := oMul) (r := .ok (.int (4 * k), .sh)) (show eC (.int 4) ρ = .ok (.int 4, .sh) from rfl) e7 (oMul_l (by decide) (by decide))) rfl]
          rfl
        have c14 := cut_us (us := zs) (k := 14 + 4 * k) (by omega) (by omega)
        rw [show (14 + 4 * (k : Int)).toNat = 14 + 4 * k by omega] at c14
        have q4 := slE (vs := zs.drop (14 + 4 * k)) e1 q3 (show ePart none ρ = .ok none from rfl) c14
        exact eFn_ok (eArgs2 q2 q4) rfl (hf k hk).1, rfl⟩)]
      show Out.ok (D.lst ((List.range 8).map fun k => D.str (f k)), Kd.fr) = _
      rw [wsD, List.map_map]
      rfl
    rw [e]
    rfl
  have ml : ∀ w ∈ W ++ (List.range 8).map f ++ [M], w.length + 2 ≤ SZ := fun w hw => by
    rcases List.mem_append.mp hw with hw | hw
    · rcases List.mem_append.mp hw with hw | hw
      · have := nl w hw
        omega
      · obtain ⟨k, hk, rfl⟩ := List.mem_map.mp hw
        have := (hf k (List.mem_range.mp hk)).2
        omega
    · rw [List.mem_singleton.mp hw]
      omega
  have t9 : eBi .all [eLc (itE false (eBin oAdd (eBin oAdd (eVar 5) (eVar 6)) (eLst [eVar 4]))) (.one 8) (tYes) (eFn R__law_same [eFn R__law_read [eVar 8], eFn R__law_due_read [eVar 8]]) [8]] [.va N, .va (dI zs), .va (planD s us ls), .va (.str T), .va (.str M), .va (wsD W), .va (wsD ((List.range 8).map f)), .un, .un] = .ok (.bl true, .sh) := by
    obtain ⟨G8, hG⟩ : ∃ G8, G8 = (List.range 8).map f := ⟨_, rfl⟩
    rw [← hG] at ml ⊢
    have lG : G8.length = 8 := by rw [hG]; simp
    have a1 : eBin oAdd (eBin oAdd (eVar 5) (eVar 6)) (eLst [eVar 4]) [.va N, .va (dI zs), .va (planD s us ls), .va (.str T), .va (.str M), .va (wsD W), .va (wsD G8), .un, .un] = .ok (wsD (W ++ G8 ++ [M]), .fr) :=
      add_ws (ys := [M]) (add_ws (xs := W) (ys := G8) (k := .sh) (k' := .sh) rfl rfl (by omega)) (eLst1 (d := .str M) (k := .sh) rfl rfl) (by rw [List.length_append]; simp; omega)
    have lA : (W ++ G8 ++ [M]).length ≤ 200 := by simp; omega
    generalize W ++ G8 ++ [M] = A at ml a1 lA
    have e : eLc (itE false (eBin oAdd (eBin oAdd (eVar 5) (eVar 6)) (eLst [eVar 4]))) (.one 8) (tYes) (eFn R__law_same [eFn R__law_read [eVar 8], eFn R__law_due_read [eVar 8]]) [8] [.va N, .va (dI zs), .va (planD s us ls), .va (.str T), .va (.str M), .va (wsD W), .va (wsD G8), .un, .un] = .ok (.lst ((A.map fun _ => true).map D.bl), .fr) := by
      unfold eLc
      have ei : itE false (eBin oAdd (eBin oAdd (eVar 5) (eVar 6)) (eLst [eVar 4])) [.va N, .va (dI zs), .va (planD s us ls), .va (.str T), .va (.str M), .va (wsD W), .va (wsD G8), .un, .un] = .ok (A.map D.str) := by
        rw [itE_ap, a1]
        rfl
      rw [ei]
      show ((lcA (.one 8) tYes _ (wipeS [.va N, .va (dI zs), .va (planD s us ls), .va (.str T), .va (.str M), .va (wsD W), .va (wsD G8), .un, .un] [8]) [] (A.map D.str)).bind fun r => Out.ok (D.lst r, Kd.fr)) = _
      rw [lc_mp D.str (fun _ => D.bl true) A [] (by unfold SZ; simp; omega) (fun w hw => ⟨[.va N, .va (dI zs), .va (planD s us ls), .va (.str T), .va (.str M), .va (wsD W), .va (wsD G8), .un, .va (.str w)], .sh, rfl, same_read rfl (ml w hw), rfl⟩)]
      show Out.ok (D.lst ([] ++ A.map fun _ => D.bl true), Kd.fr) = _
      rw [List.nil_append, List.map_map]
      rfl
    rw [eBi_ap, eArgs1 e]
    show oBi .all [.lst ((A.map fun _ => true).map D.bl)] = _
    rw [all_bools, List.all_map]
    have : (A.all (id ∘ fun _ => true)) = true := List.all_eq_true.mpr fun _ _ => rfl
    rw [this]
  show denF 9 S_law_k54 _ = _
  unfold denF
  rw [show slots 9 [N] = [.va N, .un, .un, .un, .un, .un, .un, .un, .un] from rfl]
  unfold S_law_k54
  rw [sq_nx t1]
  unfold S_law_k54_t1
  rw [sq_nx t2]
  unfold S_law_k54_t2
  rw [sq_nx t3]
  unfold S_law_k54_t3
  rw [sq_nx t4]
  unfold S_law_k54_t4
  rw [sq_nx t5]
  unfold S_law_k54_t5
  rw [sq_nx t6]
  unfold S_law_k54_t6
  rw [sq_nx t7]
  unfold S_law_k54_t7
  rw [sq_nx t8]
  unfold S_law_k54_t8
  rw [sRet_ap, t9]
  rfl
end GD
namespace K54
open PySem L2 G
theorem main (ns : List Int) (h : ns.length ≤ 63) : GD.R_law_k54 [.frl ns] = .ok (.bl true, false) := GD.law_k54 h
end K54
open PySem PySem.W PySem.Calls PyProof.Rows
theorem PySem.Challenge.cw_sashiko_k54_cloths_as_texts_holds : PySem.Challenge.rw_sashiko_k54_cloths_as_texts.Holds := by
  w_on; o_law
  refine HandSHeadRun.head_any (r := OpenLaw.row PySem.Challenge.rw_sashiko_k54_cloths_as_texts) (q := view (OpenLaw.row PySem.Challenge.rw_sashiko_k54_cloths_as_texts).prog [32]) (H := K54.hk) (ob := K54.ob) (M := 6000) (loose := K54.loose) (d := HandSHeadRun.topDef (OpenLaw.row PySem.Challenge.rw_sashiko_k54_cloths_as_texts).prog 32) (kwd := []) K54.ob_eq
    (by kernel_rfl) (fun s => by kernel_rfl) K54.run (by kernel_rfl) (by kernel_rfl) (by kernel_rfl) (by rfl) (by first | assumption | decide +kernel) (by decide +kernel) ⟨rfl, rfl, rfl, rfl, rfl, by decide +kernel⟩ ?hw ?hc
  case hw => w_witness2
  case hc =>
    refine L2.walk_ofE (l := PySem.Challenge.rw_sashiko_k54_cloths_as_texts) (n := 63) (k := 8) (x := "_law_script") (CX := G.CXW (PySem.Challenge.rw_sashiko_k54_cloths_as_texts).prog) rfl (by decide) (by kernel_rfl) ⟨rfl, by decide, by decide⟩ ?F G.cxw_never
    intro w mg fa h Y G hmg0
    obtain ⟨K, KX, c⟩ := Y
    have hmg : mg ("law" : PySem.Str) = some (.ref fa) := by
      have e : (HandSHeadRun.topDef (OpenLaw.row PySem.Challenge.rw_sashiko_k54_cloths_as_texts).prog 32).name = ("law" : PySem.Str) := by kernel_rfl
      rw [← e]
      exact hmg0
    obtain ⟨fd, sp, hb, h1, hF⟩ := K54.pre K54.main w mg fa h K KX G c hmg
    exact ⟨K, fd, sp, KX, hb, h1, hF⟩
