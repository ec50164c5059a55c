import PyProof.Rows.All
import Wide.All
import OpenK.AllK
import Wide.FinOn
import KE.KStateDown
import Lean
import HandS.ForExc
import HandS.ForMost
import HandS.ExcCtx
import HandS.TupAny
import HandS.IsInst
import HandS.TupLen
import HandS.Zip
import HandS.Small
import HandS.ExcInit
import HandS.Defaults
import HandS.WordsDict
import HandS.HeadHook1
import HandS.HeadHook2
import HandS.Style
import HandS.ExcIs
import HandS.HotCalls
import HandS.SuiteRaise
import HandS.Head0
import HandS.Head1
import HandS.Head2
import HandS.HeadEnd
import KE.SortData
import KE.DataMinMax
import HandS.Deep
import HandS.SetFor
import KE.SortKeyHeap
import KE.KSortKey
import HandS.SortKw
import HandS.SetKeys
import PyProof.DictMoreH
import HandS.Conv
import PyProof.Rows.TupDisplay
import HandS.Iter
import HandS.ExcField
import HandS.More
import HandS.Wide
import HandS.RaiseFrom
import HandS.Text
import HandS.TryOnly
import HandS.FStr
import HandS.TupSets
import PySem.Challenge.RW_sashiko_k36_whole_rounds_go_alike
set_option Elab.async false
set_option autoImplicit false
set_option linter.all false
set_option maxRecDepth 100000
set_option maxHeartbeats 4000000
namespace G
open PySem L2
/-- a pure value -/
inductive D where
  | non | bl (b : Bool) | int (i : Int) | str (s : Str)
  | lst (xs : List D) | tup (xs : List D)
  | dK (ks : List Key) (vs : List D) | dT (ks : List (List Key)) (vs : List D)
  | obj (c : Nat) (fs : List D) | frl (ns : List Int) | hx
/-- how a value lies: shared (frozen), a fresh root, the own object of slot i -/
inductive Kd where
  | sh | fr | at (i : Nat) | tr (n : Nat)
  deriving DecidableEq
inductive Out (α : Type) where
  | ok (a : α) | ex (c : Nat) (fs : List D) | no
def Out.bind {α β : Type} : Out α → (α → Out β) → Out β
  | .ok a, f => f a
  | .ex c fs, _ => .ex c fs
  | .no, _ => .no
/-- no instance -/
def notObj : D → Bool
  | .obj _ _ => false
  | _ => true
/-- which nodes of a value are a slot's own: the root, its items by their places, .. -/
inductive Sh where
  | lf | nd (k : Nat → Sh)
  /-- lent: the root is the one that was handed in -/
  | ln (k : Nat → Sh)
  /-- the second thing lent -/
  | l2 (k : Nat → Sh)
inductive Slot where
  | un | va (d : D) | ow (d : D) | me (c : Nat) (ds : List D) | xc
  /-- an own tree of objects -/
  | pv (k : Sh) (d : D)
/-- own lists, n deep -/
def shn : Nat → Sh
  | 0 => .lf
  | n + 1 => .nd fun _ => shn n
/-- an own instance of the class 23 -/
def shC : Nat → Sh := fun i => if i = 0 then .lf else .nd fun _ => .lf
/-- .. or a tuple of one and of frozen values -/
def shD : D → Sh
  | .obj _ _ => .nd shC
  | .tup (.obj _ _ :: _) => .nd fun i => if i = 0 then .nd shC else .lf
  | _ => .lf
/-- the shape of a new tree: n deep, or by the value -/
def shT : Nat → D → Sh
  | 0, d => shD d
  | n + 1, _ => shn (n + 1)
abbrev Sl := List Slot
abbrev ES := Sl → Out (D × Kd)
/-- what the defs give: by number and arguments; the Bool: a fresh root -/
abbrev Gam := Nat → List D → Out (D × Bool)
abbrev SZ : Nat := 16777216
def Kd.solid : Kd → Bool
  | .at _ => false
  | _ => true
def flat : D → Bool
  | .non => true
  | .bl _ => true
  | .int _ => true
  | .str _ => true
  | _ => false
/-- nothing of it lies in older objects -/
def clean (d : D) (k : Kd) : Bool := flat d || (match d, k with
  | .lst ds, .fr => ds.all flat
  | .dK _ ds, .fr => ds.all flat
  | .dT _ ds, .fr => ds.all flat
  | _, _ => false)
@[simp] theorem bind_ok {α β : Type} (a : α) (f : α → Out β) : (Out.ok a).bind f = f a := rfl
@[simp] theorem bind_ex {α β : Type} (c : Nat) (fs : List D) (f : α → Out β) : (Out.ex c fs : Out α).bind f = .ex c fs := rfl
@[simp] theorem bind_no {α β : Type} (f : α → Out β) : (Out.no : Out α).bind f = .no := rfl
def eVar (i : Nat) : ES := fun ρ => match ρ[i]? with
  | some (.va d) => .ok (d, .sh)
  | some (.ow d) => .ok (d, .at i)
  | _ => .no
def eC (d : D) : ES := fun _ => .ok (d, .sh)
def eBin (op : D → D → Out (D × Kd)) (f g : ES) : ES := fun ρ => (f ρ).bind fun x => (g ρ).bind fun y => op x.1 y.1
def eUn (op : D → Out (D × Kd)) (f : ES) : ES := fun ρ => (f ρ).bind fun x => op x.1
def eArgs : List ES → Sl → Out (List (D × Kd))
  | [], _ => .ok []
  | f :: fs, ρ => (f ρ).bind fun x => (eArgs fs ρ).bind fun xs => .ok (x :: xs)
def shr (d : D) : Out (D × Kd) := .ok (d, .sh)
def oAdd : D → D → Out (D × Kd)
  | .int i, .int j => shr (.int (i + j))
  | .str x, .str y => if x.length + y.length ≤ SZ then shr (.str (x ++ y)) else .no
  | .lst xs, .lst ys => if xs.length + ys.length ≤ SZ then .ok (.lst (xs ++ ys), .fr) else .no
  | .tup xs, .tup ys => if xs.length + ys.length ≤ SZ then shr (.tup (xs ++ ys)) else .no
  | _, _ => .no
def oSub : D → D → Out (D × Kd)
  | .int i, .int j => shr (.int (i - j))
  | _, _ => .no
def smallI (i : Int) : Bool := decide (-(2 ^ 64) < i ∧ i < 2 ^ 64)
def oMul : D → D → Out (D × Kd)
  | .int i, .int j => if smallI i || smallI j then shr (.int (i * j)) else .no
  | .lst xs, .int k => if -(2 ^ 63) ≤ k ∧ k < 2 ^ 63 ∧ xs.length * k.toNat ≤ SZ then .ok (.lst (List.replicate k.toNat xs).flatten, .fr) else .no
  | _, _ => .no
def oMod : D → D → Out (D × Kd)
  | .int i, .int j => if 0 < j then shr (.int (i % j)) else .no
  | _, _ => .no
def oDiv : D → D → Out (D × Kd)
  | .int i, .int j => if 0 < j ∧ j < 1073741824 then shr (.int (i / j)) else .no
  | _, _ => .no
def oPow : D → D → Out (D × Kd)
  | .int i, .int j => if 0 ≤ j ∧ j ≤ 1000000 ∧ i.natAbs < 2 ^ 64 then shr (.int (i ^ j.toNat)) else .no
  | _, _ => .no
def oNeg : D → Out (D × Kd)
  | .int i => shr (.int (-i))
  | _ => .no
end G
namespace G
open PySem L2
def intsOf : List D → Option (List Int)
  | [] => some []
  | .int i :: r => (intsOf r).map (i :: ·)
  | _ :: _ => none
@[simp] theorem intsOf_map : ∀ ns : List Int, intsOf (ns.map D.int) = some ns
  | [] => rfl
  | n :: ns => by simp [intsOf, intsOf_map ns]
theorem intsOf_eq : ∀ {ds : List D} {ns : List Int}, intsOf ds = some ns → ds = ns.map D.int
  | [], ns, h => by cases h; rfl
  | d :: r, ns, h => by
    cases d with
    | int i =>
      unfold intsOf at h
      cases q : intsOf r with
      | none => rw [q] at h; cases h
      | some ms =>
        rw [q] at h
        cases h
        rw [intsOf_eq q]
        rfl
    | _ => cases h
mutual
def toPy : D → Option PyData
  | .non => some .none
  | .bl b => some (.bool b)
  | .int i => some (.int i)
  | .str s => some (.str s)
  | .lst xs => (toPys xs).map .list
  | .tup xs => (toPys xs).map .tuple
  | _ => none
def toPys : List D → Option (List PyData)
  | [] => some []
  | x :: xs => (toPy x).bind fun p => (toPys xs).map (p :: ·)
end
/-- == of scalars -/
def scalEq : D → D → Option Bool
  | .non, .non => some true
  | .non, .int _ => some false
  | .int _, .non => some false
  | .non, .str _ => some false
  | .str _, .non => some false
  | .int i, .int j => some (decide (i = j))
  | .bl i, .bl j => some (decide (i = j))
  | .str i, .str j => some (decide (i = j))
  | _, _ => none
def eqD (d e : D) : Option Bool := match scalEq d e with
  | some b => some b
  | none => match toPy d, toPy e with
    | some p, some q => if SeqAt.shaped p && SeqAt.shaped q then some (PyData.eqv p q) else none
    | _, _ => none
def obl : Option Bool → Out (D × Kd)
  | some b => shr (.bl b)
  | none => .no
def oEq (d e : D) : Out (D × Kd) := obl (eqD d e)
def oNe (d e : D) : Out (D × Kd) := obl ((eqD d e).map (!·))
def oLt : D → D → Out (D × Kd)
  | .int i, .int j => shr (.bl (decide (i < j)))
  | .tup xs, .tup ys => match intsOf xs, intsOf ys with
    | some ns, some ms => shr (.bl (HT.lexLt ns ms))
    | _, _ => .no
  | _, _ => .no
def oLe : D → D → Out (D × Kd)
  | .int i, .int j => shr (.bl (decide (i ≤ j)))
  | _, _ => .no
def oGt : D → D → Out (D × Kd)
  | .int i, .int j => shr (.bl (decide (j < i)))
  | _, _ => .no
def oGe : D → D → Out (D × Kd)
  | .int i, .int j => shr (.bl (decide (j ≤ i)))
  | _, _ => .no
/-- a op b op' c, b asked once -/
def eChain (op op' : D → D → Out (D × Kd)) (f g h : ES) : ES := fun ρ => (f ρ).bind fun x => (g ρ).bind fun y => (op x.1 y.1).bind fun z => match z.1 with
  | .bl true => (h ρ).bind fun w => op' y.1 w.1
  | .bl false => shr (.bl false)
  | _ => .no
def oBl : D → Out Bool
  | .bl b => .ok b
  | _ => .no
/-- and, or of truth values -/
def eAnd (f g : ES) : ES := fun ρ => (f ρ).bind fun x => (oBl x.1).bind fun b => if b = true then g ρ else shr (.bl false)
def eOr (f g : ES) : ES := fun ρ => (f ρ).bind fun x => (oBl x.1).bind fun b => if b = true then shr (.bl true) else g ρ
def oNot (d : D) : Out (D × Kd) := (oBl d).bind fun b => shr (.bl (!b))
abbrev TSm := Sl → Out Bool
def oTru : D → Out Bool
  | .non => .ok false
  | .bl b => .ok b
  | .int i => .ok (i != 0)
  | .lst xs => .ok (!xs.isEmpty)
  | .tup xs => .ok (!xs.isEmpty)
  | _ => .no
def tBl (f : ES) : TSm := fun ρ => (f ρ).bind fun x => oBl x.1
def tTru (f : ES) : TSm := fun ρ => (f ρ).bind fun x => oTru x.1
def tAnd (f g : TSm) : TSm := fun ρ => (f ρ).bind fun b => if b = true then g ρ else .ok false
def tOr (f g : TSm) : TSm := fun ρ => (f ρ).bind fun b => if b = true then .ok true else g ρ
def tNot (f : TSm) : TSm := fun ρ => (f ρ).bind fun b => .ok (!b)
def eIf (t : TSm) (f g : ES) : ES := fun ρ => (t ρ).bind fun b => if b = true then f ρ else g ρ
def allSolid (xs : List (D × Kd)) : Bool := xs.all fun x => x.2.solid
def eTup (fs : List ES) : ES := fun ρ => (eArgs fs ρ).bind fun xs => if allSolid xs = true ∧ xs.length ≤ SZ then shr (.tup (xs.map (·.1))) else .no
def eLst (fs : List ES) : ES := fun ρ => (eArgs fs ρ).bind fun xs => if allSolid xs = true ∧ xs.length ≤ SZ then .ok (.lst (xs.map (·.1)), .fr) else .no
/-- a key, of ints and texts; of tuples of them -/
def keyOf : D → Option Key
  | .int i => some (.inl i)
  | .str s => some (.inr s)
  | _ => none
def keysOf : List D → Option (List Key)
  | [] => some []
  | d :: r => (keyOf d).bind fun k => (keysOf r).map (k :: ·)
def tkeyOf : D → Option (List Key)
  | .tup xs => keysOf xs
  | _ => none
def lookK {κ : Type} [DecidableEq κ] : List κ → List D → κ → Option D
  | k :: ks, d :: ds, x => if k = x then some d else lookK ks ds x
  | _, _, _ => none
/-- what a dict holds at a key; the outer option: the key is of its kind -/
def dGet : D → D → Option (Option D)
  | .dK ks ds, k => (keyOf k).map fun x => lookK ks ds x
  | .dT ks ds, k => (tkeyOf k).map fun x => lookK ks ds x
  | _, _ => none
def oIx : D → D → Out (D × Kd)
  | .lst xs, .int i => match atI xs i with
    | some d => shr d
    | none => .no
  | .tup xs, .int i => match atI xs i with
    | some d => shr d
    | none => .no
  | .str z, .int i => if z.length ≤ SZ then (match atI z.cps.toList i with
    | some c => shr (.str ⟨#[c]⟩)
    | none => .no) else .no
  | d, k => match dGet d k with
    | some (some v) => shr v
    | _ => .no
def cutD (xs : List D) (lo hi : Option Int) : List D := (xs.drop (HT.sIx xs.length 0 lo)).take (HT.sIx xs.length xs.length hi - HT.sIx xs.length 0 lo)
def oSl : D → Option Int → Option Int → Out (D × Kd)
  | .lst xs, lo, hi => .ok (.lst (cutD xs lo hi), .fr)
  | .tup xs, lo, hi => shr (.tup (cutD xs lo hi))
  | _, _, _ => .no
def ePart : Option ES → Sl → Out (Option Int)
  | none, _ => .ok none
  | some f, ρ => (f ρ).bind fun x => match x.1 with
    | .int i => .ok (some i)
    | _ => .no
def eSl (f : ES) (lo hi : Option ES) : ES := fun ρ => (f ρ).bind fun x => (ePart lo ρ).bind fun l => (ePart hi ρ).bind fun h => oSl x.1 l h
/-- fields: by the class and the name, the place -/
def oFld (fx : Nat → Option Nat) : D → Out (D × Kd)
  | .obj c ds => match fx c with
    | some i => match ds[i]? with
      | some d => shr d
      | none => .no
    | none => .no
  | _ => .no
end G
namespace G
open PySem L2
def tyName : D → Option String
  | .non => some "NoneType"
  | .bl _ => some "bool"
  | .int _ => some "int"
  | .str _ => some "str"
  | .lst _ => some "list"
  | .tup _ => some "tuple"
  | .dK _ _ => some "dict"
  | _ => none
def isiT (T : String) (S : String) : Bool := decide (S = T) || (decide (S = "bool") && decide (T = "int"))
def oIsi (T : String) (d : D) : Out (D × Kd) := match tyName d with
  | some S => shr (.bl (isiT T S))
  | none => .no
/-- built-in functions of one or two arguments -/
inductive Bi where
  | len | abs | int | sum | list | max2 | min2 | all | str | min1 | max1
  deriving DecidableEq
def boolsOf : List D → Option (List Bool)
  | [] => some []
  | .bl i :: r => (boolsOf r).map (i :: ·)
  | _ :: _ => none
def minI : List Int → Int
  | [] => 0
  | [a] => a
  | a :: r => min a (minI r)
def maxI : List Int → Int
  | [] => 0
  | [a] => a
  | a :: r => max a (maxI r)
def oBi : Bi → List D → Out (D × Kd)
  | .len, [.lst xs] => shr (.int xs.length)
  | .len, [.tup xs] => shr (.int xs.length)
  | .len, [.str x] => if x.length ≤ SZ then shr (.int x.length) else .no
  | .len, [.dK ks _] => shr (.int ks.length)
  | .len, [.dT ks _] => shr (.int ks.length)
  | .abs, [.int i] => shr (.int (if i < 0 then -i else i))
  | .int, [.int i] => shr (.int i)
  | .int, [.bl k] => shr (.int (if k then 1 else 0))
  | .sum, [.lst xs] => match intsOf xs with
    | some ns => shr (.int ns.sum)
    | none => .no
  | .min1, [.lst xs] => match intsOf xs with
    | some ns => if ns ≠ [] then shr (.int (minI ns)) else .no
    | none => .no
  | .max1, [.lst xs] => match intsOf xs with
    | some ns => if ns ≠ [] then shr (.int (maxI ns)) else .no
    | none => .no
  | .list, [.lst xs] => .ok (.lst xs, .fr)
  | .list, [.tup xs] => .ok (.lst xs, .fr)
  | .max2, [.int i, .int j] => shr (.int (if j > i then j else i))
  | .min2, [.int i, .int j] => shr (.int (if j < i then j else i))
  | .all, [.lst xs] => match boolsOf xs with
    | some bs => shr (.bl (bs.all id))
    | none => .no
  | .str, [.int i] => if i.natAbs.log2 < 1920 then shr (.str (toString i)) else .no
  | _, _ => .no
def eBi (b : Bi) (fs : List ES) : ES := fun ρ => (eArgs fs ρ).bind fun xs => oBi b (xs.map (·.1))
def okArgs (xs : List (D × Kd)) : Bool := xs.all fun x => x.2.solid || notObj x.1
/-- a fresh one of these has nothing of the arguments -/
def newD : D → Bool
  | .obj _ _ => true
  | .lst ds => ds.all flat
  | _ => false
def eCall (Γ : Gam) (n : Nat) (fs : List ES) : ES := fun ρ => (eArgs fs ρ).bind fun xs => match Γ n (xs.map (·.1)) with
  | .ok (d, b) => if allSolid xs then .ok (d, if b then .fr else .sh) else if flat d && okArgs xs then shr d else if (b && newD d) && okArgs xs then .ok (d, .fr) else .no
  | .ex c gs => if allSolid xs || (gs.isEmpty && okArgs xs) then .ex c gs else .no
  | .no => .no
/-- a method of an instance: by the class's number, the def's number; a receiver that raises is not served -/
def eMeth (Γ : Gam) (mx : Nat → Option Nat) (f : ES) (fs : List ES) : ES := fun ρ => match f ρ with
  | .ok (.obj c ds, k) => match mx c with
    | some n => if k.solid then eCall Γ n (eC (.obj c ds) :: fs) ρ else .no
    | none => .no
  | _ => .no
end G
namespace G
open PySem L2
abbrev IS := Sl → Out (List D)
def itemsOf : D → Option (List D)
  | .lst xs => some xs
  | .tup xs => some xs
  | .frl ns => some (ns.map D.int)
  | .str s => some (s.cps.toList.map fun c => D.str ⟨#[c]⟩)
  | _ => none
/-- st: in a for statement (a slot's own list is not walked there) -/
def itE (st : Bool) (f : ES) : IS := fun ρ => (f ρ).bind fun x => if st && !x.2.solid then .no else match itemsOf x.1 with
  | some ds => .ok ds
  | none => .no
def in62 (i : Int) : Bool := decide (i.natAbs < 4611686018427387904)
def rngD (lo hi : Int) : List D := (List.range (hi - lo).toNat).map fun k => D.int (lo + (k : Nat))
def itR1 (f : ES) : IS := fun ρ => (f ρ).bind fun x => match x.1 with
  | .int j => if in62 j then .ok (rngD 0 j) else .no
  | _ => .no
def itR2 (f g : ES) : IS := fun ρ => (f ρ).bind fun x => (g ρ).bind fun y => match x.1, y.1 with
  | .int i, .int j => if in62 i && in62 j then .ok (rngD i j) else .no
  | _, _ => .no
def zipD : List D → List D → List D
  | x :: xs, y :: ys => .tup [x, y] :: zipD xs ys
  | _, _ => []
def itZip (st : Bool) (f g : ES) : IS := fun ρ => (f ρ).bind fun x => (g ρ).bind fun y => if st && !(x.2.solid && y.2.solid) then .no else match x.1, y.1 with
  | .lst xs, .lst ys => .ok (zipD xs ys)
  | .tup xs, .tup ys => .ok (zipD xs ys)
  | _, _ => .no
inductive Tg where
  | one (i : Nat) | tup (ts : List Tg)
mutual
def tgSet : Tg → D → Sl → Option Sl
  | .one i, d, ρ => if i < ρ.length then some (ρ.set i (.va d)) else none
  | .tup ts, .tup ds, ρ => tgSets ts ds ρ
  | .tup ts, .lst ds, ρ => tgSets ts ds ρ
  | _, _, _ => none
def tgSets : List Tg → List D → Sl → Option Sl
  | [], [], ρ => some ρ
  | t :: ts, d :: ds, ρ => (tgSet t d ρ).bind fun ρ' => tgSets ts ds ρ'
  | _, _, _ => none
end
mutual
def tgIdx : Tg → List Nat
  | .one i => [i]
  | .tup ts => tgIdxs ts
def tgIdxs : List Tg → List Nat
  | [] => []
  | t :: ts => tgIdx t ++ tgIdxs ts
end
def wipeS (ρ : Sl) : List Nat → Sl
  | [] => ρ
  | v :: vs => (wipeS ρ vs).set v .un
def tYes : TSm := fun _ => .ok true
/-- one turn behind another: ρ the slots as the block has them -/
def lcA (tg : Tg) (t : TSm) (e : ES) (ρ : Sl) : List D → List D → Out (List D)
  | acc, [] => .ok acc
  | acc, d :: ds => match tgSet tg d ρ with
    | none => .no
    | some ρ1 => match t ρ1 with
      | .ok true => match e ρ1 with
        | .ok (y, k) => if k.solid && decide (acc.length < SZ) then lcA tg t e ρ (acc ++ [y]) ds else .no
        | _ => .no
      | .ok false => lcA tg t e ρ acc ds
      | _ => .no
def eLc (it : IS) (tg : Tg) (t : TSm) (e : ES) (vs : List Nat) : ES := fun ρ => (it ρ).bind fun ds => (lcA tg t e (wipeS ρ vs) [] ds).bind fun r => .ok (.lst r, .fr)
end G
namespace G
open PySem L2
inductive Fl where
  | nx (ρ : Sl) | bk (ρ : Sl) | ct (ρ : Sl) | rt (d : D) (k : Kd) (ρ : Sl) | ex (n : Nat) (fs : List D) (ρ : Sl) | no
abbrev SS := Sl → Fl
def sSkip : SS := fun ρ => .nx ρ
def sSeq (f g : SS) : SS := fun ρ => match f ρ with
  | .nx ρ' => g ρ'
  | o => o
def sIf (t : TSm) (f g : SS) : SS := fun ρ => match t ρ with
  | .ok b => if b = true then f ρ else g ρ
  | .ex n fs => .ex n fs ρ
  | .no => .no
/-- what an expression gives, then a statement's end -/
def sWith {α : Type} (o : Out α) (ρ : Sl) (k : α → Fl) : Fl := match o with
  | .ok a => k a
  | .ex n fs => .ex n fs ρ
  | .no => .no
def sDrop (f : ES) : SS := fun ρ => sWith (f ρ) ρ fun _ => .nx ρ
/-- x = e; own: a fresh root is x's own -/
def asg (own : Bool) (i : Nat) (x : D × Kd) (ρ : Sl) : Fl := if i < ρ.length then (match x.2 with
  | .sh => .nx (ρ.set i (.va x.1))
  | .fr => if own then (if notObj x.1 then .nx (ρ.set i (.ow x.1)) else .no) else .nx (ρ.set i (.va x.1))
  | .tr _ => .no
  | .at _ => .no) else .no
def sAsg (own : Bool) (i : Nat) (f : ES) : SS := fun ρ => sWith (f ρ) ρ fun x => asg own i x ρ
def sTg (t : Tg) (f : ES) : SS := fun ρ => sWith (f ρ) ρ fun x => if x.2.solid then (match tgSet t x.1 ρ with
  | some ρ' => .nx ρ'
  | none => .no) else .no
def sRet (f : ES) : SS := fun ρ => sWith (f ρ) ρ fun x => .rt x.1 x.2 ρ
def sRetN : SS := fun ρ => .rt .non .sh ρ
def forL (t : Tg) (b : SS) : List D → SS
  | [], ρ => .nx ρ
  | d :: ds, ρ => match tgSet t d ρ with
    | none => .no
    | some ρ1 => match b ρ1 with
      | .nx ρ2 => forL t b ds ρ2
      | .ct ρ2 => forL t b ds ρ2
      | .bk ρ2 => .nx ρ2
      | o => o
def sFor (s : IS) (t : Tg) (b : SS) : SS := fun ρ => sWith (s ρ) ρ fun ds => forL t b ds ρ
def whileL (t : TSm) (b : SS) : Nat → SS
  | 0, _ => .no
  | n + 1, ρ => match t ρ with
    | .ok true => (match b ρ with
      | .nx ρ2 => whileL t b n ρ2
      | .ct ρ2 => whileL t b n ρ2
      | .bk ρ2 => .nx ρ2
      | o => o)
    | .ok false => .nx ρ
    | .ex n fs => .ex n fs ρ
    | .no => .no
/-- turns enough -/
@[irreducible] def FU : Nat := 1000000000
def sWhile (t : TSm) (b : SS) : SS := whileL t b FU
/-- self.f = e in __init__ -/
def sFld (fx : Nat → Nat → Bool) (i : Nat) (f : ES) : SS := fun ρ => sWith (f ρ) ρ fun x => if clean x.1 x.2 then (match ρ[i]? with
  | some (.me c ds) => if fx c ds.length then .nx (ρ.set i (.me c (ds ++ [x.1]))) else .no
  | _ => .no) else .no
end G
namespace G
open PySem PySem.Spec L2
/-- the written part, the handled exception, the classes' addresses and their fields -/
structure Th where
  K : PySem.W.Frag
  xa : Option Addr
  C : Nat → Addr
  fld : Nat → List Str
  xb : Option Addr
mutual
inductive Rep (θ : Th) (F : Hp) : D → V → Prop
  | non : Rep θ F .non .non
  | bl (b : Bool) : Rep θ F (.bl b) (.bl b)
  | int (i : Int) : Rep θ F (.int i) (.int i)
  | str (s : Str) : Rep θ F (.str s) (.str s)
  | lst {a : Addr} {xs : List V} {ds : List D} : F a = some (.lst xs) → RepL θ F ds xs → Rep θ F (.lst ds) (.ref a)
  | tup {a : Addr} {xs : List V} {ds : List D} : F a = some (.tup xs) → RepL θ F ds xs → Rep θ F (.tup ds) (.ref a)
  | dK {a : Addr} {ks : List Key} {xs : List V} {ds : List D} : F a = some (.dK (ks.zip xs)) → ks.length = ds.length → RepL θ F ds xs → Rep θ F (.dK ks ds) (.ref a)
  | dT {a : Addr} {ks : List (List Key)} {xs : List V} {ds : List D} : F a = some (.dT (ks.zip xs)) → ks.length = ds.length → RepL θ F ds xs → Rep θ F (.dT ks ds) (.ref a)
  | obj {a dx : Addr} {c : Nat} {xs : List V} {ds : List D} : F a = some (.ins (θ.C c) dx ((θ.fld c).zip xs)) → (θ.fld c).length = ds.length → RepL θ F ds xs → Rep θ F (.obj c ds) (.ref a)
  | frl {a : Addr} {ns : List Int} : SqL θ.K F a (ns.map V.int) → Rep θ F (.frl ns) (.ref a)
  /-- something that is not looked at -/
  | hx {a : Addr} : Rep θ F .hx (.ref a)
inductive RepL (θ : Th) (F : Hp) : List D → List V → Prop
  | nil : RepL θ F [] []
  | cons {d : D} {v : V} {ds : List D} {vs : List V} : Rep θ F d v → RepL θ F ds vs → RepL θ F (d :: ds) (v :: vs)
end
/-- the root of an object that is not in the frozen part -/
inductive Root (θ : Th) (F : Hp) : D → HO → Prop
  | lst {xs : List V} {ds : List D} : RepL θ F ds xs → Root θ F (.lst ds) (.lst xs)
  | dK {ks : List Key} {xs : List V} {ds : List D} : ks.length = ds.length → RepL θ F ds xs → Root θ F (.dK ks ds) (.dK (ks.zip xs))
  | dT {ks : List (List Key)} {xs : List V} {ds : List D} : ks.length = ds.length → RepL θ F ds xs → Root θ F (.dT ks ds) (.dT (ks.zip xs))
  /-- an instance, its first fields stored -/
  | obj {c : Nat} {dx : Addr} {xs : List V} {ds : List D} : ds.length ≤ (θ.fld c).length → RepL θ F ds xs → Root θ F (.obj c ds) (.ins (θ.C c) dx (((θ.fld c).take ds.length).zip xs))
/-- all fields are there -/
def Full (θ : Th) : D → Prop
  | .obj c ds => ds.length = (θ.fld c).length
  | _ => True
section
variable {θ : Th} {F F' H H' : Hp}
theorem RepL.length : ∀ {ds : List D} {xs : List V}, RepL θ F ds xs → xs.length = ds.length
  | [], _, h => by cases h; rfl
  | d :: ds, _, h => by
    cases h with
    | cons a b => simp [RepL.length b]
mutual
theorem Rep.mono (e : Same F F') : ∀ {d : D} {v : V}, Rep θ F d v → Rep θ F' d v
  | _, _, .non => .non
  | _, _, .bl b => .bl b
  | _, _, .int b => .int b
  | _, _, .str b => .str b
  | _, _, .lst h r => .lst (e _ _ h) (RepL.mono e r)
  | _, _, .tup h r => .tup (e _ _ h) (RepL.mono e r)
  | _, _, .dK h l r => .dK (e _ _ h) l (RepL.mono e r)
  | _, _, .dT h l r => .dT (e _ _ h) l (RepL.mono e r)
  | _, _, .obj h l r => .obj (e _ _ h) l (RepL.mono e r)
  | _, _, .frl h => .frl (e.seq h)
  | _, _, .hx => .hx
theorem RepL.mono (e : Same F F') : ∀ {ds : List D} {vs : List V}, RepL θ F ds vs → RepL θ F' ds vs
  | _, _, .nil => .nil
  | _, _, .cons h r => .cons (Rep.mono e h) (RepL.mono e r)
end
theorem Root.mono (e : Same F F') {d : D} {o : HO} : Root θ F d o → Root θ F' d o
  | .lst r => .lst (r.mono e)
  | .dK l r => .dK l (r.mono e)
  | .dT l r => .dT l (r.mono e)
  | .obj l r => .obj l (r.mono e)
theorem RepL.append : ∀ {ds es : List D} {xs ys : List V}, RepL θ F ds xs → RepL θ F es ys → RepL θ F (ds ++ es) (xs ++ ys)
  | _, _, _, _, .nil, s => s
  | _, _, _, _, .cons r t, s => .cons r (RepL.append t s)
theorem RepL.get : ∀ {ds : List D} {xs : List V} {i : Nat} {d : D}, RepL θ F ds xs → ds[i]? = some d → ∃ v, xs[i]? = some v ∧ Rep θ F d v
  | _, _, _, _, .nil, e => by simp at e
  | _, _, 0, _, .cons r _, e => by
    simp at e
    subst e
    exact ⟨_, rfl, r⟩
  | _, _, i + 1, d, .cons _ t, e => by
    obtain ⟨u, h1, h2⟩ := RepL.get (i := i) (d := d) t (by simpa using e)
    exact ⟨u, by simpa using h1, h2⟩
theorem RepL.take : ∀ {ds : List D} {xs : List V} (n : Nat), RepL θ F ds xs → RepL θ F (ds.take n) (xs.take n)
  | _, _, 0, _ => .nil
  | _, _, _ + 1, .nil => .nil
  | _, _, n + 1, .cons r t => .cons r (RepL.take n t)
theorem RepL.drop : ∀ {ds : List D} {xs : List V} (n : Nat), RepL θ F ds xs → RepL θ F (ds.drop n) (xs.drop n)
  | _, _, 0, r => r
  | _, _, _ + 1, .nil => .nil
  | _, _, n + 1, .cons _ t => RepL.drop n t
theorem RepL.set : ∀ {ds : List D} {xs : List V} {d : D} {v : V} (n : Nat), RepL θ F ds xs → Rep θ F d v → RepL θ F (ds.set n d) (xs.set n v)
  | _, _, _, _, _, .nil, _ => .nil
  | _, _, _, _, 0, .cons _ t, q => .cons q t
  | _, _, _, _, n + 1, .cons r t, q => .cons r (RepL.set n t q)
theorem RepL.ints : ∀ {ns : List Int} {xs : List V}, RepL θ F (ns.map D.int) xs → xs = ns.map V.int
  | [], _, h => by cases h; rfl
  | n :: ns, _, h => by
    cases h with
    | cons a b =>
      cases a
      rw [RepL.ints b]
      rfl
/-- flat values lean on no heap -/
theorem Rep.flat {d : D} {v : V} (h : G.flat d = true) (r : Rep θ F d v) : Rep θ F' d v := by
  cases r with
  | non => exact .non
  | bl b => exact .bl b
  | int b => exact .int b
  | str b => exact .str b
  | _ => cases h
/-- a root put into the frozen part -/
theorem Root.frozen {a : Addr} {o : HO} {d : D} (n : F a = none) (r : Root θ F d o) (fu : Full θ d) : Rep θ (upd F a o) d (.ref a) := by
  have e : Same F (upd F a o) := fun b u h => by rw [upd_ne (ne_of_none h n)]; exact h
  cases r with
  | lst r => exact .lst upd_same (r.mono e)
  | dK l r => exact .dK upd_same l (r.mono e)
  | dT l r => exact .dT upd_same l (r.mono e)
  | @obj c dx xs ds l r =>
    have fu : ds.length = (θ.fld c).length := fu
    have r2 := r.mono e
    rw [fu, List.take_length] at r2 ⊢
    exact .obj upd_same fu.symm r2
end
def IsDict : HO → Prop
  | .dK _ => True
  | .dT _ => True
  | _ => False
/-- F stands in H (a dict that a loop walks is locked there) -/
def Sub (F H : Hp) : Prop := ∀ a u, F a = some u → H a = some u ∨ (IsDict u ∧ ∃ o, H a = some (.frz o u))
/-- what an expression leaves: all as it was, F' further -/
structure Ext (F H F' H' : Hp) : Prop where
  sub : Sub F' H'
  ff : Same F F'
  hh : Same H H'
  nw : ∀ a u, F' a = some u → F a = some u ∨ H a = none ∨ ∃ xs, u = .tup xs
section
variable {θ : Th} {F F' F2 H H' H2 : Hp}
theorem Ext.refl (s : Sub F H) : Ext F H F H := ⟨s, .refl _, .refl _, fun _ _ h => .inl h⟩
theorem Ext.trans (a : Ext F H F' H') (b : Ext F' H' F2 H2) : Ext F H F2 H2 := by
  refine ⟨b.sub, a.ff.trans b.ff, a.hh.trans b.hh, fun c u h => ?_⟩
  rcases b.nw c u h with z | z | z
  · exact a.nw c u z
  · exact .inr (.inl (a.hh.free z))
  · exact .inr (.inr z)
/-- a new object laid, not frozen -/
theorem Sub.lay {a : Addr} {o : HO} (s : Sub F H) (n : H a = none) : Sub F (upd H a o) := fun b u h => by
  have nb : b ≠ a := fun e => by
    subst e
    rcases s b u h with z | ⟨_, _, z⟩ <;> (rw [n] at z; cases z)
  rw [upd_ne nb]
  exact s b u h
theorem Sub.tup0 {a : Addr} {xs : List V} (s : Sub F H) (h : F a = some (.tup xs)) : H a = some (.tup xs) := by
  rcases s _ _ h with z | ⟨z, _⟩
  · exact z
  · cases z
theorem Sub.free {a : Addr} (s : Sub F H) (n : H a = none) : F a = none := by
  cases q : F a with
  | none => rfl
  | some u => rcases s a u q with z | ⟨_, _, z⟩ <;> (rw [n] at z; cases z)
theorem Same.lay {a : Addr} {o : HO} (n : H a = none) : Same H (upd H a o) := fun b u h => by rw [upd_ne (ne_of_none h n)]; exact h
theorem Ext.lay {a : Addr} {o : HO} (s : Sub F H) (n : H a = none) : Ext F H F (upd H a o) := ⟨s.lay n, .refl _, Same.lay n, fun _ _ h => .inl h⟩
/-- .. and frozen -/
theorem Ext.freeze {a : Addr} {o : HO} (s : Sub F H) (h : H a = some o) (n : F a = none) (h0 : Hp) (k : Same h0 H) (n0 : h0 a = none) (F0 : Hp) (e : Ext F0 h0 F H) : Ext F0 h0 (upd F a o) H := by
  refine ⟨fun b u q => ?_, e.ff.trans (Same.lay n), e.hh, fun b u q => ?_⟩
  · by_cases hb : b = a
    · subst hb
      rw [upd_same] at q
      cases q
      exact .inl h
    · rw [upd_ne hb] at q
      exact s b u q
  · by_cases hb : b = a
    · subst hb
      exact .inr (.inl n0)
    · rw [upd_ne hb] at q
      exact e.nw b u q
/-- what of F is not in H -/
def onlyN (F H : Hp) : Hp := fun b => match H b with
  | none => F b
  | some _ => none
theorem onlyN_le {F H : Hp} : Same (onlyN F H) F := fun b u h => by
  unfold onlyN at h
  cases q : H b with
  | none => rw [q] at h; exact h
  | some w => rw [q] at h; cases h
theorem onlyN_at {F H : Hp} {a : Addr} {u : HO} (h : F a = some u) (n : H a = none) : onlyN F H a = some u := by
  unfold onlyN
  rw [n]
  exact h
theorem onlyN_mono {F F' H H' : Hp} (e : Same F F') (hn : ∀ b, H b = none → H' b = none) : Same (onlyN F H) (onlyN F' H') := fun b u h => by
  unfold onlyN at h ⊢
  cases q : H b with
  | none => rw [q] at h; rw [hn b q]; exact e b u h
  | some w => rw [q] at h; cases h
/-- an instance that is new is new through and through -/
def Nw (θ : Th) (F' H : Hp) (d : D) (o : HO) : Prop := notObj d = false → Root θ (onlyN F' H) d o
theorem Nw.mono {θ : Th} {F F' H H' : Hp} {d : D} {o : HO} (h : Nw θ F H d o) (e : Same F F') (hn : ∀ b, H b = none → H' b = none) : Nw θ F' H' d o := fun z => (h z).mono (onlyN_mono e hn)
theorem Nw.of {θ : Th} {F H : Hp} {d : D} {o : HO} (h : notObj d = true) : Nw θ F H d o := fun z => by rw [h] at z; cases z
theorem Full.of {θ : Th} {d : D} (h : notObj d = true) : Full θ d := by cases d <;> first | trivial | cases h
/-- a fresh root behind an expression -/
def FrV (θ : Th) (F' H H' : Hp) (d : D) (v : V) : Prop := Full θ d ∧ ∃ a o, v = .ref a ∧ H a = none ∧ H' a = some o ∧ F' a = none ∧ Root θ F' d o ∧ Nw θ F' H d o
theorem FrV.freeze {d : D} {v : V} (e : Ext F H F' H') (f : FrV θ F' H H' d v) : ∃ F2, Ext F H F2 H' ∧ Same F' F2 ∧ Rep θ F2 d v := by
  obtain ⟨fu, a, o, rfl, n, h, nf, r, _⟩ := f
  exact ⟨upd F' a o, Ext.freeze e.sub h nf H e.hh n F e, Same.lay nf, r.frozen nf fu⟩
end
mutual
/-- d lies at v as a tree whose objects at S are nobody else's; its leaves are frozen -/
inductive Tr (θ : Th) (B F H : Hp) : Sh → D → V → List Addr → Prop
  | lf {d : D} {v : V} : Rep θ F d v → Tr θ B F H .lf d v []
  | fl {k : Nat → Sh} {d : D} {v : V} : flat d = true → Rep θ F d v → Tr θ B F H (.nd k) d v []
  | lst {k : Nat → Sh} {a : Addr} {xs : List V} {ds : List D} {S : List Addr} : H a = some (.lst xs) → TrL θ B F H k 0 ds xs S → Tr θ B F H (.nd k) (.lst ds) (.ref a) (a :: S)
  | tup {k : Nat → Sh} {a : Addr} {xs : List V} {ds : List D} {S : List Addr} : H a = some (.tup xs) → True → TrL θ B F H k 0 ds xs S → Tr θ B F H (.nd k) (.tup ds) (.ref a) S
  | dK {k : Nat → Sh} {a : Addr} {ks : List Key} {xs : List V} {ds : List D} {S : List Addr} : H a = some (.dK (ks.zip xs)) → ks.length = ds.length → TrL θ B F H k 0 ds xs S → Tr θ B F H (.nd k) (.dK ks ds) (.ref a) (a :: S)
  | dT {k : Nat → Sh} {a : Addr} {ks : List (List Key)} {xs : List V} {ds : List D} {S : List Addr} : H a = some (.dT (ks.zip xs)) → ks.length = ds.length → TrL θ B F H k 0 ds xs S → Tr θ B F H (.nd k) (.dT ks ds) (.ref a) (a :: S)
  | obj {k : Nat → Sh} {a dx : Addr} {c : Nat} {xs : List V} {ds : List D} {S : List Addr} : H a = some (.ins (θ.C c) dx ((θ.fld c).zip xs)) → (θ.fld c).length = ds.length → TrL θ B F H k 0 ds xs S → Tr θ B F H (.nd k) (.obj c ds) (.ref a) (a :: S)
  /-- lent: at the address that the def was given -/
  | fll {k : Nat → Sh} {d : D} {v : V} : flat d = true → Rep θ F d v → Tr θ B F H (.ln k) d v []
  | f2l {k : Nat → Sh} {d : D} {v : V} : flat d = true → Rep θ F d v → Tr θ B F H (.l2 k) d v []
  | ln {k : Nat → Sh} {a : Addr} {d : D} {S : List Addr} : θ.xa = some a → Tr θ B F H (.nd k) d (.ref a) S → Tr θ B F H (.ln k) d (.ref a) S
  | l2 {k : Nat → Sh} {a : Addr} {d : D} {S : List Addr} : θ.xb = some a → Tr θ B F H (.nd k) d (.ref a) S → Tr θ B F H (.l2 k) d (.ref a) S
inductive TrL (θ : Th) (B F H : Hp) : (Nat → Sh) → Nat → List D → List V → List Addr → Prop
  | nil {k : Nat → Sh} {n : Nat} : TrL θ B F H k n [] [] []
  | cons {k : Nat → Sh} {n : Nat} {d : D} {v : V} {ds : List D} {vs : List V} {S1 S2 : List Addr} : Tr θ B F H (k n) d v S1 → TrL θ B F H k (n + 1) ds vs S2 → TrL θ B F H k n (d :: ds) (v :: vs) (S1 ++ S2)
end
section
variable {θ : Th} {B F F' H H' : Hp}
theorem TrL.length : ∀ {k : Nat → Sh} {n : Nat} {ds : List D} {vs : List V} {S : List Addr}, TrL θ B F H k n ds vs S → vs.length = ds.length
  | _, _, _, _, _, .nil => rfl
  | _, _, _, _, _, .cons _ t => by rw [List.length_cons, List.length_cons, TrL.length t]
mutual
theorem Tr.keep (ff : Same F F') (tp : ∀ b xs, H b = some (.tup xs) → H' b = some (.tup xs)) : ∀ {k : Sh} {d : D} {v : V} {S : List Addr}, (∀ b ∈ S, H' b = H b) → Tr θ B F H k d v S → Tr θ B F' H' k d v S
  | _, _, _, _, _, .lf r => .lf (r.mono ff)
  | _, _, _, _, _, .fl h r => .fl h (r.mono ff)
  | _, _, _, _, hk, .lst h t => .lst ((hk _ List.mem_cons_self).trans h) (TrL.keep ff tp (fun b hb => hk b (List.mem_cons_of_mem _ hb)) t)
  | _, _, _, _, hk, .tup h hb t => .tup (tp _ _ h) hb (TrL.keep ff tp hk t)
  | _, _, _, _, hk, .dK h l t => .dK ((hk _ List.mem_cons_self).trans h) l (TrL.keep ff tp (fun b hb => hk b (List.mem_cons_of_mem _ hb)) t)
  | _, _, _, _, hk, .dT h l t => .dT ((hk _ List.mem_cons_self).trans h) l (TrL.keep ff tp (fun b hb => hk b (List.mem_cons_of_mem _ hb)) t)
  | _, _, _, _, hk, .obj h l t => .obj ((hk _ List.mem_cons_self).trans h) l (TrL.keep ff tp (fun b hb => hk b (List.mem_cons_of_mem _ hb)) t)
  | _, _, _, _, _, .fll h r => .fll h (r.mono ff)
  | _, _, _, _, _, .f2l h r => .f2l h (r.mono ff)
  | _, _, _, _, hk, .ln h t => .ln h (Tr.keep ff tp hk t)
  | _, _, _, _, hk, .l2 h t => .l2 h (Tr.keep ff tp hk t)
theorem TrL.keep (ff : Same F F') (tp : ∀ b xs, H b = some (.tup xs) → H' b = some (.tup xs)) : ∀ {k : Nat → Sh} {n : Nat} {ds : List D} {vs : List V} {S : List Addr}, (∀ b ∈ S, H' b = H b) → TrL θ B F H k n ds vs S → TrL θ B F' H' k n ds vs S
  | _, _, _, _, _, _, .nil => .nil
  | _, _, _, _, _, hk, .cons h t => .cons (Tr.keep ff tp (fun b hb => hk b (List.mem_append_left _ hb)) h) (TrL.keep ff tp (fun b hb => hk b (List.mem_append_right _ hb)) t)
end
mutual
theorem Tr.some : ∀ {k : Sh} {d : D} {v : V} {S : List Addr}, Tr θ B F H k d v S → ∀ b ∈ S, ∃ o, H b = some o ∧ ∀ xs, o ≠ .tup xs
  | _, _, _, _, .lf r, b, hb => by cases hb
  | _, _, _, _, .fl h r, b, hb => by cases hb
  | _, _, _, _, .lst h t, b, hb => by
    rcases List.mem_cons.mp hb with rfl | hb
    · exact ⟨_, h, fun _ z => by cases z⟩
    · exact TrL.some t b hb
  | _, _, _, _, .tup h hB t, b, hb => TrL.some t b hb
  | _, _, _, _, .dK h l t, b, hb => by
    rcases List.mem_cons.mp hb with rfl | hb
    · exact ⟨_, h, fun _ z => by cases z⟩
    · exact TrL.some t b hb
  | _, _, _, _, .dT h l t, b, hb => by
    rcases List.mem_cons.mp hb with rfl | hb
    · exact ⟨_, h, fun _ z => by cases z⟩
    · exact TrL.some t b hb
  | _, _, _, _, .obj h l t, b, hb => by
    rcases List.mem_cons.mp hb with rfl | hb
    · exact ⟨_, h, fun _ z => by cases z⟩
    · exact TrL.some t b hb
  | _, _, _, _, .fll h r, b, hb => by cases hb
  | _, _, _, _, .f2l h r, b, hb => by cases hb
  | _, _, _, _, .ln h t, b, hb => Tr.some t b hb
  | _, _, _, _, .l2 h t, b, hb => Tr.some t b hb
theorem TrL.some : ∀ {k : Nat → Sh} {n : Nat} {ds : List D} {vs : List V} {S : List Addr}, TrL θ B F H k n ds vs S → ∀ b ∈ S, ∃ o, H b = some o ∧ ∀ xs, o ≠ .tup xs
  | _, _, _, _, _, .nil, b, hb => by cases hb
  | _, _, _, _, _, .cons h t, b, hb => (List.mem_append.mp hb).elim (Tr.some h b) (TrL.some t b)
end
mutual
theorem Tr.nofrz : ∀ {k : Sh} {d : D} {v : V} {S : List Addr}, Tr θ B F H k d v S → ∀ b ∈ S, ∀ o w, H b ≠ Option.some (.frz o w)
  | _, _, _, _, .lf r, b, hb => by cases hb
  | _, _, _, _, .fl h r, b, hb => by cases hb
  | _, _, _, _, .lst h t, b, hb => by
    rcases List.mem_cons.mp hb with rfl | hb
    · rw [h]; intro _ _ z; cases z
    · exact TrL.nofrz t b hb
  | _, _, _, _, .tup h hB t, b, hb => TrL.nofrz t b hb
  | _, _, _, _, .dK h l t, b, hb => by
    rcases List.mem_cons.mp hb with rfl | hb
    · rw [h]; intro _ _ z; cases z
    · exact TrL.nofrz t b hb
  | _, _, _, _, .dT h l t, b, hb => by
    rcases List.mem_cons.mp hb with rfl | hb
    · rw [h]; intro _ _ z; cases z
    · exact TrL.nofrz t b hb
  | _, _, _, _, .obj h l t, b, hb => by
    rcases List.mem_cons.mp hb with rfl | hb
    · rw [h]; intro _ _ z; cases z
    · exact TrL.nofrz t b hb
  | _, _, _, _, .fll h r, b, hb => by cases hb
  | _, _, _, _, .f2l h r, b, hb => by cases hb
  | _, _, _, _, .ln h t, b, hb => Tr.nofrz t b hb
  | _, _, _, _, .l2 h t, b, hb => Tr.nofrz t b hb
theorem TrL.nofrz : ∀ {k : Nat → Sh} {n : Nat} {ds : List D} {vs : List V} {S : List Addr}, TrL θ B F H k n ds vs S → ∀ b ∈ S, ∀ o w, H b ≠ Option.some (.frz o w)
  | _, _, _, _, _, .nil, b, hb => by cases hb
  | _, _, _, _, _, .cons h t, b, hb => (List.mem_append.mp hb).elim (Tr.nofrz h b) (TrL.nofrz t b)
end
theorem zip_inj {α : Type} : ∀ {ks : List α} {xs ys : List V}, ks.length = xs.length → ks.length = ys.length → ks.zip xs = ks.zip ys → xs = ys
  | [], [], [], _, _, _ => rfl
  | [], _ :: _, _, h, _, _ => by cases h
  | [], [], _ :: _, _, h, _ => by cases h
  | _ :: _, [], _, h, _, _ => by cases h
  | _ :: _, _ :: _, [], _, h, _ => by cases h
  | k :: ks, x :: xs, y :: ys, h1, h2, h => by
    rw [List.zip_cons_cons, List.zip_cons_cons] at h
    injection h with h3 h4
    injection h3 with _ h5
    rw [h5, zip_inj (by simpa using h1) (by simpa using h2) h4]
mutual
/-- where the objects of a tree lie is not open -/
theorem Tr.det : ∀ {k : Sh} {d : D} {v : V} {S S' : List Addr}, Tr θ B F H k d v S → Tr θ B F H k d v S' → S = S'
  | _, _, _, _, _, .lf _, g => by cases g; rfl
  | _, _, _, _, _, .fl h _, g => by
    cases g with
    | fl _ _ => rfl
    | lst _ _ => cases h
    | tup _ _ _ => cases h
    | dK _ _ _ => cases h
    | dT _ _ _ => cases h
    | obj _ _ _ => cases h
  | _, _, _, _, _, .lst h t, g => by
    cases g with
    | fl z _ => cases z
    | lst h2 t2 =>
      rw [h] at h2
      cases h2
      rw [TrL.det t t2]
  | _, _, _, _, _, .tup h hB t, g => by
    cases g with
    | fl z _ => cases z
    | tup h2 _ t2 =>
      rw [h] at h2
      cases h2
      exact TrL.det t t2
  | _, _, _, _, _, .dK h l t, g => by
    cases g with
    | fl z _ => cases z
    | dK h2 l2 t2 =>
      rw [h] at h2
      injection h2 with h2
      injection h2 with h2
      have e := zip_inj (by rw [t.length]; exact l) (by rw [t2.length]; exact l) h2
      subst e
      rw [TrL.det t t2]
  | _, _, _, _, _, .dT h l t, g => by
    cases g with
    | fl z _ => cases z
    | dT h2 l2 t2 =>
      rw [h] at h2
      injection h2 with h2
      injection h2 with h2
      have e := zip_inj (by rw [t.length]; exact l) (by rw [t2.length]; exact l) h2
      subst e
      rw [TrL.det t t2]
  | _, _, _, _, _, .obj h l t, g => by
    cases g with
    | fl z _ => cases z
    | obj h2 l2 t2 =>
      rw [h] at h2
      injection h2 with h2
      injection h2 with _ _ h2
      have e := zip_inj (by rw [t.length]; exact l) (by rw [t2.length]; exact l) h2
      subst e
      rw [TrL.det t t2]
  | _, _, _, _, _, .fll h r, g => by
    cases g with
    | fll _ _ => rfl
    | ln h2 t2 =>
      cases r with
      | lst _ _ => cases h
      | tup _ _ => cases h
      | dK _ _ _ => cases h
      | dT _ _ _ => cases h
      | obj _ _ _ => cases h
      | frl _ => cases h
      | hx => cases h
  | _, _, _, _, _, .ln h t, g => by
    cases g with
    | fll h2 r =>
      cases r with
      | lst _ _ => cases h2
      | tup _ _ => cases h2
      | dK _ _ _ => cases h2
      | dT _ _ _ => cases h2
      | obj _ _ _ => cases h2
      | frl _ => cases h2
      | hx => cases h2
    | ln h2 t2 => exact Tr.det t t2
  | _, _, _, _, _, .f2l h r, g => by
    cases g with
    | f2l _ _ => rfl
    | l2 h2 t2 =>
      cases r with
      | lst _ _ => cases h
      | tup _ _ => cases h
      | dK _ _ _ => cases h
      | dT _ _ _ => cases h
      | obj _ _ _ => cases h
      | frl _ => cases h
      | hx => cases h
  | _, _, _, _, _, .l2 h t, g => by
    cases g with
    | f2l h2 r =>
      cases r with
      | lst _ _ => cases h2
      | tup _ _ => cases h2
      | dK _ _ _ => cases h2
      | dT _ _ _ => cases h2
      | obj _ _ _ => cases h2
      | frl _ => cases h2
      | hx => cases h2
    | l2 h2 t2 => exact Tr.det t t2
theorem TrL.det : ∀ {k : Nat → Sh} {n : Nat} {ds : List D} {vs : List V} {S S' : List Addr}, TrL θ B F H k n ds vs S → TrL θ B F H k n ds vs S' → S = S'
  | _, _, _, _, _, _, .nil, g => by cases g; rfl
  | _, _, _, _, _, _, .cons h t, g => by
    cases g with
    | cons h2 t2 => rw [Tr.det h h2, TrL.det t t2]
end
end
/-- the slot's own is one object -/
def Owner (ρ : Sl) (j : Nat) : Prop := (∃ d, ρ[j]? = some (.ow d)) ∨ ∃ k ds, ρ[j]? = some (.me k ds)
/-- the own trees: at Z i that of slot i -/
def PvAll (θ : Th) (B F H : Hp) (σ : St) (ρ : Sl) (Z : Nat → List Addr) : Prop := ∀ (i : Nat) (k : Sh) (d : D), ρ[i]? = some (.pv k d) →
  (∃ v, σ[i]? = some (some v) ∧ Tr θ B F H k d v (Z i)) ∧ (Z i).Nodup ∧ (∀ b ∈ Z i, F b = none ∧ B b = none) ∧ (∀ (j : Nat) (b : Addr), Owner ρ j → σ[j]? = some (some (.ref b)) → b ∉ Z i) ∧
  ∀ (j : Nat) (k' : Sh) (d' : D), j ≠ i → ρ[j]? = some (.pv k' d') → ∀ z ∈ Z j, z ∉ Z i
theorem PvAll.step {θ : Th} {B F F' H H' : Hp} {σ σ' : St} {ρ ρ' : Sl} {Z : Nat → List Addr} (h : PvAll θ B F H σ ρ Z) (ff : Same F F') (tp : ∀ b xs, H b = some (.tup xs) → H' b = some (.tup xs))
    (st : ∀ (i : Nat) (k : Sh) (d : D), ρ'[i]? = some (.pv k d) → ρ[i]? = some (.pv k d) ∧ σ'[i]? = σ[i]? ∧ ∀ b ∈ Z i, H' b = H b ∧ F' b = none)
    (ow : ∀ (i : Nat) (k : Sh) (d : D) (j : Nat) (b : Addr), ρ'[i]? = some (.pv k d) → Owner ρ' j → σ'[j]? = some (some (.ref b)) → b ∉ Z i) : PvAll θ B F' H' σ' ρ' Z := fun i k d hi => by
  obtain ⟨g1, g2, g3⟩ := st i k d hi
  obtain ⟨⟨v, h1, h2⟩, h3, h4, h5, h6⟩ := h i k d g1
  refine ⟨⟨v, by rw [g2]; exact h1, h2.keep ff tp fun b hb => (g3 b hb).1⟩, h3, fun b hb => ⟨(g3 b hb).2, (h4 b hb).2⟩, fun j b ho hs => ow i k d j b hi ho hs, fun j k' d' hj hp => h6 j k' d' hj (st j k' d' hp).1⟩
/-- no own trees -/
theorem PvAll.empty {θ : Th} {B F H : Hp} {σ : St} {ρ : Sl} (h : ∀ (i : Nat) (k : Sh) (d : D), ρ[i]? ≠ some (.pv k d)) : PvAll θ B F H σ ρ fun _ => [] := fun i k d hi => absurd hi (h i k d)
theorem shD_flat {d : D} (h : flat d = true) : shD d = .lf := by cases d <;> first | rfl | cases h
/-- a new tree behind an expression -/
def TrV (θ : Th) (F' H H' : Hp) (n : Nat) (d : D) (v : V) : Prop := ∃ S, Tr θ H F' H' (shT n d) d v S ∧ S.Nodup ∧ ∀ b ∈ S, H b = none ∧ F' b = none
section
variable {θ : Th} {B B' F F' H H' : Hp}
mutual
theorem Tr.base (hn : ∀ b, B b = none → B' b = none) : ∀ {k : Sh} {d : D} {v : V} {S : List Addr}, Tr θ B F H k d v S → Tr θ B' F H k d v S
  | _, _, _, _, .lf r => .lf r
  | _, _, _, _, .fl h r => .fl h r
  | _, _, _, _, .lst h t => .lst h (TrL.base hn t)
  | _, _, _, _, .tup h hb t => .tup h hb (TrL.base hn t)
  | _, _, _, _, .dK h l t => .dK h l (TrL.base hn t)
  | _, _, _, _, .dT h l t => .dT h l (TrL.base hn t)
  | _, _, _, _, .obj h l t => .obj h l (TrL.base hn t)
  | _, _, _, _, .fll h r => .fll h r
  | _, _, _, _, .f2l h r => .f2l h r
  | _, _, _, _, .ln h t => .ln h (Tr.base hn t)
  | _, _, _, _, .l2 h t => .l2 h (Tr.base hn t)
theorem TrL.base (hn : ∀ b, B b = none → B' b = none) : ∀ {k : Nat → Sh} {n : Nat} {ds : List D} {vs : List V} {S : List Addr}, TrL θ B F H k n ds vs S → TrL θ B' F H k n ds vs S
  | _, _, _, _, _, .nil => .nil
  | _, _, _, _, _, .cons h t => .cons (Tr.base hn h) (TrL.base hn t)
end
end
section
variable {θ : Th} {F0 B F F' H H' : Hp}
mutual
theorem frz_tr : ∀ {k : Sh} {d : D} {v : V} {S : List Addr}, Tr θ B F H k d v S → ∃ N : List Addr, (∀ b ∈ N, b ∈ S ∨ (True ∧ ∃ xs, H b = some (.tup xs))) ∧ ∀ F', Same F F' → (∀ b ∈ N, ∀ u, H b = some u → F' b = some u) → Rep θ F' d v
  | _, _, _, _, .lf r => ⟨[], (fun _ h => by cases h), fun _ e _ => r.mono e⟩
  | _, _, _, _, .fl _ r => ⟨[], (fun _ h => by cases h), fun _ e _ => r.mono e⟩
  | _, _, _, _, .lst (a := a) h t => by
    obtain ⟨N, h1, h2⟩ := frz_trl t
    refine ⟨a :: N, fun b hb => ?_, fun F' e hN => .lst (hN a List.mem_cons_self _ h) (h2 F' e fun b hb => hN b (List.mem_cons_of_mem _ hb))⟩
    rcases List.mem_cons.mp hb with rfl | hb
    · exact .inl List.mem_cons_self
    · exact (h1 b hb).imp (List.mem_cons_of_mem _) id
  | _, _, _, _, .tup (a := a) h hB t => by
    obtain ⟨N, h1, h2⟩ := frz_trl t
    refine ⟨a :: N, fun b hb => ?_, fun F' e hN => .tup (hN a List.mem_cons_self _ h) (h2 F' e fun b hb => hN b (List.mem_cons_of_mem _ hb))⟩
    rcases List.mem_cons.mp hb with rfl | hb
    · exact .inr ⟨hB, _, h⟩
    · exact h1 b hb
  | _, _, _, _, .dK (a := a) h l t => by
    obtain ⟨N, h1, h2⟩ := frz_trl t
    refine ⟨a :: N, fun b hb => ?_, fun F' e hN => .dK (hN a List.mem_cons_self _ h) l (h2 F' e fun b hb => hN b (List.mem_cons_of_mem _ hb))⟩
    rcases List.mem_cons.mp hb with rfl | hb
    · exact .inl List.mem_cons_self
    · exact (h1 b hb).imp (List.mem_cons_of_mem _) id
  | _, _, _, _, .dT (a := a) h l t => by
    obtain ⟨N, h1, h2⟩ := frz_trl t
    refine ⟨a :: N, fun b hb => ?_, fun F' e hN => .dT (hN a List.mem_cons_self _ h) l (h2 F' e fun b hb => hN b (List.mem_cons_of_mem _ hb))⟩
    rcases List.mem_cons.mp hb with rfl | hb
    · exact .inl List.mem_cons_self
    · exact (h1 b hb).imp (List.mem_cons_of_mem _) id
  | _, _, _, _, .obj (a := a) h l t => by
    obtain ⟨N, h1, h2⟩ := frz_trl t
    refine ⟨a :: N, fun b hb => ?_, fun F' e hN => .obj (hN a List.mem_cons_self _ h) l (h2 F' e fun b hb => hN b (List.mem_cons_of_mem _ hb))⟩
    rcases List.mem_cons.mp hb with rfl | hb
    · exact .inl List.mem_cons_self
    · exact (h1 b hb).imp (List.mem_cons_of_mem _) id
  | _, _, _, _, .fll _ r => ⟨[], (fun _ h => by cases h), fun _ e _ => r.mono e⟩
  | _, _, _, _, .f2l _ r => ⟨[], (fun _ h => by cases h), fun _ e _ => r.mono e⟩
  | _, _, _, _, .ln h t => frz_tr t
  | _, _, _, _, .l2 h t => frz_tr t
theorem frz_trl : ∀ {k : Nat → Sh} {n : Nat} {ds : List D} {vs : List V} {S : List Addr}, TrL θ B F H k n ds vs S → ∃ N : List Addr, (∀ b ∈ N, b ∈ S ∨ (True ∧ ∃ xs, H b = some (.tup xs))) ∧ ∀ F', Same F F' → (∀ b ∈ N, ∀ u, H b = some u → F' b = some u) → RepL θ F' ds vs
  | _, _, _, _, _, .nil => ⟨[], (fun _ h => by cases h), fun _ _ _ => .nil⟩
  | _, _, _, _, _, .cons h t => by
    obtain ⟨N, h1, h2⟩ := frz_tr h
    obtain ⟨M, g1, g2⟩ := frz_trl t
    refine ⟨N ++ M, fun b hb => ?_, fun F' e hN => .cons (h2 F' e fun b hb => hN b (List.mem_append_left _ hb)) (g2 F' e fun b hb => hN b (List.mem_append_right _ hb))⟩
    rcases List.mem_append.mp hb with hb | hb
    · exact (h1 b hb).imp (List.mem_append_left _) id
    · exact (g1 b hb).imp (List.mem_append_right _) id
end
open Classical in
/-- F with the objects at N -/
noncomputable def addN (F H : Hp) (N : List Addr) : Hp := fun b => match F b with
  | some u => some u
  | none => if b ∈ N then H b else none
theorem addN_same {N : List Addr} : Same F (addN F H N) := fun b u h => by
  unfold addN
  rw [h]
theorem addN_some {N : List Addr} {b : Addr} {u : HO} (h : addN F H N b = some u) : F b = some u ∨ (F b = none ∧ b ∈ N ∧ H b = some u) := by
  unfold addN at h
  cases q : F b with
  | some w => rw [q] at h; exact .inl h
  | none =>
    rw [q] at h
    dsimp only at h
    by_cases m : b ∈ N
    · rw [if_pos m] at h
      exact .inr ⟨rfl, m, h⟩
    · rw [if_neg m] at h
      cases h
theorem addN_at {N : List Addr} {b : Addr} {u : HO} (s : Sub F H) (m : b ∈ N) (hu : H b = some u) (hd : ∀ o w, u ≠ .frz o w) : addN F H N b = some u := by
  unfold addN
  cases q : F b with
  | some w =>
    rcases s b w q with z | ⟨_, o, z⟩
    · rw [hu] at z; exact z.symm
    · rw [hu] at z; cases z; exact absurd rfl (hd _ _)
  | none =>
    dsimp only
    rw [if_pos m]
    exact hu
theorem TrV.freeze {n : Nat} {d : D} {v : V} (e : Ext F H F' H') (f : TrV θ F' H H' n d v) : ∃ F2, Ext F H F2 H' ∧ Same F' F2 ∧ Rep θ F2 d v := by
  obtain ⟨S, t, nd, fr⟩ := f
  obtain ⟨N, hN, rep⟩ := frz_tr t
  refine ⟨addN F' H' N, ⟨fun b u h => ?_, e.ff.trans addN_same, e.hh, fun b u h => ?_⟩, addN_same, rep _ addN_same fun b hb u hu => addN_at e.sub hb hu fun o w z => ?_⟩
  · rcases addN_some h with z | ⟨_, _, z⟩
    · exact e.sub b u z
    · exact .inl z
  · rcases addN_some h with z | ⟨_, z, hz⟩
    · exact e.nw b u z
    · rcases hN b z with g | ⟨_, xs, g⟩
      · exact .inr (.inl (fr b g).1)
      · rw [g] at hz
        exact .inr (.inr ⟨xs, (Option.some.inj hz).symm⟩)
  · subst z
    rcases hN b hb with g | ⟨_, xs, g⟩
    · exact t.nofrz b g o w hu
    · rw [hu] at g; cases g
end
/-- F0, B: the frozen part and the heap at the def's entry; L: the dicts that its loops have locked -/
structure Rel (θ : Th) (F0 B : Hp) (L : List Addr) (F H : Hp) (σ : St) (ρ : Sl) : Prop where
  sub : Sub F H
  kp : ∀ a u, B a = some u → H a = some u ∨ (a ∈ L ∧ IsDict u ∧ ∃ o, H a = some (.frz o u))
  f0 : Same F0 F
  fn : ∀ a u, F a = some u → F0 a = some u ∨ B a = none ∨ ∃ xs, u = .tup xs
  len : σ.length = ρ.length
  va : ∀ (i : Nat) (d : D), ρ[i]? = some (.va d) → ∃ v, σ[i]? = some (some v) ∧ Rep θ F d v
  ow : ∀ (i : Nat) (d : D), ρ[i]? = some (.ow d) → ∃ a o, σ[i]? = some (some (.ref a)) ∧ H a = some o ∧ F a = none ∧ B a = none ∧ Root θ F d o
  fu : ∀ (i : Nat) (d : D), ρ[i]? = some (.ow d) → notObj d = true
  dj : ∀ (i j : Nat) (d e : D) (a : Addr), i ≠ j → ρ[i]? = some (.ow d) → ρ[j]? = some (.ow e) → σ[i]? = some (some (.ref a)) → σ[j]? ≠ some (some (.ref a))
  /-- an instance that is being made -/
  me : ∀ (i k : Nat) (ds : List D), ρ[i]? = some (.me k ds) → (∃ a o, σ[i]? = some (some (.ref a)) ∧ H a = some o ∧ F a = none ∧ B a = none ∧ Root θ (onlyN F B) (.obj k ds) o ∧ a ∈ L ∧ ∀ (j : Nat) (d : D), ρ[j]? = some (.ow d) → σ[j]? ≠ some (some (.ref a))) ∧
    ∀ (j k' : Nat) (ds' : List D), j ≠ i → ρ[j]? ≠ some (.me k' ds')
  /-- the handled exception -/
  xc : ∀ i : Nat, ρ[i]? = some .xc → ∃ a, L.head? = some a ∧ σ[i]? = some (some (.ref a))
  /-- the own trees -/
  pv : ∃ Z, PvAll θ B F H σ ρ Z
section
variable {θ : Th} {F0 B F F' H H' : Hp} {L : List Addr} {σ : St} {ρ : Sl}
theorem PvAll.ext {Z : Nat → List Addr} (hZ : PvAll θ B F H σ ρ Z) (e : Ext F H F' H') : PvAll θ B F' H' σ ρ Z :=
  hZ.step e.ff (fun b xs h => e.hh _ _ h) (fun i k d h => ⟨h, rfl, fun b hb => by
    obtain ⟨⟨v, _, t⟩, _, f, _⟩ := hZ i k d h
    obtain ⟨o, ho, hnt⟩ := t.some b hb
    refine ⟨by rw [e.hh _ _ ho, ho], ?_⟩
    cases q : F' b with
    | none => rfl
    | some u =>
      rcases e.nw b u q with z | z | ⟨xs, z⟩
      · rw [(f b hb).1] at z; cases z
      · rw [ho] at z; cases z
      · subst z
        have := Sub.tup0 e.sub q
        rw [e.hh _ _ ho] at this
        exact absurd (Option.some.inj this) (hnt xs)⟩) fun i k d j b h ho hs => (hZ i k d h).2.2.2.1 j b ho hs
theorem Root.noTup {θ : Th} {F : Hp} {d : D} {o : HO} (r : Root θ F d o) : ∀ xs, o ≠ .tup xs := by
  cases r <;> (intro _ z; cases z)
theorem Rel.ext (R : Rel θ F0 B L F H σ ρ) (e : Ext F H F' H') : Rel θ F0 B L F' H' σ ρ := by
  have own : ∀ {a : Addr} {o : HO}, (∀ xs, o ≠ .tup xs) → H a = some o → F a = none → F' a = none := fun {a o} hnt h2 h3 => by
    cases q : F' a with
    | none => rfl
    | some u =>
      rcases e.nw a u q with z | z | ⟨xs, z⟩
      · rw [h3] at z; cases z
      · rw [h2] at z; cases z
      · subst z
        have := Sub.tup0 e.sub q
        rw [e.hh _ _ h2] at this
        exact absurd (Option.some.inj this) (hnt xs)
  refine ⟨e.sub, fun a u h => ?_, R.f0.trans e.ff, fun a u h => ?_, R.len, fun i d h => ?_, fun i d h => ?_, R.fu, R.dj, fun i k ds h => ?_, R.xc, ?_⟩
  rotate_right
  · obtain ⟨Z, hZ⟩ := R.pv
    exact ⟨Z, hZ.ext e⟩
  · rcases R.kp a u h with z | ⟨z1, z2, o, z⟩
    · exact .inl (e.hh _ _ z)
    · exact .inr ⟨z1, z2, o, e.hh _ _ z⟩
  · rcases e.nw a u h with z | z | z
    · exact R.fn a u z
    rotate_left
    · exact .inr (.inr z)
    · refine .inr (.inl ?_)
      cases q : B a with
      | none => rfl
      | some o => rcases R.kp a o q with y | ⟨_, _, _, y⟩ <;> (rw [z] at y; cases y)
  · obtain ⟨v, h1, h2⟩ := R.va i d h
    exact ⟨v, h1, h2.mono e.ff⟩
  · obtain ⟨a, o, h1, h2, h3, h4, h5⟩ := R.ow i d h
    exact ⟨a, o, h1, e.hh _ _ h2, own h5.noTup h2 h3, h4, h5.mono e.ff⟩
  · obtain ⟨⟨a, o, h1, h2, h3, h4, h5, h6⟩, h7⟩ := R.me i k ds h
    exact ⟨⟨a, o, h1, e.hh _ _ h2, own h5.noTup h2 h3, h4, h5.mono (onlyN_mono e.ff fun _ z => z), h6⟩, h7⟩
end
/-- own trees lie where they lay -/
theorem Rel.pvOld {θ : Th} {F0 B F F1 H H1 : Hp} {L : List Addr} {σ : St} {ρ : Sl} (R : Rel θ F0 B L F H σ ρ) (e : Ext F H F1 H1) {Z : Nat → List Addr} (hZ : PvAll θ B F1 H1 σ ρ Z) {j : Nat} {k : Sh} {d : D} (hp : ρ[j]? = some (.pv k d)) {b : Addr} (hb : b ∈ Z j) : ∃ o, H b = some o := by
  obtain ⟨Z0, h0⟩ := R.pv
  obtain ⟨⟨v, h1, t⟩, _⟩ := h0 j k d hp
  obtain ⟨⟨v1, g1, t1⟩, _⟩ := (h0.ext e) j k d hp
  obtain ⟨⟨v2, g2, t2⟩, _⟩ := hZ j k d hp
  rw [g1] at g2
  cases g2
  rw [← t1.det t2] at hb
  obtain ⟨o, ho, _⟩ := t.some b hb
  exact ⟨o, ho⟩
theorem Rel.pvOld' {θ : Th} {F0 B F F1 H H1 : Hp} {L : List Addr} {σ σ1 : St} {ρ : Sl} (R : Rel θ F0 B L F H σ ρ) (ff : Same F F1) (hh : Same H H1) {j : Nat} {k : Sh} {d : D} (hs : σ1[j]? = σ[j]?) (hp : ρ[j]? = some (.pv k d)) {S : List Addr} (h : ∃ v, σ1[j]? = some (some v) ∧ Tr θ B F1 H1 k d v S) {b : Addr} (hb : b ∈ S) : ∃ o, H b = some o := by
  obtain ⟨Z0, h0⟩ := R.pv
  obtain ⟨⟨v, h1, t⟩, _⟩ := h0 j k d hp
  obtain ⟨v2, g2, t2⟩ := h
  rw [hs, h1] at g2
  cases g2
  have t1 : Tr θ B F1 H1 k d v (Z0 j) := t.keep ff (fun b xs h => hh _ _ h) fun b hb => by
    obtain ⟨o, ho, _⟩ := t.some b hb
    rw [hh _ _ ho, ho]
  rw [← t1.det t2] at hb
  obtain ⟨o, ho, _⟩ := t.some b hb
  exact ⟨o, ho⟩
/-- the value that an expression gives, by its kind -/
def Val (θ : Th) (F' H H' : Hp) (σ : St) (ρ : Sl) (d : D) (k : Kd) (v : V) : Prop := match k with
  | .sh => Rep θ F' d v
  | .fr => FrV θ F' H H' d v
  | .at i => σ[i]? = some (some v) ∧ ρ[i]? = some (.ow d)
  | .tr n => TrV θ F' H H' n d v
/-- how an exception's value lies: its class, its dict -/
def ExV (θ : Th) (c : Nat) (fs : List D) (cls : Value) (dd : Option Addr) (F' H' : Hp) : Prop := cls = .ref (θ.C c) ∧ match fs with
  | [] => dd = none
  | _ => ∃ dx xs, dd = some dx ∧ F' dx = some (.xd ((θ.fld c).zip xs)) ∧ (θ.fld c).length = fs.length ∧ RepL θ F' fs xs
/-- the fixed part of a def's readings -/
structure Cn where
  θ : Th
  F0 : Hp
  B : Hp
/-- «f gives it»: Q of the value, W of the exception -/
def tEv (c : Cn) (L : List Addr) (W : WX) (f : ES) : TE := fun σ H Q => ∃ F ρ, Rel c.θ c.F0 c.B L F H σ ρ ∧ match f ρ with
  | .ok (d, k) => ∀ v F' H', Ext F H F' H' → Val c.θ F' H H' σ ρ d k v → Q v H'
  | .ex n fs => ∀ cls dd F' H', Ext F H F' H' → ExV c.θ n fs cls dd F' H' → W cls dd σ H'
  | .no => False
/-- what may be read of a value whose kind is any: the value itself, or its root -/
def Rd1 (θ : Th) (F H : Hp) (d : D) (v : V) : Prop := Rep θ F d v ∨ ∃ a o, v = .ref a ∧ H a = some o ∧ Root θ F d o
end G
namespace G
open PySem PySem.Spec L2
/-- what is asked of an outcome -/
def Res (c : Cn) (W : WX) (σ : L2.St) (ρ : Sl) (F H : Hp) (Q : VK) : Out (D × Kd) → Prop
  | .ok (d, k) => ∀ v F' H', Ext F H F' H' → Val c.θ F' H H' σ ρ d k v → Q v H'
  | .ex n fs => ∀ cls dd F' H', Ext F H F' H' → ExV c.θ n fs cls dd F' H' → W cls dd σ H'
  | .no => False
section
variable {c : Cn} {L : List Addr} {W : WX} {σ : L2.St} {ρ : Sl} {F F1 F2 H H1 H2 : Hp} {Q : VK} {f g : ES} {P : V → Hp → Prop}
theorem tEv_of (R : Rel c.θ c.F0 c.B L F H σ ρ) (h : Res c W σ ρ F H Q (f ρ)) : tEv c L W f σ H Q := by
  refine ⟨F, ρ, R, ?_⟩
  revert h
  cases f ρ with
  | ok x => obtain ⟨d, k⟩ := x; exact id
  | ex n fs => exact id
  | no => exact id
theorem of_tEv (h : tEv c L W f σ H Q) : ∃ F ρ, Rel c.θ c.F0 c.B L F H σ ρ ∧ Res c W σ ρ F H Q (f ρ) := by
  obtain ⟨F, ρ, R, h⟩ := h
  refine ⟨F, ρ, R, ?_⟩
  revert h
  cases f ρ with
  | ok x => obtain ⟨d, k⟩ := x; exact id
  | ex n fs => exact id
  | no => exact id
theorem FrV.back {θ : Th} {d : D} {v : V} (e : Ext F H F1 H1) (f : FrV θ F2 H1 H2 d v) : FrV θ F2 H H2 d v := by
  obtain ⟨fu, a, o, rfl, n, h1, h2, h3, h4⟩ := f
  exact ⟨fu, a, o, rfl, e.hh.free n, h1, h2, h3, h4.mono (.refl _) fun _ z => e.hh.free z⟩
theorem TrV.back {θ : Th} {n : Nat} {d : D} {v : V} (e : Ext F H F1 H1) (f : TrV θ F2 H1 H2 n d v) : TrV θ F2 H H2 n d v := by
  obtain ⟨S, t, nd, fr⟩ := f
  exact ⟨S, t.base fun _ z => e.hh.free z, nd, fun b hb => ⟨e.hh.free (fr b hb).1, (fr b hb).2⟩⟩
theorem Val.back {d : D} {k : Kd} {v : V} (e : Ext F H F1 H1) (h : Val c.θ F2 H1 H2 σ ρ d k v) : Val c.θ F2 H H2 σ ρ d k v := by
  cases k with
  | sh => exact h
  | fr => exact FrV.back e h
  | «at» i => exact h
  | tr n => exact TrV.back e h
theorem Res.mono {o : Out (D × Kd)} (h : Res c W σ ρ F H Q o) (e : Ext F H F1 H1) : Res c W σ ρ F1 H1 Q o := by
  cases o with
  | ok x =>
    obtain ⟨d, k⟩ := x
    intro v F' H' e' hv
    exact h v F' H' (e.trans e') (Val.back e hv)
  | ex n fs =>
    intro cls dd F' H' e' hv
    exact h cls dd F' H' (e.trans e') hv
  | no => exact h
theorem Rd1.ext {θ : Th} {d : D} {v : V} (e : Ext F H F1 H1) (h : Rd1 θ F H d v) : Rd1 θ F1 H1 d v := by
  rcases h with h | ⟨a, o, rfl, h, r⟩
  · exact .inl (h.mono e.ff)
  · exact .inr ⟨a, o, rfl, e.hh _ _ h, r.mono e.ff⟩
/-- the operand is used: frozen where it is fresh, read where it is a slot's own -/
theorem Val.use {d : D} {k : Kd} {v : V} (R : Rel c.θ c.F0 c.B L F H σ ρ) (e : Ext F H F1 H1) (h : Val c.θ F1 H H1 σ ρ d k v) :
    ∃ F2, Ext F H F2 H1 ∧ Same F1 F2 ∧ Rd1 c.θ F2 H1 d v ∧ (k.solid = true → Rep c.θ F2 d v) := by
  cases k with
  | sh => exact ⟨F1, e, .refl _, .inl h, fun _ => h⟩
  | fr =>
    obtain ⟨F2, e2, s, r⟩ := FrV.freeze e h
    exact ⟨F2, e2, s, .inl r, fun _ => r⟩
  | tr n =>
    obtain ⟨F2, e2, s, r⟩ := TrV.freeze e h
    exact ⟨F2, e2, s, .inl r, fun _ => r⟩
  | «at» i =>
    obtain ⟨h1, h2⟩ := h
    obtain ⟨a, o, h3, h4, _, _, h5⟩ := R.ow i d h2
    rw [h1] at h3
    cases h3
    exact ⟨F1, e, .refl _, .inr ⟨a, o, rfl, e.hh _ _ h4, h5.mono e.ff⟩, fun z => by cases z⟩
/-- an operand, then what follows -/
theorem ev_bind {g : D × Kd → Out (D × Kd)} (R : Rel c.θ c.F0 c.B L F H σ ρ) (h : Res c W σ ρ F H Q ((f ρ).bind g))
    (hp : ∀ d k x F1 H1, f ρ = .ok (d, k) → Ext F H F1 H1 → Rd1 c.θ F1 H1 d x → (k.solid = true → Rep c.θ F1 d x) → Rel c.θ c.F0 c.B L F1 H1 σ ρ → Res c W σ ρ F1 H1 Q (g (d, k)) → P x H1) : tEv c L W f σ H P := by
  refine ⟨F, ρ, R, ?_⟩
  cases hf : f ρ with
  | ok x =>
    obtain ⟨d, k⟩ := x
    rw [hf] at h
    intro v F' H' e hv
    obtain ⟨F2, e2, _, rd, so⟩ := Val.use R e hv
    exact hp d k v F2 H' hf e2 rd so (R.ext e2) (Res.mono (show Res c W σ ρ F H Q (g (d, k)) from h) e2)
  | ex n fs =>
    rw [hf] at h
    exact h
  | no =>
    rw [hf] at h
    exact h
end
section
variable {θ : Th} {F H : Hp} {v : V}
theorem Rd1.int {i : Int} (h : Rd1 θ F H (.int i) v) : v = .int i := by
  rcases h with h | ⟨a, o, rfl, h, r⟩
  · cases h; rfl
  · cases r
theorem Rd1.str {i : Str} (h : Rd1 θ F H (.str i) v) : v = .str i := by
  rcases h with h | ⟨a, o, rfl, h, r⟩
  · cases h; rfl
  · cases r
theorem Rd1.bl {i : Bool} (h : Rd1 θ F H (.bl i) v) : v = .bl i := by
  rcases h with h | ⟨a, o, rfl, h, r⟩
  · cases h; rfl
  · cases r
theorem Rd1.non (h : Rd1 θ F H .non v) : v = .non := by
  rcases h with h | ⟨a, o, rfl, h, r⟩
  · cases h; rfl
  · cases r
theorem Sub.lst {a : Addr} {xs : List V} (s : Sub F H) (h : F a = some (.lst xs)) : H a = some (.lst xs) := by
  rcases s a _ h with z | ⟨z, _⟩
  · exact z
  · cases z
theorem Sub.tup {a : Addr} {xs : List V} (s : Sub F H) (h : F a = some (.tup xs)) : H a = some (.tup xs) := by
  rcases s a _ h with z | ⟨z, _⟩
  · exact z
  · cases z
theorem Sub.ins {a C dx : Addr} {fs : List (Str × V)} (s : Sub F H) (h : F a = some (.ins C dx fs)) : H a = some (.ins C dx fs) := by
  rcases s a _ h with z | ⟨z, _⟩
  · exact z
  · cases z
theorem Rd1.lst {ds : List D} (s : Sub F H) (h : Rd1 θ F H (.lst ds) v) : ∃ a xs, v = .ref a ∧ H a = some (.lst xs) ∧ RepL θ F ds xs := by
  rcases h with h | ⟨a, o, rfl, h, r⟩
  · cases h with
    | lst h r => exact ⟨_, _, rfl, s.lst h, r⟩
  · cases r with
    | lst r => exact ⟨_, _, rfl, h, r⟩
theorem Rd1.tup {ds : List D} (s : Sub F H) (h : Rd1 θ F H (.tup ds) v) : ∃ a xs, v = .ref a ∧ H a = some (.tup xs) ∧ RepL θ F ds xs ∧ Rep θ F (.tup ds) v := by
  rcases h with h | ⟨a, o, rfl, h, r⟩
  · cases h with
    | tup h r => exact ⟨_, _, rfl, s.tup h, r, .tup h r⟩
  · cases r
theorem Sub.seq {K : PySem.W.Frag} {a : Addr} {xs : List V} (s : Sub F H) (h : SqL K F a xs) : SqL K H a xs := by
  rcases h with (h | ⟨o, h⟩) | h
  · exact .inl (.inl (s.lst h))
  · rcases s a _ h with z | ⟨z, _⟩
    · exact .inl (.inr ⟨o, z⟩)
    · cases z
  · exact .inr h
theorem Rd1.frl {ns : List Int} (s : Sub F H) (h : Rd1 θ F H (.frl ns) v) : ∃ a, v = .ref a ∧ SqL θ.K H a (ns.map V.int) := by
  rcases h with h | ⟨a, o, rfl, h, r⟩
  · cases h with
    | frl h => exact ⟨_, rfl, s.seq h⟩
  · cases r
theorem SZ_le : SZ ≤ sizeLine := by rw [sizeLine_eq]; exact Nat.le_refl _
end
section
variable {c : Cn} {L : List Addr} {W : WX} {σ : L2.St} {ρ : Sl} {F F1 H H1 : Hp} {Q : VK}
theorem Res.sh {d : D} {v : V} (h : Res c W σ ρ F H Q (shr d)) (s : Sub F H) (r : Rep c.θ F d v) : Q v H := h v F H (Ext.refl s) r
theorem Res.bl {b : Bool} (h : Res c W σ ρ F H Q (shr (.bl b))) (s : Sub F H) : Q (.bl b) H := h.sh s (.bl b)
theorem Res.int {b : Int} (h : Res c W σ ρ F H Q (shr (.int b))) (s : Sub F H) : Q (.int b) H := h.sh s (.int b)
theorem Res.str {b : Str} (h : Res c W σ ρ F H Q (shr (.str b))) (s : Sub F H) : Q (.str b) H := h.sh s (.str b)
theorem Res.ite {p : Prop} [Decidable p] {o : Out (D × Kd)} (h : Res c W σ ρ F H Q (if p then o else .no)) : p ∧ Res c W σ ρ F H Q o := by
  by_cases q : p
  · rw [if_pos q] at h
    exact ⟨q, h⟩
  · rw [if_neg q] at h
    exact h.elim
/-- a new list -/
theorem Res.lay {d : D} {o : HO} (h : Res c W σ ρ F H Q (.ok (d, .fr))) (s : Sub F H) (r : Root c.θ F d o) {p : Addr} (n : H p = none) (no : notObj d = true := by rfl) : Q (.ref p) (upd H p o) :=
  h _ F _ (Ext.lay s n) ⟨Full.of no, p, o, rfl, n, upd_same, s.free n, r, Nw.of no⟩
/-- a new tuple -/
theorem Res.layT {ds : List D} {xs : List V} (h : Res c W σ ρ F H Q (shr (.tup ds))) (s : Sub F H) (r : RepL c.θ F ds xs) {p : Addr} (n : H p = none) : Q (.ref p) (upd H p (.tup xs)) := by
  have nf := s.free n
  have e : Ext F H (upd F p (.tup xs)) (upd H p (.tup xs)) := Ext.freeze (s.lay n) upd_same nf H (Same.lay n) n F (Ext.lay s n)
  exact h _ _ _ e (.tup upd_same (r.mono (Same.lay nf)))
end
section
variable {X : Cx} {c : Cn} {L : List Addr} {W : WX} {f g : ES} {a b : Expr} {pos : Pos}
theorem pe_ev {e : Expr} {t : TE} (h : PE X e t) (hi : ∀ (σ : L2.St) (H : Hp) (Q : VK), tEv c L W f σ H Q → t σ H Q) : PE X e (tEv c L W f) := ⟨fun pins s σ H Q I hw => h.run pins s σ H Q I (hi σ H Q hw)⟩
theorem pg_var {i : Nat} {x : Str} (hN : X.N[i]? = some x) (hv : Vis X.env.scope x) (hd : (x == ("__debug__" : Str)) = false) (hcd : (x == ("__classdict__" : Str)) = false) : PE X (.Name x pos) (tEv c L W (eVar i)) := by
  refine pe_ev (pe_var hN hv hd hcd) fun σ H Q h => ?_
  obtain ⟨F, ρ, R, h⟩ := of_tEv h
  unfold eVar at h
  cases q : ρ[i]? with
  | none => rw [q] at h; exact h.elim
  | some sl =>
    rw [q] at h
    cases sl with
    | un => exact h.elim
    | va d =>
      obtain ⟨v, h1, h2⟩ := R.va i d q
      exact ⟨v, h1, h v F H (Ext.refl R.sub) h2⟩
    | ow d =>
      obtain ⟨a, o, h1, h2, _⟩ := R.ow i d q
      exact ⟨_, h1, h _ F H (Ext.refl R.sub) ⟨h1, q⟩⟩
    | me k ds => exact h.elim
    | xc => exact h.elim
    | pv k d => exact h.elim
theorem pg_const {e : Expr} {v : V} {d : D} (h : PE X e (tC v)) (r : ∀ θ F, Rep θ F d v) : PE X e (tEv c L W (eC d)) := by
  refine pe_ev h fun σ H Q h => ?_
  obtain ⟨F, ρ, R, h⟩ := of_tEv h
  exact h v F H (Ext.refl R.sub) (r _ _)
/-- the operator's rule by pure values -/
def OpD (c : Cn) (W : WX) (op : D → D → Out (D × Kd)) (r : V → V → Hp → VK → Prop) : Prop := ∀ (σ : L2.St) (ρ : Sl) (F H : Hp) (Q : VK) (x y : V) (d e : D), Sub F H → Rd1 c.θ F H d x → Rd1 c.θ F H e y → Res c W σ ρ F H Q (op d e) → r x y H Q
theorem pg_bin {o : Operator} {op : D → D → Out (D × Kd)} {r : V → V → Hp → VK → Prop} (ho : OpR X (binaryOp o) r) (hd : OpD c W op r) (ha : PE X a (tEv c L W f)) (hb : PE X b (tEv c L W g)) : PE X (.BinOp a o b pos) (tEv c L W (eBin op f g)) := by
  refine pe_ev (pe_op ho ha hb) fun σ H Q h => ?_
  obtain ⟨F, ρ, R, h⟩ := of_tEv h
  refine ev_bind R h fun d k x F1 H1 _ e1 rd1 _ R1 h1 => ?_
  exact ev_bind R1 h1 fun d2 k2 y F2 H2 _ e2 rd2 _ R2 h2 => hd σ ρ F2 H2 Q x y d d2 R2.sub (rd1.ext e2) rd2 h2
theorem pg_cmp {o : CmpOp} {op : D → D → Out (D × Kd)} {r : V → V → Hp → VK → Prop} (ho : OpR X (compareOp o) r) (hm : behindInMarks o b = false) (hd : OpD c W op r) (ha : PE X a (tEv c L W f)) (hb : PE X b (tEv c L W g)) : PE X (.Compare a [o] [b] pos) (tEv c L W (eBin op f g)) := by
  refine pe_ev (pe_cmpR ho ha hb hm) fun σ H Q h => ?_
  obtain ⟨F, ρ, R, h⟩ := of_tEv h
  refine ev_bind R h fun d k x F1 H1 _ e1 rd1 _ R1 h1 => ?_
  exact ev_bind R1 h1 fun d2 k2 y F2 H2 _ e2 rd2 _ R2 h2 => hd σ ρ F2 H2 Q x y d d2 R2.sub (rd1.ext e2) rd2 h2
theorem od_add : OpD c W oAdd (fun x y H Q => rI0 (fun i j => .int (i + j)) x y H Q ∨ (∃ i j, x = .str i ∧ y = .str j ∧ i.length + j.length ≤ sizeLine ∧ Q (.str (i ++ j)) H) ∨ rCat x y H Q ∨ rCatA c.θ.K x y H Q) := by
  intro σ ρ F H Q x y d e s rx ry h
  cases d <;> cases e <;> first | exact h.elim | skip
  · cases rx.int; cases ry.int
    exact .inl ⟨_, _, rfl, rfl, h.int s⟩
  · cases rx.str; cases ry.str
    obtain ⟨hl, h⟩ := Res.ite h
    exact .inr (.inl ⟨_, _, rfl, rfl, Nat.le_trans hl SZ_le, h.str s⟩)
  · obtain ⟨p, xs, rfl, hp, r1⟩ := rx.lst s
    obtain ⟨q, ys, rfl, hq, r2⟩ := ry.lst s
    obtain ⟨hl, h⟩ := Res.ite h
    refine .inr (.inr (.inl ⟨p, q, xs, ys, rfl, rfl, hp, hq, ?_, fun l hl => h.lay s (.lst (r1.append r2)) hl⟩))
    rw [r1.length, r2.length]
    exact Nat.le_trans hl SZ_le
  · obtain ⟨p, xs, rfl, hp, r1, z1⟩ := rx.tup s
    obtain ⟨q, ys, rfl, hq, r2, z2⟩ := ry.tup s
    obtain ⟨hl, h⟩ := Res.ite h
    refine .inr (.inr (.inr ⟨p, q, xs, ys, rfl, rfl, .inl (.inl hp), .inl (.inl hq), ?_, fun e => ?_, fun _ e => ?_, fun _ _ l hl => h.layT s (r1.append r2) hl⟩))
    · rw [r1.length, r2.length]
      exact Nat.le_trans hl SZ_le
    · subst e
      cases r1
      exact h.sh s z2
    · subst e
      cases r2
      rw [List.append_nil] at h
      exact h.sh s z1
end
end G
namespace G
open PySem PySem.Spec L2
section
variable {X : Cx} {c : Cn} {L : List Addr} {W : WX} {f g h : ES} {a b e : Expr} {pos : Pos}
theorem smallI_ok {i : Int} (h : smallI i = true) : -(2 ^ 64) < i ∧ i < 2 ^ 64 := of_decide_eq_true h
theorem od_mul : OpD c W oMul (fun x y H Q => rI CMul (fun i j => .int (i * j)) x y H Q ∨ rRep x y H Q) := by
  intro σ ρ F H Q x y d e s rx ry h
  cases d <;> cases e <;> first | exact h.elim | skip
  · cases rx.int; cases ry.int
    obtain ⟨hl, h⟩ := Res.ite h
    refine .inl ⟨_, _, rfl, rfl, ?_, h.int s⟩
    rcases Bool.or_eq_true_iff.mp hl with z | z
    · exact .inl (smallI_ok z)
    · exact .inr (smallI_ok z)
  · obtain ⟨p, xs, rfl, hp, r1⟩ := rx.lst s
    cases ry.int
    obtain ⟨⟨h1, h2, h3⟩, h⟩ := Res.ite h
    refine .inr ⟨p, _, xs, rfl, rfl, hp, h1, h2, ?_, fun l hl => h.lay s (.lst ?_) hl⟩
    · rw [r1.length]
      exact Nat.le_trans h3 SZ_le
    · have key : ∀ n : Nat, RepL c.θ F (List.replicate n _).flatten (List.replicate n xs).flatten := fun n => by
        induction n with
        | zero => exact .nil
        | succ n ih =>
          rw [List.replicate_succ, List.replicate_succ, List.flatten_cons, List.flatten_cons]
          exact r1.append ih
      exact key _
theorem od_mod : OpD c W oMod (rI (fun _ j => 0 < j) fun i j => .int (i % j)) := by
  intro σ ρ F H Q x y d e s rx ry h
  cases d <;> cases e <;> first | exact h.elim | skip
  cases rx.int; cases ry.int
  obtain ⟨hl, h⟩ := Res.ite h
  exact ⟨_, _, rfl, rfl, hl, h.int s⟩
theorem od_div : OpD c W oDiv (rI CDiv fun i j => .int (i / j)) := by
  intro σ ρ F H Q x y d e s rx ry h
  cases d <;> cases e <;> first | exact h.elim | skip
  cases rx.int; cases ry.int
  obtain ⟨hl, h⟩ := Res.ite h
  exact ⟨_, _, rfl, rfl, hl, h.int s⟩
theorem od_pow : OpD c W oPow (rI CPow fun i j => .int (i ^ j.toNat)) := by
  intro σ ρ F H Q x y d e s rx ry h
  cases d <;> cases e <;> first | exact h.elim | skip
  cases rx.int; cases ry.int
  obtain ⟨hl, h⟩ := Res.ite h
  exact ⟨_, _, rfl, rfl, hl, h.int s⟩
theorem pg_neg (ha : PE X a (tEv c L W f)) : PE X (.UnaryOp .USub a pos) (tEv c L W (eUn oNeg f)) := by
  refine pe_ev (pe_un un_neg ha) fun σ H Q h => ?_
  obtain ⟨F, ρ, R, h⟩ := of_tEv h
  refine ev_bind R h fun d k x F1 H1 _ e1 rd1 _ R1 h1 => ?_
  cases d <;> first | exact h1.elim | skip
  cases rd1.int
  exact ⟨_, rfl, h1.int R1.sub⟩
mutual
theorem rep_py {θ : Th} {F H : Hp} (s : Sub F H) : ∀ {d : D} {v : V} {p : PyData}, Rep θ F d v → toPy d = some p → Dp θ.K H v p
  | _, _, _, .non, h => by cases h; exact .non
  | _, _, _, .bl b, h => by cases h; exact .bl b
  | _, _, _, .int b, h => by cases h; exact .int b
  | _, _, _, .str b, h => by cases h; exact .str b
  | .lst ds, _, _, .lst e r, h => by
    unfold toPy at h
    cases q : toPys ds with
    | none => rw [q] at h; cases h
    | some ps =>
      rw [q] at h
      cases h
      exact .lst (.inl (.inl (s.lst e))) (repl_py s r q)
  | .tup ds, _, _, .tup e r, h => by
    unfold toPy at h
    cases q : toPys ds with
    | none => rw [q] at h; cases h
    | some ps =>
      rw [q] at h
      cases h
      exact .tup (.inl (.inl (s.tup e))) (repl_py s r q)
  | _, _, _, .dK _ _ _, h => by cases h
  | _, _, _, .dT _ _ _, h => by cases h
  | _, _, _, .obj _ _ _, h => by cases h
  | _, _, _, .frl _, h => by cases h
  | _, _, _, .hx, h => by cases h
theorem repl_py {θ : Th} {F H : Hp} (s : Sub F H) : ∀ {ds : List D} {vs : List V} {ps : List PyData}, RepL θ F ds vs → toPys ds = some ps → DpAll θ.K H vs ps
  | _, _, _, .nil, h => by cases h; exact .nil
  | d :: ds, _, _, .cons r rs, h => by
    unfold toPys at h
    cases q : toPy d with
    | none => rw [q] at h; cases h
    | some p =>
      rw [q] at h
      cases q2 : toPys ds with
      | none => rw [q2] at h; cases h
      | some ps =>
        rw [q2] at h
        cases h
        exact .cons (rep_py s r q) (repl_py s rs q2)
end
theorem rd_py {θ : Th} {F H : Hp} (s : Sub F H) {d : D} {v : V} {p : PyData} (r : Rd1 θ F H d v) (h : toPy d = some p) : Dp θ.K H v p := by
  rcases r with r | ⟨a, o, rfl, ha, r⟩
  · exact rep_py s r h
  · cases r with
    | @lst xs ds r =>
      unfold toPy at h
      cases q : toPys ds with
      | none => rw [q] at h; cases h
      | some ps =>
        rw [q] at h
        cases h
        exact .lst (.inl (.inl ha)) (repl_py s r q)
    | dK => cases h
    | dT => cases h
    | obj => cases h
theorem dec_eq {α β : Type} [DecidableEq α] [DecidableEq β] {f : α → β} (hf : ∀ x y, f x = f y → x = y) (i j : α) : decide (f i = f j) = decide (i = j) := by
  by_cases e : i = j
  · rw [decide_eq_true e, decide_eq_true (congrArg f e)]
  · rw [decide_eq_false e, decide_eq_false fun z => e (hf _ _ z)]
theorem scal_ok {θ : Th} {F H : Hp} {d e : D} {x y : V} {b : Bool} (h : scalEq d e = some b) (rx : Rd1 θ F H d x) (ry : Rd1 θ F H e y) : scal x y = true ∧ decide (x = y) = b := by
  cases d <;> cases e <;> first | cases h | skip
  all_goals first
    | (cases rx.non; cases ry.non; exact ⟨rfl, rfl⟩)
    | (cases rx.int; cases ry.non; exact ⟨rfl, rfl⟩)
    | (cases rx.non; cases ry.int; exact ⟨rfl, rfl⟩)
    | (cases rx.str; cases ry.non; exact ⟨rfl, rfl⟩)
    | (cases rx.non; cases ry.str; exact ⟨rfl, rfl⟩)
    | (cases rx.int; cases ry.int; exact ⟨rfl, dec_eq (f := V.int) (fun _ _ z => V.int.inj z) _ _⟩)
    | (cases rx.bl; cases ry.bl; exact ⟨rfl, dec_eq (f := V.bl) (fun _ _ z => V.bl.inj z) _ _⟩)
    | (cases rx.str; cases ry.str; exact ⟨rfl, dec_eq (f := V.str) (fun _ _ z => V.str.inj z) _ _⟩)
theorem eqD_cases {d e : D} {b : Bool} (h : eqD d e = some b) : scalEq d e = some b ∨ ∃ p q, toPy d = some p ∧ toPy e = some q ∧ SeqAt.shaped p = true ∧ SeqAt.shaped q = true ∧ PyData.eqv p q = b := by
  unfold eqD at h
  cases s : scalEq d e with
  | some b' =>
    rw [s] at h
    exact .inl h
  | none =>
    rw [s] at h
    cases q1 : toPy d with
    | none => rw [q1] at h; cases h
    | some p =>
      rw [q1] at h
      cases q2 : toPy e with
      | none => rw [q2] at h; cases h
      | some q =>
        rw [q2] at h
        have h' : (if (SeqAt.shaped p && SeqAt.shaped q) = true then some (PyData.eqv p q) else none) = some b := h
        by_cases z : (SeqAt.shaped p && SeqAt.shaped q) = true
        · rw [if_pos z] at h'
          obtain ⟨z1, z2⟩ := Bool.and_eq_true_iff.mp z
          exact .inr ⟨p, q, rfl, rfl, z1, z2, Option.some.inj h'⟩
        · rw [if_neg z] at h'
          cases h'
theorem od_eq : OpD c W oEq (fun x y H Q => rEq x y H Q ∨ rEqD c.θ.K x y H Q) := by
  intro σ ρ F H Q x y d e s rx ry h
  have h : Res c W σ ρ F H Q (obl (eqD d e)) := h
  cases q : eqD d e with
  | none => rw [q] at h; exact h.elim
  | some b =>
    rw [q] at h
    rcases eqD_cases q with z | ⟨p, q, z1, z2, z3, z4, z5⟩
    · obtain ⟨h1, h2⟩ := scal_ok z rx ry
      refine .inl ⟨h1, ?_⟩
      rw [h2]
      exact h.bl s
    · refine .inr ⟨p, q, rd_py s rx z1, rd_py s ry z2, z3, z4, ?_⟩
      rw [z5]
      exact h.bl s
theorem od_ne : OpD c W oNe (fun x y H Q => rNe x y H Q ∨ rNeD c.θ.K x y H Q) := by
  intro σ ρ F H Q x y d e s rx ry h
  have h : Res c W σ ρ F H Q (obl ((eqD d e).map (!·))) := h
  cases q : eqD d e with
  | none => rw [q] at h; exact h.elim
  | some b =>
    rw [q] at h
    rcases eqD_cases q with z | ⟨p, q, z1, z2, z3, z4, z5⟩
    · obtain ⟨h1, h2⟩ := scal_ok z rx ry
      refine .inl ⟨h1, ?_⟩
      rw [h2]
      exact h.bl s
    · refine .inr ⟨p, q, rd_py s rx z1, rd_py s ry z2, z3, z4, ?_⟩
      rw [z5]
      exact h.bl s
theorem od_gt : OpD c W oGt (rI0 fun i j => .bl (decide (j < i))) := by
  intro σ ρ F H Q x y d e s rx ry h
  cases d <;> cases e <;> first | exact h.elim | skip
  cases rx.int; cases ry.int
  exact ⟨_, _, rfl, rfl, h.bl s⟩
theorem od_ge : OpD c W oGe (rI0 fun i j => .bl (decide (j ≤ i))) := by
  intro σ ρ F H Q x y d e s rx ry h
  cases d <;> cases e <;> first | exact h.elim | skip
  cases rx.int; cases ry.int
  exact ⟨_, _, rfl, rfl, h.bl s⟩
theorem od_lt : OpD c W oLt (fun x y H Q => rI0 (fun i j => .bl (decide (i < j))) x y H Q ∨ rLtT c.θ.K x y H Q) := by
  intro σ ρ F H Q x y d e s rx ry h
  cases d <;> cases e <;> first | exact h.elim | skip
  · cases rx.int; cases ry.int
    exact .inl ⟨_, _, rfl, rfl, h.bl s⟩
  · rename_i ds es
    obtain ⟨p, xs, rfl, hp, r1, _⟩ := rx.tup s
    obtain ⟨q, ys, rfl, hq, r2, _⟩ := ry.tup s
    have hh : Res c W σ ρ F H Q (match intsOf ds, intsOf es with
      | some ns, some ms => shr (.bl (HT.lexLt ns ms))
      | _, _ => .no) := h
    cases q1 : intsOf ds with
    | none => rw [q1] at hh; exact hh.elim
    | some ns =>
      cases q2 : intsOf es with
      | none => rw [q1, q2] at hh; exact hh.elim
      | some ms =>
        rw [q1, q2] at hh
        cases intsOf_eq q1
        cases intsOf_eq q2
        cases r1.ints
        cases r2.ints
        exact .inr ⟨p, q, ns, ms, rfl, rfl, .inl (.inl hp), .inl (.inl hq), hh.bl s⟩
end
end G
namespace G
open PySem PySem.Spec L2
section
variable {X : Cx} {c : Cn} {L : List Addr} {W : WX} {f g h : ES} {a b e : Expr} {pos : Pos} {es : List Expr}
theorem bind_assoc' {α β γ : Type} (o : Out α) (f : α → Out β) (g : β → Out γ) : (o.bind f).bind g = o.bind fun a => (f a).bind g := by cases o <;> rfl
theorem oBl_ok {d : D} {k : Bool} (h : oBl d = .ok k) : d = .bl k := by
  cases d <;> first | (cases h; rfl) | cases h
def tTv (c : Cn) (L : List Addr) (W : WX) (f : TSm) : TT := fun σ H Q => ∃ F ρ, Rel c.θ c.F0 c.B L F H σ ρ ∧ match f ρ with
  | .ok b => ∀ F' H', Ext F H F' H' → Q b H'
  | .ex n fs => ∀ cls dd F' H', Ext F H F' H' → ExV c.θ n fs cls dd F' H' → W cls dd σ H'
  | .no => False
def ResT (c : Cn) (W : WX) (σ : L2.St) (F H : Hp) (Q : Bool → Hp → Prop) : Out Bool → Prop
  | .ok b => ∀ F' H', Ext F H F' H' → Q b H'
  | .ex n fs => ∀ cls dd F' H', Ext F H F' H' → ExV c.θ n fs cls dd F' H' → W cls dd σ H'
  | .no => False
section
variable {σ : L2.St} {ρ : Sl} {F F1 H H1 : Hp} {Q : Bool → Hp → Prop} {t u : TSm}
theorem tTv_of (R : Rel c.θ c.F0 c.B L F H σ ρ) (h : ResT c W σ F H Q (t ρ)) : tTv c L W t σ H Q := by
  refine ⟨F, ρ, R, ?_⟩
  revert h
  cases t ρ <;> exact id
theorem of_tTv (h : tTv c L W t σ H Q) : ∃ F ρ, Rel c.θ c.F0 c.B L F H σ ρ ∧ ResT c W σ F H Q (t ρ) := by
  obtain ⟨F, ρ, R, h⟩ := h
  refine ⟨F, ρ, R, ?_⟩
  revert h
  cases t ρ <;> exact id
theorem ResT.mono {o : Out Bool} (h : ResT c W σ F H Q o) (e : Ext F H F1 H1) : ResT c W σ F1 H1 Q o := by
  cases o with
  | ok b => exact fun F' H' e' => h F' H' (e.trans e')
  | ex n fs => exact fun cls dd F' H' e' hv => h cls dd F' H' (e.trans e') hv
  | no => exact h
/-- an operand of a test -/
theorem tv_bind {k : D × Kd → Out Bool} {P : V → Hp → Prop} (R : Rel c.θ c.F0 c.B L F H σ ρ) (h : ResT c W σ F H Q ((f ρ).bind k))
    (hp : ∀ d kd x F1 H1, f ρ = .ok (d, kd) → Ext F H F1 H1 → Rd1 c.θ F1 H1 d x → (kd.solid = true → Rep c.θ F1 d x) → Rel c.θ c.F0 c.B L F1 H1 σ ρ → ResT c W σ F1 H1 Q (k (d, kd)) → P x H1) : tEv c L W f σ H P := by
  refine ⟨F, ρ, R, ?_⟩
  cases hf : f ρ with
  | ok x =>
    obtain ⟨d, kd⟩ := x
    rw [hf] at h
    intro v F' H' e hv
    obtain ⟨F2, e2, _, rd, so⟩ := Val.use R e hv
    exact hp d kd v F2 H' hf e2 rd so (R.ext e2) (ResT.mono (show ResT c W σ F H Q (k (d, kd)) from h) e2)
  | ex n fs =>
    rw [hf] at h
    exact h
  | no =>
    rw [hf] at h
    exact h
/-- a test, then what follows -/
theorem tt_bind {k : Bool → Out Bool} {P : Bool → Hp → Prop} (R : Rel c.θ c.F0 c.B L F H σ ρ) (h : ResT c W σ F H Q ((t ρ).bind k))
    (hp : ∀ b F1 H1, Ext F H F1 H1 → Rel c.θ c.F0 c.B L F1 H1 σ ρ → ResT c W σ F1 H1 Q (k b) → P b H1) : tTv c L W t σ H P := by
  refine ⟨F, ρ, R, ?_⟩
  cases hf : t ρ with
  | ok b =>
    rw [hf] at h
    exact fun F' H' e => hp b F' H' e (R.ext e) (ResT.mono (show ResT c W σ F H Q (k b) from h) e)
  | ex n fs =>
    rw [hf] at h
    exact h
  | no =>
    rw [hf] at h
    exact h
end
theorem pt_ev {e : Expr} {t : TT} {f : TSm} (h : PT X e t) (hi : ∀ (σ : L2.St) (H : Hp) (Q : Bool → Hp → Prop), tTv c L W f σ H Q → t σ H Q) : PT X e (tTv c L W f) := ⟨fun pins s σ H Q I hw => h.run pins s σ H Q I (hi σ H Q hw)⟩
theorem pw_ev {e : Expr} {t : TT} {f : TSm} (h : PW X e t) (hi : ∀ (σ : L2.St) (H : Hp) (Q : Bool → Hp → Prop), tTv c L W f σ H Q → t σ H Q) : PW X e (tTv c L W f) := ⟨fun wh pins s σ H Q I hw => h.run wh pins s σ H Q I (hi σ H Q hw)⟩
/-- a comparison as a test -/
theorem bl_of_oBl {θ : Th} {F H : Hp} {d : D} {x : V} {b : Bool} (q : oBl d = .ok b) (rd : Rd1 θ F H d x) : x = .bl b := by
  cases oBl_ok q
  exact rd.bl
theorem pgt_of_bool {e : Expr} {t : TE} (h : PT X e (tTest t)) (hi : ∀ (σ : L2.St) (H : Hp) (Q : VK), tEv c L W f σ H Q → t σ H Q) : PT X e (tTv c L W (tBl f)) := by
  refine pt_ev h fun σ H Q hq => hi σ H _ ?_
  obtain ⟨F, ρ, R, hq⟩ := of_tTv hq
  refine tv_bind R hq fun d kd x F1 H1 _ e1 rd1 _ R1 h1 => ?_
  cases q : oBl d with
  | no => rw [q] at h1; exact h1.elim
  | ex n fs => cases d <;> cases q
  | ok b =>
    rw [q] at h1
    exact ⟨b, bl_of_oBl q rd1, h1 F1 H1 (Ext.refl R1.sub)⟩
theorem pgt_cmp {o : CmpOp} {op : D → D → Out (D × Kd)} {r : V → V → Hp → VK → Prop} (ho : OpR X (compareOp o) r) (hm : behindInMarks o b = false) (hd : OpD c W op r) (ha : PE X a (tEv c L W f)) (hb : PE X b (tEv c L W g)) : PT X (.Compare a [o] [b] pos) (tTv c L W (tBl (eBin op f g))) := by
  refine pgt_of_bool (pt_cmpR ho ha hb hm) fun σ H Q h => ?_
  obtain ⟨F, ρ, R, h⟩ := of_tEv h
  refine ev_bind R h fun d k x F1 H1 _ e1 rd1 _ R1 h1 => ?_
  exact ev_bind R1 h1 fun d2 k2 y F2 H2 _ e2 rd2 _ R2 h2 => hd σ ρ F2 H2 Q x y d d2 R2.sub (rd1.ext e2) rd2 h2
/-- any expression's value as a test -/
theorem pgt_tru (ha : PE X a (tEv c L W f)) (he : ∀ whole, isTrue a X.env whole = (do let v ← whole; standAt a.pos; holding [v] (truthy v))) (hK : X.K = c.θ.K) : PT X a (tTv c L W (tTru f)) := by
  refine pt_ev (pt_truth ha he) fun σ H Q h => ?_
  obtain ⟨F, ρ, R, h⟩ := of_tTv h
  refine tv_bind R h fun d k x F1 H1 _ e1 rd1 _ R1 h1 => ?_
  have s := R1.sub
  have fin : ∀ b : Bool, TruV X.K x H1 b → ResT c W σ F1 H1 Q (.ok b) → ∃ k, TruV X.K x H1 k ∧ Q k H1 := fun b t z => ⟨b, t, z F1 H1 (Ext.refl s)⟩
  cases d <;> first | exact (show False from h1).elim | skip
  · cases rd1.non
    exact fin _ rfl h1
  · cases rd1.bl
    exact fin _ rfl h1
  · cases rd1.int
    exact fin _ rfl h1
  · obtain ⟨p, xs, rfl, hp, r⟩ := rd1.lst s
    refine fin _ (.inl ⟨xs, .inl (.inl hp), ?_⟩) h1
    cases r <;> rfl
  · obtain ⟨p, xs, rfl, hp, r, _⟩ := rd1.tup s
    refine fin _ (.inr (.inl ⟨xs, .inl (.inl hp), ?_⟩)) h1
    cases r <;> rfl
theorem pgw_and {t u : TSm} {rest : List Expr} (ha : PT X a (tTv c L W t)) (hb : PW X (.BoolOp .And (b :: rest) pos) (tTv c L W u)) : PW X (.BoolOp .And (a :: b :: rest) pos) (tTv c L W (G.tAnd t u)) := by
  refine pw_ev (pw_and ha hb) fun σ H Q h => ?_
  obtain ⟨F, ρ, R, h⟩ := of_tTv h
  refine tt_bind (k := fun b => if b = true then u ρ else .ok false) R h fun b F1 H1 e1 R1 h1 => ?_
  cases b with
  | true => exact iteT (tTv_of R1 h1)
  | false => exact iteF ((show ResT c W σ F1 H1 Q (.ok false) from h1) F1 H1 (Ext.refl R1.sub))
theorem pgw_or {t u : TSm} {rest : List Expr} (ha : PT X a (tTv c L W t)) (hb : PW X (.BoolOp .Or (b :: rest) pos) (tTv c L W u)) : PW X (.BoolOp .Or (a :: b :: rest) pos) (tTv c L W (G.tOr t u)) := by
  refine pw_ev (pw_or ha hb) fun σ H Q h => ?_
  obtain ⟨F, ρ, R, h⟩ := of_tTv h
  refine tt_bind (k := fun b => if b = true then .ok true else u ρ) R h fun b F1 H1 e1 R1 h1 => ?_
  cases b with
  | true => exact iteT ((show ResT c W σ F1 H1 Q (.ok true) from h1) F1 H1 (Ext.refl R1.sub))
  | false => exact iteF (tTv_of R1 h1)
end
end G
namespace G
open PySem PySem.Spec L2
inductive ArgR (θ : Th) (F H : Hp) : List (D × Kd) → List V → Prop
  | nil : ArgR θ F H [] []
  | cons {d : D} {k : Kd} {v : V} {xs : List (D × Kd)} {vs : List V} : Rd1 θ F H d v → (k.solid = true → Rep θ F d v) → ArgR θ F H xs vs → ArgR θ F H ((d, k) :: xs) (v :: vs)
theorem ArgR.ext {θ : Th} {F H F1 H1 : Hp} (e : Ext F H F1 H1) : ∀ {xs : List (D × Kd)} {vs : List V}, ArgR θ F H xs vs → ArgR θ F1 H1 xs vs
  | _, _, .nil => .nil
  | _, _, .cons r s t => .cons (r.ext e) (fun z => (s z).mono e.ff) (ArgR.ext e t)
theorem ArgR.solid {θ : Th} {F H : Hp} : ∀ {xs : List (D × Kd)} {vs : List V}, ArgR θ F H xs vs → allSolid xs = true → RepL θ F (xs.map (·.1)) vs
  | _, _, .nil, _ => .nil
  | _, _, .cons r s t, h => by
    obtain ⟨h1, h2⟩ := Bool.and_eq_true_iff.mp (show (Kd.solid _ && allSolid _) = true from h)
    exact .cons (s h1) (ArgR.solid t h2)
def tAv (c : Cn) (L : List Addr) (W : WX) (fs : List ES) : TA := fun σ H Q => ∃ F ρ, Rel c.θ c.F0 c.B L F H σ ρ ∧ match eArgs fs ρ with
  | .ok xs => ∀ vs F' H', Ext F H F' H' → ArgR c.θ F' H' xs vs → Q vs H'
  | .ex n fs => ∀ cls dd F' H', Ext F H F' H' → ExV c.θ n fs cls dd F' H' → W cls dd σ H'
  | .no => False
section
variable {X : Cx} {c : Cn} {L : List Addr} {W : WX} {f g h : ES} {a b e : Expr} {pos : Pos} {es : List Expr} {fs : List ES}
theorem pga_nil : PA X [] (tAv c L W []) := by
  refine ⟨fun pos pins s σ H Q I h => pa_nil.run pos pins s σ H Q I ?_⟩
  obtain ⟨F, ρ, R, h⟩ := h
  exact h [] F H (Ext.refl R.sub) .nil
theorem pga_cons (ha : PE X e (tEv c L W f)) (hr : PA X es (tAv c L W fs)) (hs : starEach (e :: es) X.env = (false, eval e X.env) :: starEach es X.env) : PA X (e :: es) (tAv c L W (f :: fs)) := by
  refine ⟨fun pos pins s σ H Q I h => (pa_cons ha hr hs).run pos pins s σ H Q I ?_⟩
  obtain ⟨F, ρ, R, h⟩ := h
  refine ⟨F, ρ, R, ?_⟩
  unfold eArgs at h
  cases hf : f ρ with
  | no => rw [hf] at h; exact h
  | ex n fs => rw [hf] at h; exact h
  | ok x =>
    obtain ⟨d, k⟩ := x
    rw [hf] at h
    intro v F1 H1 e1 hv
    obtain ⟨F2, e2, _, rd, so⟩ := Val.use R e1 hv
    refine ⟨F2, ρ, R.ext e2, ?_⟩
    have h : match (eArgs fs ρ).bind fun xs => Out.ok ((d, k) :: xs) with
      | .ok xs => ∀ vs F' H', Ext F H F' H' → ArgR c.θ F' H' xs vs → Q vs H'
      | .ex n fs => ∀ cls dd F' H', Ext F H F' H' → ExV c.θ n fs cls dd F' H' → W cls dd σ H'
      | .no => False := h
    cases hg : eArgs fs ρ with
    | no => rw [hg] at h; exact h
    | ex n gs =>
      rw [hg] at h
      exact fun cls dd F' H' e3 => h cls dd F' H' (e2.trans e3)
    | ok xs =>
      rw [hg] at h
      exact fun vs F' H' e3 hr => h (v :: vs) F' H' (e2.trans e3) (.cons (rd.ext e3) (fun z => (so z).mono e3.ff) hr)
/-- arguments, then what follows -/
theorem av_bind {σ : L2.St} {ρ : Sl} {F H : Hp} {Q : VK} {k : List (D × Kd) → Out (D × Kd)} {P : List V → Hp → Prop} (R : Rel c.θ c.F0 c.B L F H σ ρ) (h : Res c W σ ρ F H Q ((eArgs fs ρ).bind k))
    (hp : ∀ xs vs F1 H1, eArgs fs ρ = .ok xs → Ext F H F1 H1 → ArgR c.θ F1 H1 xs vs → Rel c.θ c.F0 c.B L F1 H1 σ ρ → Res c W σ ρ F1 H1 Q (k xs) → P vs H1) : tAv c L W fs σ H P := by
  refine ⟨F, ρ, R, ?_⟩
  cases hf : eArgs fs ρ with
  | ok xs =>
    rw [hf] at h
    exact fun vs F' H' e hv => hp xs vs F' H' hf e hv (R.ext e) (Res.mono (show Res c W σ ρ F H Q (k xs) from h) e)
  | ex n fs =>
    rw [hf] at h
    exact h
  | no =>
    rw [hf] at h
    exact h
theorem pg_tup {x1 : Nat} (ha : PA X es (tAv c L W fs)) : PE X (.Tuple es x1 pos) (tEv c L W (eTup fs)) := by
  refine pe_ev (pe_tup ha) fun σ H Q h => ?_
  obtain ⟨F, ρ, R, h⟩ := of_tEv h
  refine av_bind R h fun xs vs F1 H1 _ e1 ar R1 h1 => ?_
  obtain ⟨⟨h2, h3⟩, h1⟩ := Res.ite h1
  have r := ar.solid h2
  refine ⟨?_, fun p hp => h1.layT R1.sub r hp⟩
  rw [r.length, List.length_map]
  exact Nat.le_trans h3 SZ_le
theorem pg_lst (ha : PA X es (tAv c L W fs)) : PE X (.List es pos) (tEv c L W (eLst fs)) := by
  refine pe_ev (pe_lst ha) fun σ H Q h => ?_
  obtain ⟨F, ρ, R, h⟩ := of_tEv h
  refine av_bind R h fun xs vs F1 H1 _ e1 ar R1 h1 => ?_
  obtain ⟨⟨h2, h3⟩, h1⟩ := Res.ite h1
  have r := ar.solid h2
  refine ⟨?_, fun p hp => h1.lay R1.sub (.lst r) hp⟩
  rw [r.length, List.length_map]
  exact Nat.le_trans h3 SZ_le
theorem atI_rep {θ : Th} {F : Hp} {ds : List D} {xs : List V} {i : Int} {d : D} (r : RepL θ F ds xs) (h : atI ds i = some d) : ∃ v, atI xs i = some v ∧ Rep θ F d v := by
  unfold atI at h ⊢
  rw [r.length]
  cases q : ixN ds.length i with
  | none => rw [q] at h; cases h
  | some j =>
    rw [q] at h
    exact r.get h
theorem keyOf_kV {d : D} {k : Key} (h : keyOf d = some k) : ∀ {θ : Th} {F H : Hp} {v : V}, Rd1 θ F H d v → v = kV k := by
  intro θ F H v r
  cases d <;> first | cases h | skip
  · exact r.int
  · exact r.str
theorem keysOf_kV {θ : Th} {F : Hp} : ∀ {ds : List D} {ks : List Key} {vs : List V}, keysOf ds = some ks → RepL θ F ds vs → vs = ks.map kV
  | [], _, _, h, r => by cases h; cases r; rfl
  | d :: ds, _, _, h, r => by
    unfold keysOf at h
    cases q : keyOf d with
    | none => rw [q] at h; cases h
    | some k =>
      rw [q] at h
      cases q2 : keysOf ds with
      | none => rw [q2] at h; cases h
      | some ks =>
        rw [q2] at h
        cases h
        cases r with
        | cons a b =>
          rw [keysOf_kV q2 b, keyOf_kV (H := F) q (.inl a)]
          rfl
def InD {κ : Type} [DecidableEq κ] (θ : Th) (F : Hp) (kvs : List (κ × V)) (k : κ) : Option D → Prop
  | some d => ∃ v, valV kvs k = some v ∧ Rep θ F d v
  | none => valV kvs k = none
theorem valV_zip {κ : Type} [DecidableEq κ] {θ : Th} {F : Hp} : ∀ {ks : List κ} {ds : List D} {xs : List V} (k : κ), RepL θ F ds xs → ks.length = ds.length → InD θ F (ks.zip xs) k (lookK ks ds k)
  | [], [], _, k, .nil, l => rfl
  | [], _ :: _, _, _, _, l => by simp at l
  | _ :: _, [], _, _, .nil, l => by simp at l
  | k' :: ks, d :: ds, v :: vs, k, .cons a b, l => by
    have ih := valV_zip (ks := ks) k b (by simpa using l)
    unfold lookK
    by_cases q : k' = k
    · rw [if_pos q]
      refine ⟨v, ?_, a⟩
      unfold valV
      rw [List.zip_cons_cons, List.find?_cons_of_pos (by simpa using q)]
      rfl
    · rw [if_neg q]
      have e : valV ((k' :: ks).zip (v :: vs)) k = valV (ks.zip vs) k := by
        unfold valV
        rw [List.zip_cons_cons, List.find?_cons_of_neg (by simpa using q)]
      unfold InD
      rw [e]
      exact ih
/-- a dict is read -/
def GotD (θ : Th) (F H : Hp) (a : Addr) (y : V) : Option D → Prop
  | some x => ∃ z, DGet H a y (some z) ∧ Rep θ F x z
  | none => DGet H a y none
theorem Rd1.dict {θ : Th} {F H : Hp} {d k : D} {v y : V} {o : Option D} (s : Sub F H) (rd : Rd1 θ F H d v) (rk : Rd1 θ F H k y) (h : dGet d k = some o) : ∃ a, v = .ref a ∧ IsD H a ∧ GotD θ F H a y o := by
  have rdk : ∀ {a : Addr} {u : HO}, IsDict u → (F a = some u ∨ H a = some u) → Rd H a u := fun {a u} iu z => by
    rcases z with z | z
    · rcases s a u z with z | ⟨_, o, z⟩
      · exact .inl z
      · exact .inr ⟨o, z⟩
    · exact .inl z
  cases d <;> first | cases h | skip
  · rename_i ks ds
    cases q : keyOf k with
    | none => rw [show dGet (.dK ks ds) k = (keyOf k).map fun x => lookK ks ds x from rfl, q] at h; cases h
    | some x =>
      rw [show dGet (.dK ks ds) k = (keyOf k).map fun x => lookK ks ds x from rfl, q] at h
      have ey := keyOf_kV q rk
      obtain ⟨a, xs, e, l, r, rh⟩ : ∃ a xs, v = .ref a ∧ ks.length = ds.length ∧ RepL θ F ds xs ∧ Rd H a (.dK (ks.zip xs)) := by
        rcases rd with rd | ⟨a, o, e, ha, rd⟩
        · cases rd with
          | dK e l r => exact ⟨_, _, rfl, l, r, rdk True.intro (.inl e)⟩
        · cases rd with
          | dK l r => exact ⟨a, _, e, l, r, rdk True.intro (.inr ha)⟩
      have z := valV_zip x r l
      have eo : lookK ks ds x = o := Option.some.inj h
      rw [eo] at z
      refine ⟨a, e, .inl ⟨_, rh⟩, ?_⟩
      cases o with
      | some w =>
        obtain ⟨u, z1, z2⟩ := z
        exact ⟨u, .inl ⟨_, x, rh, ey, z1.symm⟩, z2⟩
      | none => exact .inl ⟨_, x, rh, ey, z.symm⟩
  · rename_i ks ds
    cases q : tkeyOf k with
    | none => rw [show dGet (.dT ks ds) k = (tkeyOf k).map fun x => lookK ks ds x from rfl, q] at h; cases h
    | some x =>
      rw [show dGet (.dT ks ds) k = (tkeyOf k).map fun x => lookK ks ds x from rfl, q] at h
      obtain ⟨ts, rfl⟩ : ∃ ts, k = .tup ts := by cases k <;> first | exact ⟨_, rfl⟩ | cases q
      obtain ⟨t, zs, ey, ht, rt, _⟩ := rk.tup s
      have ez := keysOf_kV (show keysOf ts = some x from q) rt
      obtain ⟨a, xs, e, l, r, rh⟩ : ∃ a xs, v = .ref a ∧ ks.length = ds.length ∧ RepL θ F ds xs ∧ Rd H a (.dT (ks.zip xs)) := by
        rcases rd with rd | ⟨a, o, e, ha, rd⟩
        · cases rd with
          | dT e l r => exact ⟨_, _, rfl, l, r, rdk True.intro (.inl e)⟩
        · cases rd with
          | dT l r => exact ⟨a, _, e, l, r, rdk True.intro (.inr ha)⟩
      have z := valV_zip x r l
      have eo : lookK ks ds x = o := Option.some.inj h
      rw [eo] at z
      rw [ez] at ht
      refine ⟨a, e, .inr ⟨_, rh⟩, ?_⟩
      cases o with
      | some w =>
        obtain ⟨u, z1, z2⟩ := z
        exact ⟨u, .inr ⟨_, x, t, rh, ey, ht, z1.symm⟩, z2⟩
      | none => exact .inr ⟨_, x, t, rh, ey, ht, z.symm⟩
theorem od_row {σ : L2.St} {ρ : Sl} {F H : Hp} {Q : VK} {x y : V} {d e : D} (n1 : ∀ ks ds, d ≠ .dK ks ds) (n2 : ∀ ks ds, d ≠ .dT ks ds) (s : Sub F H) (rx : Rd1 c.θ F H d x) (ry : Rd1 c.θ F H e y) (h : Res c W σ ρ F H Q (oIx d e)) : rIx c.θ.K x y H Q := by
  cases d <;> first | exact absurd rfl (n1 _ _) | exact absurd rfl (n2 _ _) | exact (show False from h).elim | skip
  · rename_i z
    cases e <;> first | exact (show False from h).elim | skip
    rename_i i
    cases rx.str; cases ry.int
    obtain ⟨hl, h⟩ := Res.ite h
    cases q : atI z.cps.toList i with
    | none => rw [q] at h; exact h.elim
    | some v =>
      rw [q] at h
      exact .inr (.inr ⟨z, i, v, rfl, rfl, Nat.le_trans hl SZ_le, q, h.str s⟩)
  · rename_i ds
    cases e <;> first | exact (show False from h).elim | skip
    rename_i i
    obtain ⟨p, xs, rfl, hp, r⟩ := rx.lst s
    cases ry.int
    have h : Res c W σ ρ F H Q (match atI ds i with
      | some d => shr d
      | none => .no) := h
    cases q : atI ds i with
    | none => rw [q] at h; exact h.elim
    | some v =>
      rw [q] at h
      obtain ⟨z, z1, z2⟩ := atI_rep r q
      exact .inl ⟨p, xs, i, z, rfl, rfl, .inl (.inl hp), z1, h.sh s z2⟩
  · rename_i ds
    cases e <;> first | exact (show False from h).elim | skip
    rename_i i
    obtain ⟨p, xs, rfl, hp, r, _⟩ := rx.tup s
    cases ry.int
    have h : Res c W σ ρ F H Q (match atI ds i with
      | some d => shr d
      | none => .no) := h
    cases q : atI ds i with
    | none => rw [q] at h; exact h.elim
    | some v =>
      rw [q] at h
      obtain ⟨z, z1, z2⟩ := atI_rep r q
      exact .inr (.inl ⟨p, xs, i, z, rfl, rfl, .inl (.inl hp), z1, h.sh s z2⟩)
theorem pg_ix (hu : X.A.units + 1 < cLine) (hK : X.K = c.θ.K) (ha : PE X a (tEv c L W f)) (hb : PE X b (tEv c L W g)) (hs : PlainIx b) : PE X (.Subscript a b pos) (tEv c L W (eBin oIx f g)) := by
  refine ⟨fun pins s σ H Q I h => ?_⟩
  obtain ⟨F, ρ, R, h⟩ := of_tEv h
  -- a dict, or a row
  have dct : (∀ d k, f ρ = .ok (d, k) → (∃ ks ds, d = .dK ks ds) ∨ ∃ ks ds, d = .dT ks ds) → wpAny (model X.prog X.w) X.A (eval (.Subscript a b pos) X.env) (EP X pins σ Q) X.xe s := fun hd => by
    refine (pe_dget hu ha hb hs).run pins s σ H Q I ?_
    refine ev_bind R h fun d k x F1 H1 ef e1 rd1 _ R1 h1 => ?_
    refine ev_bind R1 h1 fun d2 k2 y F2 H2 _ e2 rd2 _ R2 h2 => ?_
    have h2 : Res c W σ ρ F2 H2 Q (oIx d d2) := h2
    have key : oIx d d2 = match dGet d d2 with
      | some (some v) => shr v
      | _ => .no := by
      rcases hd d k ef with ⟨ks, ds, rfl⟩ | ⟨ks, ds, rfl⟩ <;> rfl
    rw [key] at h2
    cases q : dGet d d2 with
    | none => rw [q] at h2; exact h2.elim
    | some o =>
      cases o with
      | none => rw [q] at h2; exact h2.elim
      | some v =>
        rw [q] at h2
        obtain ⟨p, e, _, z, hz, rz⟩ := Rd1.dict R2.sub (rd1.ext e2) rd2 q
        exact ⟨p, z, e, hz, h2.sh R2.sub rz⟩
  have row : (∀ d k, f ρ = .ok (d, k) → (∀ ks ds, d ≠ .dK ks ds) ∧ ∀ ks ds, d ≠ .dT ks ds) → wpAny (model X.prog X.w) X.A (eval (.Subscript a b pos) X.env) (EP X pins σ Q) X.xe s := fun hd => by
    refine (pe_ix ix_seq ha hb hs).run pins s σ H Q I ?_
    refine ev_bind R h fun d k x F1 H1 ef e1 rd1 _ R1 h1 => ?_
    refine ev_bind R1 h1 fun d2 k2 y F2 H2 _ e2 rd2 _ R2 h2 => ?_
    rw [hK]
    obtain ⟨n1, n2⟩ := hd d k ef
    exact od_row n1 n2 R2.sub (rd1.ext e2) rd2 h2
  cases hf : f ρ with
  | ok x =>
    obtain ⟨d, k⟩ := x
    by_cases q : (∃ ks ds, d = .dK ks ds) ∨ ∃ ks ds, d = .dT ks ds
    · refine dct fun d' k' e => ?_
      rw [hf] at e
      cases e
      exact q
    · refine row fun d' k' e => ?_
      rw [hf] at e
      cases e
      exact ⟨fun ks ds e => q (.inl ⟨ks, ds, e⟩), fun ks ds e => q (.inr ⟨ks, ds, e⟩)⟩
  | ex n fs => exact row fun d' k' e => by rw [hf] at e; cases e
  | no => exact row fun d' k' e => by rw [hf] at e; cases e
def ResP (c : Cn) (W : WX) (σ : L2.St) (F H : Hp) (Q : Option Int → Hp → Prop) : Out (Option Int) → Prop
  | .ok i => ∀ F' H', Ext F H F' H' → Q i H'
  | .ex n fs => ∀ cls dd F' H', Ext F H F' H' → ExV c.θ n fs cls dd F' H' → W cls dd σ H'
  | .no => False
def tPo (c : Cn) (L : List Addr) (W : WX) (o : Option ES) : TO := fun σ H Q => ∃ F ρ, Rel c.θ c.F0 c.B L F H σ ρ ∧ ResP c W σ F H Q (ePart o ρ)
theorem pgo_none : PO X none (tPo c L W none) := ⟨fun pins s σ H Q I h => po_none.run pins s σ H Q I (by
  obtain ⟨F, ρ, R, h⟩ := h
  exact h F H (Ext.refl R.sub))⟩
def oPart : D × Kd → Out (Option Int) := fun x => match x.1 with
  | .int i => .ok (some i)
  | _ => .no
theorem pgo_some (ha : PE X a (tEv c L W f)) : PO X (some a) (tPo c L W (some f)) := ⟨fun pins s σ H Q I h => (po_some ha).run pins s σ H Q I (by
  obtain ⟨F, ρ, R, h⟩ := h
  replace h : ResP c W σ F H Q ((f ρ).bind oPart) := h
  refine ⟨F, ρ, R, ?_⟩
  cases hf : f ρ with
  | no => rw [hf] at h; exact h
  | ex n fs => rw [hf] at h; exact h
  | ok x =>
    obtain ⟨d, k⟩ := x
    rw [hf] at h
    intro v F1 H1 e1 hv
    obtain ⟨F2, e2, _, rd, _⟩ := Val.use R e1 hv
    cases d <;> first | exact (show False from h).elim | skip
    cases rd.int
    exact ⟨_, rfl, h F2 H1 e2⟩)⟩
/-- a part of a slice, then what follows -/
theorem po_bind {o : Option ES} {σ : L2.St} {ρ : Sl} {F H : Hp} {Q : VK} {k : Option Int → Out (D × Kd)} {P : Option Int → Hp → Prop} (R : Rel c.θ c.F0 c.B L F H σ ρ) (h : Res c W σ ρ F H Q ((ePart o ρ).bind k))
    (hp : ∀ i F1 H1, Ext F H F1 H1 → Rel c.θ c.F0 c.B L F1 H1 σ ρ → Res c W σ ρ F1 H1 Q (k i) → P i H1) : tPo c L W o σ H P := by
  refine ⟨F, ρ, R, ?_⟩
  cases hf : ePart o ρ with
  | ok i =>
    rw [hf] at h
    exact fun F' H' e => hp i F' H' e (R.ext e) (Res.mono (show Res c W σ ρ F H Q (k i) from h) e)
  | ex n fs =>
    rw [hf] at h
    exact h
  | no =>
    rw [hf] at h
    exact h
theorem cut_rep {θ : Th} {F : Hp} {ds : List D} {xs : List V} (r : RepL θ F ds xs) (lo hi : Option Int) : RepL θ F (cutD ds lo hi) (cutV xs lo hi) := by
  unfold cutD cutV
  rw [r.length]
  exact (r.drop _).take _
theorem pg_sl {p2 : Pos} {lo hi : Option Expr} {fl fh : Option ES} (hK : X.K = c.θ.K) (ha : PE X a (tEv c L W f)) (hl : PO X lo (tPo c L W fl)) (hh : PO X hi (tPo c L W fh)) : PE X (.Subscript a (.Slice lo hi none p2) pos) (tEv c L W (eSl f fl fh)) := by
  refine pe_ev (pe_slice (SlR.or sl_list sl_tupA) ha hl hh) fun σ H Q h => ?_
  obtain ⟨F, ρ, R, h⟩ := of_tEv h
  refine ev_bind R h fun d k x F1 H1 ef e1 rd1 so R1 h1 => ?_
  refine po_bind R1 h1 fun l F2 H2 e2 R2 h2 => ?_
  refine po_bind R2 h2 fun u F3 H3 e3 R3 h3 => ?_
  have rd := (rd1.ext e2).ext e3
  replace h3 : Res c W σ ρ F3 H3 Q (oSl d l u) := h3
  clear h h1 h2 so ef
  cases d <;> first | exact (show False from h3).elim | skip
  · obtain ⟨p, xs, rfl, hp, r⟩ := rd.lst R3.sub
    exact .inl ⟨p, xs, rfl, .inl (.inl hp), fun q hq => h3.lay R3.sub (.lst (cut_rep r l u)) hq⟩
  · rename_i ds
    obtain ⟨p, xs, rfl, hp, r, z⟩ := rd.tup R3.sub
    refine .inr ⟨p, xs, rfl, .inl (.inl hp), fun ⟨e1, e2⟩ => ?_, fun _ q hq => h3.layT R3.sub (cut_rep r l u) hq⟩
    have e : cutD ds l u = ds := by
      unfold cutD
      rw [r.length] at e1 e2
      rw [e1, e2, List.drop_zero, Nat.sub_zero, List.take_length]
    have h4 : Res c W σ ρ F3 H3 Q (shr (.tup (cutD ds l u))) := h3
    rw [e] at h4
    exact h4.sh R3.sub z
theorem zip_lookup {θ : Th} {F : Hp} : ∀ {names : List Str} {ds : List D} {xs : List V} {i : Nat} {n : Str} {d : D}, names.Nodup → RepL θ F ds xs → names[i]? = some n → ds[i]? = some d → ∃ v, (names.zip xs).lookup n = some v ∧ Rep θ F d v
  | [], _, _, _, _, _, _, _, h, _ => by simp at h
  | _ :: _, _, _, _, _, _, _, .nil, _, h => by simp at h
  | m :: names, _, _, 0, n, d, nd, .cons a b, h1, h2 => by
    simp at h1 h2
    subst h1 h2
    exact ⟨_, by rw [List.zip_cons_cons, List.lookup_cons, beq_self_eq_true], a⟩
  | m :: names, _, _, i + 1, n, d, nd, .cons a b, h1, h2 => by
    have h1' : names[i]? = some n := by simpa using h1
    obtain ⟨v, e, r⟩ := zip_lookup (i := i) (List.nodup_cons.mp nd).2 b h1' (by simpa using h2)
    refine ⟨v, ?_, r⟩
    have ne : (n == m) = false := beq_eq_false_iff_ne.mpr fun z => by
      subst z
      exact (List.nodup_cons.mp nd).1 (List.mem_of_getElem? h1')
    rw [List.zip_cons_cons, List.lookup_cons, ne]
    exact e
/-- what of the text a field's reading leans on: of class n -/
structure FldOk (c : Cn) (x : Str) (fx : Nat → Option Nat) : Prop where
  ok : ∀ n i, fx n = some i → Cls c.θ.K (c.θ.C n) ∧ NoAttr c.θ.K (c.θ.C n) x ∧ (c.θ.fld n)[i]? = some x ∧ (c.θ.fld n).Nodup
theorem pg_fld {x : Str} {fx : Nat → Option Nat} (T : FldOk c x fx) (hK : X.K = c.θ.K) (ha : PE X a (tEv c L W f)) (hb : attributeBase a x X.env (eval a X.env) = eval a X.env) : PE X (.Attribute a x pos) (tEv c L W (eUn (oFld fx) f)) := by
  refine pe_ev (pe_fld ha hb) fun σ H Q h => ?_
  obtain ⟨F, ρ, R, h⟩ := of_tEv h
  refine ev_bind R h fun d k v F1 H1 ef e1 rd so R1 h1 => ?_
  clear h so ef
  replace h1 : Res c W σ ρ F1 H1 Q (oFld fx d) := h1
  cases d <;> first | exact (show False from h1).elim | skip
  rename_i n ds
  replace h1 : Res c W σ ρ F1 H1 Q (match fx n with
    | some i => match ds[i]? with
      | some d => shr d
      | none => .no
    | none => .no) := h1
  cases q : fx n with
  | none => rw [q] at h1; exact h1.elim
  | some i =>
    rw [q] at h1
    replace h1 : Res c W σ ρ F1 H1 Q (match ds[i]? with
      | some d => shr d
      | none => .no) := h1
    cases q2 : ds[i]? with
    | none => rw [q2] at h1; exact h1.elim
    | some d =>
      rw [q2] at h1
      obtain ⟨z1, z2, z3, z4⟩ := T.ok n i q
      rcases rd with rd | ⟨p, o, rfl, ho, rd⟩
      · cases rd with
        | obj e l r =>
          obtain ⟨w, lw, rw'⟩ := zip_lookup z4 r z3 q2
          rw [hK]
          exact ⟨_, _, _, _, w, rfl, R1.sub.ins e, z1, z2, lw, h1.sh R1.sub rw'⟩
      · cases rd with
        | obj l r =>
          have hi : i < ds.length := (List.getElem?_eq_some_iff.mp q2).1
          obtain ⟨w, lw, rw'⟩ := zip_lookup (z4.sublist (List.take_sublist _ _)) r (by rw [List.getElem?_take_of_lt hi]; exact z3) q2
          rw [hK]
          exact ⟨_, _, _, _, w, rfl, ho, z1, z2, lw, h1.sh R1.sub rw'⟩
end
end G
namespace G
open PySem PySem.Spec L2
section
variable {X : Cx} {c : Cn} {L : List Addr} {W : WX} {f g h : ES} {a b e : Expr} {pos : Pos} {es : List Expr} {fs : List ES}
def BiD (c : Cn) (W : WX) (b : Bi) (r : List V → Hp → VK → Prop) : Prop := ∀ (σ : L2.St) (ρ : Sl) (F H : Hp) (Q : VK) (xs : List (D × Kd)) (vs : List V), Sub F H → ArgR c.θ F H xs vs → Res c W σ ρ F H Q (oBi b (xs.map (·.1))) → r vs H Q
theorem pg_bi {b : Bi} {id : String} {x : Str} {p : Pos} {r : List V → Hp → VK → Prop} (hc : CallR X (.builtin id) r) (hd : BiD c W b r) (hg : Gl X x) (hm : X.mg x = none) (hv : bootBuiltins x = some (.builtin id)) (ha : PA X (e :: es) (tAv c L W fs)) (hn : x ≠ "__name__") (hdb : (x == ("__debug__" : Str)) = false)
    (he : starEach (e :: es) X.env = (false, eval e X.env) :: starEach es X.env) (hpl : (backTo pos (starEach es X.env)).any (·.1) = false) : PE X (.Call (.Name x p) (e :: es) [] pos) (tEv c L W (eBi b fs)) := by
  refine pe_ev (pe_callB hc hg hm hv ha hn hdb he hpl) fun σ H Q h => ?_
  obtain ⟨F, ρ, R, h⟩ := of_tEv h
  exact av_bind R h fun xs vs F1 H1 _ e1 ar R1 h1 => hd σ ρ F1 H1 Q xs vs R1.sub ar h1
theorem pg_biTy {b : Bi} {id : String} {x : Str} {p : Pos} {r : List V → Hp → VK → Prop} (hc : CallR X (.type id) r) (hd : BiD c W b r) (hg : Gl X x) (hm : X.mg x = none) (hv : bootBuiltins x = some (.type id)) (ha : PA X (e :: es) (tAv c L W fs)) (hn : x ≠ "__name__") (hdb : (x == ("__debug__" : Str)) = false)
    (he : starEach (e :: es) X.env = (false, eval e X.env) :: starEach es X.env) (hpl : (backTo pos (starEach es X.env)).any (·.1) = false) : PE X (.Call (.Name x p) (e :: es) [] pos) (tEv c L W (eBi b fs)) := by
  refine pe_ev (pe_callTy hc hg hm hv ha hn hdb he hpl) fun σ H Q h => ?_
  obtain ⟨F, ρ, R, h⟩ := of_tEv h
  exact av_bind R h fun xs vs F1 H1 _ e1 ar R1 h1 => hd σ ρ F1 H1 Q xs vs R1.sub ar h1
/-- one argument, two -/
theorem bi1 {b : Bi} {r : List V → Hp → VK → Prop} (h0 : ∀ d e l, oBi b (d :: e :: l) = .no) (hn : oBi b [] = .no)
    (h : ∀ (σ : L2.St) (ρ : Sl) (F H : Hp) (Q : VK) (d : D) (v : V), Sub F H → Rd1 c.θ F H d v → Res c W σ ρ F H Q (oBi b [d]) → r [v] H Q) : BiD c W b r := by
  intro σ ρ F H Q xs vs s ar hr
  cases ar with
  | nil => rw [List.map_nil, hn] at hr; exact hr.elim
  | cons rd so t =>
    cases t with
    | nil => exact h σ ρ F H Q _ _ s rd hr
    | cons rd2 so2 t =>
      rw [List.map_cons, List.map_cons, h0] at hr
      exact hr.elim
theorem Rd1.dK {θ : Th} {F H : Hp} {ks : List Key} {ds : List D} {v : V} (s : Sub F H) (rd : Rd1 θ F H (.dK ks ds) v) : ∃ a xs, v = .ref a ∧ ks.length = ds.length ∧ RepL θ F ds xs ∧ Rd H a (.dK (ks.zip xs)) := by
  rcases rd with rd | ⟨a, o, rfl, ha, rd⟩
  · cases rd with
    | dK e l r =>
      rcases s _ _ e with z | ⟨_, o, z⟩
      · exact ⟨_, _, rfl, l, r, .inl z⟩
      · exact ⟨_, _, rfl, l, r, .inr ⟨o, z⟩⟩
  · cases rd with
    | dK l r => exact ⟨a, _, rfl, l, r, .inl ha⟩
theorem Rd1.dT {θ : Th} {F H : Hp} {ks : List (List Key)} {ds : List D} {v : V} (s : Sub F H) (rd : Rd1 θ F H (.dT ks ds) v) : ∃ a xs, v = .ref a ∧ ks.length = ds.length ∧ RepL θ F ds xs ∧ Rd H a (.dT (ks.zip xs)) := by
  rcases rd with rd | ⟨a, o, rfl, ha, rd⟩
  · cases rd with
    | dT e l r =>
      rcases s _ _ e with z | ⟨_, o, z⟩
      · exact ⟨_, _, rfl, l, r, .inl z⟩
      · exact ⟨_, _, rfl, l, r, .inr ⟨o, z⟩⟩
  · cases rd with
    | dT l r => exact ⟨a, _, rfl, l, r, .inl ha⟩
theorem bd_len : BiD c W .len (fun xs H Q => (∃ x n, xs = [x] ∧ LenV c.θ.K x H n ∧ Q (.int n) H) ∨ (∃ a kvs, xs = [V.ref a] ∧ Rd H a (.dK kvs) ∧ Q (.int (kvs.length : Nat)) H) ∨ (∃ a kvs, xs = [V.ref a] ∧ Rd H a (.dT kvs) ∧ Q (.int (kvs.length : Nat)) H)) := by
  refine bi1 (fun d e l => by cases d <;> rfl) rfl fun σ ρ F H Q d v s rd h => ?_
  cases d <;> first | exact (show False from h).elim | skip
  · cases rd.str
    obtain ⟨hl, h⟩ := Res.ite h
    exact .inl ⟨_, _, rfl, ⟨Nat.le_trans hl SZ_le, rfl⟩, h.int s⟩
  · obtain ⟨a, xs, rfl, ha, r⟩ := rd.lst s
    refine .inl ⟨_, xs.length, rfl, .inl ⟨xs, .inl (.inl ha), rfl⟩, ?_⟩
    rw [r.length]
    exact Res.int h s
  · obtain ⟨a, xs, rfl, ha, r, _⟩ := rd.tup s
    refine .inl ⟨_, xs.length, rfl, .inr ⟨xs, .inl (.inl ha), rfl⟩, ?_⟩
    rw [r.length]
    exact Res.int h s
  · obtain ⟨a, xs, rfl, l, r, ha⟩ := rd.dK s
    refine .inr (.inl ⟨a, _, rfl, ha, ?_⟩)
    rw [List.length_zip, r.length, ← l, Nat.min_self]
    exact Res.int h s
  · obtain ⟨a, xs, rfl, l, r, ha⟩ := rd.dT s
    refine .inr (.inr ⟨a, _, rfl, ha, ?_⟩)
    rw [List.length_zip, r.length, ← l, Nat.min_self]
    exact Res.int h s
theorem bd_abs : BiD c W .abs (fun xs H Q => ∃ i, xs = [.int i] ∧ Q (.int (if i < 0 then -i else i)) H) := by
  refine bi1 (fun d e l => by cases d <;> rfl) rfl fun σ ρ F H Q d v s rd h => ?_
  cases d <;> first | exact (show False from h).elim | skip
  cases rd.int
  exact ⟨_, rfl, Res.int h s⟩
theorem bd_list : BiD c W .list (fun xs H Q => ∃ p ys, xs = [.ref p] ∧ (SqL c.θ.K H p ys ∨ SqT c.θ.K H p ys) ∧ ∀ l, H l = none → Q (.ref l) (upd H l (.lst ys))) := by
  refine bi1 (fun d e l => by cases d <;> rfl) rfl fun σ ρ F H Q d v s rd h => ?_
  cases d <;> first | exact (show False from h).elim | skip
  · obtain ⟨a, xs, rfl, ha, r⟩ := rd.lst s
    exact ⟨a, xs, rfl, .inl (.inl (.inl ha)), fun l hl => Res.lay h s (.lst r) hl⟩
  · obtain ⟨a, xs, rfl, ha, r, _⟩ := rd.tup s
    exact ⟨a, xs, rfl, .inr (.inl (.inl ha)), fun l hl => Res.lay h s (.lst r) hl⟩
end
end G
namespace G
open PySem PySem.Spec L2
/-- old objects as they were frozen ahead -/
noncomputable def newN (F F' H : Hp) : Hp := fun b => match H b with
  | none => F' b
  | some _ => F b
theorem newN_ext {F F2 F' H H' : Hp} (s : Sub F H) (s2 : Same F F2) (e : Ext F2 H F' H') : Ext F H (newN F F' H) H' := by
  refine ⟨fun b u h => ?_, fun b u h => ?_, e.hh, fun b u h => ?_⟩
  · unfold newN at h
    cases q : H b with
    | none => rw [q] at h; exact e.sub b u h
    | some w =>
      rw [q] at h
      exact e.sub b u (e.ff _ _ (s2 _ _ h))
  · have : ∃ w, H b = some w := by
      rcases s b u h with z | ⟨_, _, z⟩ <;> exact ⟨_, z⟩
    obtain ⟨w, hw⟩ := this
    unfold newN
    rw [hw]
    exact h
  · unfold newN at h
    cases q : H b with
    | none => exact .inr (.inl rfl)
    | some w => rw [q] at h; exact .inl h
theorem repl_flatF {θ : Th} {F F' : Hp} : ∀ {ds : List D} {vs : List V}, ds.all flat = true → RepL θ F ds vs → RepL θ F' ds vs
  | _, _, _, .nil => .nil
  | _, _, h, .cons r t => by
    rw [List.all_cons, Bool.and_eq_true] at h
    exact .cons (r.flat h.1) (repl_flatF h.2 t)
theorem FrV.new {θ : Th} {F F' H H' : Hp} {d : D} {v : V} (hd : newD d = true) (f : FrV θ F' H H' d v) : FrV θ (newN F F' H) H H' d v := by
  obtain ⟨fu, a, o, rfl, n, ha, nf, ro, nw⟩ := f
  have nf2 : newN F F' H a = none := by unfold newN; rw [n]; exact nf
  have le : Same (onlyN F' H) (newN F F' H) := fun b u h => by
    unfold onlyN at h
    unfold newN
    cases q : H b with
    | none => rw [q] at h; exact h
    | some w => rw [q] at h; cases h
  have le2 : Same (onlyN F' H) (onlyN (newN F F' H) H) := fun b u h => by
    have h2 := le b u h
    unfold onlyN at h ⊢
    cases q : H b with
    | none => exact h2
    | some w => rw [q] at h; cases h
  cases d with
  | lst ds =>
    cases ro with
    | lst rl => exact ⟨trivial, a, _, rfl, n, ha, nf2, .lst (repl_flatF hd rl), Nw.of rfl⟩
  | obj k ds => exact ⟨fu, a, o, rfl, n, ha, nf2, (nw rfl).mono le, fun z => (nw z).mono le2⟩
  | _ => cases hd
theorem FrV.notFlat {θ : Th} {F' H H' : Hp} {d : D} {v : V} (f : FrV θ F' H H' d v) (h : flat d = true) : False := by
  obtain ⟨_, _, _, _, _, _, _, ro, _⟩ := f
  cases ro <;> cases h
theorem TrV.flat {θ : Th} {F F' H H' : Hp} {n : Nat} {d : D} {v : V} (h : G.flat d = true) (f : TrV θ F' H H' n d v) : Rep θ F d v := by
  obtain ⟨S, t, _⟩ := f
  cases n with
  | zero =>
    replace t : Tr θ H F' H' (shD d) d v S := t
    rw [shD_flat h] at t
    cases t with
    | lf r => exact r.flat h
  | succ n =>
    cases t with
    | fl _ r => exact r.flat h
    | lst _ _ => cases h
    | tup _ _ _ => cases h
    | dK _ _ _ => cases h
    | dT _ _ _ => cases h
    | obj _ _ _ => cases h
def ResF (θ : Th) (F H : Hp) (Q : VK) (E : XK) : Out (D × Bool) → Prop
  | .ok (d, true) => ∀ v F' H', Ext F H F' H' → FrV θ F' H H' d v → Q v H'
  | .ok (d, false) => ∀ v F' H', Ext F H F' H' → Rep θ F' d v → Q v H'
  | .ex n fs => ∀ cls dd F' H', Ext F H F' H' → ExV θ n fs cls dd F' H' → E cls dd H'
  | .no => False
/-- a def whose value on ds is S ds -/
def spOf (θ : Th) (m : Nat) (S : List D → Out (D × Bool)) : Sp := fun vs H Q E => vs.length = m ∧ ∃ F ds, Sub F H ∧ RepL θ F ds vs ∧ ResF θ F H Q E (S ds)
/-- an __init__ of class k: what it makes of its arguments -/
def spInit (θ : Th) (m k : Nat) (S : List D → Out (D × Bool)) : Sp := fun vs H Q E => vs.length = m + 1 ∧ ∃ F ds H0 x dx us, vs = .ref x :: us ∧ H0 x = none ∧ H0 dx = none ∧ dx ≠ x ∧ H = upd (upd H0 dx (.own x)) x (.ins (θ.C k) dx []) ∧ Sub F H0 ∧ RepL θ F ds us ∧
  ResF θ F H0 (fun v H' => v = .ref x → Q .non H') E (S ds)
/-- own roots among the arguments are frozen for the call -/
theorem ArgR.freeze {θ : Th} {F H : Hp} : ∀ {xs : List (D × Kd)} {vs : List V}, Sub F H → ArgR θ F H xs vs → okArgs xs = true → ∃ F2, Same F F2 ∧ Sub F2 H ∧ RepL θ F2 (xs.map (·.1)) vs
  | _, _, s, .nil, _ => ⟨F, .refl _, s, .nil⟩
  | _, _, s, .cons (d := d) (k := k) (v := v) rd so t, hf => by
    obtain ⟨hf1, hf2⟩ := Bool.and_eq_true_iff.mp (show ((k.solid || notObj d) && okArgs _) = true from hf)
    obtain ⟨F2, e, s2, r⟩ := ArgR.freeze s t hf2
    by_cases sol : k.solid = true
    · exact ⟨F2, e, s2, .cons ((so sol).mono e) r⟩
    rcases rd with rd | ⟨a, o, rfl, ha, ro⟩
    · exact ⟨F2, e, s2, .cons (rd.mono e) r⟩
    · have fu : Full θ d := by
        rcases Bool.or_eq_true_iff.mp hf1 with z | z
        · exact absurd z sol
        · cases d <;> first | trivial | cases z
      cases q : F2 a with
      | none =>
        have e2 : Same F2 (upd F2 a o) := Same.lay q
        refine ⟨upd F2 a o, e.trans e2, fun b u h => ?_, .cons ((ro.mono e).frozen q fu) (r.mono e2)⟩
        by_cases hb : b = a
        · subst hb
          rw [upd_same] at h
          cases h
          exact .inl ha
        · rw [upd_ne hb] at h
          exact s2 b u h
      | some u =>
        have eu : u = o := by
          rcases s2 a u q with z | ⟨_, o', z⟩
          · rw [ha] at z
            exact (Option.some.inj z).symm
          · rw [ha] at z
            cases z
            cases ro
        subst eu
        refine ⟨F2, e, s2, .cons ?_ r⟩
        have ro := ro.mono e
        cases ro with
        | lst r => exact .lst q r
        | dK l r => exact .dK q l r
        | dT l r => exact .dT q l r
        | @obj c dx xs ds l r =>
          have fu : ds.length = (θ.fld c).length := fu
          rw [fu, List.take_length] at q
          exact .obj q fu.symm r
section
variable {X : Cx} {c : Cn} {L : List Addr} {W : WX} {f g h : ES} {a b e : Expr} {pos : Pos} {es : List Expr} {fs : List ES}
theorem eArgs_length : ∀ {fs : List ES} {ρ : Sl} {xs : List (D × Kd)}, eArgs fs ρ = .ok xs → xs.length = fs.length
  | [], _, _, h => by cases h; rfl
  | f :: fs, ρ, xs, h => by
    unfold eArgs at h
    cases q : f ρ with
    | no => rw [q] at h; cases h
    | ex n gs => rw [q] at h; cases h
    | ok x =>
      rw [q] at h
      cases q2 : eArgs fs ρ with
      | no => rw [bind_ok, q2] at h; cases h
      | ex n gs => rw [bind_ok, q2] at h; cases h
      | ok ys =>
        rw [bind_ok, q2] at h
        cases h
        rw [List.length_cons, List.length_cons, eArgs_length q2]
/-- what the call's outcome says of the def -/
theorem call_core {Γ : Gam} {n : Nat} {σ : L2.St} {ρ : Sl} {F H : Hp} {Q : VK} {xs : List (D × Kd)} {vs : List V} (s : Sub F H) (ar : ArgR c.θ F H xs vs)
    (h : Res c W σ ρ F H Q (match Γ n (xs.map (·.1)) with
      | .ok (d, b) => if allSolid xs then .ok (d, if b then .fr else .sh) else if flat d && okArgs xs then shr d else if (b && newD d) && okArgs xs then .ok (d, .fr) else .no
      | .ex c gs => if allSolid xs || (gs.isEmpty && okArgs xs) then .ex c gs else .no
      | .no => .no)) : ∃ F2, Same F F2 ∧ Sub F2 H ∧ RepL c.θ F2 (xs.map (·.1)) vs ∧ ResF c.θ F2 H Q (WE W σ) (Γ n (xs.map (·.1))) := by
  by_cases q : allSolid xs = true
  · refine ⟨F, .refl _, s, ar.solid q, ?_⟩
    cases hg : Γ n (xs.map (·.1)) with
    | no => rw [hg] at h; exact h
    | ex k gs =>
      rw [hg] at h
      replace h : Res c W σ ρ F H Q (if (allSolid xs || (gs.isEmpty && okArgs xs)) = true then .ex k gs else .no) := h
      exact (Res.ite h).2
    | ok z =>
      obtain ⟨d, b⟩ := z
      rw [hg] at h
      replace h : Res c W σ ρ F H Q (if allSolid xs = true then .ok (d, if b then .fr else .sh) else if (flat d && okArgs xs) = true then shr d else if ((b && newD d) && okArgs xs) = true then .ok (d, .fr) else .no) := h
      rw [if_pos q] at h
      cases b with
      | true => exact h
      | false => exact h
  · have go : okArgs xs = true → ∃ F2, Same F F2 ∧ Sub F2 H ∧ RepL c.θ F2 (xs.map (·.1)) vs := ar.freeze s
    have back : ∀ {F2 F' H' : Hp}, Same F F2 → Ext F2 H F' H' → Ext F H F H' := fun {F2 F' H'} e x => ⟨fun a u z => x.sub a u (x.ff _ _ (e _ _ z)), .refl _, x.hh, fun _ _ z => .inl z⟩
    cases hg : Γ n (xs.map (·.1)) with
    | no => rw [hg] at h; exact h.elim
    | ex k gs =>
      rw [hg] at h
      replace h : Res c W σ ρ F H Q (if (allSolid xs || (gs.isEmpty && okArgs xs)) = true then .ex k gs else .no) := h
      obtain ⟨h1, h2⟩ := Res.ite h
      rcases Bool.or_eq_true_iff.mp h1 with z | z
      · exact absurd z q
      obtain ⟨z1, z2⟩ := Bool.and_eq_true_iff.mp z
      obtain ⟨F2, e, s2, r⟩ := go z2
      have eg : gs = [] := List.isEmpty_iff.mp z1
      subst eg
      exact ⟨F2, e, s2, r, fun cls dd F' H' x hv => h2 cls dd F H' (back e x) hv⟩
    | ok z =>
      obtain ⟨d, b⟩ := z
      rw [hg] at h
      replace h : Res c W σ ρ F H Q (if allSolid xs = true then .ok (d, if b then .fr else .sh) else if (flat d && okArgs xs) = true then shr d else if ((b && newD d) && okArgs xs) = true then .ok (d, .fr) else .no) := h
      rw [if_neg q] at h
      by_cases h1 : (flat d && okArgs xs) = true
      rotate_left
      · rw [if_neg h1] at h
        obtain ⟨h1, h2⟩ := Res.ite h
        obtain ⟨z1, z2⟩ := Bool.and_eq_true_iff.mp h1
        obtain ⟨z0, z1⟩ := Bool.and_eq_true_iff.mp z1
        subst z0
        obtain ⟨F2, e, s2, r⟩ := go z2
        exact ⟨F2, e, s2, r, fun v F' H' x hv => h2 v _ H' (newN_ext s e x) (hv.new z1)⟩
      rw [if_pos h1] at h
      have h2 := h
      obtain ⟨z1, z2⟩ := Bool.and_eq_true_iff.mp h1
      obtain ⟨F2, e, s2, r⟩ := go z2
      refine ⟨F2, e, s2, r, ?_⟩
      cases b with
      | true =>
        intro v F' H' x hv
        exact (hv.notFlat z1).elim
      | false => exact fun v F' H' x hv => h2 v F H' (back e x) (hv.flat z1)
theorem ResF.imp {θ : Th} {F H : Hp} {Q Q' : VK} {E : XK} {o : Out (D × Bool)} (h : ResF θ F H Q E o) (k : ∀ v H', Q v H' → Q' v H') : ResF θ F H Q' E o := by
  cases o with
  | no => exact h
  | ex n fs => exact h
  | ok z =>
    obtain ⟨d, b⟩ := z
    cases b with
    | true => exact fun v F' H' x hv => k _ _ (h v F' H' x hv)
    | false => exact fun v F' H' x hv => k _ _ (h v F' H' x hv)
/-- f(..) -/
theorem pg_call {Γ : Gam} {n k m : Nat} {fa : Addr} {fd : FuncData} {ps : List Str} {x : Str} {p : Pos} (F : FnOk X.prog X.w X.K X.mg X.base (L2N.CX X.prog X.w) k fa fd ps (spOf c.θ m (Γ n))) (hr : Room k X.A) (hg : Gl X x) (hm : X.mg x = some (.ref fa))
    (hk : PySem.W.keepIn X.K (.ref fa) = true) (hb : Binds X.K fd ps []) (tk : L2N.Takes X W) (ha : PA X (e :: es) (tAv c L W fs)) (hl : fs.length = m) (hdb : (x == ("__debug__" : Str)) = false) (he : starEach (e :: es) X.env = (false, eval e X.env) :: starEach es X.env)
    (hpl : (backTo pos (starEach es X.env)).any (·.1) = false) : PE X (.Call (.Name x p) (e :: es) [] pos) (tEv c L W (eCall Γ n fs)) := by
  refine pe_ev (pe_callS (E := WE W) F hr hg hm hk hb (fun σ => L2N.passAt tk σ) ha hdb he hpl) fun σ H Q h => ?_
  obtain ⟨F, ρ, R, h⟩ := of_tEv h
  refine av_bind R h fun xs vs F1 H1 ef e1 ar R1 h1 => ?_
  obtain ⟨F2, _, s2, r, hf⟩ := call_core R1.sub ar h1
  refine ⟨?_, F2, _, s2, r, hf⟩
  rw [r.length, List.length_map, ← hl]
  exact eArgs_length ef
end
end G
namespace G
open PySem PySem.Spec L2
section
variable {X : Cx} {CX : CXT} {k : Nat} {f C : Addr} {fd : FuncData} {ps : List Str} {sp : Sp} {E : L2.St → XK} {x m : Str} {p pos apos : Pos} {e o : Expr} {es : List Expr} {ta : TE} {t : TA}
def tMethS (C : Addr) (m : Str) (sp : Sp) (E : L2.St → XK) (ta : TE) (t : TA) : TE := fun σ H Q => ta σ H fun x H1 => ∃ a dx fs, x = .ref a ∧ H1 a = some (.ins C dx fs) ∧ fs.lookup m = none ∧ t σ H1 fun vs H2 => sp (x :: vs) H2 Q (E σ)
theorem pe_methS {pl : Sem Bool} (he : PE X o ta) (c : Cls X.K C) (hm : Meth X.K C m f) (F : FnOk X.prog X.w X.K X.mg X.base CX k f fd ps sp) (hr : Room k X.A) (hb : Binds X.K fd ps []) (hx : ∀ σ, PassesAt CX X σ (E σ)) (ha : PA X (e :: es) t)
    (hst : starEach (e :: es) X.env = (false, eval e X.env) :: starEach es X.env) (hpl : (backTo pos (starEach es X.env)).any (·.1) = false)
    (ht : eval (.Call (.Attribute o m apos) (e :: es) [] pos) X.env = (do
      let ov ← eval o X.env
      standAt apos.atName
      let (f, first) ← holding [ov] (getMethod ov m pl)
      callWith pos f first (backTo pos (starEach (e :: es) X.env)) (backToKw pos (keywordEach [] X.env)))) :
    PE X (.Call (.Attribute o m apos) (e :: es) [] pos) (tMethS C m sp E ta t) := by
  refine ⟨fun pins s σ H Q I h => ?_⟩
  refine PySem.W.methodCall_KW (pl := pl) (thn (he.run pins s σ H _ I h) fun u s1 ⟨x, H1, I1, rx, a, dx, fs, ex, ea, l, q⟩ => ?_) ht
  subst ex
  obtain rfl : u = Value.ref a := rx
  refine getmeth_ok I1 ea c hm l ?_
  refine PySem.W.callWith_K (first := [.ref a]) (h₀ := X.base) I.ok.mod.kin hm.kp (thn (ha.run pos pins s1 σ H1 _ I1 q) fun us s2 ⟨vs, H2, I2, r, q2⟩ => ⟨I2.kIn, ?_⟩) hst hpl
  exact run_fnS (us := .ref a :: us) (vs := .ref a :: vs) F hr hb (hx σ) I2 (.cons rfl r) q2
theorem pe_methS0 {pl : Sem Bool} (he : PE X o ta) (c : Cls X.K C) (hm : Meth X.K C m f) (F : FnOk X.prog X.w X.K X.mg X.base CX k f fd ps sp) (hr : Room k X.A) (hb : Binds X.K fd ps []) (hx : ∀ σ, PassesAt CX X σ (E σ))
    (ht : eval (.Call (.Attribute o m apos) [] [] pos) X.env = (do
      let ov ← eval o X.env
      standAt apos.atName
      let (f, first) ← holding [ov] (getMethod ov m pl)
      callWith pos f first (backTo pos (starEach [] X.env)) (backToKw pos (keywordEach [] X.env)))) :
    PE X (.Call (.Attribute o m apos) [] [] pos) (tMethS C m sp E ta tNil) := by
  refine ⟨fun pins s σ H Q I h => ?_⟩
  refine PySem.W.methodCall_KW (pl := pl) (thn (he.run pins s σ H _ I h) fun u s1 ⟨x, H1, I1, rx, a, dx, fs, ex, ea, l, q⟩ => ?_) ht
  subst ex
  obtain rfl : u = Value.ref a := rx
  refine getmeth_ok I1 ea c hm l ?_
  exact PySem.W.callWith_K0 (first := [.ref a]) I1.kIn hm.kp (run_fnS (us := [.ref a]) (vs := [.ref a]) F hr hb (hx σ) I1 (.cons rfl .nil) q)
def tMakeS (C : Addr) (sp : Sp) (E : L2.St → XK) (t : TA) : TE := fun σ H Q => t σ H fun vs H1 => ∀ x dx, H1 x = none → H1 dx = none → dx ≠ x → sp (.ref x :: vs) (upd (upd H1 dx (.own x)) x (.ins C dx [])) (fun v H2 => v = .non ∧ Q (.ref x) H2) (E σ)
theorem run_makeS {pins : List (Addr × Obj)} {σ : L2.St} {H : Hp} {s : Shared} {Q : VK} {us : List Value} {vs : List V} (M : Mk X.K C f) (F : FnOk X.prog X.w X.K X.mg X.base CX k f fd ps sp) (hr : Room (k + 1) X.A) (hb : Binds X.K fd ps [])
    (hx : PassesAt CX X σ (E σ)) (I : Inv X pins σ H s) (r : Vals vs us)
    (h : ∀ x dx, H x = none → H dx = none → dx ≠ x → sp (.ref x :: vs) (upd (upd H dx (.own x)) x (.ins C dx [])) (fun v H2 => v = .non ∧ Q (.ref x) H2) (E σ)) :
    wpAny (model X.prog X.w) X.A (call (.ref C) us) (EP X pins σ Q) X.xe s := by
  have hq := h (s.heap.objs.size + 1) s.heap.objs.size (I.hok.fresh (Nat.le_succ _)) (I.hok.fresh (Nat.le_refl _)) (Nat.ne_of_lt (Nat.lt_succ_self _))
  have I2 := Inv.made (C := C) I
  have r2 : Vals (V.ref (s.heap.objs.size + 1) :: vs) (Value.ref (s.heap.objs.size + 1) :: us) := .cons rfl r
  have hl : (Value.ref (s.heap.objs.size + 1) :: us).length = ps.length := by
    have e := r2.length
    rw [F.len _ _ _ _ hq] at e
    exact e.symm
  have b := hb s (Value.ref (s.heap.objs.size + 1) :: us)
  refine wpAny_call (make_map (f := f) I.kIn M.makes M.init (beq_iff_eq.mp M.fn) (codeAny_mono (F.run _ X.stack _ _ ⟨Value.ref (s.heap.objs.size + 1) :: us, []⟩ (Value.ref (s.heap.objs.size + 1) :: us) _ _ (E σ) (hr.make C us [])
    (I2.env0.make C us []) ?_ r2 hq) fun r s' hq' => ?_))
  · have b := hb _ (Value.ref (s.heap.objs.size + 1) :: us) I2.kIn (by rw [List.append_nil]; exact hl)
    rw [List.append_nil] at b
    exact b
  cases r with
  | error e => exact hx pins _ _ e s' I2 hq'
  | ok fl =>
    cases fl with
    | ret u =>
      obtain ⟨v, H', I3, rv, ev, q3⟩ := I2.after hq'
      subst ev
      exact ⟨rv, ⟨V.ref (s.heap.objs.size + 1), H', I3, rfl, q3⟩⟩
    | next => exact False.elim hq'
    | brk => exact False.elim hq'
    | cont => exact False.elim hq'
theorem pe_makeS (M : Mk X.K C f) (F : FnOk X.prog X.w X.K X.mg X.base CX k f fd ps sp) (hr : Room (k + 1) X.A) (hg : Gl X x) (hm : X.mg x = some (.ref C)) (hb : Binds X.K fd ps []) (hx : ∀ σ, PassesAt CX X σ (E σ))
    (ha : PA X (e :: es) t) (hdb : (x == ("__debug__" : Str)) = false) (he : starEach (e :: es) X.env = (false, eval e X.env) :: starEach es X.env) (hpl : (backTo pos (starEach es X.env)).any (·.1) = false) :
    PE X (.Call (.Name x p) (e :: es) [] pos) (tMakeS C sp E t) := by
  refine ⟨fun pins s σ H Q I h => ?_⟩
  refine wpAny_Call_Name_kw (ld_glob I hg hm ?_ hdb)
  refine PySem.W.callWith_K (h₀ := X.base) I.ok.mod.kin M.kp (thn (ha.run pos pins s σ H _ I h) fun us s1 ⟨vs, H1, I1, r, q⟩ => ⟨I1.kIn, ?_⟩) he hpl
  exact run_makeS M F hr hb (hx σ) I1 r q
end
section
variable {X : Cx} {c : Cn} {L : List Addr} {W : WX} {f g h : ES} {a b e o : Expr} {pos apos : Pos} {es : List Expr} {fs : List ES} {x m : Str} {p : Pos}
/-- C(..) -/
theorem pg_make {Γ : Gam} {n k m cn : Nat} {fa : Addr} {fd : FuncData} {ps : List Str} (M : Mk X.K (c.θ.C cn) fa) (F : FnOk X.prog X.w X.K X.mg X.base (L2N.CX X.prog X.w) k fa fd ps (spInit c.θ m cn (Γ n))) (hr : Room (k + 1) X.A) (hg : Gl X x) (hm : X.mg x = some (.ref (c.θ.C cn)))
    (hb : Binds X.K fd ps []) (tk : L2N.Takes X W) (ha : PA X (e :: es) (tAv c L W fs)) (hl : fs.length = m) (hdb : (x == ("__debug__" : Str)) = false) (he : starEach (e :: es) X.env = (false, eval e X.env) :: starEach es X.env)
    (hpl : (backTo pos (starEach es X.env)).any (·.1) = false) : PE X (.Call (.Name x p) (e :: es) [] pos) (tEv c L W (eCall Γ n fs)) := by
  refine pe_ev (pe_makeS (E := WE W) M F hr hg hm hb (fun σ => L2N.passAt tk σ) ha hdb he hpl) fun σ H Q h => ?_
  obtain ⟨F, ρ, R, h⟩ := of_tEv h
  refine av_bind R h fun xs vs F1 H1 ef e1 ar R1 h1 => ?_
  obtain ⟨F2, _, s2, r, hf⟩ := call_core R1.sub ar h1
  intro y dx ny nd ne
  refine ⟨?_, F2, _, H1, y, dx, vs, rfl, ny, nd, ne, rfl, s2, r, hf.imp fun v H' q ev => ⟨rfl, ?_⟩⟩
  · rw [List.length_cons, r.length, List.length_map, ← hl, eArgs_length ef]
  · rw [← ev]
    exact q
/-- what stands behind a method's name: by the receiver's class -/
structure MethOk (X : Cx) (c : Cn) (Γ : Gam) (m : Str) (mx : Nat → Option Nat) (l : Nat) : Prop where
  ok : ∀ k n, mx k = some n → ∃ fa fd ps kk, FnOk X.prog X.w X.K X.mg X.base (L2N.CX X.prog X.w) kk fa fd ps (spOf c.θ (l + 1) (Γ n)) ∧ Room kk X.A ∧ Cls X.K (c.θ.C k) ∧ Meth X.K (c.θ.C k) m fa ∧ Binds X.K fd ps [] ∧ m ∉ c.θ.fld k
theorem zip_no {m : Str} : ∀ {names : List Str} {xs : List V}, m ∉ names → (names.zip xs).lookup m = none
  | [], _, _ => rfl
  | _ :: _, [], _ => rfl
  | n :: names, x :: xs, h => by
    have ne : (m == n) = false := beq_eq_false_iff_ne.mpr fun z => h (z ▸ List.mem_cons_self)
    rw [List.zip_cons_cons, List.lookup_cons, ne]
    exact zip_no fun z => h (List.mem_cons_of_mem _ z)
theorem meth_core {Γ : Gam} {mx : Nat → Option Nat} {σ : L2.St} {ρ : Sl} {F H : Hp} {Q : VK} (h : Res c W σ ρ F H Q (eMeth Γ mx f fs ρ)) : ∃ k ds kd n, f ρ = .ok (.obj k ds, kd) ∧ mx k = some n ∧ kd.solid = true ∧ Res c W σ ρ F H Q (eCall Γ n (eC (.obj k ds) :: fs) ρ) := by
  unfold eMeth at h
  cases q : f ρ with
  | no => rw [q] at h; exact h.elim
  | ex n gs => rw [q] at h; exact h.elim
  | ok z =>
    obtain ⟨d, kd⟩ := z
    rw [q] at h
    cases d <;> first | exact (show False from h).elim | skip
    rename_i k ds
    replace h : Res c W σ ρ F H Q (match mx k with
      | some n => if kd.solid = true then eCall Γ n (eC (.obj k ds) :: fs) ρ else .no
      | none => .no) := h
    cases q2 : mx k with
    | none => rw [q2] at h; exact h.elim
    | some n =>
      rw [q2] at h
      obtain ⟨h1, h2⟩ := Res.ite h
      exact ⟨k, ds, kd, n, rfl, q2, h1, h2⟩
theorem meth_args {Γ : Gam} {n : Nat} {d : D} {ρ : Sl} : eCall Γ n (eC d :: fs) ρ = (eArgs fs ρ).bind fun xs => match Γ n (((d, Kd.sh) :: xs).map (·.1)) with
      | .ok (d', b) => if allSolid ((d, Kd.sh) :: xs) then .ok (d', if b then .fr else .sh) else if flat d' && okArgs ((d, Kd.sh) :: xs) then shr d' else if (b && newD d') && okArgs ((d, Kd.sh) :: xs) then .ok (d', .fr) else .no
      | .ex c gs => if allSolid ((d, Kd.sh) :: xs) || (gs.isEmpty && okArgs ((d, Kd.sh) :: xs)) then .ex c gs else .no
      | .no => .no := by
  unfold eCall
  show (((eC d ρ).bind fun x => (eArgs fs ρ).bind fun xs => .ok (x :: xs)).bind _) = _
  show (((eArgs fs ρ).bind fun xs => .ok ((d, Kd.sh) :: xs)).bind _) = _
  rw [bind_assoc']
  rfl
theorem pg_meth {Γ : Gam} {mx : Nat → Option Nat} {pl : Sem Bool} (T : MethOk X c Γ m mx fs.length) (tk : L2N.Takes X W) (ho : PE X o (tEv c L W f)) (ha : PA X (e :: es) (tAv c L W fs))
    (hst : starEach (e :: es) X.env = (false, eval e X.env) :: starEach es X.env) (hpl : (backTo pos (starEach es X.env)).any (·.1) = false)
    (ht : eval (.Call (.Attribute o m apos) (e :: es) [] pos) X.env = (do
      let ov ← eval o X.env
      standAt apos.atName
      let (f, first) ← holding [ov] (getMethod ov m pl)
      callWith pos f first (backTo pos (starEach (e :: es) X.env)) (backToKw pos (keywordEach [] X.env)))) : PE X (.Call (.Attribute o m apos) (e :: es) [] pos) (tEv c L W (eMeth Γ mx f fs)) := by
  refine ⟨fun pins s σ H Q I h => ?_⟩
  obtain ⟨F, ρ, R, h⟩ := of_tEv h
  obtain ⟨k, ds, kd, n, ef, em, es, h⟩ := meth_core h
  obtain ⟨fa, fd, ps, kk, t1, t2, t3, t4, t5, t6⟩ := T.ok k n em
  refine (pe_methS (E := WE W) (pl := pl) ho t3 t4 t1 t2 t5 (fun σ => L2N.passAt tk σ) ha hst hpl ht).run pins s σ H Q I ?_
  rw [meth_args] at h
  refine ev_bind (g := fun _ => (eArgs fs ρ).bind _) R (by rw [ef]; exact h) fun d' k' x F1 H1 ef' e1 rd so R1 h1 => ?_
  rw [ef] at ef'
  cases ef'
  have rep := so es
  cases rep with
  | obj ho l r =>
    refine ⟨_, _, _, rfl, R1.sub.ins ho, zip_no t6, ?_⟩
    refine av_bind R1 h1 fun xs vs F2 H2 ea e2 ar R2 h2 => ?_
    have ar2 : ArgR c.θ F2 H2 ((.obj k ds, Kd.sh) :: xs) _ := .cons (rd.ext e2) (fun _ => (so es).mono e2.ff) ar
    obtain ⟨F3, _, s3, r3, hf⟩ := call_core R2.sub ar2 h2
    refine ⟨?_, F3, _, s3, r3, hf⟩
    rw [r3.length, List.length_map, List.length_cons, eArgs_length ea]
theorem pg_meth0 {Γ : Gam} {mx : Nat → Option Nat} {pl : Sem Bool} (T : MethOk X c Γ m mx 0) (tk : L2N.Takes X W) (ho : PE X o (tEv c L W f))
    (ht : eval (.Call (.Attribute o m apos) [] [] pos) X.env = (do
      let ov ← eval o X.env
      standAt apos.atName
      let (f, first) ← holding [ov] (getMethod ov m pl)
      callWith pos f first (backTo pos (starEach [] X.env)) (backToKw pos (keywordEach [] X.env)))) : PE X (.Call (.Attribute o m apos) [] [] pos) (tEv c L W (eMeth Γ mx f [])) := by
  refine ⟨fun pins s σ H Q I h => ?_⟩
  obtain ⟨F, ρ, R, h⟩ := of_tEv h
  obtain ⟨k, ds, kd, n, ef, em, es, h⟩ := meth_core h
  obtain ⟨fa, fd, ps, kk, t1, t2, t3, t4, t5, t6⟩ := T.ok k n em
  refine (pe_methS0 (E := WE W) (pl := pl) ho t3 t4 t1 t2 t5 (fun σ => L2N.passAt tk σ) ht).run pins s σ H Q I ?_
  refine ev_bind (g := fun _ => eCall Γ n [eC (.obj k ds)] ρ) R (by rw [ef]; exact h) fun d' k' x F1 H1 ef' e1 rd so R1 h1 => ?_
  rw [ef] at ef'
  cases ef'
  have rep := so es
  cases rep with
  | obj ho l r =>
    refine ⟨_, _, _, rfl, R1.sub.ins ho, zip_no t6, ?_⟩
    have ar2 : ArgR c.θ F1 H1 [(.obj k ds, Kd.sh)] _ := .cons rd (fun _ => so es) .nil
    obtain ⟨F3, _, s3, r3, hf⟩ := call_core R1.sub ar2 h1
    exact ⟨rfl, F3, _, s3, r3, hf⟩
end
end G
namespace G
open PySem PySem.Spec L2
/-- J walks ds, wherever F goes on and the heap keeps H (st = false) -/
structure Walks (θ : Th) (st : Bool) (J : It) (F H : Hp) (ds : List D) : Prop where
  go : ∀ (F2 H2 : Hp) (i : Nat) (d : D), Same F F2 → Sub F2 H2 → (st = false → Same H H2) → ds[i]? = some d → J.go i H2 ∧ ∀ x H', J.yld i H2 x H' → ∃ F3, Ext F2 H2 F3 H' ∧ Rep θ F3 d x
  stop : ∀ (F2 H2 : Hp), Same F F2 → Sub F2 H2 → (st = false → Same H H2) → J.stop ds.length H2
def ResI (c : Cn) (W : WX) (σ : L2.St) (st : Bool) (F H : Hp) (R : It → Hp → Prop) : Out (List D) → Prop
  | .ok ds => ∀ J F' H', Ext F H F' H' → Walks c.θ st J F' H' ds → R J H'
  | .ex n fs => ∀ cls dd F' H', Ext F H F' H' → ExV c.θ n fs cls dd F' H' → W cls dd σ H'
  | .no => False
def tIv (c : Cn) (L : List Addr) (W : WX) (st : Bool) (s : IS) : TI := fun σ H R => ∃ F ρ, Rel c.θ c.F0 c.B L F H σ ρ ∧ ResI c W σ st F H R (s ρ)
section
variable {X : Cx} {c : Cn} {L : List Addr} {W : WX} {st : Bool} {f g : ES} {a b e tg iter : Expr} {pos p : Pos} {s : IS}
theorem ResI.mono {σ : L2.St} {F F1 H H1 : Hp} {R : It → Hp → Prop} {o : Out (List D)} (h : ResI c W σ st F H R o) (e : Ext F H F1 H1) : ResI c W σ st F1 H1 R o := by
  cases o with
  | ok b => exact fun J F' H' e' w => h J F' H' (e.trans e') w
  | ex n fs => exact fun cls dd F' H' e' hv => h cls dd F' H' (e.trans e') hv
  | no => exact h
theorem iv_bind {σ : L2.St} {ρ : Sl} {F H : Hp} {R : It → Hp → Prop} {k : D × Kd → Out (List D)} {P : V → Hp → Prop} (Rl : Rel c.θ c.F0 c.B L F H σ ρ) (h : ResI c W σ st F H R ((f ρ).bind k))
    (hp : ∀ d kd x F1 H1, f ρ = .ok (d, kd) → Ext F H F1 H1 → Rd1 c.θ F1 H1 d x → (kd.solid = true → Rep c.θ F1 d x) → Rel c.θ c.F0 c.B L F1 H1 σ ρ → ResI c W σ st F1 H1 R (k (d, kd)) → P x H1) : tEv c L W f σ H P := by
  refine ⟨F, ρ, Rl, ?_⟩
  cases hf : f ρ with
  | ok x =>
    obtain ⟨d, kd⟩ := x
    rw [hf] at h
    intro v F' H' e hv
    obtain ⟨F2, e2, _, rd, so⟩ := Val.use Rl e hv
    exact hp d kd v F2 H' hf e2 rd so (Rl.ext e2) (ResI.mono (show ResI c W σ st F H R (k (d, kd)) from h) e2)
  | ex n fs =>
    rw [hf] at h
    exact h
  | no =>
    rw [hf] at h
    exact h
theorem pi_ev {t : TI} (h : PI X tg iter t) (hi : ∀ (σ : L2.St) (H : Hp) (R : It → Hp → Prop), tIv c L W st s σ H R → t σ H R) : PI X tg iter (tIv c L W st s) := ⟨fun pins s' σ H R I hw => h.run pins s' σ H R I (hi σ H R hw)⟩
/-- a list that is read stays so -/
theorem keepL {θ : Th} {F H : Hp} {d : D} {k : Kd} {x : V} {ds : List D} (hd : d = .lst ds) (s : Sub F H) (rd : Rd1 θ F H d x) (so : k.solid = true → Rep θ F d x) (hs : (st && !k.solid) = false) :
    ∃ a xs, x = .ref a ∧ H a = some (.lst xs) ∧ RepL θ F ds xs ∧ ∀ (F2 H2 : Hp), Same F F2 → Sub F2 H2 → (st = false → Same H H2) → H2 a = some (.lst xs) := by
  subst hd
  by_cases q : k.solid = true
  · cases so q with
    | lst e r => exact ⟨_, _, rfl, s.lst e, r, fun F2 H2 h1 h2 _ => h2.lst (h1 _ _ e)⟩
  · have e : st = false := by
      cases st with
      | false => rfl
      | true => simp [q] at hs
    obtain ⟨a, xs, rfl, ha, r⟩ := rd.lst s
    exact ⟨a, xs, rfl, ha, r, fun F2 H2 _ _ h3 => h3 e _ _ ha⟩
theorem keepT {θ : Th} {F H : Hp} {x : V} {ds : List D} (s : Sub F H) (rd : Rd1 θ F H (.tup ds) x) :
    ∃ a xs, x = .ref a ∧ H a = some (.tup xs) ∧ RepL θ F ds xs ∧ ∀ (F2 H2 : Hp), Same F F2 → Sub F2 H2 → H2 a = some (.tup xs) := by
  rcases rd with rd | ⟨_, _, _, _, rd⟩
  · cases rd with
    | tup e r => exact ⟨_, _, rfl, s.tup e, r, fun F2 H2 h1 h2 => h2.tup (h1 _ _ e)⟩
  · cases rd
theorem RepL.getD {θ : Th} {F F2 : Hp} {ds : List D} {xs : List V} {i : Nat} {d : D} {x : V} (r : RepL θ F ds xs) (e : Same F F2) (h : ds[i]? = some d) (hx : xs[i]? = some x) : Rep θ F2 d x := by
  obtain ⟨v, h1, h2⟩ := r.get h
  rw [hx] at h1
  cases h1
  exact h2.mono e
theorem RepL.ix {θ : Th} {F : Hp} {ds : List D} {xs : List V} {i : Nat} {d : D} (r : RepL θ F ds xs) (h : ds[i]? = some d) : ∃ x, xs[i]? = some x := by
  obtain ⟨v, h1, _⟩ := r.get h
  exact ⟨v, h1⟩
theorem walk_l {θ : Th} {F H : Hp} {a : Addr} {ds : List D} {xs : List V} (r : RepL θ F ds xs) (k : ∀ (F2 H2 : Hp), Same F F2 → Sub F2 H2 → (st = false → Same H H2) → H2 a = some (.lst xs)) : Walks θ st (Itl θ.K a) F H ds where
  go := fun F2 H2 i d h1 h2 h3 hd => by
    have q := k F2 H2 h1 h2 h3
    obtain ⟨x, hx⟩ := r.ix hd
    refine ⟨⟨xs, x, .inl (.inl q), hx⟩, fun y H' hy => ?_⟩
    obtain ⟨rfl, hy⟩ := hy
    exact ⟨F2, Ext.refl h2, r.getD h1 hd (hy xs (.inl (.inl q)))⟩
  stop := fun F2 H2 h1 h2 h3 => ⟨xs, .inl (.inl (k F2 H2 h1 h2 h3)), by rw [r.length]; exact Nat.le_refl _⟩
theorem walk_t {θ : Th} {F H : Hp} {a : Addr} {ds : List D} {xs : List V} (r : RepL θ F ds xs) (k : ∀ (F2 H2 : Hp), Same F F2 → Sub F2 H2 → H2 a = some (.tup xs)) : Walks θ st (Itt θ.K a) F H ds where
  go := fun F2 H2 i d h1 h2 h3 hd => by
    have q := k F2 H2 h1 h2
    obtain ⟨x, hx⟩ := r.ix hd
    refine ⟨⟨xs, x, .inl (.inl q), hx⟩, fun y H' hy => ?_⟩
    obtain ⟨rfl, hy⟩ := hy
    exact ⟨F2, Ext.refl h2, r.getD h1 hd (hy xs (.inl (.inl q)))⟩
  stop := fun F2 H2 h1 h2 h3 => ⟨xs, .inl (.inl (k F2 H2 h1 h2)), by rw [r.length]; exact Nat.le_refl _⟩
theorem walk_s {θ : Th} {F H : Hp} (z : Str) : Walks θ st (Its z) F H (z.cps.toList.map fun c => D.str ⟨#[c]⟩) where
  go := fun F2 H2 i d h1 h2 h3 hd => by
    rw [List.getElem?_map] at hd
    cases q : z.cps.toList[i]? with
    | none => rw [q] at hd; cases hd
    | some w =>
      rw [q] at hd
      cases hd
      have q' : z.cps[i]? = some w := by simpa using q
      refine ⟨(Array.getElem?_eq_some_iff.mp q').1, fun y H' hy => ?_⟩
      obtain ⟨rfl, w', hw, rfl⟩ := hy
      rw [q'] at hw
      cases hw
      exact ⟨F2, Ext.refl h2, .str _⟩
  stop := fun F2 H2 h1 h2 h3 => by
    show z.cps.size ≤ _
    simp
/-- a row is walked -/
theorem gi_list (hK : X.K = c.θ.K) (ha : PE X iter (tEv c L W f)) : PI X tg iter (tIv c L W st (itE st f)) := by
  refine ⟨fun pins s' σ H R I hw => ?_⟩
  obtain ⟨F, ρ, Rl, h⟩ := hw
  have txt : (∀ d k, f ρ = .ok (d, k) → ∃ z, d = .str z) → wpAny (model X.prog X.w) X.A (eval iter X.env) (fun v s1 => wpAny (model X.prog X.w) X.A (pyIter v) (PIE X pins σ tg R) X.xe s1) X.xe s' := fun hd => by
    refine (pi_str ha).run pins s' σ H R I ?_
    refine iv_bind Rl h fun d k x F1 H1 ef e1 rd so R1 h1 => ?_
    obtain ⟨z, rfl⟩ := hd d k ef
    replace h1 : ResI c W σ st F1 H1 R (if (st && !k.solid) = true then .no else .ok _) := h1
    by_cases q : (st && !k.solid) = true
    · rw [if_pos q] at h1; exact h1.elim
    · rw [if_neg q] at h1
      exact ⟨z, rd.str, h1 _ F1 H1 (Ext.refl R1.sub) (walk_s z)⟩
  have tup : (∀ d k, f ρ = .ok (d, k) → ∃ z, d = .tup z) → wpAny (model X.prog X.w) X.A (eval iter X.env) (fun v s1 => wpAny (model X.prog X.w) X.A (pyIter v) (PIE X pins σ tg R) X.xe s1) X.xe s' := fun hd => by
    refine (pi_tup ha).run pins s' σ H R I ?_
    refine iv_bind Rl h fun d k x F1 H1 ef e1 rd so R1 h1 => ?_
    obtain ⟨z, rfl⟩ := hd d k ef
    replace h1 : ResI c W σ st F1 H1 R (if (st && !k.solid) = true then .no else .ok _) := h1
    by_cases q : (st && !k.solid) = true
    · rw [if_pos q] at h1; exact h1.elim
    · rw [if_neg q] at h1
      obtain ⟨a, xs, rfl, ha, r, kp⟩ := keepT R1.sub rd
      rw [hK]
      exact ⟨a, rfl, ⟨xs, .inl (.inl ha)⟩, h1 _ F1 H1 (Ext.refl R1.sub) (walk_t r kp)⟩
  have lst : (∀ d k, f ρ = .ok (d, k) → (∀ z, d ≠ .str z) ∧ ∀ z, d ≠ .tup z) → wpAny (model X.prog X.w) X.A (eval iter X.env) (fun v s1 => wpAny (model X.prog X.w) X.A (pyIter v) (PIE X pins σ tg R) X.xe s1) X.xe s' := fun hd => by
    refine (pi_list ha).run pins s' σ H R I ?_
    refine iv_bind Rl h fun d k x F1 H1 ef e1 rd so R1 h1 => ?_
    obtain ⟨n1, n2⟩ := hd d k ef
    clear ef
    replace h1 : ResI c W σ st F1 H1 R (if (st && !k.solid) = true then .no else match itemsOf d with
      | some ds => .ok ds
      | none => .no) := h1
    by_cases q : (st && !k.solid) = true
    · rw [if_pos q] at h1; exact h1.elim
    rw [if_neg q] at h1
    have q' : (st && !k.solid) = false := by simpa using q
    rw [hK]
    cases d <;> first | exact absurd rfl (n1 _) | exact absurd rfl (n2 _) | exact (show False from h1).elim | skip
    · rename_i ds
      obtain ⟨a, xs, rfl, ha, r, kp⟩ := keepL (st := st) rfl R1.sub rd so q'
      exact ⟨a, rfl, ⟨xs, .inl (.inl ha)⟩, h1 _ F1 H1 (Ext.refl R1.sub) (walk_l r kp)⟩
    · rename_i ns
      rcases rd with rd | ⟨_, _, _, _, rd⟩
      · cases rd with
        | @frl a _ sq =>
          refine ⟨a, rfl, ⟨_, R1.sub.seq sq⟩, h1 _ F1 H1 (Ext.refl R1.sub) ⟨fun F2 H2 i d e1 e2 e3 hd => ?_, fun F2 H2 e1 e2 e3 => ⟨_, e2.seq (e1.seq sq), by simp⟩⟩⟩
          have q2 := e2.seq (e1.seq sq)
          rw [List.getElem?_map] at hd
          cases z : ns[i]? with
          | none => rw [z] at hd; cases hd
          | some w =>
            rw [z] at hd
            cases hd
            have hw : (ns.map V.int)[i]? = some (.int w) := by rw [List.getElem?_map, z]; rfl
            refine ⟨⟨_, _, q2, hw⟩, fun y H' hy => ?_⟩
            obtain ⟨rfl, hy⟩ := hy
            have := hy _ q2
            rw [hw] at this
            cases this
            exact ⟨F2, Ext.refl e2, .int w⟩
      · cases rd
  cases hf : f ρ with
  | ok x =>
    obtain ⟨d, k⟩ := x
    by_cases q : ∃ z, d = .str z
    · exact txt fun d' k' e => by rw [hf] at e; cases e; exact q
    · by_cases q2 : ∃ z, d = .tup z
      · exact tup fun d' k' e => by rw [hf] at e; cases e; exact q2
      · exact lst fun d' k' e => by rw [hf] at e; cases e; exact ⟨fun z e => q ⟨z, e⟩, fun z e => q2 ⟨z, e⟩⟩
  | ex n fs => exact lst fun d' k' e => by rw [hf] at e; cases e
  | no => exact lst fun d' k' e => by rw [hf] at e; cases e
theorem in62_ok {i : Int} (h : in62 i = true) : -(2 ^ 62) ≤ i ∧ i < 2 ^ 62 := by
  have h2 : i.natAbs < 4611686018427387904 := of_decide_eq_true h
  omega
theorem walk_r {θ : Th} {F H : Hp} (lo hi : Int) : Walks θ st (Itr lo (hi - lo).toNat) F H (rngD lo hi) where
  go := fun F2 H2 i d h1 h2 h3 hd => by
    unfold rngD at hd
    rw [List.getElem?_map] at hd
    have hi' : i < (hi - lo).toNat := by
      cases q : (List.range (hi - lo).toNat)[i]? with
      | none => rw [q] at hd; cases hd
      | some w =>
        have := (List.getElem?_eq_some_iff.mp q).1
        simpa using this
    rw [List.getElem?_range hi'] at hd
    cases hd
    refine ⟨hi', fun y H' hy => ?_⟩
    obtain ⟨rfl, rfl⟩ := hy
    exact ⟨F2, Ext.refl h2, .int _⟩
  stop := fun F2 H2 h1 h2 h3 => by
    show _ ≤ _
    unfold rngD
    simp
theorem gi_r1 (hg : Gl X "range") (hm : X.mg "range" = none) (ha : PE X a (tEv c L W f)) (hs : starEach [a] X.env = (false, eval a X.env) :: starEach [] X.env) : PI X tg (.Call (.Name "range" p) [a] [] pos) (tIv c L W st (itR1 f)) := by
  refine pi_ev (pi_range1 hg hm (pa_cons ha pa_nil hs) hs) fun σ H R h => ?_
  obtain ⟨F, ρ, Rl, h⟩ := h
  refine iv_bind Rl h fun d k x F1 H1 ef e1 rd so R1 h1 => ?_
  clear ef so h
  cases d <;> first | exact (show False from h1).elim | skip
  rename_i j
  cases rd.int
  replace h1 : ResI c W σ st F1 H1 R (if in62 j = true then .ok (rngD 0 j) else .no) := h1
  by_cases q : in62 j = true
  · rw [if_pos q] at h1
    obtain ⟨q1, q2⟩ := in62_ok q
    have w := walk_r (st := st) (θ := c.θ) (F := F1) (H := H1) 0 j
    rw [Int.sub_zero] at w
    exact ⟨j, rfl, q1, q2, h1 _ F1 H1 (Ext.refl R1.sub) w⟩
  · rw [if_neg q] at h1; exact h1.elim
end
end G
namespace G
open PySem PySem.Spec L2
section
variable {X : Cx} {c : Cn} {L : List Addr} {W : WX} {st : Bool} {f g : ES} {a b e tg iter : Expr} {pos p : Pos} {s : IS}
/-- a slot changes; what it then holds is said; the others stay -/
theorem Rel.put {θ : Th} {F0 B F F' H H' : Hp} {σ : L2.St} {ρ : Sl} {i : Nat} {sl : Slot} {v : V} (R : Rel θ F0 B L F H σ ρ) (s : Sub F' H') (kp : ∀ a u, B a = some u → H' a = some u ∨ (a ∈ L ∧ IsDict u ∧ ∃ o, H' a = some (.frz o u))) (ff : Same F F') (fn : ∀ a u, F' a = some u → F0 a = some u ∨ B a = none ∨ ∃ xs, u = .tup xs)
    (oth : ∀ (j : Nat) (a : Addr) (o : HO), j ≠ i → ((∃ d, ρ[j]? = some (.ow d)) ∨ ∃ k ds, ρ[j]? = some (.me k ds)) → σ[j]? = some (some (.ref a)) → H a = some o → F a = none → H' a = some o ∧ F' a = none)
    (va : ∀ d, sl = .va d → Rep θ F' d v)
    (ow : ∀ d, sl = .ow d → notObj d = true ∧ ∃ a o, v = .ref a ∧ H' a = some o ∧ F' a = none ∧ B a = none ∧ Root θ F' d o ∧ ∀ (j : Nat), j ≠ i → ((∃ d, ρ[j]? = some (.ow d)) ∨ ∃ k ds, ρ[j]? = some (.me k ds)) → σ[j]? ≠ some (some (.ref a)))
    (me : ∀ k ds, sl = .me k ds → (∃ a o, v = .ref a ∧ H' a = some o ∧ F' a = none ∧ B a = none ∧ Root θ (onlyN F' B) (.obj k ds) o ∧ a ∈ L ∧ ∀ (j : Nat), j ≠ i → (∃ d, ρ[j]? = some (.ow d)) → σ[j]? ≠ some (some (.ref a))) ∧ ∀ (j k' : Nat) (ds' : List D), j ≠ i → ρ[j]? ≠ some (.me k' ds'))
    (pvk : ∀ Z, PvAll θ B F H σ ρ Z → ∀ (j : Nat) (k : Sh) (d : D), j ≠ i → ρ[j]? = some (.pv k d) → ∀ b ∈ Z j, H' b = H b ∧ F' b = F b ∧ (((∃ d, sl = .ow d) ∨ ∃ k ds, sl = .me k ds) → v ≠ .ref b))
    (tp : ∀ b xs, H b = some (.tup xs) → H' b = some (.tup xs) := by exact fun _ _ h => h) (nxc : sl ≠ .xc := by exact fun h => by cases h) (npv : ∀ k d, sl ≠ .pv k d := by exact fun _ _ h => by cases h) :
    Rel θ F0 B L F' H' (σ.set i (some v)) (ρ.set i sl) := by
  have atσ : i < ρ.length → (σ.set i (some v))[i]? = some (some v) := fun hi => List.getElem?_set_self (by rw [R.len]; exact hi)
  have at_ : ∀ {j : Nat} {x : Slot}, (ρ.set i sl)[j]? = some x → (j = i ∧ x = sl ∧ i < ρ.length) ∨ (j ≠ i ∧ ρ[j]? = some x) := fun {j x} h => by
    by_cases q : i = j
    · subst q
      have hi : i < ρ.length := by
        have := (List.getElem?_eq_some_iff.mp h).1
        simpa using this
      rw [List.getElem?_set_self hi] at h
      exact .inl ⟨rfl, (Option.some.inj h).symm, hi⟩
    · rw [List.getElem?_set_ne q] at h
      exact .inr ⟨fun e => q e.symm, h⟩
  have ne : ∀ {j : Nat}, j ≠ i → (σ.set i (some v))[j]? = σ[j]? := fun {j} h => List.getElem?_set_ne fun e => h e.symm
  refine ⟨s, kp, R.f0.trans ff, fn, by simpa using R.len, fun j d h => ?_, fun j d h => ?_, fun j d h => ?_, fun j k d e a hn h1 h2 h3 => ?_, fun j k ds h => ?_, fun j h => ?_, ?_⟩
  rotate_right
  · obtain ⟨Z, hZ⟩ := R.pv
    have own : ∀ {j : Nat}, Owner (ρ.set i sl) j → (j = i ∧ ((∃ d, sl = .ow d) ∨ ∃ k ds, sl = .me k ds) ∧ i < ρ.length) ∨ (j ≠ i ∧ Owner ρ j) := fun {j} ho => by
      rcases ho with ⟨d, hd⟩ | ⟨k, ds, hd⟩
      · rcases at_ hd with ⟨rfl, e, hi⟩ | ⟨q, h⟩
        · exact .inl ⟨rfl, .inl ⟨d, e.symm⟩, hi⟩
        · exact .inr ⟨q, .inl ⟨d, h⟩⟩
      · rcases at_ hd with ⟨rfl, e, hi⟩ | ⟨q, h⟩
        · exact .inl ⟨rfl, .inr ⟨k, ds, e.symm⟩, hi⟩
        · exact .inr ⟨q, .inr ⟨k, ds, h⟩⟩
    refine ⟨Z, hZ.step ff tp (fun j k d h => ?_) fun j k d l b h ho hs => ?_⟩
    · rcases at_ h with ⟨rfl, e, hi⟩ | ⟨q, h⟩
      · exact absurd e.symm (npv k d)
      · refine ⟨h, ne q, fun b hb => ?_⟩
        obtain ⟨z1, z2, _⟩ := pvk Z hZ j k d q h b hb
        exact ⟨z1, by rw [z2]; exact ((hZ j k d h).2.2.1 b hb).1⟩
    · rcases at_ h with ⟨rfl, e, hi⟩ | ⟨q, g⟩
      · exact absurd e.symm (npv k d)
      · rcases own ho with ⟨rfl, os, hi⟩ | ⟨ql, ho⟩
        · rw [atσ hi] at hs
          have ev : v = .ref b := Option.some.inj (Option.some.inj hs)
          intro hb
          exact (pvk Z hZ j k d q g b hb).2.2 os ev
        · rw [ne ql] at hs
          exact (hZ j k d g).2.2.2.1 l b ho hs
  rotate_right
  · rcases at_ h with ⟨rfl, e, hi⟩ | ⟨q, h⟩
    · exact absurd e.symm nxc
    · rw [ne q]
      exact R.xc j h
  · rcases at_ h with ⟨rfl, e, hi⟩ | ⟨q, h⟩
    · exact ⟨v, atσ hi, va d e.symm⟩
    · rw [ne q]
      obtain ⟨w, h1, h2⟩ := R.va j d h
      exact ⟨w, h1, h2.mono ff⟩
  · rcases at_ h with ⟨rfl, e, hi⟩ | ⟨q, h⟩
    · obtain ⟨_, a, o, rfl, h1, h2, h3, h4, _⟩ := ow d e.symm
      exact ⟨a, o, atσ hi, h1, h2, h3, h4⟩
    · rw [ne q]
      obtain ⟨a, o, h1, h2, h3, h4, h5⟩ := R.ow j d h
      obtain ⟨z1, z2⟩ := oth j a o q (.inl ⟨d, h⟩) h1 h2 h3
      exact ⟨a, o, h1, z1, z2, h4, h5.mono ff⟩
  · rcases at_ h with ⟨rfl, e, hi⟩ | ⟨q, h⟩
    · exact (ow d e.symm).1
    · exact R.fu j d h
  · rcases at_ h1 with ⟨rfl, e1, hi⟩ | ⟨q1, g1⟩
    · rcases at_ h2 with ⟨rfl, e2, hi2⟩ | ⟨q2, g2⟩
      · exact absurd rfl hn
      · rw [atσ hi] at h3
        obtain ⟨_, a', o, ev, _, _, _, _, h6⟩ := ow d e1.symm
        subst ev
        cases h3
        rw [ne q2]
        exact h6 k q2 (.inl ⟨e, g2⟩)
    · rw [ne q1] at h3
      rcases at_ h2 with ⟨rfl, e2, hi2⟩ | ⟨q2, g2⟩
      · rw [atσ hi2]
        intro z
        obtain ⟨_, a', o, ev, _, _, _, _, h6⟩ := ow e e2.symm
        subst ev
        cases z
        exact h6 j q1 (.inl ⟨d, g1⟩) h3
      · rw [ne q2]
        exact R.dj j k d e a hn g1 g2 h3
  · rcases at_ h with ⟨rfl, e, hi⟩ | ⟨q, gm⟩
    · obtain ⟨⟨a, o, ev, h1, h2, h3, h4, hm, h5⟩, h6⟩ := me k ds e.symm
      subst ev
      refine ⟨⟨a, o, atσ hi, h1, h2, h3, h4, hm, fun l d hl => ?_⟩, fun l k' ds' hl z => ?_⟩
      · rcases at_ hl with ⟨rfl, e2, _⟩ | ⟨ql, hl⟩
        · rw [← e] at e2; cases e2
        · rw [ne ql]
          exact h5 l ql ⟨d, hl⟩
      · rcases at_ z with ⟨q, _, _⟩ | ⟨_, z⟩
        · exact hl q
        · exact h6 l k' ds' hl z
    · obtain ⟨⟨a, o, h1, h2, h3, h4, h5, hm, h6⟩, h7⟩ := R.me j k ds gm
      obtain ⟨z1, z2⟩ := oth j a o q (.inr ⟨k, ds, gm⟩) h1 h2 h3
      refine ⟨⟨a, o, by rw [ne q]; exact h1, z1, z2, h4, h5.mono (onlyN_mono ff fun _ z => z), hm, fun l d hl => ?_⟩, fun l k' ds' hl z => ?_⟩
      · rcases at_ hl with ⟨rfl, e2, hi⟩ | ⟨ql, hl⟩
        · rw [atσ hi]
          intro z
          obtain ⟨_, a', o', ev, _, _, _, _, h8⟩ := ow d e2.symm
          subst ev
          cases z
          exact h8 j q (.inr ⟨k, ds, gm⟩) h1
        · rw [ne ql]
          exact h6 l d hl
      · rcases at_ z with ⟨rfl, e2, hi⟩ | ⟨ql, z⟩
        · exact (me k' ds' e2.symm).2 j k ds q gm
        · exact h7 l k' ds' hl z
theorem Rel.set {θ : Th} {F0 B F H : Hp} {σ : L2.St} {ρ : Sl} {i : Nat} {d : D} {v : V} (R : Rel θ F0 B L F H σ ρ) (r : Rep θ F d v) : Rel θ F0 B L F H (σ.set i (some v)) (ρ.set i (.va d)) :=
  R.put R.sub R.kp (.refl _) R.fn (fun _ _ _ _ _ _ h n => ⟨h, n⟩) (fun e h => by cases h; exact r) (fun _ h => by cases h) (fun _ _ h => by cases h) fun _ _ _ _ _ _ _ _ _ => ⟨rfl, rfl, fun z => by rcases z with ⟨_, z⟩ | ⟨_, _, z⟩ <;> cases z⟩
/-- σ' differs from σ at the places is alone -/
def Agree (is : List Nat) (σ σ' : L2.St) : Prop := σ'.length = σ.length ∧ ∀ j : Nat, j ∉ is → σ'[j]? = σ[j]?
theorem Agree.refl (σ : L2.St) (is : List Nat) : Agree is σ σ := ⟨rfl, fun _ _ => rfl⟩
theorem Agree.trans {is js : List Nat} {σ σ1 σ2 : L2.St} (a : Agree is σ σ1) (b : Agree js σ1 σ2) : Agree (is ++ js) σ σ2 :=
  ⟨b.1.trans a.1, fun j h => (b.2 j fun z => h (List.mem_append_right _ z)).trans (a.2 j fun z => h (List.mem_append_left _ z))⟩
theorem Agree.set {σ : L2.St} {i : Nat} {v : Option V} : Agree [i] σ (σ.set i v) := ⟨by simp, fun j h => by
  rw [List.getElem?_set_ne]
  rintro rfl
  exact h (by simp)⟩
theorem wipe_get {σ : L2.St} : ∀ {vs : List Nat} {j : Nat}, (wipe σ vs)[j]? = if j ∈ vs then (σ[j]?).map (fun _ => none) else σ[j]?
  | [], j => by simp [wipe]
  | v :: vs, j => by
    unfold wipe
    by_cases q : v = j
    · subst q
      rw [if_pos List.mem_cons_self]
      have l := wipe_length σ vs
      by_cases hv : v < σ.length
      · rw [List.getElem?_set_self (by rw [l]; exact hv), List.getElem?_eq_getElem hv]
        rfl
      · rw [List.getElem?_eq_none (by rw [List.length_set, l]; omega), List.getElem?_eq_none (by omega)]
        rfl
    · rw [List.getElem?_set_ne q, wipe_get (vs := vs)]
      by_cases m : j ∈ vs
      · rw [if_pos m, if_pos (List.mem_cons_of_mem _ m)]
      · rw [if_neg m, if_neg (fun z => (List.mem_cons.mp z).elim (fun e => q e.symm) m)]
theorem Agree.wipe {is vs : List Nat} {σ σ' : L2.St} (a : Agree is σ σ') (h : ∀ i ∈ is, i ∈ vs) : L2.wipe σ' vs = L2.wipe σ vs := by
  refine List.ext_getElem? fun j => ?_
  rw [wipe_get, wipe_get]
  by_cases m : j ∈ vs
  · rw [if_pos m, if_pos m]
    have e : ∀ τ : L2.St, (τ[j]?).map (fun _ => (none : Option V)) = if j < τ.length then some none else none := fun τ => by
      by_cases q : j < τ.length
      · rw [if_pos q, List.getElem?_eq_getElem q]; rfl
      · rw [if_neg q, List.getElem?_eq_none (by omega)]; rfl
    rw [e, e, a.1]
  · rw [if_neg m, if_neg m]
    exact a.2 j fun z => m (h j z)
/-- a target's reading -/
def gTv (c : Cn) (L : List Addr) (t : Tg) : TG := fun v σ H Q => ∃ F ρ d ρ', Rel c.θ c.F0 c.B L F H σ ρ ∧ Rep c.θ F d v ∧ tgSet t d ρ = some ρ' ∧ ∀ σ', Rel c.θ c.F0 c.B L F H σ' ρ' → Agree (tgIdx t) σ σ' → Q σ' H
def gTvs (c : Cn) (L : List Addr) (ts : List Tg) : TGs := fun vs σ H Q => ∃ F ρ ds ρ', Rel c.θ c.F0 c.B L F H σ ρ ∧ RepL c.θ F ds vs ∧ tgSets ts ds ρ = some ρ' ∧ ∀ σ', Rel c.θ c.F0 c.B L F H σ' ρ' → Agree (tgIdxs ts) σ σ' → Q σ' H
theorem gg_name {i : Nat} {x : Str} (hN : X.N.Nodup) (hi : X.N[i]? = some x) (hx : Loc X.env.scope x) (hf : X.fn x = true ∨ X.env.scope.names.lookup x = some .local) : PG X (.Name x pos) (gTv c L (.one i)) := by
  refine ⟨fun pins s σ H v u Q I r h => (pg_name hN hi hx hf).run pins s σ H v u Q I r ?_⟩
  obtain ⟨F, ρ, d, ρ', R, rp, e, h⟩ := h
  replace e : (if i < ρ.length then some (ρ.set i (.va d)) else none) = some ρ' := e
  by_cases q : i < ρ.length
  · rw [if_pos q] at e
    cases e
    exact h _ (R.set rp) Agree.set
  · rw [if_neg q] at e
    cases e
theorem ggs_nil : PGs X [] (gTvs c L []) := by
  refine ⟨fun pins s σ H vs us Q I r h => pgs_nil.run pins s σ H vs us Q I r ?_⟩
  obtain ⟨F, ρ, ds, ρ', R, rp, e, h⟩ := h
  cases ds with
  | nil =>
    cases rp
    cases e
    exact ⟨rfl, h σ R (Agree.refl _ _)⟩
  | cons d ds => cases e
theorem ggs_cons {es : List Expr} {t : Tg} {ts : List Tg} (h1 : PG X e (gTv c L t)) (h2 : PGs X es (gTvs c L ts)) (hs : (assignEach (e :: es) X.env).map (·.2) = assign e X.env :: (assignEach es X.env).map (·.2)) : PGs X (e :: es) (gTvs c L (t :: ts)) := by
  refine ⟨fun pins s σ H vs us Q I r h => (pgs_cons h1 h2 hs).run pins s σ H vs us Q I r ?_⟩
  obtain ⟨F, ρ, ds, ρ', R, rp, e, h⟩ := h
  cases ds with
  | nil => cases e
  | cons d ds =>
    cases rp with
    | cons a b =>
      replace e : ((tgSet t d ρ).bind fun ρ' => tgSets ts ds ρ') = some ρ' := e
      cases q : tgSet t d ρ with
      | none => rw [q] at e; cases e
      | some ρ1 =>
        rw [q] at e
        exact ⟨_, _, rfl, F, ρ, d, ρ1, R, a, q, fun σ1 R1 a1 => ⟨F, ρ1, ds, ρ', R1, b, e, fun σ2 R2 a2 => h σ2 R2 (a1.trans a2)⟩⟩
theorem gg_tup {es : List Expr} {k n : Nat} {ts : List Tg} (hc : X.calm = true) (hK : X.K = c.θ.K) (h : PGs X es (gTvs c L ts)) (hn : (assignEach es X.env).length = n) (hst : (assignEach es X.env).findIdx? (·.1) = none) (hl : ts.length = n) : PG X (.Tuple es k pos) (gTv c L (.tup ts)) := by
  have len : ∀ {ts : List Tg} {ds : List D} {ρ ρ' : Sl}, tgSets ts ds ρ = some ρ' → ds.length = ts.length := by
    intro ts
    induction ts with
    | nil => intro ds ρ ρ' e; cases ds with
      | nil => rfl
      | cons d ds => cases e
    | cons t ts ih => intro ds ρ ρ' e; cases ds with
      | nil => cases e
      | cons d ds =>
        replace e : ((tgSet t d ρ).bind fun ρ' => tgSets ts ds ρ') = some ρ' := e
        cases q : tgSet t d ρ with
        | none => rw [q] at e; cases e
        | some ρ1 =>
          rw [q] at e
          rw [List.length_cons, List.length_cons, ih e]
  refine ⟨fun pins s σ H v u Q I r hw => ?_⟩
  obtain ⟨F, ρ, d, ρ', R, rp, e, hw⟩ := hw
  cases d <;> first | cases e | skip
  · rename_i ds
    cases rp with
    | lst hf rl =>
      refine (L2.pg_lst hc h hn hst).run pins s σ H _ u Q I r ⟨_, _, rfl, by rw [hK]; exact .inl (.inl (R.sub.lst hf)), ?_, F, ρ, ds, ρ', R, rl, e, hw⟩
      rw [rl.length, len e, hl]
  · rename_i ds
    cases rp with
    | tup hf rl =>
      refine (L2.pg_tup hc h hn hst).run pins s σ H _ u Q I r ⟨_, _, rfl, by rw [hK]; exact .inl (.inl (R.sub.tup hf)), ?_, F, ρ, ds, ρ', R, rl, e, hw⟩
      rw [rl.length, len e, hl]
theorem wipeS_length (ρ : Sl) : ∀ vs : List Nat, (wipeS ρ vs).length = ρ.length
  | [] => rfl
  | v :: vs => by unfold wipeS; rw [List.length_set, wipeS_length ρ vs]
theorem wipeS_some {ρ : Sl} {i : Nat} {x : Slot} (hx : x ≠ .un) : ∀ {vs : List Nat}, (wipeS ρ vs)[i]? = some x → ρ[i]? = some x ∧ i ∉ vs
  | [], h => ⟨h, by simp⟩
  | v :: vs, h => by
    unfold wipeS at h
    by_cases hi : v = i
    · subst hi
      by_cases hv : v < (wipeS ρ vs).length
      · rw [List.getElem?_set_self hv] at h
        exact absurd (Option.some.inj h).symm hx
      · rw [List.getElem?_eq_none (by rw [List.length_set]; omega)] at h; cases h
    · rw [List.getElem?_set_ne hi] at h
      obtain ⟨h1, h2⟩ := wipeS_some hx h
      exact ⟨h1, by simp only [List.mem_cons, not_or]; exact ⟨fun e => hi e.symm, h2⟩⟩
theorem Rel.wipe {θ : Th} {F0 B F H : Hp} {σ : L2.St} {ρ : Sl} (R : Rel θ F0 B L F H σ ρ) (vs : List Nat) : Rel θ F0 B L F H (L2.wipe σ vs) (wipeS ρ vs) := by
  have at_ : ∀ {i : Nat}, i ∉ vs → (L2.wipe σ vs)[i]? = σ[i]? := fun {i} h => by rw [wipe_get, if_neg h]
  refine ⟨R.sub, R.kp, R.f0, R.fn, by rw [wipe_length, wipeS_length]; exact R.len, fun i d h => ?_, fun i d h => ?_, fun i d h => R.fu i d (wipeS_some (by intro z; cases z) h).1, fun i j d e a hn h1 h2 h3 => ?_, fun i k ds h => ?_, fun i h => ?_, ?_⟩
  rotate_right
  · obtain ⟨Z, hZ⟩ := R.pv
    refine ⟨Z, hZ.step (.refl _) (fun _ _ h => h) (fun i k d h => ?_) fun i k d j b h ho hs => ?_⟩
    · obtain ⟨h1, h2⟩ := wipeS_some (by intro z; cases z) h
      exact ⟨h1, at_ h2, fun b hb => ⟨rfl, ((hZ i k d h1).2.2.1 b hb).1⟩⟩
    · obtain ⟨h1, h2⟩ := wipeS_some (by intro z; cases z) h
      rcases ho with ⟨d2, hd⟩ | ⟨k2, ds, hd⟩
      · obtain ⟨g1, g2⟩ := wipeS_some (by intro z; cases z) hd
        rw [at_ g2] at hs
        exact (hZ i k d h1).2.2.2.1 j b (.inl ⟨d2, g1⟩) hs
      · obtain ⟨g1, g2⟩ := wipeS_some (by intro z; cases z) hd
        rw [at_ g2] at hs
        exact (hZ i k d h1).2.2.2.1 j b (.inr ⟨k2, ds, g1⟩) hs
  rotate_right
  · obtain ⟨h1, h2⟩ := wipeS_some (by intro z; cases z) h
    rw [at_ h2]
    exact R.xc i h1
  · obtain ⟨h1, h2⟩ := wipeS_some (by intro z; cases z) h
    rw [at_ h2]
    exact R.va i d h1
  · obtain ⟨h1, h2⟩ := wipeS_some (by intro z; cases z) h
    rw [at_ h2]
    exact R.ow i d h1
  · obtain ⟨g1, g2⟩ := wipeS_some (by intro z; cases z) h1
    obtain ⟨g3, g4⟩ := wipeS_some (by intro z; cases z) h2
    rw [at_ g2] at h3
    rw [at_ g4]
    exact R.dj i j d e a hn g1 g3 h3
  · obtain ⟨g1, g2⟩ := wipeS_some (by intro z; cases z) h
    obtain ⟨⟨a, o, h1, h2, h3, h4, h5, hm, h6⟩, h7⟩ := R.me i k ds g1
    refine ⟨⟨a, o, by rw [at_ g2]; exact h1, h2, h3, h4, h5, hm, fun j d hj => ?_⟩, fun j k' ds' hj z => h7 j k' ds' hj (wipeS_some (by intro z; cases z) z).1⟩
    obtain ⟨g3, g4⟩ := wipeS_some (by intro z; cases z) hj
    rw [at_ g4]
    exact h6 j d g3
end
end G
namespace G
open PySem PySem.Spec L2
abbrev WF : WX := fun _ _ _ _ => False
theorem lcA_ex {tg : Tg} {t : TSm} {e : ES} {ρ : Sl} {n : Nat} {fs : List D} : ∀ {ds acc : List D}, lcA tg t e ρ acc ds ≠ .ex n fs
  | [], acc, h => by cases h
  | d :: ds, acc, h => by
    unfold lcA at h
    cases q : tgSet tg d ρ with
    | none => rw [q] at h; cases h
    | some ρ1 =>
      rw [q] at h
      dsimp only at h
      cases q2 : t ρ1 with
      | no => rw [q2] at h; cases h
      | ex => rw [q2] at h; cases h
      | ok b =>
        rw [q2] at h
        cases b with
        | false => exact lcA_ex h
        | true =>
          dsimp only at h
          cases q3 : e ρ1 with
          | no => rw [q3] at h; cases h
          | ex => rw [q3] at h; cases h
          | ok y =>
            rw [q3] at h
            dsimp only at h
            split at h
            · exact lcA_ex h
            · cases h
/-- a turn, read off its outcome -/
theorem lcA_turn {tg : Tg} {t : TSm} {e : ES} {ρ : Sl} {d : D} {ds acc r : List D} (h : lcA tg t e ρ acc (d :: ds) = .ok r) : ∃ ρ1 b, tgSet tg d ρ = some ρ1 ∧ t ρ1 = .ok b ∧
    ((b = false ∧ lcA tg t e ρ acc ds = .ok r) ∨ (b = true ∧ ∃ y k, e ρ1 = .ok (y, k) ∧ k.solid = true ∧ acc.length < SZ ∧ lcA tg t e ρ (acc ++ [y]) ds = .ok r)) := by
  unfold lcA at h
  cases q : tgSet tg d ρ with
  | none => rw [q] at h; cases h
  | some ρ1 =>
    rw [q] at h
    dsimp only at h
    cases q2 : t ρ1 with
    | no => rw [q2] at h; cases h
    | ex => rw [q2] at h; cases h
    | ok b =>
      rw [q2] at h
      refine ⟨ρ1, b, rfl, q2, ?_⟩
      cases b with
      | false => exact .inl ⟨rfl, h⟩
      | true =>
        dsimp only at h
        cases q3 : e ρ1 with
        | no => rw [q3] at h; cases h
        | ex => rw [q3] at h; cases h
        | ok y =>
          obtain ⟨y, k⟩ := y
          rw [q3] at h
          dsimp only at h
          split at h
          · rename_i z
            obtain ⟨z1, z2⟩ := Bool.and_eq_true_iff.mp z
            exact .inr ⟨rfl, y, k, rfl, z1, of_decide_eq_true z2, h⟩
          · cases h
theorem wipe_wipe (σ : L2.St) (vs : List Nat) : wipe (wipe σ vs) vs = wipe σ vs := by
  refine List.ext_getElem? fun j => ?_
  rw [wipe_get, wipe_get]
  by_cases m : j ∈ vs
  · rw [if_pos m, if_pos m, Option.map_map]
    rfl
  · rw [if_neg m, if_neg m]
theorem Ext.mut {F H F' H' : Hp} {a : Addr} {o : HO} (e : Ext F H F' H') (nf : F' a = none) (nh : H a = none) : Ext F H F' (upd H' a o) :=
  ⟨fun b u h => by rw [upd_ne (ne_of_none h nf)]; exact e.sub b u h, e.ff, fun b u h => by rw [upd_ne (ne_of_none h nh)]; exact e.hh b u h, e.nw⟩
theorem Ext.none {F H F' H' : Hp} {a : Addr} {o : HO} (e : Ext F H F' H') (nf : F a = none) (h : H a = some o) (nt : ∀ xs, o ≠ .tup xs := by intro _ z; cases z) : F' a = none := by
  cases q : F' a with
  | none => rfl
  | some u =>
    rcases e.nw a u q with z | z | ⟨xs, z⟩
    · rw [nf] at z; cases z
    · rw [h] at z; cases z
    · subst z
      have := Sub.tup0 e.sub q
      rw [e.hh _ _ h] at this
      exact absurd (Option.some.inj this) (nt xs)
section
variable {X : Cx} {c : Cn} {L : List Addr} {W : WX} {f g : ES} {a b e tg iter elt : Expr} {pos p : Pos} {s : IS} {t : Tg} {tst : TSm} {vs : List Nat}
theorem rd_lc (hv : ∀ i ∈ tgIdx t, i ∈ vs) {σ : L2.St} {H : Hp} {Q : VK} (h : tEv c L W (eLc s t tst f vs) σ H Q) : tLc (tIv c L W false s) (gTv c L t) (tTv c L WF tst) (tEv c L WF f) vs σ H Q := by
  obtain ⟨F, ρ, R, h⟩ := of_tEv h
  refine ⟨F, ρ, R, ?_⟩
  replace h : Res c W σ ρ F H Q ((s ρ).bind fun ds => (lcA t tst f (wipeS ρ vs) [] ds).bind fun r => .ok (.lst r, .fr)) := h
  cases q : s ρ with
  | no => rw [q] at h; exact h
  | ex n fs => rw [q] at h; exact h
  | ok ds =>
    rw [q] at h
    intro J F1 H1 e1 wk D hD
    rw [bind_ok] at h
    cases q2 : lcA t tst f (wipeS ρ vs) [] ds with
    | no => rw [q2] at h; exact h.elim
    | ex n fs => exact absurd q2 lcA_ex
    | ok r =>
      rw [q2] at h
      have h := Res.mono h e1
      refine ⟨fun i m H2 => m = ds.length - i ∧ i ≤ ds.length ∧ ∃ F2 acc ad, Ext F1 H1 F2 H2 ∧ H2 D = some (.lst acc) ∧ F2 D = none ∧ RepL c.θ F2 ad acc ∧ lcA t tst f (wipeS ρ vs) ad (ds.drop i) = .ok r,
        ⟨ds.length, rfl, Nat.zero_le _, F1, [], [], Ext.lay e1.sub hD, upd_same, e1.sub.free hD, .nil, q2⟩, ?_⟩
      rintro i m H2 ⟨rfl, hi, F2, acc, ad, e2, hacc, nf, rp, hl⟩
      by_cases lt : i < ds.length
      · have hd : ds[i]? = some ds[i] := List.getElem?_eq_getElem lt
        rw [List.drop_eq_getElem_cons lt] at hl
        obtain ⟨ρ1, b, t1, t2, t3⟩ := lcA_turn hl
        obtain ⟨g1, g2⟩ := wk.go F2 H2 i ds[i] e2.ff e2.sub (fun _ => e2.hh) hd
        refine .inr ⟨g1, fun H' => ∃ F2 acc ad, Ext F1 H1 F2 H' ∧ H' D = some (.lst acc) ∧ F2 D = none ∧ RepL c.θ F2 ad acc ∧ lcA t tst f (wipeS ρ vs) ad (ds.drop (i + 1)) = .ok r, fun H' nx => ⟨ds.length - (i + 1), by omega, rfl, lt, nx⟩, fun x H' hy => ?_⟩
        obtain ⟨F3, e3, r3⟩ := g2 x H' hy
        refine ⟨F3, wipeS ρ vs, ds[i], ρ1, ((R.wipe vs).ext ((e1.trans e2).trans e3)), r3, t1, fun σ2 R2 ag => ⟨(ag.wipe hv).trans (wipe_wipe σ vs), ?_⟩⟩
        refine tTv_of R2 ?_
        rw [t2]
        intro F4 H4 e4
        have e34 := e3.trans e4
        have nf4 : F4 D = none := e34.none nf hacc
        have acc4 : H4 D = some (.lst acc) := e34.hh _ _ hacc
        rcases t3 with ⟨rfl, t3⟩ | ⟨rfl, y, k, t4, t5, t6, t7⟩
        · exact iteF ⟨F4, acc, ad, e2.trans e34, acc4, nf4, rp.mono e34.ff, t3⟩
        · refine iteT (tEv_of (R2.ext e4) ?_)
          rw [t4]
          intro v F5 H5 e5 hv5
          obtain ⟨F6, e6, _, _, so⟩ := Val.use (R2.ext e4) e5 hv5
          refine ⟨acc, e6.hh _ _ acc4, ?_, F6, acc ++ [v], ad ++ [y], ((e2.trans e34).trans e6).mut (e6.none nf4 acc4) hD, upd_same, e6.none nf4 acc4, ((rp.mono e34.ff).mono e6.ff).append (.cons (so t5) .nil), t7⟩
          rw [rp.length]
          exact Nat.lt_of_lt_of_le t6 SZ_le
      · have ei : i = ds.length := by omega
        subst ei
        rw [List.drop_length] at hl
        cases hl
        exact .inl ⟨wk.stop F2 H2 e2.ff e2.sub (fun _ => e2.hh), h _ F2 H2 e2 ⟨trivial, D, _, rfl, hD, hacc, nf, .lst rp, Nw.of rfl⟩⟩
theorem pg_lc {ifs : List Expr} {scope : Scope} {own : List (Str × Nat)} (hv : ∀ i ∈ tgIdx t, i ∈ own.map (·.2)) (hc : X.calm = true) (hN : X.N.Nodup) (hi : PI X tg iter (tIv c L W false s)) (ok : BlkOk X.N X.env.scope scope own)
    (hg : ∀ (s : Shared) (H : Hp) (C : Addr) (cl : List (Str × Addr)) (fp : List Addr), PG (X.blk s H scope (compEnvC scope cl C X.env) fp) tg (gTv c L t)) (ht : ∀ (s : Shared) (H : Hp) (C : Addr) (cl : List (Str × Addr)) (fp : List Addr), PTs (X.blk s H scope (compEnvC scope cl C X.env) fp) ifs (tTv c L WF tst))
    (he : ∀ (s : Shared) (H : Hp) (C : Addr) (cl : List (Str × Addr)) (fp : List Addr), PE (X.blk s H scope (compEnvC scope cl C X.env) fp) elt (tEv c L WF f)) (hs : ∀ x, foldedSetIterable iter X.env x = pure x) : PE X (.ListComp elt [⟨tg, iter, ifs, 0⟩] scope pos) (tEv c L W (eLc s t tst f (own.map (·.2)))) :=
  pe_ev (pe_lc hc hN hi ok hg ht he hs) fun σ H Q h => rd_lc hv h
theorem pgts_nil : PTs X [] (tTv c L W tYes) := ⟨fun pins s σ H Q I h => pts_nil.run pins s σ H Q I (by
  obtain ⟨F, ρ, R, h⟩ := h
  exact h F H (Ext.refl R.sub))⟩
theorem pgts_one (h : PT X e (tTv c L W tst)) : PTs X [e] (tTv c L W tst) := pts_one h
end
end G
namespace G
open PySem PySem.Spec L2
theorem vis_of {sc : Scope} {x : Str} (h : Loc sc x) : Vis sc x := h.elim .inl fun z => .inr (.inl z)
/-- how a value is given back: B the heap at the entry -/
def RtV (θ : Th) (B F' H' : Hp) (d : D) (k : Kd) (v : V) : Prop := match k with
  | .sh => Rep θ F' d v
  | .tr n => TrV θ F' B H' n d v
  | _ => FrV θ F' B H' d v
/-- what is asked of a statement's outcome -/
def ResS (c : Cn) (L : List Addr) (W : WX) (F : Hp) (E : Ends) : Fl → Prop
  | .nx ρ' => ∀ σ' F' H', Same F F' → Rel c.θ c.F0 c.B L F' H' σ' ρ' → E.nx σ' H'
  | .bk ρ' => ∀ σ' F' H', Same F F' → Rel c.θ c.F0 c.B L F' H' σ' ρ' → E.bk σ' H'
  | .ct ρ' => ∀ σ' F' H', Same F F' → Rel c.θ c.F0 c.B L F' H' σ' ρ' → E.ct σ' H'
  | .rt d k ρ' => ∀ v σ' F' H', Same F F' → Rel c.θ c.F0 c.B L F' H' σ' ρ' → RtV c.θ c.B F' H' d k v → E.rt v H'
  | .ex n fs ρ' => ∀ cls dd σ' F' H', Same F F' → Rel c.θ c.F0 c.B L F' H' σ' ρ' → ExV c.θ n fs cls dd F' H' → W cls dd σ' H'
  | .no => False
def tSv (c : Cn) (L : List Addr) (W : WX) (f : SS) : TS := fun E σ H => ∃ F ρ, Rel c.θ c.F0 c.B L F H σ ρ ∧ ResS c L W F E (f ρ)
section
variable {X : Cx} {c : Cn} {L : List Addr} {W : WX} {f g : ES} {a b e tg iter : Expr} {pos p : Pos} {s : IS} {t : Tg} {tst : TSm} {k : D × Kd → Fl} {F F1 H H1 : Hp} {σ : L2.St} {ρ : Sl} {En : Ends}
theorem ResS.ite {p : Prop} [Decidable p] {o : Fl} (h : ResS c L W F En (if p then o else .no)) : p ∧ ResS c L W F En o := by
  by_cases q : p
  · rw [if_pos q] at h
    exact ⟨q, h⟩
  · rw [if_neg q] at h
    exact h.elim
theorem ResS.mono {o : Fl} (h : ResS c L W F En o) (e : Same F F1) : ResS c L W F1 En o := by
  cases o with
  | nx ρ' => exact fun σ' F' H' e' => h σ' F' H' (e.trans e')
  | bk ρ' => exact fun σ' F' H' e' => h σ' F' H' (e.trans e')
  | ct ρ' => exact fun σ' F' H' e' => h σ' F' H' (e.trans e')
  | rt d k ρ1 => exact fun v σ' F' H' e' => h v σ' F' H' (e.trans e')
  | ex n fs ρ' => exact fun cls dd σ' F' H' e' => h cls dd σ' F' H' (e.trans e')
  | no => exact h
/-- an expression, then a statement's end -/
theorem sv_with {P : V → Hp → Prop} (R : Rel c.θ c.F0 c.B L F H σ ρ) (h : ResS c L W F En (sWith (f ρ) ρ k))
    (hp : ∀ d kd x F1 H1, f ρ = .ok (d, kd) → Ext F H F1 H1 → Val c.θ F1 H H1 σ ρ d kd x → Rel c.θ c.F0 c.B L F1 H1 σ ρ → ResS c L W F1 En (k (d, kd)) → P x H1) : tEv c L W f σ H P := by
  refine ⟨F, ρ, R, ?_⟩
  cases hf : f ρ with
  | ok x =>
    obtain ⟨d, kd⟩ := x
    rw [hf] at h
    exact fun v F' H' e hv => hp d kd v F' H' hf e hv (R.ext e) (ResS.mono (show ResS c L W F En (k (d, kd)) from h) e.ff)
  | ex n fs =>
    rw [hf] at h
    exact fun cls dd F' H' e hv => h cls dd σ F' H' e.ff (R.ext e) hv
  | no =>
    rw [hf] at h
    exact h
/-- .. frozen where it is fresh -/
theorem Val.sol {d : D} {kd : Kd} {x : V} (R : Rel c.θ c.F0 c.B L F H σ ρ) (e : Ext F H F1 H1) (h : Val c.θ F1 H H1 σ ρ d kd x) (hk : kd.solid = true) : ∃ F2, Ext F H F2 H1 ∧ Same F1 F2 ∧ Rep c.θ F2 d x := by
  obtain ⟨F2, e2, s, _, so⟩ := Val.use R e h
  exact ⟨F2, e2, s, so hk⟩
theorem ps_ev {st : Stmt} {t : TS} {u : SS} (h : PS X st t) (hi : ∀ (E : Ends) (σ : L2.St) (H : Hp), tSv c L W u E σ H → t E σ H) : PS X st (tSv c L W u) := ⟨fun pins s σ H D I hw => h.run pins s σ H D I (hi D σ H hw)⟩
theorem pss_ev {st : List Stmt} {t : TS} {u : SS} (h : PSs X st t) (hi : ∀ (E : Ends) (σ : L2.St) (H : Hp), tSv c L W u E σ H → t E σ H) : PSs X st (tSv c L W u) := ⟨fun pins s σ H D I hw => h.run pins s σ H D I (hi D σ H hw)⟩
theorem gss_nil : PSs X [] (tSv c L W sSkip) := pss_ev pss_nil fun E σ H h => by
  obtain ⟨F, ρ, R, h⟩ := h
  exact h σ F H (.refl _) R
theorem gss_one {st : Stmt} {u : SS} (h : PS X st (tSv c L W u)) : PSs X [st] (tSv c L W u) := pss_one h
theorem gss_cons {st : Stmt} {rest : List Stmt} {u v : SS} (h1 : PS X st (tSv c L W u)) (h2 : PSs X rest (tSv c L W v)) : PSs X (st :: rest) (tSv c L W (sSeq u v)) := by
  refine pss_ev (pss_cons h1 h2) fun E σ H h => ?_
  obtain ⟨F, ρ, R, h⟩ := h
  refine ⟨F, ρ, R, ?_⟩
  replace h : ResS c L W F E (match u ρ with
    | .nx ρ' => v ρ'
    | o => o) := h
  cases q : u ρ with
  | nx ρ' =>
    rw [q] at h
    exact fun σ' F' H' e' R' => ⟨F', ρ', R', ResS.mono h e'⟩
  | bk ρ' => rw [q] at h; exact h
  | ct ρ' => rw [q] at h; exact h
  | rt d k ρ1 => rw [q] at h; exact h
  | ex n fs ρ' => rw [q] at h; exact h
  | no => rw [q] at h; exact h
theorem gs_if {ss ts : List Stmt} {u v : SS} (ht : PT X e (tTv c L W tst)) (h1 : PSs X ss (tSv c L W u)) (h2 : PSs X ts (tSv c L W v)) : PS X (.If e ss ts pos) (tSv c L W (G.sIf tst u v)) := by
  refine ps_ev (ps_if ht h1 h2) fun E σ H h => ?_
  obtain ⟨F, ρ, R, h⟩ := h
  refine tTv_of R ?_
  replace h : ResS c L W F E (match tst ρ with
    | .ok b => if b = true then u ρ else v ρ
    | .ex n fs => .ex n fs ρ
    | .no => .no) := h
  cases q : tst ρ with
  | no => rw [q] at h; exact h
  | ex n fs =>
    rw [q] at h
    exact fun cls dd F' H' e' hv => h cls dd σ F' H' e'.ff (R.ext e') hv
  | ok b =>
    rw [q] at h
    intro F' H' e'
    have h := ResS.mono h e'.ff
    cases b with
    | true => exact iteT ⟨F', ρ, R.ext e', h⟩
    | false => exact iteF ⟨F', ρ, R.ext e', h⟩
theorem gs_drop (ha : PE X e (tEv c L W f)) (hs : swapsWith e none pos.line X.env = pure false := by rfl) : PS X (.Expr e pos) (tSv c L W (sDrop f)) := by
  refine ps_ev (ps_expr ha hs) fun E σ H h => ?_
  obtain ⟨F, ρ, R, h⟩ := h
  refine sv_with R h fun d kd x F1 H1 ef e1 hv R1 h1 => ?_
  exact h1 σ F1 H1 (.refl _) R1
theorem Rel.noneB {a : Addr} (R : Rel c.θ c.F0 c.B L F H σ ρ) (h : H a = none) : c.B a = none := by
  cases q : c.B a with
  | none => rfl
  | some o => rcases R.kp a o q with y | ⟨_, _, _, y⟩ <;> (rw [h] at y; cases y)
theorem FrV.toB {d : D} {v : V} (R : Rel c.θ c.F0 c.B L F H σ ρ) (f : FrV c.θ F1 H H1 d v) : FrV c.θ F1 c.B H1 d v := by
  obtain ⟨fu, a, o, rfl, n, h1, h2, h3, h4⟩ := f
  exact ⟨fu, a, o, rfl, R.noneB n, h1, h2, h3, h4.mono (.refl _) fun _ z => R.noneB z⟩
theorem TrV.toB {n : Nat} {d : D} {v : V} (R : Rel c.θ c.F0 c.B L F H σ ρ) (f : TrV c.θ F1 H H1 n d v) : TrV c.θ F1 c.B H1 n d v := by
  obtain ⟨S, t, nd, fr⟩ := f
  exact ⟨S, t.base fun _ z => R.noneB z, nd, fun b hb => ⟨R.noneB (fr b hb).1, (fr b hb).2⟩⟩
theorem gs_ret (ha : PE X e (tEv c L W f)) : PS X (.Return (some e) pos) (tSv c L W (sRet f)) := by
  refine ps_ev (ps_ret ha) fun E σ H h => ?_
  obtain ⟨F, ρ, R, h⟩ := h
  refine sv_with R h fun d kd x F1 H1 ef e1 hv R1 h1 => ?_
  refine h1 x σ F1 H1 (.refl _) R1 ?_
  cases kd with
  | sh => exact hv
  | fr => exact FrV.toB R hv
  | «at» i =>
    obtain ⟨z1, z2⟩ := hv
    obtain ⟨a, o, y1, y2, y3, y4, y5⟩ := R1.ow i d z2
    rw [z1] at y1
    cases y1
    exact ⟨Full.of (R1.fu i d z2), a, o, rfl, y4, y2, y3, y5, Nw.of (R1.fu i d z2)⟩
  | tr n => exact TrV.toB R hv
/-- a slot takes a fresh root as its own -/
theorem Rel.setOw {i : Nat} {d : D} {v : V} (R : Rel c.θ c.F0 c.B L F H σ ρ) (e : Ext F H F1 H1) (f : FrV c.θ F1 H H1 d v) (no : notObj d = true) : Rel c.θ c.F0 c.B L F1 H1 (σ.set i (some v)) (ρ.set i (.ow d)) := by
  have R1 := R.ext e
  obtain ⟨fu, a, o, rfl, n, h, nf, ro, _⟩ := f
  refine R1.put R1.sub R1.kp (.refl _) R1.fn (fun _ _ _ _ _ _ h n => ⟨h, n⟩) (fun e h => by cases h) (fun d' h => ?_) (fun _ _ h => by cases h) fun Z hZ j k d hj hp b hb => ⟨rfl, rfl, fun _ z => by cases z; obtain ⟨o, ho⟩ := R.pvOld e hZ hp hb; rw [n] at ho; cases ho⟩
  cases h
  refine ⟨no, a, o, rfl, h, nf, R.noneB n, ro, fun j hj ho => ?_⟩
  rcases ho with ⟨d2, hd⟩ | ⟨k, ds, hd⟩
  · obtain ⟨a2, o2, y1, y2, _⟩ := R.ow j d2 hd
    rw [y1]
    intro z
    cases z
    rw [n] at y2
    cases y2
  · obtain ⟨⟨a2, o2, y1, y2, _⟩, _⟩ := R.me j k ds hd
    rw [y1]
    intro z
    cases z
    rw [n] at y2
    cases y2
theorem asg_core {own : Bool} {i : Nat} {d : D} {kd : Kd} {x : V} (R : Rel c.θ c.F0 c.B L F H σ ρ) (e : Ext F H F1 H1) (hv : Val c.θ F1 H H1 σ ρ d kd x) (h : ResS c L W F1 En (G.asg own i (d, kd) ρ)) : En.nx (σ.set i (some x)) H1 := by
  unfold G.asg at h
  by_cases q : i < ρ.length
  · rw [if_pos q] at h
    cases kd with
    | sh => exact h _ F1 H1 (.refl _) ((R.ext e).set hv)
    | fr =>
      cases own with
      | true =>
        obtain ⟨no, h⟩ := ResS.ite (show ResS c L W F1 En (if notObj d = true then .nx (ρ.set i (.ow d)) else .no) from h)
        exact h _ F1 H1 (.refl _) (R.setOw e hv no)
      | false =>
        obtain ⟨F2, e2, s2, r⟩ := Val.sol R e hv rfl
        exact h _ F2 H1 s2 ((R.ext e2).set r)
    | «at» j => exact h.elim
    | tr n => exact h.elim
  · rw [if_neg q] at h
    exact h.elim
theorem gs_set {own : Bool} {i : Nat} {x : Str} {pos' : Pos} (hN : X.N.Nodup) (ha : PE X e (tEv c L W f)) (hx : Loc X.env.scope x) (hf : X.fn x = true ∨ X.env.scope.names.lookup x = some .local := by exact Or.inl rfl) (hi : X.N[i]? = some x := by rfl) (hs : swapsWith e (some (.Name x pos')) pos.line X.env = pure false := by rfl) :
    PS X (.Assign [.Name x pos'] e pos) (tSv c L W (G.sAsg own i f)) := by
  refine ps_ev (ps_set hN hi hx ha hs hf) fun E σ H h => ?_
  obtain ⟨F, ρ, R, h⟩ := h
  exact sv_with R h fun d kd x F1 H1 ef e1 hv R1 h1 => asg_core R e1 hv h1
theorem gs_setLc {own : Bool} {i : Nat} {y : Str} {py : Pos} {elt : Expr} {ifs : List Expr} {scope : Scope} {ow : List (Str × Nat)} {spos : Pos} (hv : ∀ j ∈ tgIdx t, j ∈ ow.map (·.2)) (hc : X.calm = true) (hN : X.N.Nodup) (hy : X.N[i]? = some y) (hyl : X.env.scope.names.lookup y = some .local)
    (hsw : swapsWith (.ListComp elt [⟨tg, iter, ifs, 0⟩] scope pos) (some (.Name y py)) spos.line X.env = pure true) (hi : PI X tg iter (tIv c L W false s)) (ok : BlkOk X.N X.env.scope scope ow)
    (hg : ∀ (s : Shared) (H : Hp) (C : Addr) (cl : List (Str × Addr)) (fp : List Addr), PG (X.blk s H scope (compEnvC scope cl C X.env) fp) tg (gTv c L t)) (ht : ∀ (s : Shared) (H : Hp) (C : Addr) (cl : List (Str × Addr)) (fp : List Addr), PTs (X.blk s H scope (compEnvC scope cl C X.env) fp) ifs (tTv c L WF tst))
    (he : ∀ (s : Shared) (H : Hp) (C : Addr) (cl : List (Str × Addr)) (fp : List Addr), PE (X.blk s H scope (compEnvC scope cl C X.env) fp) elt (tEv c L WF f)) (hs : ∀ x, foldedSetIterable iter X.env x = pure x) : PS X (.Assign [.Name y py] (.ListComp elt [⟨tg, iter, ifs, 0⟩] scope pos) spos) (tSv c L W (G.sAsg own i (eLc s t tst f (ow.map (·.2))))) := by
  refine ps_ev (ps_setLc hc hN hy hyl hsw hi ok hg ht he hs) fun E σ H h => ?_
  obtain ⟨F, ρ, R, h⟩ := h
  exact rd_lc hv (sv_with R h fun d kd x F1 H1 ef e1 hv R1 h1 => asg_core R e1 hv h1)
/-- targets on a line: a tuple taken apart -/
theorem gs_tg (ha : PE X e (tEv c L W f)) (hg : PG X tg (gTv c L t)) (hs : swapsWithSole [tg] e pos.line X.env = pure false := by rfl) (hw : swappedStores [tg] e X.env = pure none := by rfl)
    (h1 : (assignEach [tg] X.env).map (·.2) = [assign tg X.env] := by rfl) : PS X (.Assign [tg] e pos) (tSv c L W (G.sTg t f)) := by
  refine ps_ev (ps_asg ha hg hs hw h1) fun E σ H h => ?_
  obtain ⟨F, ρ, R, h⟩ := h
  refine sv_with R h fun d kd x F1 H1 ef e1 hv R1 h1 => ?_
  by_cases q : kd.solid = true
  · replace h1 : ResS c L W F1 E (if kd.solid = true then (match (generalizing := false) tgSet t d ρ with
      | some ρ' => .nx ρ'
      | none => .no) else .no) := h1
    rw [if_pos q] at h1
    obtain ⟨F2, e2, s2, r⟩ := Val.sol R e1 hv q
    cases q2 : tgSet t d ρ with
    | none => rw [q2] at h1; exact h1.elim
    | some ρ' =>
      rw [q2] at h1
      exact ⟨F2, ρ, d, ρ', R.ext e2, r, q2, fun σ' R' _ => h1 σ' F2 H1 s2 R'⟩
  · replace h1 : ResS c L W F1 E (if kd.solid = true then (match (generalizing := false) tgSet t d ρ with
      | some ρ' => .nx ρ'
      | none => .no) else .no) := h1
    rw [if_neg q] at h1
    exact h1.elim
/-- for -/
theorem gs_for {body : List Stmt} {u : SS} (hp : PassesOwn (model X.prog X.w) X.A X.env X.xe) (hc : X.calm = true) (hi : PI X tg iter (tIv c L W true s)) (hg : PG X tg (gTv c L t)) (hb : PSs X body (tSv c L W u)) (hs : ∀ x, foldedSetIterable iter X.env x = pure x := by intro _; rfl) :
    PS X (.For tg iter body [] pos) (tSv c L W (G.sFor s t u)) := by
  refine ps_ev (ps_for hp hc hi hg hb hs) fun E σ H h => ?_
  obtain ⟨F, ρ, R, h⟩ := h
  refine ⟨F, ρ, R, ?_⟩
  replace h : ResS c L W F E (sWith (s ρ) ρ fun ds => forL t u ds ρ) := h
  cases q : s ρ with
  | no => rw [q] at h; exact h
  | ex n fs =>
    rw [q] at h
    exact fun cls dd F' H' e' hv => h cls dd σ F' H' e'.ff (R.ext e') hv
  | ok ds =>
    rw [q] at h
    intro J F1 H1 e1 wk
    replace h : ResS c L W F1 E (forL t u ds ρ) := ResS.mono (show ResS c L W F E (forL t u ds ρ) from h) e1.ff
    refine ⟨fun i m σ2 H2 => m = ds.length - i ∧ i ≤ ds.length ∧ ∃ F2 ρ2, Same F1 F2 ∧ Rel c.θ c.F0 c.B L F2 H2 σ2 ρ2 ∧ ResS c L W F2 E (forL t u (ds.drop i) ρ2),
      ⟨ds.length, rfl, Nat.zero_le _, F1, ρ, .refl _, R.ext e1, h⟩, ?_⟩
    rintro i m σ2 H2 ⟨rfl, hi, F2, ρ2, e2, R2, h2⟩
    by_cases lt : i < ds.length
    · have hd : ds[i]? = some ds[i] := List.getElem?_eq_getElem lt
      rw [List.drop_eq_getElem_cons lt] at h2
      obtain ⟨g1, g2⟩ := wk.go F2 H2 i ds[i] e2 R2.sub (fun z => by cases z) hd
      refine .inr ⟨g1, fun σ3 H3 => ∃ F3 ρ3, Same F1 F3 ∧ Rel c.θ c.F0 c.B L F3 H3 σ3 ρ3 ∧ ResS c L W F3 E (forL t u (ds.drop (i + 1)) ρ3), fun σ3 H3 nx => ⟨ds.length - (i + 1), by omega, rfl, lt, nx⟩, fun x H' hy => ?_⟩
      obtain ⟨F3, e3, r3⟩ := g2 x H' hy
      unfold forL at h2
      cases q1 : tgSet t ds[i] ρ2 with
      | none => rw [q1] at h2; exact h2.elim
      | some ρ3 =>
        rw [q1] at h2
        refine ⟨F3, ρ2, ds[i], ρ3, R2.ext e3, r3, q1, fun σ4 R4 _ => ⟨F3, ρ3, R4, ?_⟩⟩
        replace h2 : ResS c L W F2 E (match u ρ3 with
          | .nx ρ2 => forL t u (ds.drop (i + 1)) ρ2
          | .ct ρ2 => forL t u (ds.drop (i + 1)) ρ2
          | .bk ρ2 => .nx ρ2
          | o => o) := h2
        cases q3 : u ρ3 with
        | nx ρ4 =>
          rw [q3] at h2
          exact fun σ' F' H' e' R' => ⟨F', ρ4, (e2.trans e3.ff).trans e', R', ResS.mono h2 (e3.ff.trans e')⟩
        | ct ρ4 =>
          rw [q3] at h2
          exact fun σ' F' H' e' R' => ⟨F', ρ4, (e2.trans e3.ff).trans e', R', ResS.mono h2 (e3.ff.trans e')⟩
        | bk ρ4 =>
          rw [q3] at h2
          exact ResS.mono (o := .nx ρ4) h2 e3.ff
        | rt d k ρ1 => rw [q3] at h2; exact ResS.mono (o := .rt d k ρ1) h2 e3.ff
        | ex n fs ρ' => rw [q3] at h2; exact ResS.mono (o := .ex n fs ρ') h2 e3.ff
        | no => rw [q3] at h2; exact h2
    · have ei : i = ds.length := by omega
      subst ei
      rw [List.drop_length] at h2
      exact .inl ⟨wk.stop F2 H2 e2 R2.sub (fun z => by cases z), h2 σ2 F2 H2 (.refl _) R2⟩
/-- while -/
theorem gs_while {body : List Stmt} {u : SS} (hp : PassesOwn (model X.prog X.w) X.A X.env X.xe) (ht : PT X e (tTv c L W tst)) (hb : PSs X body (tSv c L W u)) : PS X (.While e body [] pos) (tSv c L W (G.sWhile tst u)) := by
  refine ps_ev (ps_while hp ht hb) fun E σ H h => ?_
  obtain ⟨F, ρ, R, h⟩ := h
  refine ⟨fun m σ2 H2 => ∃ F2 ρ2, Rel c.θ c.F0 c.B L F2 H2 σ2 ρ2 ∧ ResS c L W F2 E (whileL tst u m ρ2), ⟨FU, F, ρ, R, h⟩, ?_⟩
  rintro m σ2 H2 ⟨F2, ρ2, R2, h2⟩
  cases m with
  | zero => exact h2.elim
  | succ m =>
    refine tTv_of R2 ?_
    unfold whileL at h2
    cases q : tst ρ2 with
    | no => rw [q] at h2; exact h2
    | ex n fs =>
      rw [q] at h2
      exact fun cls dd F' H' e' hv => h2 cls dd σ2 F' H' e'.ff (R2.ext e') hv
    | ok b =>
      rw [q] at h2
      intro F' H' e'
      cases b with
      | false => exact iteF (h2 σ2 F' H' e'.ff (R2.ext e'))
      | true =>
        refine iteT ⟨fun σ3 H3 => ∃ F3 ρ3, Rel c.θ c.F0 c.B L F3 H3 σ3 ρ3 ∧ ResS c L W F3 E (whileL tst u m ρ3), fun σ3 H3 nx => ⟨m, Nat.lt_succ_self _, nx⟩, F', ρ2, R2.ext e', ?_⟩
        replace h2 : ResS c L W F2 E (match u ρ2 with
          | .nx ρ2 => whileL tst u m ρ2
          | .ct ρ2 => whileL tst u m ρ2
          | .bk ρ2 => .nx ρ2
          | o => o) := h2
        cases q3 : u ρ2 with
        | nx ρ4 =>
          rw [q3] at h2
          exact fun σ' F3 H' e3 R' => ⟨F3, ρ4, R', ResS.mono h2 (e'.ff.trans e3)⟩
        | ct ρ4 =>
          rw [q3] at h2
          exact fun σ' F3 H' e3 R' => ⟨F3, ρ4, R', ResS.mono h2 (e'.ff.trans e3)⟩
        | bk ρ4 =>
          rw [q3] at h2
          exact ResS.mono (o := .nx ρ4) h2 e'.ff
        | rt d k ρ1 => rw [q3] at h2; exact ResS.mono (o := .rt d k ρ1) h2 e'.ff
        | ex n fs ρ' => rw [q3] at h2; exact ResS.mono (o := .ex n fs ρ') h2 e'.ff
        | no => rw [q3] at h2; exact h2
end
end G
namespace G
open PySem PySem.Spec L2
/-- a, b = e, e' of two locals on a line -/
def sPar (o1 o2 : Bool) (i j : Nat) (f g : ES) : SS := fun ρ => sWith (f ρ) ρ fun x => sWith (g ρ) ρ fun y => match asg o1 i x ρ with
  | .nx ρ1 => asg o2 j y ρ1
  | o => o
/-- x.m(e), x.m() on a slot's own list -/
def sOwL (i : Nat) (k : List D → D → Option (List D)) (f : ES) : SS := fun ρ => match ρ[i]? with
  | some (.ow (.lst xs)) => sWith (f ρ) ρ fun y => if y.2.solid then (match k xs y.1 with
    | some ys => .nx (ρ.set i (.ow (.lst ys)))
    | none => .no) else .no
  | _ => .no
def sOwL0 (i : Nat) (k : List D → Option (List D)) : SS := fun ρ => match ρ[i]? with
  | some (.ow (.lst xs)) => (match k xs with
    | some ys => .nx (ρ.set i (.ow (.lst ys)))
    | none => .no)
  | _ => .no
def kAp (xs : List D) (y : D) : Option (List D) := if xs.length < SZ then some (xs ++ [y]) else none
/-- a slot's own object is no more its own: nothing is done -/
def sFrz (i : Nat) : SS := fun ρ => match ρ[i]? with
  | some (.ow d) => .nx (ρ.set i (.va d))
  | _ => .nx ρ
/-- ds with what stands at a key changed, or put at the end -/
def putD {κ : Type} [DecidableEq κ] (k : κ) (d : D) (ks : List κ) (ds : List D) : List κ × List D :=
  if k ∈ ks then (ks, List.zipWith (fun x y => if x = k then d else y) ks ds) else (ks ++ [k], ds ++ [d])
def kPut : D → D → D → Option D
  | .lst xs, .int n, v => (ixN xs.length n).map fun j => .lst (xs.set j v)
  | .dK ks ds, k, v => match keyOf k with
    | some x => if ks.length < SZ then some (.dK (putD x v ks ds).1 (putD x v ks ds).2) else none
    | none => none
  | .dT ks ds, k, v => match tkeyOf k with
    | some x => if ks.length < SZ then some (.dT (putD x v ks ds).1 (putD x v ks ds).2) else none
    | none => none
  | _, _, _ => none
/-- x[e] = e' on a slot's own object -/
def sPut (i : Nat) (fk fv : ES) : SS := fun ρ => sWith (fv ρ) ρ fun v => if v.2.solid then (match ρ[i]? with
  | some (.ow d) => sWith (fk ρ) ρ fun k => (match kPut d k.1 v.1 with
    | some d' => .nx (ρ.set i (.ow d'))
    | none => .no)
  | _ => .no) else .no
section
variable {X : Cx} {c : Cn} {L : List Addr} {W : WX} {f g : ES} {a b e tg iter : Expr} {pos p : Pos} {s : IS} {t : Tg} {tst : TSm} {F F1 H H1 : Hp} {σ : L2.St} {ρ : Sl} {En : Ends}
/-- a slot's own object, changed in place -/
theorem Rel.mut {i : Nat} {d d' : D} {a : Addr} {o' : HO} (R : Rel c.θ c.F0 c.B L F H σ ρ) (hs : ρ[i]? = some (.ow d)) (ha : σ[i]? = some (some (.ref a))) (hn : notObj d' = true) (r : Root c.θ F d' o') : Rel c.θ c.F0 c.B L F (upd H a o') σ (ρ.set i (.ow d')) := by
  obtain ⟨a2, o2, y1, y2, y3, y4, y5⟩ := R.ow i d hs
  rw [ha] at y1
  cases y1
  have keep : ∀ {b : Addr} {u : HO}, F b = some u → b ≠ a := fun h z => by
    subst z
    rw [y3] at h
    cases h
  have keepB : ∀ {b : Addr} {u : HO}, c.B b = some u → b ≠ a := fun h z => by
    subst z
    rw [y4] at h
    cases h
  have R2 := R.put (F' := F) (H' := upd H a o') (i := i) (v := .ref a) (sl := .ow d') (fun b u h => by rw [upd_ne (keep h)]; exact R.sub b u h) (fun b u h => by rw [upd_ne (keepB h)]; exact R.kp b u h) (.refl _) R.fn
    (fun j a3 o3 hj ho hs3 h3 n3 => ?_) (fun _ h => by cases h) (fun e h => ?_) (fun _ _ h => by cases h) (fun Z hZ j k d2 hj hp b hb => by
      have nb : b ≠ a := fun z => by
        subst z
        exact (hZ j k d2 hp).2.2.2.1 i b (.inl ⟨d, hs⟩) ha hb
      exact ⟨upd_ne nb, rfl, fun _ z => by cases z; exact nb rfl⟩) (tp := fun b xs h => by
      rw [upd_ne fun z => ?_]
      · exact h
      · subst z
        rw [y2] at h
        cases h
        cases y5)
  · have e : σ.set i (some (.ref a)) = σ := List.ext_getElem? fun j => by
      by_cases q : i = j
      · subst q
        rw [List.getElem?_set_self (List.getElem?_eq_some_iff.mp ha).1, ha]
      · rw [List.getElem?_set_ne q]
    rwa [e] at R2
  · have ne : a3 ≠ a := fun z => by
      subst z
      rcases ho with ⟨d3, hd⟩ | ⟨k, ds, hd⟩
      · exact R.dj i j d d3 a3 hj.symm hs hd ha hs3
      · obtain ⟨⟨a4, _, z1, _, _, _, _, _, z6⟩, _⟩ := R.me j k ds hd
        rw [hs3] at z1
        cases z1
        exact z6 i d hs ha
    exact ⟨by rw [upd_ne ne]; exact h3, n3⟩
  · cases h
    refine ⟨?_, a, o', rfl, upd_same, y3, y4, r, fun j hj ho hs3 => ?_⟩
    · cases d' <;> first | trivial | cases hn
    · rcases ho with ⟨d3, hd⟩ | ⟨k, ds, hd⟩
      · exact R.dj i j d d3 a hj.symm hs hd ha hs3
      · obtain ⟨⟨a4, _, z1, _, _, _, _, _, z6⟩, _⟩ := R.me j k ds hd
        rw [hs3] at z1
        cases z1
        exact z6 i d hs ha
/-- the slot's own object as a value -/
theorem ow_val {i : Nat} {d : D} (R : Rel c.θ c.F0 c.B L F H σ ρ) (hs : ρ[i]? = some (.ow d)) : ∃ a o, σ[i]? = some (some (.ref a)) ∧ H a = some o ∧ F a = none ∧ Root c.θ F d o := by
  obtain ⟨a, o, y1, y2, y3, _, y5⟩ := R.ow i d hs
  exact ⟨a, o, y1, y2, y3, y5⟩
/-- .. is frozen -/
theorem Rel.frz {i : Nat} {d : D} (R : Rel c.θ c.F0 c.B L F H σ ρ) (hs : ρ[i]? = some (.ow d)) : ∃ F2, Same F F2 ∧ Rel c.θ c.F0 c.B L F2 H σ (ρ.set i (.va d)) := by
  obtain ⟨a, o, y1, y2, y3, y4, y5⟩ := R.ow i d hs
  have e2 : Same F (upd F a o) := Same.lay y3
  refine ⟨upd F a o, e2, ?_⟩
  have R2 := R.put (F' := upd F a o) (H' := H) (i := i) (v := .ref a) (sl := .va d) (fun b u h => ?_) R.kp e2 (fun b u h => ?_) (fun j a3 o3 hj ho hs3 h3 n3 => ⟨h3, ?_⟩) (fun e h => ?_) (fun _ h => by cases h) (fun _ _ h => by cases h) (fun Z hZ j k d2 hj hp b hb => by
      have nb : b ≠ a := fun z => by
        subst z
        exact (hZ j k d2 hp).2.2.2.1 i b (.inl ⟨d, hs⟩) y1 hb
      exact ⟨rfl, upd_ne nb, fun z => by rcases z with ⟨_, z⟩ | ⟨_, _, z⟩ <;> cases z⟩)
  · have e : σ.set i (some (.ref a)) = σ := List.ext_getElem? fun j => by
      by_cases q : i = j
      · subst q
        rw [List.getElem?_set_self (List.getElem?_eq_some_iff.mp y1).1, y1]
      · rw [List.getElem?_set_ne q]
    rwa [e] at R2
  · by_cases hb : b = a
    · subst hb
      rw [upd_same] at h
      cases h
      exact .inl y2
    · rw [upd_ne hb] at h
      exact R.sub b u h
  · by_cases hb : b = a
    · subst hb
      exact .inr (.inl y4)
    · rw [upd_ne hb] at h
      exact R.fn b u h
  · have ne : a3 ≠ a := fun z => by
      subst z
      rcases ho with ⟨d3, hd⟩ | ⟨k, ds, hd⟩
      · exact R.dj i j d d3 a3 hj.symm hs hd y1 hs3
      · obtain ⟨⟨a4, _, z1, _, _, _, _, _, z6⟩, _⟩ := R.me j k ds hd
        rw [hs3] at z1
        cases z1
        exact z6 i d hs y1
    rw [upd_ne ne]
    exact n3
  · cases h
    exact y5.frozen y3 (Full.of (R.fu i d hs))
theorem gs_frz {st : Stmt} {u : SS} (i : Nat) (h : PS X st (tSv c L W u)) : PS X st (tSv c L W (sSeq (sFrz i) u)) := by
  refine ps_ev h fun E σ H h => ?_
  obtain ⟨F, ρ, R, h⟩ := h
  replace h : ResS c L W F E (match sFrz i ρ with
    | .nx ρ' => u ρ'
    | o => o) := h
  unfold sFrz at h
  cases q : ρ[i]? with
  | none => rw [q] at h; exact ⟨F, ρ, R, h⟩
  | some sl =>
    rw [q] at h
    cases sl with
    | ow d =>
      obtain ⟨F2, e, R2⟩ := R.frz q
      exact ⟨F2, _, R2, ResS.mono h e⟩
    | un => exact ⟨F, ρ, R, h⟩
    | va d => exact ⟨F, ρ, R, h⟩
    | me n ds => exact ⟨F, ρ, R, h⟩
    | xc => exact ⟨F, ρ, R, h⟩
    | pv k d => exact ⟨F, ρ, R, h⟩
theorem rd_owL {i : Nat} {k : List D → D → Option (List D)} {r : V → List V → Hp → VK → Prop} {K : PySem.W.Frag}
    (hr : ∀ (F H : Hp) (a : Addr) (xs : List V) (ds es : List D) (y : D) (v : V) (Q : VK), H a = some (.lst xs) → RepL c.θ F ds xs → Rep c.θ F y v → k ds y = some es → (∀ ys, RepL c.θ F es ys → Q .non (upd H a (.lst ys))) → r (.ref a) [v] H Q)
    {E : Ends} (h : tSv c L W (sOwL i k f) E σ H) : tDrop (tBM K "list" r (tVar i) (tCons (tEv c L W f) tNil)) E σ H := by
  obtain ⟨F, ρ, R, h⟩ := h
  unfold sOwL at h
  cases q : ρ[i]? with
  | none => rw [q] at h; exact h.elim
  | some sl =>
    rw [q] at h
    cases sl with
    | ow d =>
      cases d <;> first | exact (show False from h).elim | skip
      rename_i ds
      obtain ⟨a, o, h1, h2, h3, ro⟩ := ow_val R q
      cases ro with
      | @lst xs _ rl =>
      refine ⟨_, h1, .inl ⟨rfl, xs, .inl (.inl h2)⟩, ?_⟩
      refine sv_with R h fun d kd x F1 H1 ef e1 hv R1 h1' => ?_
      replace h1' : ResS c L W F1 E (if kd.solid = true then (match (generalizing := false) k ds d with
          | some ys => .nx (ρ.set i (.ow (.lst ys)))
          | none => .no) else .no) := h1'
      by_cases so : kd.solid = true
      · rw [if_pos so] at h1'
        obtain ⟨F2, e2, s2, rp⟩ := Val.sol R e1 hv so
        cases q2 : k ds d with
        | none => rw [q2] at h1'; exact h1'.elim
        | some ys =>
          rw [q2] at h1'
          exact hr F2 H1 a xs ds ys d x _ (e2.hh _ _ h2) (rl.mono e2.ff) rp q2 fun zs rz => h1' σ F2 _ s2 ((R.ext e2).mut q h1 rfl (.lst rz))
      · rw [if_neg so] at h1'
        exact h1'.elim
    | un => exact h.elim
    | va d => exact h.elim
    | me n ds => exact h.elim
    | xc => exact h.elim
    | pv k d => exact h.elim
theorem gs_append {i : Nat} {x : Str} {apos cpos : Pos} (ha : PE X e (tEv c L W f)) (hx : Loc X.env.scope x) (hf : X.fn x = true ∨ X.env.scope.names.lookup x = some .local := by exact Or.inl rfl) (hi : X.N[i]? = some x := by rfl) (hd : (x == ("__debug__" : Str)) = false := by decide) (hcd : (x == ("__classdict__" : Str)) = false := by decide)
    (hs : swapsWith (.Call (.Attribute (.Name x p) "append" apos) [e] [] cpos) none pos.line X.env = pure false := by rfl)
    (hbase : attributeBase (.Name x p) "append" X.env (eval (.Name x p) X.env) = eval (.Name x p) X.env := by rfl)
    (hfew : ((backTo cpos (starEach [e] X.env)).all (fun x => !x.1) && (backToKw cpos (keywordEach [] X.env)).all (fun x => x.1.isSome)
      && decide ([e].length + ([] : List Keyword).length + (if ([] : List Keyword).isEmpty then 0 else 1) < 30)) = true := by rfl)
    (hline : (apos.endLine == cpos.line) = true := by rfl) (hst : starEach [e] X.env = (false, eval e X.env) :: starEach [] X.env := by rfl) : PS X (.Expr (.Call (.Attribute (.Name x p) "append" apos) [e] [] cpos) pos) (tSv c L W (sOwL i kAp f)) := by
  refine ps_ev (ps_expr (pe_bm PySem.F.plainAttrs_list PySem.F.slot_list_append PySem.F.type_list_append mt_append (pe_var hi (vis_of hx) hd hcd) (pa_cons ha pa_nil hst) hbase hfew hline hst rfl) hs) fun E σ H h => ?_
  refine rd_owL (fun F H a xs ds es y v Q h1 h2 h3 h4 h5 => ?_) h
  unfold kAp at h4
  by_cases q : ds.length < SZ
  · rw [if_pos q] at h4
    cases h4
    exact ⟨a, xs, v, rfl, rfl, h1, by rw [h2.length]; exact Nat.lt_of_lt_of_le q SZ_le, h5 _ (h2.append (.cons h3 .nil))⟩
  · rw [if_neg q] at h4
    cases h4
end
end G
namespace G
open PySem PySem.Spec L2
/-- x op= e of ints -/
def sAugI (op : Int → Int → Int) (i : Nat) (f : ES) : SS := fun ρ => match ρ[i]? with
  | some (.va (.int a)) => sWith (f ρ) ρ fun y => (match y.1 with
    | .int b => .nx (ρ.set i (.va (.int (op a b))))
    | _ => .no)
  | _ => .no
/-- raise C() -/
def sRaise (n : Nat) : SS := fun ρ => .ex n [] ρ
section
variable {X : Cx} {c : Cn} {L : List Addr} {W : WX} {f g : ES} {a b e tg iter : Expr} {pos p : Pos} {s : IS} {t : Tg} {tst : TSm} {F F1 H H1 : Hp} {σ : L2.St} {ρ : Sl} {En : Ends}
theorem gs_augI {op : Operator} {fo : Int → Int → Int} {i : Nat} {x : Str} {pos' : Pos} (ho : PIp X op (ipI fo)) (hN : X.N.Nodup) (ha : PE X e (tEv c L W f)) (hx : Loc X.env.scope x) (hf : X.fn x = true ∨ X.env.scope.names.lookup x = some .local := by exact Or.inl rfl) (hi : X.N[i]? = some x := by rfl) :
    PS X (.AugAssign (.Name x pos') op e pos) (tSv c L W (sAugI fo i f)) := by
  refine ps_ev (ps_aug hN hi hx ha ho hf) fun E σ H h => ?_
  obtain ⟨F, ρ, R, h⟩ := h
  unfold sAugI at h
  cases q : ρ[i]? with
  | none => rw [q] at h; exact h.elim
  | some sl =>
    rw [q] at h
    cases sl with
    | va d =>
      cases d <;> first | exact (show False from h).elim | skip
      rename_i n
      obtain ⟨v, h1, h2⟩ := R.va i _ q
      cases h2
      refine ⟨_, h1, ?_⟩
      refine sv_with R h fun d kd x F1 H1 ef e1 hv R1 h1' => ?_
      obtain ⟨F2, e2, s2, rd, _⟩ := Val.use R e1 hv
      replace h1' : ResS c L W F1 E (match (generalizing := false) d with
        | .int b => .nx (ρ.set i (.va (.int (fo n b))))
        | _ => .no) := h1'
      clear ef hv
      cases d <;> first | exact (show False from h1').elim | skip
      cases rd.int
      exact ⟨n, _, rfl, rfl, h1' _ F1 H1 (.refl _) (R1.set (.int _))⟩
    | un => exact h.elim
    | ow d => exact h.elim
    | me n ds => exact h.elim
    | xc => exact h.elim
    | pv k d => exact h.elim
/-- a slot takes a root that nobody owns -/
theorem Rel.takeOw {i : Nat} {d : D} {a : Addr} {o : HO} (R : Rel c.θ c.F0 c.B L F H σ ρ) (h : H a = some o) (nf : F a = none) (nb : c.B a = none) (ro : Root c.θ F d o) (fu : notObj d = true)
    (ow : ∀ j : Nat, j ≠ i → ((∃ d, ρ[j]? = some (.ow d)) ∨ ∃ k ds, ρ[j]? = some (.me k ds)) → σ[j]? ≠ some (some (.ref a))) (pv : ∀ Z, PvAll c.θ c.B F H σ ρ Z → ∀ (j : Nat) (k : Sh) (d : D), j ≠ i → ρ[j]? = some (.pv k d) → a ∉ Z j) : Rel c.θ c.F0 c.B L F H (σ.set i (some (.ref a))) (ρ.set i (.ow d)) := by
  refine R.put R.sub R.kp (.refl _) R.fn (fun _ _ _ _ _ _ h n => ⟨h, n⟩) (fun e h => by cases h) (fun d' e => ?_) (fun _ _ h => by cases h) fun Z hZ j k d hj hp b hb => ⟨rfl, rfl, fun _ z => by cases z; exact pv Z hZ j k d hj hp hb⟩
  cases e
  exact ⟨fu, a, o, rfl, h, nf, nb, ro, ow⟩
theorem Rel.owner {j : Nat} {a : Addr} (R : Rel c.θ c.F0 c.B L F H σ ρ) (h : Owner ρ j) (hs : σ[j]? = some (some (.ref a))) : ∃ o, H a = some o := by
  rcases h with ⟨d, hd⟩ | ⟨k, ds, hd⟩
  · obtain ⟨a2, o2, y1, y2, _⟩ := R.ow j d hd
    rw [hs] at y1
    cases y1
    exact ⟨_, y2⟩
  · obtain ⟨⟨a2, o2, y1, y2, _⟩, _⟩ := R.me j k ds hd
    rw [hs] at y1
    cases y1
    exact ⟨_, y2⟩
theorem Owner.va {i l : Nat} {d : D} (h : Owner (ρ.set i (.va d)) l) : l ≠ i ∧ Owner ρ l := by
  have ne : l ≠ i := fun e => by
    subst e
    have at_ : ∀ {x : Slot}, (ρ.set l (.va d))[l]? = some x → x = .va d := fun {x} e => by
      have hl := (List.getElem?_eq_some_iff.mp e).1
      rw [List.length_set] at hl
      rw [List.getElem?_set_self hl] at e
      exact (Option.some.inj e).symm
    rcases h with ⟨d2, h⟩ | ⟨k, ds, h⟩ <;> cases at_ h
  refine ⟨ne, ?_⟩
  unfold Owner at h ⊢
  rwa [List.getElem?_set_ne (Ne.symm ne)] at h
theorem gs_par {o1 o2 : Bool} {i j : Nat} {x y : Str} {px py pt : Pos} {kt k2 pt2} (hc : X.calm = true) (hN : X.N.Nodup) (hij : i ≠ j) (ha : PE X a (tEv c L W f)) (hb : PE X b (tEv c L W g))
    (hw : swappedStores [.Tuple [.Name x px, .Name y py] kt pt] (.Tuple [a, b] k2 pt2) X.env = pure (some [x, y]))
    (hi : X.N[i]? = some x := by rfl) (hj : X.N[j]? = some y := by rfl) (hx : X.env.scope.names.lookup x = some .local := by rfl) (hy : X.env.scope.names.lookup y = some .local := by rfl)
    (hs : swapsWithSole [.Tuple [.Name x px, .Name y py] kt pt] (.Tuple [a, b] k2 pt2) pos.line X.env = pure false := by rfl)
    (hs1 : starEach [a, b] X.env = (false, eval a X.env) :: starEach [b] X.env := by rfl) (hs2 : starEach [b] X.env = (false, eval b X.env) :: starEach [] X.env := by rfl) :
    PS X (.Assign [.Tuple [.Name x px, .Name y py] kt pt] (.Tuple [a, b] k2 pt2) pos) (tSv c L W (sPar o1 o2 i j f g)) := by
  refine ps_ev (ps_par hc hN hi hj hij hx hy (pa_cons ha (pa_cons hb pa_nil hs2) hs1) hw hs) fun E σ H h => ?_
  obtain ⟨F, ρ, R, h⟩ := h
  refine sv_with R h fun d kd v F1 H1 ef e1 hv R1 h1 => ?_
  clear ef h
  refine sv_with R1 h1 fun d2 kd2 v2 F2 H2 ef2 e2 hv2 R2 h2 => ?_
  clear ef2 h1
  refine ⟨v, v2, rfl, ?_⟩
  have e12 := e1.trans e2
  replace h2 : ResS c L W F2 E (match asg o1 i (d, kd) ρ with
    | .nx ρ1 => asg o2 j (d2, kd2) ρ1
    | o => o) := h2
  have frs : ∀ {a : Addr}, F a = none ∨ True → F1 a = none → (∃ o, H1 a = some o ∧ ∀ xs, o ≠ .tup xs) → F2 a = none := fun {a} _ nf ⟨o, h, nt⟩ => e2.none nf h nt
  by_cases q : i < ρ.length
  · -- the first store
    have first : ∃ F3 ρ1, asg o1 i (d, kd) ρ = .nx ρ1 ∧ Same F2 F3 ∧ Rel c.θ c.F0 c.B L F3 H2 (σ.set i (some v)) ρ1 ∧ ρ1.length = ρ.length ∧ (∀ a, H1 a = none → F2 a = none → F3 a = none) ∧
        (∀ (l : Nat) (a : Addr), Owner ρ1 l → (σ.set i (some v))[l]? = some (some (.ref a)) → ∃ o, H1 a = some o) ∧ ∀ (l : Nat) (k : Sh) (d : D), ρ1[l]? = some (.pv k d) → l ≠ i ∧ ρ[l]? = some (.pv k d) := by
      have pvs : ∀ {sl : Slot}, (∀ k d, sl ≠ .pv k d) → ∀ (l : Nat) (k : Sh) (d : D), (ρ.set i sl)[l]? = some (.pv k d) → l ≠ i ∧ ρ[l]? = some (.pv k d) := fun {sl} hn l k d h => by
        by_cases e : i = l
        · subst e
          rw [List.getElem?_set_self q] at h
          exact absurd (Option.some.inj h) (hn k d)
        · rw [List.getElem?_set_ne e] at h
          exact ⟨fun z => e z.symm, h⟩
      have old : ∀ {l : Nat} {a : Addr}, l ≠ i → Owner ρ l → (σ.set i (some v))[l]? = some (some (.ref a)) → ∃ o, H1 a = some o := fun {l a} hl ho hs => by
        rw [List.getElem?_set_ne (Ne.symm hl)] at hs
        obtain ⟨o, z⟩ := R.owner ho hs
        exact ⟨o, e1.hh _ _ z⟩
      unfold asg at h2 ⊢
      rw [if_pos q] at h2 ⊢
      cases kd with
      | sh => exact ⟨F2, _, rfl, .refl _, R2.set ((show Rep c.θ F1 d v from hv).mono e2.ff), by simp, fun _ _ h => h, fun l a ho hs => old ho.va.1 ho.va.2 hs, pvs fun _ _ h => by cases h⟩
      | fr =>
        obtain ⟨fu, a, o, rfl, n, h, nf, ro, _⟩ := (show FrV c.θ F1 H H1 d v from hv)
        have nf2 := frs (.inr trivial) nf ⟨o, h, ro.noTup⟩
        have h' := e2.hh _ _ h
        have ro' := ro.mono e2.ff
        cases o1 with
        | true =>
          have no : notObj d = true := by
            by_cases z : notObj d = true
            · exact z
            · exfalso
              replace h2 : ResS c L W F2 E (match (if notObj d = true then Fl.nx (ρ.set i (.ow d)) else .no) with
                | .nx ρ1 => asg o2 j (d2, kd2) ρ1
                | o => o) := h2
              rw [if_neg z] at h2
              exact h2
          refine ⟨F2, _, if_pos no, .refl _, R.setOw e12 ⟨fu, a, o, rfl, n, h', nf2, ro', Nw.of no⟩ no, by simp, fun _ _ h => h, fun l b ho hs => ?_, pvs fun _ _ h => by cases h⟩
          by_cases hl : l = i
          · subst hl
            rw [List.getElem?_set_self (by rw [R.len]; exact q)] at hs
            cases hs
            exact ⟨o, h⟩
          · refine old hl ?_ hs
            unfold Owner at ho ⊢
            rwa [List.getElem?_set_ne (fun e => hl e.symm)] at ho
        | false =>
          have x3 := Ext.freeze e12.sub h' nf2 H e12.hh n F e12
          refine ⟨upd F2 a o, _, rfl, Same.lay nf2, (R.ext x3).set (ro'.frozen nf2 fu), by simp, fun b hb hb2 => ?_, fun l b ho hs => old ho.va.1 ho.va.2 hs, pvs fun _ _ h => by cases h⟩
          rw [upd_ne fun z => ?_]
          · exact hb2
          · subst z
            rw [h] at hb
            cases hb
      | «at» n => exact h2.elim
      | tr n => exact h2.elim
    obtain ⟨F3, ρ1, ea, s3, R3, l3, nf3, ow3, pv3⟩ := first
    have pvo : ∀ Z, PvAll c.θ c.B F3 H2 (σ.set i (some v)) ρ1 Z → ∀ (l : Nat) (k : Sh) (d : D), ρ1[l]? = some (.pv k d) → ∀ b ∈ Z l, ∃ o, H1 b = some o := fun Z hZ l k d hp b hb => by
      obtain ⟨hl, hp0⟩ := pv3 l k d hp
      obtain ⟨o, ho⟩ := R.pvOld' (σ1 := σ.set i (some v)) (e12.ff.trans s3) e12.hh (List.getElem?_set_ne (Ne.symm hl)) hp0 (hZ l k d hp).1 hb
      exact ⟨o, e1.hh _ _ ho⟩
    rw [ea] at h2
    replace h2 : ResS c L W F2 E (asg o2 j (d2, kd2) ρ1) := h2
    unfold asg at h2
    by_cases q2 : j < ρ1.length
    · rw [if_pos q2] at h2
      cases kd2 with
      | sh => exact h2 _ F3 H2 s3 (R3.set ((show Rep c.θ F2 d2 v2 from hv2).mono s3))
      | fr =>
        obtain ⟨fu, a, o, rfl, n, h, nf, ro, _⟩ := (show FrV c.θ F2 H1 H2 d2 v2 from hv2)
        have nf' := nf3 a n nf
        have nb := R1.noneB n
        cases o2 with
        | true =>
          obtain ⟨no, h2⟩ := ResS.ite (show ResS c L W F2 E (if notObj d2 = true then .nx (ρ1.set j (.ow d2)) else .no) from h2)
          refine h2 _ F3 H2 s3 (R3.takeOw h nf' nb (ro.mono s3) no (fun l hl ho hs => ?_) fun Z hZ l k d hl hp hb => ?_)
          · obtain ⟨u, z⟩ := ow3 l a ho hs
            rw [n] at z
            cases z
          · obtain ⟨u, z⟩ := pvo Z hZ l k d hp a hb
            rw [n] at z
            cases z
        | false =>
          have s4 : Same F3 (upd F3 a o) := Same.lay nf'
          refine h2 _ (upd F3 a o) H2 (s3.trans s4) ?_
          have x4 : Ext F3 H2 (upd F3 a o) H2 → True := fun _ => trivial
          refine R3.put (fun b u hb => ?_) R3.kp s4 (fun b u hb => ?_) (fun l b u hl ho hs hb nb' => ⟨hb, ?_⟩) (fun e he => ?_) (fun e he => by cases he) (fun _ _ he => by cases he) fun Z hZ l k d hl hp b hb => ⟨rfl, upd_ne fun z => ?_, fun z => by rcases z with ⟨_, z⟩ | ⟨_, _, z⟩ <;> cases z⟩
          rotate_right
          · subst z
            obtain ⟨u, z⟩ := pvo Z hZ l k d hp b hb
            rw [n] at z
            cases z
          · by_cases z : b = a
            · subst z
              rw [upd_same] at hb
              cases hb
              exact .inl h
            · rw [upd_ne z] at hb
              exact R3.sub b u hb
          · by_cases z : b = a
            · subst z
              exact .inr (.inl nb)
            · rw [upd_ne z] at hb
              exact R3.fn b u hb
          · rw [upd_ne fun z => ?_]
            · exact nb'
            · subst z
              obtain ⟨u, z⟩ := ow3 l b ho hs
              rw [n] at z
              cases z
          · cases he
            exact (ro.mono s3).frozen nf' fu
      | «at» n => exact h2.elim
      | tr n => exact h2.elim
    · rw [if_neg q2] at h2
      exact h2.elim
  · unfold asg at h2
    rw [if_neg q] at h2
    exact h2.elim
end
end G
namespace G
open PySem PySem.Spec L2
section
variable {θ : Th} {F H : Hp}
theorem zip_put {κ : Type} [DecidableEq κ] {k : κ} {v : V} : ∀ {ks : List κ} {xs : List V}, ks.length = xs.length →
    (ks.zip xs).map (fun kv => if kv.1 = k then (kv.1, v) else kv) = ks.zip (List.zipWith (fun x y => if x = k then v else y) ks xs)
  | [], [], _ => rfl
  | x :: ks, y :: xs, h => by
    simp only [List.zip_cons_cons, List.map_cons, List.zipWith_cons_cons]
    rw [zip_put (by simpa using h)]
    by_cases q : x = k
    · rw [if_pos q, if_pos q]
    · rw [if_neg q, if_neg q]
theorem zip_any {κ : Type} [DecidableEq κ] {k : κ} : ∀ {ks : List κ} {xs : List V}, ks.length = xs.length → ((ks.zip xs).any fun kv => decide (kv.1 = k)) = decide (k ∈ ks)
  | [], [], _ => rfl
  | x :: ks, y :: xs, h => by
    rw [List.zip_cons_cons, List.any_cons, zip_any (by simpa using h)]
    by_cases q : x = k
    · simp [q]
    · simp [q, Ne.symm q, List.mem_cons, eq_comm]
theorem RepL.zipPut {κ : Type} [DecidableEq κ] {k : κ} {d : D} {v : V} (r : Rep θ F d v) : ∀ {ks : List κ} {ds : List D} {xs : List V}, RepL θ F ds xs → RepL θ F (List.zipWith (fun x y => if x = k then d else y) ks ds) (List.zipWith (fun x y => if x = k then v else y) ks xs)
  | [], _, _, _ => by simpa using RepL.nil
  | _ :: _, _, _, .nil => .nil
  | x :: ks, _, _, .cons a t => by
    rw [List.zipWith_cons_cons, List.zipWith_cons_cons]
    by_cases q : x = k
    · rw [if_pos q, if_pos q]; exact .cons r (RepL.zipPut r t)
    · rw [if_neg q, if_neg q]; exact .cons a (RepL.zipPut r t)
theorem put_rep {κ : Type} [DecidableEq κ] {k : κ} {d : D} {v : V} {ks : List κ} {ds : List D} {xs : List V} (r : Rep θ F d v) (l : ks.length = ds.length) (rl : RepL θ F ds xs) :
    ∃ ys, putK (ks.zip xs) k v = (putD k d ks ds).1.zip ys ∧ RepL θ F (putD k d ks ds).2 ys ∧ (putD k d ks ds).1.length = (putD k d ks ds).2.length := by
  have l2 : ks.length = xs.length := by rw [l, rl.length]
  unfold putK putD
  rw [zip_any l2]
  by_cases q : k ∈ ks
  · rw [if_pos (decide_eq_true q), if_pos q]
    exact ⟨_, zip_put l2, rl.zipPut r, by simp [l]⟩
  · rw [if_neg (by simpa using q), if_neg q]
    refine ⟨xs ++ [v], ?_, rl.append (.cons r .nil), by simp [l]⟩
    show ks.zip xs ++ [(k, v)] = (ks ++ [k]).zip (xs ++ [v])
    rw [List.zip_append l2]
    rfl
/-- a key's value -/
theorem keyOf_v {d : D} {k : Key} {v : V} (h : keyOf d = some k) (r : Rd1 θ F H d v) : v = kV k := by
  cases d <;> first | (cases h; done) | skip
  · cases h; exact r.int
  · cases h; exact r.str
theorem keysOf_v : ∀ {ds : List D} {ks : List Key} {vs : List V}, keysOf ds = some ks → RepL θ F ds vs → vs = ks.map kV
  | [], _, _, h, r => by cases h; cases r; rfl
  | d :: ds, ks, _, h, .cons (v := v) (vs := vs) a t => by
    unfold keysOf at h
    cases q : keyOf d with
    | none => rw [q] at h; cases h
    | some k =>
      rw [q] at h
      cases q2 : keysOf ds with
      | none => rw [q2] at h; cases h
      | some ks2 =>
        rw [q2] at h
        cases h
        rw [keysOf_v q2 t, keyOf_v (H := F) q (.inl a)]
        rfl
theorem tkeyOf_v {d : D} {k : List Key} {v : V} (s : Sub F H) (h : tkeyOf d = some k) (r : Rd1 θ F H d v) : ∃ b, v = .ref b ∧ H b = some (.tup (k.map kV)) := by
  cases d <;> first | (cases h; done) | skip
  rename_i ds
  obtain ⟨a, xs, rfl, ha, rl, _⟩ := r.tup s
  rw [keysOf_v h rl] at ha
  exact ⟨a, rfl, ha⟩
end
/-- a root stored into by values -/
def rPut : TSet := fun o i v H Q => rSetL o i v H Q ∨ rSetD o i v H Q
theorem set_put {X : Cx} (hu : X.A.units + 1 < cLine) : PSet X rPut := fun pins s σ H o i v ov iv u Q I ro ri rv h => by
  rcases h with h | h
  · exact set_list pins s σ H o i v ov iv u Q I ro ri rv h
  · exact set_dict hu pins s σ H o i v ov iv u Q I ro ri rv h
section
variable {X : Cx} {c : Cn} {L : List Addr} {W : WX} {f g : ES} {a b e o ix tg iter : Expr} {pos p : Pos} {s : IS} {t : Tg} {tst : TSm} {F F1 H H1 : Hp} {σ : L2.St} {ρ : Sl} {En : Ends}
theorem put_core {i : Nat} {d d' dk dv : D} {ad : Addr} {vk vv : V} {Q : Hp → Prop} (R : Rel c.θ c.F0 c.B L F H σ ρ) (hs : ρ[i]? = some (.ow d)) (ha : σ[i]? = some (some (.ref ad))) (hk : Rd1 c.θ F H dk vk) (hv : Rep c.θ F dv vv)
    (hp : kPut d dk dv = some d') (q : ∀ H', Rel c.θ c.F0 c.B L F H' σ (ρ.set i (.ow d')) → Q H') : rPut (.ref ad) vk vv H Q := by
  obtain ⟨a2, o2, y1, y2, y3, y4⟩ := ow_val R hs
  rw [ha] at y1
  cases y1
  cases y4 with
  | @lst xs ds rl =>
    cases dk <;> first | (cases hp; done) | skip
    rename_i n
    replace hp : (ixN ds.length n).map (fun j => D.lst (ds.set j dv)) = some d' := hp
    cases qj : ixN ds.length n with
    | none => rw [qj] at hp; cases hp
    | some j =>
      rw [qj] at hp
      cases hp
      exact .inl ⟨ad, xs, n, j, rfl, hk.int, y2, by rw [rl.length]; exact qj, q _ (R.mut hs ha rfl (.lst (rl.set j hv)))⟩
  | @dK ks xs ds l rl =>
    replace hp : (match keyOf dk with
      | some x => if ks.length < SZ then some (.dK (putD x dv ks ds).1 (putD x dv ks ds).2) else none
      | none => none) = some d' := hp
    cases qk : keyOf dk with
    | none => rw [qk] at hp; cases hp
    | some x =>
      rw [qk] at hp
      replace hp : (if ks.length < SZ then some (D.dK (putD x dv ks ds).1 (putD x dv ks ds).2) else none) = some d' := hp
      by_cases z : ks.length < SZ
      · rw [if_pos z] at hp
        cases hp
        obtain ⟨ys, e1, e2, e3⟩ := put_rep (k := x) hv l rl
        refine .inr ⟨ad, _, rfl, .inl ⟨ks.zip xs, x, y2, keyOf_v qk hk, ?_, rfl⟩, q _ ?_⟩
        · rw [List.length_zip, ← rl.length] at *
          exact Nat.lt_of_le_of_lt (Nat.min_le_left _ _) (Nat.lt_of_lt_of_le z SZ_le)
        · rw [e1]
          exact R.mut hs ha rfl (.dK e3 e2)
      · rw [if_neg z] at hp
        cases hp
  | @dT ks xs ds l rl =>
    replace hp : (match tkeyOf dk with
      | some x => if ks.length < SZ then some (.dT (putD x dv ks ds).1 (putD x dv ks ds).2) else none
      | none => none) = some d' := hp
    cases qk : tkeyOf dk with
    | none => rw [qk] at hp; cases hp
    | some x =>
      rw [qk] at hp
      replace hp : (if ks.length < SZ then some (D.dT (putD x dv ks ds).1 (putD x dv ks ds).2) else none) = some d' := hp
      by_cases z : ks.length < SZ
      · rw [if_pos z] at hp
        cases hp
        obtain ⟨ys, e1, e2, e3⟩ := put_rep (k := x) hv l rl
        obtain ⟨b, eb, hb⟩ := tkeyOf_v R.sub qk hk
        refine .inr ⟨ad, _, rfl, .inr ⟨ks.zip xs, x, b, y2, eb, hb, ?_, rfl⟩, q _ ?_⟩
        · exact Nat.lt_of_le_of_lt (by rw [List.length_zip]; exact Nat.min_le_left _ _) (Nat.lt_of_lt_of_le z SZ_le)
        · rw [e1]
          exact R.mut hs ha rfl (.dT e3 e2)
      · rw [if_neg z] at hp
        cases hp
  | obj l rl => cases hp
theorem gs_put {i : Nat} {x : Str} {pos' : Pos} (hu : X.A.units + 1 < cLine) (hb : PE X ix (tEv c L W f)) (ha : PE X e (tEv c L W g)) (hs : swapsWithSole [.Subscript (.Name x p) ix pos'] e pos.line X.env = pure false) (hw : swappedStores [.Subscript (.Name x p) ix pos'] e X.env = pure none)
    (h1 : (assignEach [.Subscript (.Name x p) ix pos'] X.env).map (·.2) = [assign (.Subscript (.Name x p) ix pos') X.env])
    (has : ∀ v, assign (.Subscript (.Name x p) ix pos') X.env v = (do
      let ov ← holding [v] (eval (.Name x p) X.env)
      let iv ← holding [v, ov] (eval ix X.env)
      standAt pos'
      holding [v, ov, iv] (setItem ov iv v)
      release [v, ov, iv] []))
    (hx : Loc X.env.scope x) (hf : X.fn x = true ∨ X.env.scope.names.lookup x = some .local := by exact Or.inl rfl) (hi : X.N[i]? = some x := by rfl) (hd : (x == ("__debug__" : Str)) = false := by decide) (hcd : (x == ("__classdict__" : Str)) = false := by decide) :
    PS X (.Assign [.Subscript (.Name x p) ix pos'] e pos) (tSv c L W (sPut i f g)) := by
  refine ps_ev (ps_asg ha (pg_sub (pe_var hi (vis_of hx) hd hcd) hb (set_put hu) has) hs hw h1) fun E σ H h => ?_
  obtain ⟨F, ρ, R, h⟩ := h
  refine sv_with R h fun d kd v F1 H1 ef e1 hv R1 h1 => ?_
  clear ef h
  replace h1 : ResS c L W F1 E (if kd.solid = true then (match ρ[i]? with
    | some (.ow d0) => sWith (f ρ) ρ fun k => (match kPut d0 k.1 d with
      | some d' => .nx (ρ.set i (.ow d'))
      | none => .no)
    | _ => .no) else .no) := h1
  by_cases so : kd.solid = true
  · rw [if_pos so] at h1
    obtain ⟨F2, e2, s2, rp⟩ := Val.sol R e1 hv so
    have R2 := R.ext e2
    cases q : ρ[i]? with
    | none => rw [q] at h1; exact h1.elim
    | some sl =>
      rw [q] at h1
      cases sl with
      | ow d0 =>
        obtain ⟨ad, ob, y1, y2, y3, y4⟩ := ow_val R2 q
        refine ⟨_, y1, ?_⟩
        have h1 : ResS c L W F2 E (sWith (f ρ) ρ fun k => (match kPut d0 k.1 d with
          | some d' => .nx (ρ.set i (.ow d'))
          | none => .no)) := ResS.mono h1 s2
        refine sv_with R2 h1 fun dk kk vk F3 H3 ef e3 hv3 R3 h3 => ?_
        clear ef h1
        obtain ⟨F4, e4, s4, rd, _⟩ := Val.use R2 e3 hv3
        replace h3 : ResS c L W F3 E (match kPut d0 dk d with
          | some d' => .nx (ρ.set i (.ow d'))
          | none => .no) := h3
        cases q2 : kPut d0 dk d with
        | none => rw [q2] at h3; exact h3.elim
        | some d' =>
          rw [q2] at h3
          exact put_core (R2.ext e4) q y1 rd (rp.mono e4.ff) q2 fun H' R' => h3 σ F4 H' s4 R'
      | un => exact h1.elim
      | va d => exact h1.elim
      | me n ds => exact h1.elim
      | xc => exact h1.elim
      | pv k d => exact h1.elim
  · rw [if_neg so] at h1
    exact h1.elim
theorem putF_end {fn : Str} {v : V} : ∀ {fs : List (Str × V)}, (∀ q ∈ fs, q.1 ≠ fn) → putF fn v fs = fs ++ [(fn, v)]
  | [], _ => rfl
  | (g, x) :: r, h => by
    unfold putF
    rw [if_neg (h (g, x) List.mem_cons_self), putF_end fun q hq => h q (List.mem_cons_of_mem _ hq)]
    rfl
theorem Val.clean {d : D} {kd : Kd} {v : V} (hv : Val c.θ F1 H H1 σ ρ d kd v) (R : Rel c.θ c.F0 c.B L F H σ ρ) (e1 : Ext F H F1 H1) (so : G.clean d kd = true) : ∃ F2, Ext F H F2 H1 ∧ Same F1 F2 ∧ Rep c.θ F2 d v ∧ Rep c.θ (onlyN F2 c.B) d v := by
  rcases Bool.or_eq_true_iff.mp so with z | z
  · have r : Rep c.θ F1 d v := by
      cases kd with
      | sh => exact hv
      | fr => exact ((show FrV c.θ F1 H H1 d v from hv).notFlat z).elim
      | tr n => exact (show TrV c.θ F1 H H1 n d v from hv).flat z
      | «at» i =>
        obtain ⟨_, h2⟩ := (show _ ∧ _ from hv)
        obtain ⟨_, _, _, _, _, _, ro⟩ := R.ow i d h2
        cases ro <;> cases z
    exact ⟨F1, e1, .refl _, r, r.flat z⟩
  · cases kd with
    | sh => cases d <;> cases z
    | tr n => cases d <;> cases z
    | «at» i => cases d <;> cases z
    | fr =>
      obtain ⟨fu, a, o, rfl, n, ha, nf, ro, _⟩ := (show FrV c.θ F1 H H1 d v from hv)
      have nB := R.noneB n
      have at_ : onlyN (upd F1 a o) c.B a = some o := onlyN_at upd_same nB
      refine ⟨upd F1 a o, Ext.freeze e1.sub ha nf H e1.hh n F e1, Same.lay nf, ro.frozen nf fu, ?_⟩
      cases ro with
      | lst rl => exact .lst at_ (repl_flatF z rl)
      | dK l rl => exact .dK at_ l (repl_flatF z rl)
      | dT l rl => exact .dT at_ l (repl_flatF z rl)
      | obj l rl => cases z
theorem gs_fld {i : Nat} {x fn : Str} {fx : Nat → Nat → Bool} {pos' : Pos} (ha : PE X e (tEv c L W f)) (hfx : ∀ k n, fx k n = true → (c.θ.fld k)[n]? = some fn ∧ fn ∉ (c.θ.fld k).take n ∧ Cls X.K (c.θ.C k) ∧ NoAttr X.K (c.θ.C k) fn ∧ n < 1000)
    (hx : Loc X.env.scope x) (hs : swapsWith e (some (.Attribute (.Name x p) fn pos')) pos.line X.env = pure false := by rfl) (hf : X.fn x = true ∨ X.env.scope.names.lookup x = some .local := by exact Or.inl rfl) (hi : X.N[i]? = some x := by rfl) (hd : (x == ("__debug__" : Str)) = false := by decide) (hcd : (x == ("__classdict__" : Str)) = false := by decide) :
    PS X (.Assign [.Attribute (.Name x p) fn pos'] e pos) (tSv c L W (G.sFld fx i f)) := by
  refine ps_ev (ps_fld (pe_var hi (vis_of hx) hd hcd) ha hs) fun E σ H h => ?_
  obtain ⟨F, ρ, R, h⟩ := h
  refine sv_with R h fun d kd v F1 H1 ef e1 hv R1 h1 => ?_
  clear ef h
  replace h1 : ResS c L W F1 E (if clean d kd = true then (match ρ[i]? with
    | some (.me c ds) => if fx c ds.length then .nx (ρ.set i (.me c (ds ++ [d]))) else .no
    | _ => .no) else .no) := h1
  by_cases so : clean d kd = true
  · rw [if_pos so] at h1
    obtain ⟨F2, e2, s2, rp, rpn⟩ := hv.clean R e1 so
    have R2 := R.ext e2
    cases q : ρ[i]? with
    | none => rw [q] at h1; exact h1.elim
    | some sl =>
      rw [q] at h1
      cases sl with
      | me k ds =>
        replace h1 : ResS c L W F1 E (if fx k ds.length then .nx (ρ.set i (.me k (ds ++ [d]))) else .no) := h1
        by_cases qf : fx k ds.length = true
        · rw [if_pos qf] at h1
          obtain ⟨z1, z2, z3, z4, z5⟩ := hfx k _ qf
          obtain ⟨⟨ad, ob, y1, y2, y3, y4, y5, ym, y6⟩, y7⟩ := R2.me i k ds q
          refine ⟨_, y1, ad, ?_⟩
          cases y5 with
          | @obj _ dx xs _ l rl =>
          have lt : ds.length < (c.θ.fld k).length := (List.getElem?_eq_some_iff.mp z1).1
          have lx : ((c.θ.fld k).take ds.length).length = xs.length := by rw [rl.length, List.length_take]; omega
          refine ⟨_, dx, _, rfl, y2, z3, z4, ?_, ?_⟩
          · rw [List.length_zip, lx, Nat.min_self, rl.length]
            exact z5
          · have ep : putF fn v (((c.θ.fld k).take ds.length).zip xs) = ((c.θ.fld k).take (ds ++ [d]).length).zip (xs ++ [v]) := by
              rw [putF_end fun q hq => ?_]
              · rw [List.length_append, List.length_singleton, List.take_succ, z1]
                show _ = (List.take ds.length (c.θ.fld k) ++ [fn]).zip _
                rw [List.zip_append lx]
                rfl
              · intro z
                exact z2 (z ▸ (List.of_mem_zip hq).1)
            rw [ep]
            refine h1 σ F2 _ s2 ?_
            have keep : ∀ {b : Addr} {u : HO}, F2 b = some u → b ≠ ad := fun h z => by
              subst z
              rw [y3] at h
              cases h
            have keepB : ∀ {b : Addr} {u : HO}, c.B b = some u → b ≠ ad := fun h z => by
              subst z
              rw [y4] at h
              cases h
            have R3 := R2.put (F' := F2) (H' := upd H1 ad (.ins (c.θ.C k) dx (((c.θ.fld k).take (ds ++ [d]).length).zip (xs ++ [v])))) (i := i) (v := .ref ad) (sl := .me k (ds ++ [d])) (fun b u h => by rw [upd_ne (keep h)]; exact R2.sub b u h) (fun b u h => by rw [upd_ne (keepB h)]; exact R2.kp b u h) (.refl _) R2.fn
              (fun j a3 o3 hj ho hs3 h3 n3 => ?_) (fun _ h => by cases h) (fun _ h => by cases h) (fun k2 ds2 h => ?_) (fun Z hZ j k3 d2 hj hp b hb => by
                have nb : b ≠ ad := fun z => by
                  subst z
                  exact (hZ j k3 d2 hp).2.2.2.1 i b (.inr ⟨k, ds, q⟩) y1 hb
                exact ⟨upd_ne nb, rfl, fun _ z => by cases z; exact nb rfl⟩) (tp := fun b xs h => by
                rw [upd_ne fun z => ?_]
                · exact h
                · subst z
                  rw [y2] at h
                  cases h)
            · have e : σ.set i (some (.ref ad)) = σ := List.ext_getElem? fun j => by
                by_cases q : i = j
                · subst q
                  rw [List.getElem?_set_self (List.getElem?_eq_some_iff.mp y1).1, y1]
                · rw [List.getElem?_set_ne q]
              rwa [e] at R3
            · have ne : a3 ≠ ad := fun z => by
                subst z
                rcases ho with ⟨d3, hd⟩ | ⟨k3, ds3, hd⟩
                · exact y6 j d3 hd hs3
                · exact y7 j k3 ds3 hj hd
              exact ⟨by rw [upd_ne ne]; exact h3, n3⟩
            · cases h
              exact ⟨⟨ad, _, rfl, upd_same, y3, y4, .obj (by rw [List.length_append, List.length_singleton]; omega) (rl.append (.cons rpn .nil)), ym, fun j _ ⟨d3, hd⟩ => y6 j d3 hd⟩, fun j k' ds' hj => y7 j k' ds' hj⟩
        · rw [if_neg qf] at h1
          exact h1.elim
      | un => exact h1.elim
      | va d => exact h1.elim
      | ow d => exact h1.elim
      | xc => exact h1.elim
      | pv k d => exact h1.elim
  · rw [if_neg so] at h1
    exact h1.elim
/-- C() of an own exception class -/
theorem pmk_own0 {C : Addr} {bmB : List Value} {B newId initId : String} {x : Str} {p pos : Pos} (F : ExcBaseFacts B newId initId bmB) (q : PySem.W.excIn X.K C bmB newId = true) (gC : X.mg x = some (.ref C)) (kC : PySem.W.keepIn X.K (.ref C) = true) (r : Raises X (.ref C)) (hg : Gl X x)
    (hdb : (x == ("__debug__" : Str)) = false := by decide) : L2N.PMk X (.Call (.Name x p) [] [] pos) (fun _ H Q => Q (.ref C) none H) := by
  intro pins s σ H Q I h
  refine wpAny_Call_Name_kw (ld_glob I hg gC ?_ hdb)
  refine PySem.W.callWith_K0 (first := []) I.kIn kC ?_
  obtain ⟨bm, N, nm, qn, bs, hdct, sn, sub, ab, col, dd, k0, k1, k2, k3, k5, mN, hC, hN, hni, T⟩ := exc_obj I.kIn q
  refine wpAny_call_exc_subT F T hC hN hni (fun h' e hm => ?_) (by show 0 ≤ sizeLine; exact Nat.zero_le _)
  exact L2N.mk_of I hm r h (I.hok.gone hm.new)
theorem gs_raise0 {n : Nat} {bmB : List Value} {B newId initId : String} {x : Str} {p pos pos' : Pos} (hc : X.calm = true) (tk : L2N.Takes X W) (F : ExcBaseFacts B newId initId bmB) (q : PySem.W.excIn X.K (c.θ.C n) bmB newId = true) (gC : X.mg x = some (.ref (c.θ.C n))) (kC : PySem.W.keepIn X.K (.ref (c.θ.C n)) = true) (r : Raises X (.ref (c.θ.C n))) (hg : Gl X x)
    (hdb : (x == ("__debug__" : Str)) = false := by decide) : PS X (.Raise (some (.Call (.Name x p) [] [] pos)) none pos') (tSv c L W (sRaise n)) := by
  refine ps_ev (L2N.ps_raise hc tk (pmk_own0 F q gC kC r hg hdb)) fun E σ H h => ?_
  obtain ⟨F, ρ, R, h⟩ := h
  exact h _ _ σ F H (.refl _) R ⟨rfl, rfl⟩
end
end G
namespace G
open PySem PySem.Spec L2
def slots (N : Nat) (ds : List D) : Sl := ds.map .va ++ List.replicate (N - ds.length) .un
/-- what a def of N slots gives -/
def denF (N : Nat) (u : SS) (ds : List D) : Out (D × Bool) := match u (slots N ds) with
  | .nx _ => .ok (.non, false)
  | .rt d .sh _ => .ok (d, false)
  | .rt d (.tr _) _ => .ok (d, false)
  | .rt d _ _ => .ok (d, true)
  | .ex n fs _ => .ex n fs
  | _ => .no
/-- .. an __init__ of class k with nf fields -/
def denI (N k nf : Nat) (u : SS) (ds : List D) : Out (D × Bool) := match u (.me k [] :: slots (N - 1) ds) with
  | .nx ρ => (match ρ[0]? with
    | some (Slot.me k' fs) => if k' = k ∧ fs.length = nf then .ok (.obj k fs, true) else .no
    | _ => .no)
  | .ex n fs _ => .ex n fs
  | _ => .no
section
variable {θ : Th} {F H B F' H' : Hp}
theorem slots_va {N : Nat} {ds : List D} {i : Nat} {d : D} (h : (slots N ds)[i]? = some (.va d)) : ds[i]? = some d := by
  unfold slots at h
  by_cases q : i < (ds.map Slot.va).length
  · rw [List.getElem?_append_left q, List.getElem?_map] at h
    cases z : ds[i]? with
    | none => rw [z] at h; cases h
    | some e => rw [z] at h; cases h; rfl
  · rw [List.getElem?_append_right (by omega)] at h
    have := List.mem_of_getElem? h
    exact absurd (List.eq_of_mem_replicate this) (by intro z; cases z)
theorem slots_no {N : Nat} {ds : List D} {i : Nat} {sl : Slot} (h : (slots N ds)[i]? = some sl) : sl = .un ∨ ∃ d, sl = .va d := by
  have := List.mem_of_getElem? h
  unfold slots at this
  rcases List.mem_append.mp this with z | z
  · obtain ⟨d, _, e⟩ := List.mem_map.mp z
    exact .inr ⟨d, e.symm⟩
  · exact .inl (List.eq_of_mem_replicate z)
theorem start_rel {N : List Str} {vs : List V} {ds : List D} (s : Sub F H) (r : RepL θ F ds vs) : Rel θ F H [] F H (L2.start N vs) (slots N.length ds) := by
  have lv := r.length
  refine ⟨s, fun a u h => .inl h, .refl _, fun a u h => .inl h, ?_, fun i d h => ?_, fun i d h => ?_, fun i d h => ?_, fun i j d e a hn h1 => ?_, fun i k ds' h => ?_, fun i h => ?_, ⟨_, PvAll.empty fun i k d h => ?_⟩⟩
  · unfold L2.start slots
    simp [lv]
  · have h := slots_va h
    obtain ⟨v, h1, h2⟩ := r.get h
    refine ⟨v, ?_, h2⟩
    unfold L2.start
    rw [List.getElem?_append_left (by rw [List.length_map]; exact (List.getElem?_eq_some_iff.mp h1).1), List.getElem?_map, h1]
    rfl
  all_goals first
    | (rcases slots_no h with z | ⟨_, z⟩ <;> cases z; done)
    | (rcases slots_no h1 with z | ⟨_, z⟩ <;> cases z; done)
theorem Rel.same0 {F0 : Hp} {σ : L2.St} {ρ : Sl} (R : Rel θ F0 B [] F' H' σ ρ) : Same B H' := fun a u h => by
  rcases R.kp a u h with z | ⟨z, _⟩
  · exact z
  · cases z
abbrev EnF (Q : VK) : Ends := { nx := fun _ H' => Q .non H', rt := Q }
theorem body_of {N : List Str} {m : Nat} {u : SS} {vs : List V} {Q : VK} {E : XK} (h : spOf θ m (denF N.length u) vs H Q E) : ∃ F, tSv ⟨θ, F, H⟩ [] (fun cls d _ H => E cls d H) u (EnF Q) (L2.start N vs) H := by
  obtain ⟨hl, F, ds, s, r, hf⟩ := h
  refine ⟨F, F, _, start_rel s r, ?_⟩
  unfold denF at hf
  cases q : u (slots N.length ds) with
  | nx ρ' =>
    rw [q] at hf
    exact fun σ' F' H' e R => hf .non F' H' ⟨R.sub, e, R.same0, R.fn⟩ .non
  | bk ρ' => rw [q] at hf; exact hf.elim
  | ct ρ' => rw [q] at hf; exact hf.elim
  | rt d k ρ1 =>
    rw [q] at hf
    cases k with
    | sh => exact fun v σ' F' H' e R hv => hf v F' H' ⟨R.sub, e, R.same0, R.fn⟩ hv
    | fr => exact fun v σ' F' H' e R hv => hf v F' H' ⟨R.sub, e, R.same0, R.fn⟩ hv
    | «at» i => exact fun v σ' F' H' e R hv => hf v F' H' ⟨R.sub, e, R.same0, R.fn⟩ hv
    | tr n =>
      intro v σ' F' H' e R hv
      obtain ⟨F2, x, _, r⟩ := TrV.freeze ⟨R.sub, e, R.same0, R.fn⟩ hv
      exact hf v F2 H' x r
  | ex n fs ρ' =>
    rw [q] at hf
    exact fun cls dd σ' F' H' e R hv => hf cls dd F' H' ⟨R.sub, e, R.same0, R.fn⟩ hv
  | no => rw [q] at hf; exact hf.elim
theorem init_rel {N : List Str} {vs : List V} {ds : List D} {H0 : Hp} {x dx : Addr} {k : Nat} {n : Str} (s : Sub F H0) (nx : H0 x = none) (nd : H0 dx = none) (ne : dx ≠ x) (r : RepL θ F ds vs) :
    Rel θ F (upd H0 dx (.own x)) [x] F (upd (upd H0 dx (.own x)) x (.ins (θ.C k) dx [])) (L2.start (n :: N) (.ref x :: vs)) (.me k [] :: slots N.length ds) := by
  have nx' : upd H0 dx (.own x) x = none := by rw [upd_ne (fun z => ne z.symm)]; exact nx
  have R := start_rel (N := N) (s.lay (o := .own x) nd |>.lay (o := .ins (θ.C k) dx []) nx') r
  have st : L2.start (n :: N) (.ref x :: vs) = some (.ref x) :: L2.start N vs := by
    unfold L2.start
    simp
  rw [st]
  have sc : ∀ {i : Nat} {sl : Slot}, (Slot.me k [] :: slots N.length ds)[i]? = some sl → (i = 0 ∧ sl = .me k []) ∨ ∃ j, i = j + 1 ∧ (slots N.length ds)[j]? = some sl := fun {i sl} h => by
    cases i with
    | zero => exact .inl ⟨rfl, (Option.some.inj h).symm⟩
    | succ j => exact .inr ⟨j, rfl, by simpa using h⟩
  refine ⟨R.sub, fun a u h => .inl ?_, .refl _, fun a u h => .inl h, by simpa using R.len, fun i d h => ?_, fun i d h => ?_, fun i d h => ?_, fun i j d e a hn h1 => ?_, fun i k' ds' h => ?_, fun i h => ?_, ⟨_, PvAll.empty fun i k d h => ?_⟩⟩
  rotate_right
  · rcases sc h with ⟨_, z⟩ | ⟨j, rfl, z⟩
    · cases z
    · rcases slots_no z with z | ⟨_, z⟩ <;> cases z
  · rw [upd_ne]
    · exact h
    · intro z
      subst z
      rw [nx'] at h
      cases h
  · rcases sc h with ⟨_, z⟩ | ⟨j, rfl, z⟩
    · cases z
    · obtain ⟨v, h1, h2⟩ := R.va j d z
      exact ⟨v, by simpa using h1, h2⟩
  · rcases sc h with ⟨_, z⟩ | ⟨j, rfl, z⟩
    · cases z
    · rcases slots_no z with z | ⟨_, z⟩ <;> cases z
  · rcases sc h with ⟨_, z⟩ | ⟨j, rfl, z⟩
    · cases z
    · rcases slots_no z with z | ⟨_, z⟩ <;> cases z
  · rcases sc h1 with ⟨_, z⟩ | ⟨j, rfl, z⟩
    · cases z
    · rcases slots_no z with z | ⟨_, z⟩ <;> cases z
  · rcases sc h with ⟨rfl, z⟩ | ⟨j, rfl, z⟩
    · cases z
      refine ⟨⟨x, _, rfl, upd_same, s.free nx, nx', ?_, by simp, fun j d hj => ?_⟩, fun j k2 ds2 hj z => ?_⟩
      · exact .obj (xs := []) (ds := []) (Nat.zero_le _) .nil
      · rcases sc hj with ⟨_, z⟩ | ⟨j, rfl, z⟩
        · cases z
        · rcases slots_no z with z | ⟨_, z⟩ <;> cases z
      · rcases sc z with ⟨z, _⟩ | ⟨j, rfl, z⟩
        · exact hj z
        · rcases slots_no z with z | ⟨_, z⟩ <;> cases z
    · rcases slots_no z with z | ⟨_, z⟩ <;> cases z
  · rcases sc h with ⟨_, z⟩ | ⟨j, rfl, z⟩
    · cases z
    · rcases slots_no z with z | ⟨_, z⟩ <;> cases z
theorem init_of {N : List Str} {n : Str} {m k nf : Nat} {u : SS} {vs : List V} {Q : VK} {E : XK} (hnf : nf = (θ.fld k).length) (h : spInit θ m k (denI (n :: N).length k nf u) vs H Q E) :
    ∃ F B x, tSv ⟨θ, F, B⟩ [x] (fun cls d _ H => E cls d H) u (EnF Q) (L2.start (n :: N) vs) H := by
  obtain ⟨hl, F, ds, H0, x, dx, us, rfl, nx, nd, ne, rfl, s, r, hf⟩ := h
  refine ⟨F, upd H0 dx (.own x), x, F, _, init_rel s nx nd ne r, ?_⟩
  have nx' : upd H0 dx (.own x) x = none := by rw [upd_ne (fun z => ne z.symm)]; exact nx
  have ext : ∀ {F' H' : Hp} {σ : L2.St} {ρ : Sl}, Same F F' → Rel θ F (upd H0 dx (.own x)) [x] F' H' σ ρ → Ext F H0 F' H' := fun {F' H' σ ρ} e R => by
    refine ⟨R.sub, e, fun a u h => ?_, fun a u h => ?_⟩
    · have hb : upd H0 dx (.own x) a = some u := by rw [upd_ne (ne_of_none h nd)]; exact h
      rcases R.kp a u hb with z | ⟨z, _⟩
      · exact z
      · simp at z
        subst z
        rw [nx] at h
        cases h
    · rcases R.fn a u h with z | z | z
      · exact .inl z
      rotate_left
      · exact .inr (.inr z)
      · refine .inr (.inl ?_)
        by_cases q : a = dx
        · rw [q]; exact nd
        · rwa [upd_ne q] at z
  unfold denI at hf
  replace hf : ResF θ F H0 (fun v H' => v = .ref x → Q .non H') E (match (generalizing := false) u (.me k [] :: slots N.length ds) with
    | .nx ρ => (match ρ[0]? with
      | some (Slot.me k' fs) => if k' = k ∧ fs.length = nf then .ok (.obj k fs, true) else .no
      | _ => .no)
    | .ex n fs _ => .ex n fs
    | _ => .no) := hf
  cases q : u (.me k [] :: slots N.length ds) with
  | nx ρ' =>
    rw [q] at hf
    replace hf : ResF θ F H0 (fun v H' => v = .ref x → Q .non H') E (match (generalizing := false) ρ'[0]? with
      | some (Slot.me k' fs) => if k' = k ∧ fs.length = nf then .ok (.obj k fs, true) else .no
      | _ => .no) := hf
    intro σ' F' H' e R
    cases z : ρ'[0]? with
    | none => rw [z] at hf; exact hf.elim
    | some sl =>
      rw [z] at hf
      cases sl with
      | me k' fs =>
        replace hf : ResF θ F H0 (fun v H' => v = .ref x → Q .non H') E (if k' = k ∧ fs.length = nf then .ok (.obj k fs, true) else .no) := hf
        by_cases y : k' = k ∧ fs.length = nf
        · rw [if_pos y] at hf
          obtain ⟨rfl, y2⟩ := y
          obtain ⟨⟨a, o, g1, g2, g3, g4, g5, g6, _⟩, _⟩ := R.me 0 k' fs z
          have ea : a = x := by simpa using g6
          subst ea
          exact hf (.ref a) F' H' (ext e R) ⟨(y2.trans hnf : fs.length = (θ.fld k').length), a, o, rfl, nx, g2, g3, g5.mono onlyN_le, fun _ => g5.mono (onlyN_mono (.refl _) fun b hb => by
            replace hb : upd H0 dx (.own a) b = none := hb
            by_cases q : b = dx
            · rw [q]; exact nd
            · rwa [upd_ne q] at hb)⟩ rfl
        · rw [if_neg y] at hf
          exact hf.elim
      | un => exact hf.elim
      | va d => exact hf.elim
      | ow d => exact hf.elim
      | xc => exact hf.elim
      | pv k d => exact hf.elim
  | bk ρ' => rw [q] at hf; exact hf.elim
  | ct ρ' => rw [q] at hf; exact hf.elim
  | rt d k ρ1 => rw [q] at hf; exact hf.elim
  | ex n fs ρ' =>
    rw [q] at hf
    exact fun cls dd σ' F' H' e R hv => hf cls dd F' H' (ext e R) hv
  | no => rw [q] at hf; exact hf.elim
end
section
variable {P : Program} {w : World} {K : PySem.W.Frag} {mg : Str → Option Value} {base : Heap} {x qual : Str} {params : Arguments} {body : List Stmt} {scope : Scope} {f : Addr} {fd : FuncData} {θ : Th}
/-- the context of a body -/
abbrev BX (P : Program) (w : World) (K : PySem.W.Frag) (mg : Str → Option Value) (base : Heap) (N : List Str) (qual : Str) (scope : Scope) (f : Addr) (cdv : Value) (A : Around) (outer : List Env) (s : Shared) (H : Hp) (E : XK) : Cx := cxOf (L2N.CX P w) P w K mg base N qual scope f cdv A outer s H E
/-- what is at hand in a body -/
structure BodyOk (X : Cx) (W : WX) (k : Nat) : Prop where
  tk : L2N.Takes X W
  po : PassesOwn (model X.prog X.w) X.A X.env X.xe
  rm : Room k X.A
theorem fn_ok {N ps : List Str} {k m : Nat} {u : SS} (F : FunD K x qual params body scope [] [] f fd) (S : FnScope N ps scope) (hm : m = ps.length)
    (hb : ∀ (cdv : Value) (A : Around) (outer : List Env) (s : Shared) (H : Hp) (E : XK) (F0 B : Hp) (L : List Addr), BodyOk (BX P w K mg base N qual scope f cdv A outer s H E) (fun cls d _ H => E cls d H) k → PSs (BX P w K mg base N qual scope f cdv A outer s H E) body (tSv ⟨θ, F0, B⟩ L (fun cls d _ H => E cls d H) u)) :
    FnOk P w K mg base (L2N.CX P w) (k + 1) f fd ps (spOf θ m (denF N.length u)) := by
  refine F.ok S (fun vs H Q E h => by rw [h.1, hm]) fun cdv A outer s H vs Q E hr h => ?_
  obtain ⟨F0, h⟩ := body_of h
  exact ⟨_, hb cdv A outer s H E F0 H [] ⟨L2N.takes_of rfl rfl rfl rfl, passes_of rfl, hr⟩, h⟩
theorem init_ok {N ps : List Str} {n : Str} {k m cn nf : Nat} {u : SS} (F : FunD K x qual params body scope [] [] f fd) (S : FnScope (n :: N) ps scope) (hm : m + 1 = ps.length) (hnf : nf = (θ.fld cn).length)
    (hb : ∀ (cdv : Value) (A : Around) (outer : List Env) (s : Shared) (H : Hp) (E : XK) (F0 B : Hp) (L : List Addr), BodyOk (BX P w K mg base (n :: N) qual scope f cdv A outer s H E) (fun cls d _ H => E cls d H) k → PSs (BX P w K mg base (n :: N) qual scope f cdv A outer s H E) body (tSv ⟨θ, F0, B⟩ L (fun cls d _ H => E cls d H) u)) :
    FnOk P w K mg base (L2N.CX P w) (k + 1) f fd ps (spInit θ m cn (denI (n :: N).length cn nf u)) := by
  refine F.ok S (fun vs H Q E h => by rw [h.1, hm]) fun cdv A outer s H vs Q E hr h => ?_
  obtain ⟨F0, B, y, h⟩ := init_of hnf h
  exact ⟨_, hb cdv A outer s H E F0 B [y] ⟨L2N.takes_of rfl rfl rfl rfl, passes_of rfl, hr⟩, h⟩
end
end G
namespace G
open PySem PySem.Spec L2
/-- what holds in every context -/
structure XB (X : Cx) (c : Cn) : Prop where
  K : X.K = c.θ.K
  nd : X.N.Nodup
  hu2 : X.A.units + 128 < cLine
/-- .. where no exception is handled -/
structure XC (X : Cx) (c : Cn) : Prop extends XB X c where
  calm : X.calm = true
instance {X : Cx} {c : Cn} : Coe (XC X c) (XB X c) := ⟨XC.toXB⟩
section
variable {X : Cx} {c : Cn} {L : List Addr} {W : WX} {f g h : ES} {a b e d tg iter : Expr} {pos p : Pos} {s : IS} {t u : TSm}
theorem u128 {k : Nat} {A : Around} (r : Room k A) : A.units + 128 < cLine := by have := r.un; omega
theorem XB.hu (x : XB X c) : X.A.units + 64 < cLine := by have := x.hu2; omega
theorem XC.blk (x : XC X c) {s : Shared} {H : Hp} {scope : Scope} {cenv : Env} {fp : List Addr} : XC (X.blk s H scope cenv fp) c := ⟨⟨x.K, x.nd, x.hu2⟩, x.calm⟩
theorem XB.u1 (x : XB X c) : X.A.units + 1 < cLine := by have := x.hu; omega
theorem XB.u0 (x : XB X c) : X.A.units < cLine := by have := x.hu; omega
def OpB (X : Cx) (c : Cn) (o : Operator) (op : D → D → Out (D × Kd)) : Prop := ∃ r, OpR X (binaryOp o) r ∧ ∀ W, OpD c W op r
def OpC (X : Cx) (c : Cn) (o : CmpOp) (op : D → D → Out (D × Kd)) : Prop := ∃ r, OpR X (compareOp o) r ∧ ∀ W, OpD c W op r
theorem ob_add (x : XB X c) : OpB X c .Add oAdd := ⟨_, op_add.or (op_add_str.or (op_cat.or (by rw [← x.K]; exact op_catA))), fun _ => od_add⟩
theorem ob_mul (x : XB X c) : OpB X c .Mult oMul := ⟨_, op_mul.or op_rep, fun _ => od_mul⟩
theorem ob_mod (x : XB X c) : OpB X c .Mod oMod := ⟨_, op_mod, fun _ => od_mod⟩
theorem ob_div (x : XB X c) : OpB X c .FloorDiv oDiv := ⟨_, op_fdiv, fun _ => od_div⟩
theorem ob_pow (x : XB X c) : OpB X c .Pow oPow := ⟨_, op_pow, fun _ => od_pow⟩
theorem oc_eq (x : XB X c) : OpC X c .Eq oEq := ⟨_, op_eq.or (by rw [← x.K]; exact op_eqD x.hu), fun _ => od_eq⟩
theorem oc_ne (x : XB X c) : OpC X c .NotEq oNe := ⟨_, op_ne.or (by rw [← x.K]; exact op_neD x.hu), fun _ => od_ne⟩
theorem oc_lt (x : XB X c) : OpC X c .Lt oLt := ⟨_, op_lt.or (by rw [← x.K]; exact op_ltT x.u0), fun _ => od_lt⟩
theorem oc_gt (x : XB X c) : OpC X c .Gt oGt := ⟨_, op_gt, fun _ => od_gt⟩
theorem oc_ge (x : XB X c) : OpC X c .GtE oGe := ⟨_, op_ge, fun _ => od_ge⟩
theorem g_bin {o : Operator} {op : D → D → Out (D × Kd)} (ho : OpB X c o op) (ha : PE X a (tEv c L W f)) (hb : PE X b (tEv c L W g)) : PE X (.BinOp a o b pos) (tEv c L W (eBin op f g)) := by
  obtain ⟨r, h1, h2⟩ := ho
  exact pg_bin h1 (h2 W) ha hb
theorem g_cmp {o : CmpOp} {op : D → D → Out (D × Kd)} (ho : OpC X c o op) (ha : PE X a (tEv c L W f)) (hb : PE X b (tEv c L W g)) (hm : behindInMarks o b = false := by rfl) : PE X (.Compare a [o] [b] pos) (tEv c L W (eBin op f g)) := by
  obtain ⟨r, h1, h2⟩ := ho
  exact pg_cmp h1 hm (h2 W) ha hb
theorem t_cmp {o : CmpOp} {op : D → D → Out (D × Kd)} (ho : OpC X c o op) (ha : PE X a (tEv c L W f)) (hb : PE X b (tEv c L W g)) (hm : behindInMarks o b = false := by rfl) : PT X (.Compare a [o] [b] pos) (tTv c L W (tBl (eBin op f g))) := by
  obtain ⟨r, h1, h2⟩ := ho
  exact pgt_cmp h1 hm (h2 W) ha hb
theorem g_var (i : Nat) {x : Str} (hv : Vis X.env.scope x) (hN : X.N[i]? = some x := by rfl) (hd : (x == ("__debug__" : Str)) = false := by rfl) (hcd : (x == ("__classdict__" : Str)) = false := by rfl) : PE X (.Name x pos) (tEv c L W (eVar i)) := pg_var hN hv hd hcd
theorem g_int {i : Int} {j : Nat} : PE X (.Constant (.int i) j pos) (tEv c L W (eC (.int i))) := pg_const pe_int fun _ _ => .int _
theorem g_str {i : Str} {j : Nat} : PE X (.Constant (.str i) j pos) (tEv c L W (eC (.str i))) := pg_const pe_str fun _ _ => .str _
theorem g_bl {i : Bool} {j : Nat} : PE X (.Constant (.bool i) j pos) (tEv c L W (eC (.bl i))) := pg_const pe_bl fun _ _ => .bl _
theorem g_globI {x : Str} {i : Int} (hm : ∃ t, X.mg x = some (.int i t)) (hg : Gl X x := by rfl) (hd : (x == ("__debug__" : Str)) = false := by rfl) : PE X (.Name x pos) (tEv c L W (eC (.int i))) := by
  obtain ⟨t, hm⟩ := hm
  exact pg_const (pe_glob (v := .int i) hg hm ⟨t, rfl⟩ hd) fun _ _ => .int _
theorem g_cons {es : List Expr} {fs : List ES} (ha : PE X e (tEv c L W f)) (hr : PA X es (tAv c L W fs)) (hs : starEach (e :: es) X.env = (false, eval e X.env) :: starEach es X.env := by rfl) : PA X (e :: es) (tAv c L W (f :: fs)) := pga_cons ha hr hs
theorem g_ix (x : XB X c) (ha : PE X a (tEv c L W f)) (hb : PE X b (tEv c L W g)) (hs : PlainIx b := by exact fun _ _ => rfl) : PE X (.Subscript a b pos) (tEv c L W (eBin oIx f g)) := pg_ix x.u1 x.K ha hb hs
theorem g_sl {p2 : Pos} {lo hi : Option Expr} {fl fh : Option ES} (x : XB X c) (ha : PE X a (tEv c L W f)) (hl : PO X lo (tPo c L W fl)) (hh : PO X hi (tPo c L W fh)) : PE X (.Subscript a (.Slice lo hi none p2) pos) (tEv c L W (eSl f fl fh)) := pg_sl x.K ha hl hh
theorem g_fld {n : Str} {fx : Nat → Option Nat} (x : XB X c) (T : FldOk c n fx) (ha : PE X a (tEv c L W f)) (hb : attributeBase a n X.env (eval a X.env) = eval a X.env := by rfl) : PE X (.Attribute a n pos) (tEv c L W (eUn (oFld fx) f)) := pg_fld T x.K ha hb
theorem t_tru (x : XB X c) (ha : PE X a (tEv c L W f)) (he : ∀ whole, isTrue a X.env whole = (do let v ← whole; standAt a.pos; holding [v] (truthy v)) := by exact fun _ => rfl) : PT X a (tTv c L W (tTru f)) := pgt_tru ha he x.K
theorem t_pw (h : PW X e (tTv c L W t)) : PT X e (tTv c L W t) := h.pt
def BiF (X : Cx) (c : Cn) (b : Bi) (x : Str) : Prop := (∃ id r, bootBuiltins x = some (.builtin id) ∧ CallR X (.builtin id) r ∧ ∀ W, BiD c W b r) ∨ ∃ id r, bootBuiltins x = some (.type id) ∧ CallR X (.type id) r ∧ ∀ W, BiD c W b r
theorem call_lenK : CallR X (.builtin "len") (fun xs H Q => ∃ a kvs, xs = [V.ref a] ∧ Rd H a (.dK kvs) ∧ Q (.int (kvs.length : Nat)) H) := by
  intro pins s σ H xs us Q I r h
  obtain ⟨a, kvs, rfl, ha, q⟩ := h
  obtain ⟨u, rfl, ru⟩ := vals1 r
  cases ru
  exact d_len I ha fun t s' I' => ⟨.int kvs.length, H, I', ⟨t, rfl⟩, q⟩
theorem call_lenT : CallR X (.builtin "len") (fun xs H Q => ∃ a kvs, xs = [V.ref a] ∧ Rd H a (.dT kvs) ∧ Q (.int (kvs.length : Nat)) H) := by
  intro pins s σ H xs us Q I r h
  obtain ⟨p, kvs, rfl, hp, q⟩ := h
  obtain ⟨u, rfl, rx⟩ := vals1 r
  obtain rfl : u = .ref p := rx
  obtain ⟨z, hd, ys, rel, dd⟩ := dt_rd I.hok hp
  have hl : kvs.length = ys.length := Paired.length rel
  refine call_len_dictH hd dd (by rw [← hl]; rw [sizeLine_eq] at z; omega) ?_
  rw [← hl]
  exact ⟨.int ((kvs.length : Nat) : Int), H, I.tok _, ⟨_, rfl⟩, q⟩
theorem bf_len (x : XB X c) : BiF X c .len "len" := .inl ⟨_, _, by decide +kernel, (by rw [← x.K]; exact call_len : CallR X (.builtin "len") (fun xs H Q => ∃ x n, xs = [x] ∧ LenV c.θ.K x H n ∧ Q (.int n) H)).or (call_lenK.or call_lenT), fun _ => bd_len⟩
theorem bf_abs (x : XB X c) : BiF X c .abs "abs" := .inl ⟨_, _, by decide +kernel, call_abs, fun _ => bd_abs⟩
theorem bf_list (x : XB X c) : BiF X c .list "list" := .inr ⟨_, _, by decide +kernel, (by rw [← x.K]; exact call_list_of : CallR X (.type "list") (fun xs H Q => ∃ p ys, xs = [.ref p] ∧ (SqL c.θ.K H p ys ∨ SqT c.θ.K H p ys) ∧ ∀ l, H l = none → Q (.ref l) (upd H l (.lst ys)))), fun _ => bd_list⟩
theorem g_bi {bi : Bi} {x : Str} {es : List Expr} {fs : List ES} (hb : BiF X c bi x) (hm : X.mg x = none) (ha : PA X (e :: es) (tAv c L W fs)) (hg : Gl X x := by rfl) (hn : x ≠ "__name__" := by decide) (hdb : (x == ("__debug__" : Str)) = false := by rfl)
    (he : starEach (e :: es) X.env = (false, eval e X.env) :: starEach es X.env := by rfl) (hpl : (backTo pos (starEach es X.env)).any (·.1) = false := by rfl) : PE X (.Call (.Name x p) (e :: es) [] pos) (tEv c L W (eBi bi fs)) := by
  rcases hb with ⟨id, r, h1, h2, h3⟩ | ⟨id, r, h1, h2, h3⟩
  · exact pg_bi h2 (h3 W) hg hm h1 ha hn hdb he hpl
  · exact pg_biTy h2 (h3 W) hg hm h1 ha hn hdb he hpl
/-- a def of m parameters that gives R; k: its depth -/
structure CallOk (X : Cx) (θ : Th) (k : Nat) (fa : Addr) (m : Nat) (R : List D → Out (D × Bool)) : Prop where
  ok : ∃ fd ps, FnOk X.prog X.w X.K X.mg X.base (L2N.CX X.prog X.w) k fa fd ps (spOf θ m R) ∧ Binds X.K fd ps [] ∧ PySem.W.keepIn X.K (.ref fa) = true
def eFn (R : List D → Out (D × Bool)) (fs : List ES) : ES := eCall (fun _ => R) 0 fs
theorem g_call {R : List D → Out (D × Bool)} {k k' m : Nat} {fa : Addr} {x : Str} {es : List Expr} {fs : List ES} (F : CallOk X c.θ k fa m R) (hr : Room k' X.A) (hk : k ≤ k') (tk : L2N.Takes X W) (hm : X.mg x = some (.ref fa)) (ha : PA X (e :: es) (tAv c L W fs)) (hl : fs.length = m := by rfl) (hg : Gl X x := by rfl)
    (hdb : (x == ("__debug__" : Str)) = false := by rfl) (he : starEach (e :: es) X.env = (false, eval e X.env) :: starEach es X.env := by rfl) (hpl : (backTo pos (starEach es X.env)).any (·.1) = false := by rfl) : PE X (.Call (.Name x p) (e :: es) [] pos) (tEv c L W (eFn R fs)) := by
  obtain ⟨fd, ps, F, hb, hkp⟩ := F.ok
  exact pg_call (Γ := fun _ => R) (n := 0) F (hr.mono hk) hg hm hkp hb tk ha hl hdb he hpl
structure MakeOk (X : Cx) (θ : Th) (k cn : Nat) (m : Nat) (R : List D → Out (D × Bool)) : Prop where
  ok : ∃ fa fd ps, FnOk X.prog X.w X.K X.mg X.base (L2N.CX X.prog X.w) k fa fd ps (spInit θ m cn R) ∧ Binds X.K fd ps [] ∧ Mk X.K (θ.C cn) fa
theorem g_make {R : List D → Out (D × Bool)} {k k' m cn : Nat} {x : Str} {es : List Expr} {fs : List ES} (F : MakeOk X c.θ k cn m R) (hr : Room k' X.A) (hk : k + 1 ≤ k') (tk : L2N.Takes X W) (hm : X.mg x = some (.ref (c.θ.C cn))) (ha : PA X (e :: es) (tAv c L W fs)) (hl : fs.length = m := by rfl) (hg : Gl X x := by rfl)
    (hdb : (x == ("__debug__" : Str)) = false := by rfl) (he : starEach (e :: es) X.env = (false, eval e X.env) :: starEach es X.env := by rfl) (hpl : (backTo pos (starEach es X.env)).any (·.1) = false := by rfl) : PE X (.Call (.Name x p) (e :: es) [] pos) (tEv c L W (eFn R fs)) := by
  obtain ⟨fa, fd, ps, F, hb, M⟩ := F.ok
  exact pg_make (Γ := fun _ => R) (n := 0) M F (hr.mono hk) hg hm hb tk ha hl hdb he hpl
/-- a method: by the class's number -/
abbrev MTab := List (Nat × (List D → Out (D × Bool)))
def mGam (l : MTab) : Gam := fun n => match l.lookup n with
  | some R => R
  | none => fun _ => .no
def mIx (l : MTab) : Nat → Option Nat := fun n => match l.lookup n with
  | some _ => some n
  | none => none
def eM (l : MTab) (f : ES) (fs : List ES) : ES := eMeth (mGam l) (mIx l) f fs
structure MetOk (X : Cx) (θ : Th) (k cn : Nat) (m : Str) (l : Nat) (R : List D → Out (D × Bool)) : Prop where
  ok : ∃ fa fd ps, FnOk X.prog X.w X.K X.mg X.base (L2N.CX X.prog X.w) k fa fd ps (spOf θ (l + 1) R) ∧ Cls X.K (θ.C cn) ∧ Meth X.K (θ.C cn) m fa ∧ Binds X.K fd ps [] ∧ m ∉ θ.fld cn
theorem methOk_of {l : MTab} {m : Str} {n k : Nat} (hr : Room k X.A) (h : ∀ q ∈ l, ∃ k', k' ≤ k ∧ MetOk X c.θ k' q.1 m n q.2) : MethOk X c (mGam l) m (mIx l) n := by
  refine ⟨fun cn j hj => ?_⟩
  unfold mIx at hj
  cases q : l.lookup cn with
  | none => rw [q] at hj; cases hj
  | some R =>
    rw [q] at hj
    cases hj
    have mem : (cn, R) ∈ l := by
      clear h
      induction l with
      | nil => cases q
      | cons z r ih =>
        rw [List.lookup_cons] at q
        cases e : cn == z.1 with
        | true =>
          rw [e] at q
          cases q
          rw [beq_iff_eq.mp e]
          exact List.mem_cons_self
        | false =>
          rw [e] at q
          exact List.mem_cons_of_mem _ (ih q)
    obtain ⟨k', hk, fa, fd, ps, F, c1, m1, b1, n1⟩ := h _ mem
    refine ⟨fa, fd, ps, k', ?_, hr.mono hk, c1, m1, b1, n1⟩
    have e : mGam l cn = R := by
      unfold mGam
      rw [q]
    rw [e]
    exact F
theorem g_meth {l : MTab} {pl : Sem Bool} {o : Expr} {m : Str} {apos : Pos} {es : List Expr} {fs : List ES} {k n : Nat} (hr : Room k X.A) (tk : L2N.Takes X W) (h : ∀ q ∈ l, ∃ k', k' ≤ k ∧ MetOk X c.θ k' q.1 m n q.2) (ho : PE X o (tEv c L W f)) (ha : PA X (e :: es) (tAv c L W fs)) (hl : fs.length = n := by rfl)
    (hst : starEach (e :: es) X.env = (false, eval e X.env) :: starEach es X.env := by rfl) (hpl : (backTo pos (starEach es X.env)).any (·.1) = false := by rfl)
    (ht : eval (.Call (.Attribute o m apos) (e :: es) [] pos) X.env = (do
      let ov ← eval o X.env
      standAt apos.atName
      let (f, first) ← holding [ov] (getMethod ov m pl)
      callWith pos f first (backTo pos (starEach (e :: es) X.env)) (backToKw pos (keywordEach [] X.env))) := by rfl) : PE X (.Call (.Attribute o m apos) (e :: es) [] pos) (tEv c L W (eM l f fs)) :=
  pg_meth (pl := pl) (by rw [hl]; exact methOk_of hr h) tk ho ha hst hpl ht
theorem g_meth0 {l : MTab} {pl : Sem Bool} {o : Expr} {m : Str} {apos : Pos} {k : Nat} (hr : Room k X.A) (tk : L2N.Takes X W) (h : ∀ q ∈ l, ∃ k', k' ≤ k ∧ MetOk X c.θ k' q.1 m 0 q.2) (ho : PE X o (tEv c L W f))
    (ht : eval (.Call (.Attribute o m apos) [] [] pos) X.env = (do
      let ov ← eval o X.env
      standAt apos.atName
      let (f, first) ← holding [ov] (getMethod ov m pl)
      callWith pos f first (backTo pos (starEach [] X.env)) (backToKw pos (keywordEach [] X.env))) := by rfl) : PE X (.Call (.Attribute o m apos) [] [] pos) (tEv c L W (eM l f [])) :=
  pg_meth0 (pl := pl) (methOk_of hr h) tk ho ht
theorem i_list {st : Bool} (x : XB X c) (ha : PE X iter (tEv c L W f)) : PI X tg iter (tIv c L W st (itE st f)) := gi_list x.K ha
theorem i_r1 {st : Bool} (hm : X.mg "range" = none) (ha : PE X a (tEv c L W f)) (hg : Gl X "range" := by rfl) (hs : starEach [a] X.env = (false, eval a X.env) :: starEach [] X.env := by rfl) : PI X tg (.Call (.Name "range" p) [a] [] pos) (tIv c L W st (itR1 f)) := gi_r1 hg hm ha hs
theorem t_name (x : XB X c) (i : Nat) {n : Str} (hx : Loc X.env.scope n) (hf : X.fn n = true ∨ X.env.scope.names.lookup n = some .local) (hi : X.N[i]? = some n := by rfl) : PG X (.Name n pos) (gTv c L (.one i)) := gg_name x.nd hi hx hf
theorem ts_cons {es : List Expr} {t : Tg} {ts : List Tg} (h1 : PG X e (gTv c L t)) (h2 : PGs X es (gTvs c L ts)) (hs : (assignEach (e :: es) X.env).map (·.2) = assign e X.env :: (assignEach es X.env).map (·.2) := by rfl) : PGs X (e :: es) (gTvs c L (t :: ts)) := ggs_cons h1 h2 hs
theorem t_tup {es : List Expr} {k n : Nat} {ts : List Tg} (x : XC X c) (h : PGs X es (gTvs c L ts)) (hl : ts.length = n := by rfl) (hn : (assignEach es X.env).length = n := by rfl) (hst : (assignEach es X.env).findIdx? (·.1) = none := by rfl) : PG X (.Tuple es k pos) (gTv c L (.tup ts)) := gg_tup x.calm x.K h hn hst hl
end
end G
namespace G
open PySem PySem.Spec L2
def AllL {α : Type} (P : α → Prop) : List α → Prop
  | [] => True
  | a :: l => P a ∧ AllL P l
theorem AllL.mem {α : Type} {P : α → Prop} : ∀ {l : List α}, AllL P l → ∀ q ∈ l, P q
  | a :: l, h, q, hq => by
    rcases List.mem_cons.mp hq with rfl | z
    · exact h.1
    · exact AllL.mem h.2 q z
/-- a def of the text that gives R -/
def Fine (P : Program) (w : World) (K : PySem.W.Frag) (mg : Str → Option Value) (base : Heap) (θ : Th) (k : Nat) (d : He.DefD) (m : Nat) (R : List D → Out (D × Bool)) : Prop :=
  ∃ fd ps, FnOk P w K mg base (L2N.CX P w) k (He.fAd K d.at_) fd ps (spOf θ m R) ∧ Binds K fd ps [] ∧ PySem.W.keepIn K (.ref (He.fAd K d.at_)) = true
def FineI (P : Program) (w : World) (K : PySem.W.Frag) (mg : Str → Option Value) (base : Heap) (θ : Th) (k cn : Nat) (d : He.DefD) (m : Nat) (R : List D → Out (D × Bool)) : Prop :=
  ∃ fd ps, FnOk P w K mg base (L2N.CX P w) k (He.fAd K d.at_) fd ps (spInit θ m cn R) ∧ Binds K fd ps []
section
variable {X : Cx} {c : Cn} {L : List Addr} {W : WX} {f g h : ES} {a b e d tg iter : Expr} {pos p : Pos}
theorem Fine.call {θ : Th} {k m : Nat} {dd : He.DefD} {R : List D → Out (D × Bool)} (F : Fine X.prog X.w X.K X.mg X.base θ k dd m R) : CallOk X θ k (He.fAd X.K dd.at_) m R := by
  obtain ⟨fd, ps, h1, h2, h3⟩ := F
  exact ⟨fd, ps, h1, h2, h3⟩
theorem FineI.make {θ : Th} {k cn m : Nat} {dd : He.DefD} {R : List D → Out (D × Bool)} (F : FineI X.prog X.w X.K X.mg X.base θ k cn dd m R) (M : Mk X.K (θ.C cn) (He.fAd X.K dd.at_)) : MakeOk X θ k cn m R := by
  obtain ⟨fd, ps, h1, h2⟩ := F
  exact ⟨_, fd, ps, h1, h2, M⟩
theorem Fine.met {θ : Th} {k cn l : Nat} {dd : He.DefD} {m : Str} {R : List D → Out (D × Bool)} (F : Fine X.prog X.w X.K X.mg X.base θ k dd (l + 1) R) (c1 : Cls X.K (θ.C cn)) (m1 : Meth X.K (θ.C cn) m (He.fAd X.K dd.at_)) (n1 : m ∉ θ.fld cn) : MetOk X θ k cn m l R := by
  obtain ⟨fd, ps, h1, h2, _⟩ := F
  exact ⟨_, fd, ps, h1, c1, m1, h2, n1⟩
/-- a field's place by the class's number -/
def fxT (l : List (Nat × Nat)) : Nat → Option Nat := fun n => l.lookup n
theorem lookup_memN {α : Type} {n : Nat} {r : α} : ∀ {l : List (Nat × α)}, l.lookup n = some r → (n, r) ∈ l
  | (k, v) :: l, h => by
    rw [List.lookup_cons] at h
    cases e : n == k with
    | true =>
      rw [e] at h
      cases h
      rw [beq_iff_eq.mp e]
      exact List.mem_cons_self
    | false =>
      rw [e] at h
      exact List.mem_cons_of_mem _ (lookup_memN h)
theorem fldOk_of {x : Str} {l : List (Nat × Nat)} (h : AllL (fun q : Nat × Nat => Cls c.θ.K (c.θ.C q.1) ∧ NoAttr c.θ.K (c.θ.C q.1) x ∧ (c.θ.fld q.1)[q.2]? = some x ∧ (c.θ.fld q.1).Nodup) l) : FldOk c x (fxT l) :=
  ⟨fun n i hi => h.mem _ (lookup_memN hi)⟩
def fxOne (cn i : Nat) : Nat → Nat → Bool := fun k n => k == cn && n == i
theorem fx_of {K : PySem.W.Frag} {θ : Th} {cn i : Nat} {fn : Str} (h1 : (θ.fld cn)[i]? = some fn) (h2 : fn ∉ (θ.fld cn).take i) (h3 : Cls K (θ.C cn)) (h4 : NoAttr K (θ.C cn) fn) (h5 : i < 1000) :
    ∀ k n, fxOne cn i k n = true → (θ.fld k)[n]? = some fn ∧ fn ∉ (θ.fld k).take n ∧ Cls K (θ.C k) ∧ NoAttr K (θ.C k) fn ∧ n < 1000 := fun k n h => by
  obtain ⟨e1, e2⟩ := Bool.and_eq_true_iff.mp h
  obtain rfl := beq_iff_eq.mp e1
  obtain rfl := beq_iff_eq.mp e2
  exact ⟨h1, h2, h3, h4, h5⟩
theorem g_mt {l : MTab} {pl : Sem Bool} {o : Expr} {m : Str} {apos : Pos} {es : List Expr} {fs : List ES} {k n : Nat} (hr : Room k X.A) (tk : L2N.Takes X W) (h : AllL (fun q : Nat × (List D → Out (D × Bool)) => ∃ k', k' ≤ k ∧ MetOk X c.θ k' q.1 m n q.2) l) (ho : PE X o (tEv c L W f)) (ha : PA X (e :: es) (tAv c L W fs)) (hl : fs.length = n := by rfl)
    (hst : starEach (e :: es) X.env = (false, eval e X.env) :: starEach es X.env := by rfl) (hpl : (backTo pos (starEach es X.env)).any (·.1) = false := by rfl)
    (ht : eval (.Call (.Attribute o m apos) (e :: es) [] pos) X.env = (do
      let ov ← eval o X.env
      standAt apos.atName
      let (f, first) ← holding [ov] (getMethod ov m pl)
      callWith pos f first (backTo pos (starEach (e :: es) X.env)) (backToKw pos (keywordEach [] X.env))) := by rfl) : PE X (.Call (.Attribute o m apos) (e :: es) [] pos) (tEv c L W (eM l f fs)) := g_meth hr tk h.mem ho ha hl hst hpl ht
theorem g_mt0 {l : MTab} {pl : Sem Bool} {o : Expr} {m : Str} {apos : Pos} {k : Nat} (hr : Room k X.A) (tk : L2N.Takes X W) (h : AllL (fun q : Nat × (List D → Out (D × Bool)) => ∃ k', k' ≤ k ∧ MetOk X c.θ k' q.1 m 0 q.2) l) (ho : PE X o (tEv c L W f))
    (ht : eval (.Call (.Attribute o m apos) [] [] pos) X.env = (do
      let ov ← eval o X.env
      standAt apos.atName
      let (f, first) ← holding [ov] (getMethod ov m pl)
      callWith pos f first (backTo pos (starEach [] X.env)) (backToKw pos (keywordEach [] X.env))) := by rfl) : PE X (.Call (.Attribute o m apos) [] [] pos) (tEv c L W (eM l f [])) := g_meth0 hr tk h.mem ho ht
theorem g_raise {n : Nat} {x : Str} {pos' : Pos} (xc : XC X c) (tk : L2N.Takes X W) (gC : X.mg x = some (.ref (c.θ.C n))) (e : PySem.W.excIn X.K (c.θ.C n) He.veBase "ValueError.__new__" = true ∧ PySem.W.keepIn X.K (.ref (c.θ.C n)) = true ∧ PySem.W.subIn X.K (.ref (c.θ.C n)) (.type "BaseException") = some true ∧ PySem.W.typeIn X.K (.ref (c.θ.C n)) = some (.type "type"))
    (hg : Gl X x := by rfl) (hdb : (x == ("__debug__" : Str)) = false := by rfl) : PS X (.Raise (some (.Call (.Name x p) [] [] pos)) none pos') (tSv c L W (sRaise n)) :=
  gs_raise0 xc.calm tk PySem.F.excBase_ValueError e.1 gC e.2.1 (raises_own e.2.2.1 e.2.2.2) hg hdb
end
/-- the law's promise -/
theorem law_sp {θ : Th} {R : List D → Out (D × Bool)} {n : Nat} (h : ∀ ns : List Int, ns.length ≤ n → R [.frl ns] = .ok (.bl true, false)) (H : Hp) (a : Addr) (ns : List Int) (hl : ns.length ≤ n) (hS : SqL θ.K H a (ns.map V.int)) :
    spOf θ 1 R [.ref a] H (fun v _ => v = .bl true) fun _ _ _ => False := by
  refine ⟨rfl, H, [.frl ns], fun _ _ h => .inl h, .cons (.frl hS) .nil, ?_⟩
  rw [h ns hl]
  intro v F' H' _ hv
  cases hv
  rfl
/-- nothing leaves where no wish is met -/
theorem cx_never {P : Program} {w : World} (H : Hp) (s : Shared) (e : Value) (s' : Shared) : L2N.CX P w [] H s (fun _ _ _ => False) e s' → False := fun ⟨_, _, _, _, _, _, _, _, _, _, _, _, h⟩ => h
end G
namespace G
open PySem PySem.Spec L2
/-- what may leave, in any world -/
def CXW (P : Program) : CXT := fun outer H s E u s' => ∃ w, L2N.CX P w outer H s E u s'
theorem wcx {P : Program} {w : World} {K : PySem.W.Frag} {mg : Str → Option Value} {base : Heap} {k : Nat} {f : Addr} {fd : FuncData} {ps : List Str} {sp : Sp} (F : FnOk P w K mg base (L2N.CX P w) k f fd ps sp) : FnOk P w K mg base (CXW P) k f fd ps sp :=
  ⟨F.len, fun A outer s H args us vs Q E hr he hb hv hs => codeAny_mono (F.run A outer s H args us vs Q E hr he hb hv hs) fun r s' h => by
    cases r with
    | error e => exact ⟨w, h⟩
    | ok fl => cases fl <;> exact h⟩
theorem cxw_never {P : Program} (H : Hp) (s : Shared) (e : Value) (s' : Shared) : CXW P [] H s (fun _ _ _ => False) e s' → False := fun ⟨w, h⟩ => cx_never H s e s' h
end G
namespace G
open PySem PySem.Spec L2
end G
namespace G
open PySem PySem.Spec L2
def sNo : SS := fun _ => .no
def eDT : ES := fun _ => .ok (.dT [] [], .fr)
def oNiD : D → D → Out (D × Kd) := fun k d => match dGet d k with
  | some r => shr (.bl (!r.isSome))
  | none => .no
section
variable {X : Cx} {c : Cn} {L : List Addr} {W : WX} {f g h : ES} {a b e d tg iter : Expr} {pos p : Pos}
theorem RepL.reverse {θ : Th} {F : Hp} : ∀ {ds : List D} {xs : List V}, RepL θ F ds xs → RepL θ F ds.reverse xs.reverse
  | _, _, .nil => .nil
  | _, _, .cons r t => by
    rw [List.reverse_cons, List.reverse_cons]
    exact (RepL.reverse t).append (.cons r .nil)
theorem g_dT : PE X (.Dict [] [] pos) (tEv c L W eDT) := by
  refine pe_ev pe_dnewT fun σ H Q h => ?_
  obtain ⟨F, ρ, R, h⟩ := of_tEv h
  intro q hq
  exact h _ F _ (Ext.lay R.sub hq) ⟨trivial, q, _, rfl, hq, upd_same, R.sub.free hq, .dT (xs := []) rfl .nil, Nw.of rfl⟩
theorem lookK_valV {θ : Th} {F : Hp} {κ : Type} [DecidableEq κ] {k : κ} : ∀ {ks : List κ} {ds : List D} {xs : List V}, RepL θ F ds xs → (valV (ks.zip xs) k).isSome = (lookK ks ds k).isSome
  | [], _, _, _ => rfl
  | _ :: _, _, _, .nil => rfl
  | x :: ks, _, _, .cons (d := d) (v := v) r t => by
    by_cases q : x = k
    · rw [List.zip_cons_cons, valV_pos q]
      unfold lookK
      rw [if_pos q]
      rfl
    · rw [List.zip_cons_cons, valV_neg q]
      unfold lookK
      rw [if_neg q]
      exact lookK_valV t
theorem dget_some {σ : L2.St} {ρ : Sl} {F H : Hp} {Q : VK} {dk dd : D} {vk vd : V} {r : Option D} (s : Sub F H) (rk : Rd1 c.θ F H dk vk) (rd : Rd1 c.θ F H dd vd) (q : dGet dd dk = some r) : ∃ a o, vd = .ref a ∧ DGet H a vk o ∧ o.isSome = r.isSome := by
  cases dd <;> first | (cases q; done) | skip
  · rename_i ks ds
    obtain ⟨a, xs, rfl, l, rl, ha⟩ := rd.dK s
    replace q : (keyOf dk).map (fun x => lookK ks ds x) = some r := q
    cases qk : keyOf dk with
    | none => rw [qk] at q; cases q
    | some k =>
      rw [qk] at q
      cases q
      exact ⟨a, _, rfl, .inl ⟨_, k, ha, keyOf_v qk rk, rfl⟩, lookK_valV rl⟩
  · rename_i ks ds
    obtain ⟨a, xs, rfl, l, rl, ha⟩ := rd.dT s
    replace q : (tkeyOf dk).map (fun x => lookK ks ds x) = some r := q
    cases qk : tkeyOf dk with
    | none => rw [qk] at q; cases q
    | some k =>
      rw [qk] at q
      cases q
      obtain ⟨b, rfl, hb⟩ := tkeyOf_v s qk rk
      exact ⟨a, _, rfl, .inr ⟨_, k, b, ha, rfl, hb, rfl⟩, lookK_valV rl⟩
theorem rd_niD {σ : L2.St} {H : Hp} {Q : VK} (h : tEv c L W (eBin oNiD f g) σ H Q) : tDNotIn (tEv c L W f) (tEv c L W g) σ H Q := by
  obtain ⟨F, ρ, R, h⟩ := of_tEv h
  refine ev_bind R h fun d k v F1 H1 _ e1 rd1 _ R1 h1 => ?_
  refine ev_bind R1 h1 fun d2 k2 y F2 H2 _ e2 rd2 _ R2 h2 => ?_
  replace h2 : Res c W σ ρ F2 H2 Q (match dGet d2 d with
    | some r => shr (.bl (!r.isSome))
    | none => .no) := h2
  cases q : dGet d2 d with
  | none => rw [q] at h2; exact h2.elim
  | some r =>
    rw [q] at h2
    obtain ⟨a, o, e, g1, g2⟩ := dget_some (σ := σ) (ρ := ρ) (Q := Q) R2.sub (rd1.ext e2) rd2 q
    refine ⟨a, o, e, g1, ?_⟩
    rw [g2]
    exact h2.bl R2.sub
theorem t_niD (x : XB X c) (ha : PE X a (tEv c L W f)) (hb : PE X b (tEv c L W g)) (hm : behindInMarks .NotIn b = false := by rfl) : PT X (.Compare a [.NotIn] [b] pos) (tTv c L W (tBl (eBin oNiD f g))) := pgt_of_bool (pt_cmp (pc_dnotin x.u1 ha hb) hm) fun σ H Q h => rd_niD h
end
end G
namespace G
open PySem PySem.Spec L2
def unX : Slot → Slot
  | .me _ _ => .un
  | .xc => .un
  | s => s
def clr (i : Nat) (s : Slot) (ρ : Sl) : Sl := (ρ.map unX).set i s
def fOut (i : Nat) : Fl → Fl
  | .nx ρ => .nx (clr i .un ρ)
  | .bk ρ => .bk (clr i .un ρ)
  | .ct ρ => .ct (clr i .un ρ)
  | .rt d k ρ => .rt d k (clr i .un ρ)
  | _ => .no
/-- try: u, except C as x_i: su; hit: is it of the class C? -/
def sTry (i : Nat) (hit : Nat → Option Bool) (u : SS) (su : Nat → List D → SS) : SS := fun ρ => match u ρ with
  | .ex n fs ρ' => match hit n with
    | some true => fOut i (su n fs (clr i .xc ρ'))
    | some false => .ex n fs ρ'
    | none => .no
  | o => o
def eIsE (hit : Nat → Option Bool) (i n : Nat) : ES := fun ρ => match ρ[i]? with
  | some .xc => match hit n with
    | some b => .ok (.bl b, .sh)
    | none => .no
  | _ => .no
end G
namespace G
open PySem PySem.Spec L2 L2H
def eCallX (R : Nat → Out (D × Bool)) (i n : Nat) : ES := fun ρ => match ρ[i]? with
  | some .xc => match R n with
    | .ok (d, b) => .ok (d, if b = true then .fr else .sh)
    | _ => .no
  | _ => .no
def suN (s : Nat → SS) : Nat → List D → SS := fun k fs => match fs with
  | [] => s k
  | _ => sNo
end G
namespace G
open PySem PySem.Spec L2 He PyProof.Rows
def oexB (K : PySem.W.Frag) (C : Addr) : Bool := match K.lookup C with
  | some ⟨.type "type", _, .cls cd, sl⟩ => (match cd.mro, sl.toList with
    | .ref C2 :: tl, [_, _, _, _, some (.builtin nw), _] => decide (C2 = C) && (decide (nw = "ValueError.__new__") && (cd.hasDict && (!cd.hasDel && PySem.HandSPX.refsVE tl)))
    | _, _ => false)
  | _ => false
inductive Fx where
  | exC (x : Str)
  | isT (x : Str) (T : String) (b : Bool)
  | isO (x y : Str) (b : Bool)
  | oex (x : Str)
def Fx.ok (K : PySem.W.Frag) : Fx → Bool
  | .exC x => eqO (PySem.W.findIn K (.ref (ga K x)) "__getattribute__") (some (some (.builtin "BaseException.__getattribute__"))) && (eqO (PySem.W.findIn K (.ref (ga K x)) "__getattr__") (some none) && (decide (PySem.W.subIn K (.ref (ga K x)) (.type "BaseException") = some true) &&
    (PySem.W.hasDictIn K (ga K x) && (eqO (PySem.W.findIn K (.ref (ga K x)) "__class__") (some (some (.builtin "object.__class__"))) && (eqO (PySem.W.specialIn K (.builtin "object.__class__") "__get__") (some (some (.builtin "getset_descriptor.__get__"))) &&
    (decide (PySem.W.takesIn K (.builtin "object.__class__") = some true) && decide (PySem.W.mroIn K (ga K x) (.type "object") = some true)))))))
  | .isT x T b => decide (PySem.W.kitOne K (.ref (ga K x)) (.type T) = some b)
  | .isO x y b => decide (PySem.W.kitOne K (.ref (ga K x)) (.ref (ga K y)) = some b)
  | .oex x => oexB K (ga K x) && (eqO (PySem.W.findIn K (.ref (ga K x)) "__setattr__") (some (some (.builtin "object.__setattr__"))) && (decide (PySem.W.subIn K (.ref (ga K x)) (.type "BaseException") = some true) && (decide (PySem.W.typeIn K (.ref (ga K x)) = some (.type "type")) && PySem.W.keepIn K (.ref (ga K x)))))
abbrev AlX : Type := AlD × Bool
def obsX (fa : List Fa) (fn : List DefD) (xs : List Fx) (K : PySem.W.Frag) : AlX := (obsD fa fn K, xs.all fun f => f.ok K)
def valX (fn : List DefD) : AlX := (valD fn, true)
def SaysX (fa : List Fa) (fn : List DefD) (xs : List Fx) (K : PySem.W.Frag) : Prop := obsX fa fn xs K = valX fn
end G
namespace G
open PySem PySem.Spec L2 He PyProof.Rows
section
variable {fa : List Fa} {fn : List DefD} {xs : List Fx} {K : PySem.W.Frag}
theorem SaysX.d (c : SaysX fa fn xs K) : SaysD fa fn K := congrArg (fun z : AlX => z.1) c
theorem SaysX.fact (c : SaysX fa fn xs K) (i : Nat) {f : Fa} (h : fa[i]? = some f := by rfl) : f.ok K = true := c.d.fact i h
theorem SaysX.def_ (c : SaysX fa fn xs K) (i : Nat) {d : DefD} (h : fn[i]? = some d := by rfl) : ∃ fd, FunD K d.name d.qual d.params d.body d.scope (d.dvs K) (d.kws K) (fAd K d.at_) fd := c.d.def_ i h
end
end G
namespace GD
open PySem L2 G
def S__law_draws_b1 : SS := sSeq (sOwL 2 kAp (eBin oMod (eVar 5) (eC (.int 1000003)))) (G.sAsg false 5 (eBin oDiv (eVar 5) (eC (.int 1000003))))
def T__law_draws_b2 : TSm := G.tAnd (tBl (eBin oGt (eVar 5) (eC (.int 0)))) (tBl (eBin oLt (eBi .len [eVar 2]) (eVar 1)))
def S__law_draws_b3 : SS := sSeq (G.sAsg false 3 (eBin oMod (eBin oAdd (eBin oMul (eVar 3) (eC (.int 31))) (eVar 4)) (eC (.int 2147483647)))) (sSeq (G.sAsg false 5 (eBi .abs [eVar 4])) (sSeq (G.sIf (tBl (eBin oLt (eVar 5) (eBin oPow (eC (.int 10)) (eC (.int 18))))) (sSeq (sOwL 2 kAp (eVar 4)) (G.sAsg false 5 (eC (.int 0)))) (sSkip)) (G.sWhile T__law_draws_b2 S__law_draws_b1)))
def S__law_draws_b4 : SS := sSeq (G.sAsg false 3 (eBin oMod (eBin oAdd (eBin oMul (eVar 3) (eC (.int 48271))) (eC (.int 11))) (eC (.int 2147483647)))) (sOwL 2 kAp (eBin oMod (eBin oMul (eVar 3) (eVar 3)) (eC (.int 999983))))
def T__law_draws_b5 : TSm := tBl (eBin oLt (eBi .len [eVar 2]) (eVar 1))
def S__law_draws : SS := sSeq (G.sAsg true 2 (eLst [])) (sSeq (G.sAsg false 3 (eC (.int 1))) (sSeq (G.sFor (itE true (eVar 0)) (.one 4) S__law_draws_b3) (sSeq (G.sWhile T__law_draws_b5 S__law_draws_b4) (sRet (eVar 2)))))
def R__law_draws : List D → Out (D × Bool) := denF 6 S__law_draws
def S__law_bits_b1 : SS := sSeq (sOwL 2 kAp (eBin oMod (eVar 0) (eC (.int 2)))) (G.sAsg false 0 (eBin oDiv (eVar 0) (eC (.int 2))))
def S__law_bits : SS := sSeq (G.sAsg true 2 (eLst [])) (sSeq (G.sFor (itR1 (eVar 1)) (.one 3) S__law_bits_b1) (sRet (eVar 2)))
def R__law_bits : List D → Out (D × Bool) := denF 4 S__law_bits
def S__law_row : SS := sSeq (G.sAsg false 2 (eBin oAdd (eBin oAdd (eBin oIx (eVar 0) (eC (.int 0))) (eBin oMul (eC (.int 1000003)) (eBin oIx (eVar 0) (eC (.int 1))))) (eBin oMul (eBin oMul (eC (.int 1000003)) (eC (.int 1000003))) (eBin oIx (eVar 0) (eC (.int 2)))))) (sSeq (G.sIf (tBl (eBin oEq (eBin oMod (eBin oIx (eVar 0) (eC (.int 3))) (eC (.int 5))) (eC (.int 3)))) (G.sAsg false 2 (eUn oNeg (eBin oMod (eBin oIx (eVar 0) (eC (.int 0))) (eC (.int 2))))) (sSkip)) (sSeq (G.sAsg false 3 (eFn R__law_bits [eVar 2, eVar 1])) (sSeq (G.sIf (tBl (eBin oEq (eBin oMod (eBin oIx (eVar 0) (eC (.int 3))) (eC (.int 5))) (eC (.int 4)))) (G.sAsg false 3 (eLc (itR1 (eVar 1)) (.one 4) (tYes) (eBin oIx (eVar 3) (eBin oMod (eVar 4) (eBin oAdd (eC (.int 1)) (eBin oMod (eBin oIx (eVar 0) (eC (.int 1))) (eC (.int 4)))))) [4])) (sSkip)) (sRet (eVar 3)))))
def R__law_row : List D → Out (D × Bool) := denF 5 S__law_row
def S_ask_bits_b1 : SS := G.sIf (G.tAnd (tBl (eBin oNe (eVar 1) (eC (.int 0)))) (tBl (eBin oNe (eVar 1) (eC (.int 1))))) (sRaise 2) (sSkip)
def S_ask_bits : SS := G.sFor (itE true (eVar 0)) (.one 1) S_ask_bits_b1
def R_ask_bits : List D → Out (D × Bool) := denF 2 S_ask_bits
def S_Cloth___init__ : SS := sSeq (G.sIf (G.tOr (tBl (eBin oGe (eBi .len [eVar 2]) (eC (.int 40)))) (tBl (eBin oGe (eBi .len [eVar 3]) (eC (.int 40))))) (sRaise 1) (sSkip)) (sSeq (sDrop (eFn R_ask_bits [eBin oAdd (eBin oAdd (eLst [eVar 1]) (eBi .list [eVar 2])) (eBi .list [eVar 3])])) (sSeq (G.sFld (fxOne 20 0) 0 (eVar 1)) (sSeq (G.sFld (fxOne 20 1) 0 (eBi .list [eVar 2])) (G.sFld (fxOne 20 2) 0 (eBi .list [eVar 3])))))
def R_Cloth___init__ : List D → Out (D × Bool) := denI 4 20 3 S_Cloth___init__
def S__law_made : SS := sRet (eFn R_Cloth___init__ [eBin oIx (eVar 0) (eC (.int 0)), eBi .list [eBin oIx (eVar 0) (eC (.int 1))], eBi .list [eBin oIx (eVar 0) (eC (.int 2))]])
def R__law_made : List D → Out (D × Bool) := denF 1 S__law_made
def S_Cloth_wide : SS := sRet (eBin oAdd (eBi .len [eUn (oFld (fxT [(20, 1)])) (eVar 0)]) (eC (.int 1)))
def R_Cloth_wide : List D → Out (D × Bool) := denF 1 S_Cloth_wide
def S_Cloth_tall : SS := sRet (eBin oAdd (eBi .len [eUn (oFld (fxT [(20, 2)])) (eVar 0)]) (eC (.int 1)))
def R_Cloth_tall : List D → Out (D × Bool) := denF 1 S_Cloth_tall
def S_Cloth_ask_cell : SS := G.sIf (G.tOr (tBl (eBin oLt (eVar 1) (eC (.int 0)))) (G.tOr (tBl (eBin oLt (eVar 2) (eC (.int 0)))) (G.tOr (tBl (eBin oGe (eVar 1) (eM [(20, R_Cloth_wide)] (eVar 0) []))) (tBl (eBin oGe (eVar 2) (eM [(20, R_Cloth_tall)] (eVar 0) [])))))) (sRaise 3) (sSkip)
def R_Cloth_ask_cell : List D → Out (D × Bool) := denF 3 S_Cloth_ask_cell
def S_Cloth_colour : SS := sSeq (sDrop (eM [(20, R_Cloth_ask_cell)] (eVar 0) [eVar 1, eVar 2])) (sRet (eBin oMod (eBin oAdd (eBin oAdd (eBin oAdd (eUn (oFld (fxT [(20, 0)])) (eVar 0)) (eBi .sum [eSl (eUn (oFld (fxT [(20, 1)])) (eVar 0)) none (some (eVar 1))])) (eBi .sum [eSl (eUn (oFld (fxT [(20, 2)])) (eVar 0)) none (some (eVar 2))])) (eBin oMul (eVar 1) (eVar 2))) (eC (.int 2))))
def R_Cloth_colour : List D → Out (D × Bool) := denF 3 S_Cloth_colour
def S__law_same (self : List D → Out (D × Bool)) : SS := sSeq (G.sIf (G.tOr (tBl (eBin oNe (eUn (oIsi "bool") (eVar 0)) (eUn (oIsi "bool") (eVar 1)))) (tBl (eBin oNe (eUn (oIsi "int") (eVar 0)) (eUn (oIsi "int") (eVar 1))))) (sRet (eC (.bl false))) (sSkip)) (sSeq (G.sIf (G.tOr (tBl (eBin oNe (eUn (oIsi "list") (eVar 0)) (eUn (oIsi "list") (eVar 1)))) (tBl (eBin oNe (eUn (oIsi "tuple") (eVar 0)) (eUn (oIsi "tuple") (eVar 1))))) (sRet (eC (.bl false))) (sSkip)) (sSeq (G.sIf (G.tAnd (G.tNot (tTru (eUn (oIsi "list") (eVar 1)))) (G.tNot (tTru (eUn (oIsi "tuple") (eVar 1))))) (sRet (eAnd (eBin oEq (eUn (oIsi "str") (eVar 0)) (eUn (oIsi "str") (eVar 1))) (eBin oEq (eVar 0) (eVar 1)))) (sSkip)) (sRet (eAnd (eBin oEq (eBi .len [eVar 0]) (eBi .len [eVar 1])) (eBi .all [eLc (itZip false (eVar 0) (eVar 1)) (.tup [.one 2, .one 3]) (tYes) (eFn self [eVar 2, eVar 3]) [2, 3]])))))
def RR__law_same : Nat → List D → Out (D × Bool)
  | 0 => fun _ => .no
  | n + 1 => denF 4 (S__law_same (RR__law_same n))
def R__law_same : List D → Out (D × Bool) := RR__law_same 6
def S__law_whole_b1 : SS := G.sIf (G.tNot (tTru (eFn R__law_same [eM [(20, R_Cloth_colour)] (eVar 0) [eVar 3, eVar 2], eBin oIx (eBin oIx (eVar 1) (eVar 2)) (eVar 3)]))) (sRet (eC (.bl false))) (sSkip)
def S__law_whole_b2 : SS := G.sFor (itR1 (eBi .len [eBin oIx (eVar 1) (eC (.int 0))])) (.one 3) S__law_whole_b1
def S__law_whole : SS := sSeq (G.sIf (G.tOr (G.tNot (tTru (eFn R__law_same [eM [(20, R_Cloth_wide)] (eVar 0) [], eBi .len [eBin oIx (eVar 1) (eC (.int 0))]]))) (G.tNot (tTru (eFn R__law_same [eM [(20, R_Cloth_tall)] (eVar 0) [], eBi .len [eVar 1]])))) (sRet (eC (.bl false))) (sSkip)) (sSeq (G.sFor (itR1 (eBi .len [eVar 1])) (.one 2) S__law_whole_b2) (sRet (eC (.bl true))))
def R__law_whole : List D → Out (D × Bool) := denF 4 S__law_whole
def S__law_loop : SS := sSeq (G.sAsg false 1 (eBin oAdd (eC (.int 2)) (eBin oMul (eC (.int 2)) (eBin oMod (eBin oIx (eVar 0) (eC (.int 1))) (eBin oIx (eLst [eC (.int 4), eC (.int 4), eC (.int 8), eC (.int 20), eC (.int 3)]) (eBin oMod (eBin oIx (eVar 0) (eC (.int 0))) (eC (.int 5)))))))) (sSeq (G.sAsg false 2 (eBin oAdd (eC (.int 2)) (eBin oMul (eC (.int 2)) (eBin oMod (eBin oIx (eVar 0) (eC (.int 2))) (eBin oIx (eLst [eC (.int 4), eC (.int 8), eC (.int 4), eC (.int 3), eC (.int 20)]) (eBin oMod (eBin oIx (eVar 0) (eC (.int 0))) (eC (.int 5)))))))) (sRet (eTup [eFn R__law_row [eSl (eVar 0) (some (eC (.int 3))) none, eVar 1], eFn R__law_row [eSl (eVar 0) (some (eC (.int 7))) none, eVar 2]])))
def R__law_loop : List D → Out (D × Bool) := denF 3 S__law_loop
def S_Ring___init___b1 : SS := G.sIf (G.tOr (tBl (eBin oLt (eBi .len [eVar 3]) (eC (.int 2)))) (G.tOr (tBl (eBin oGt (eBi .len [eVar 3]) (eC (.int 40)))) (tBl (eBin oEq (eBin oMod (eBi .len [eVar 3]) (eC (.int 2))) (eC (.int 1)))))) (sRaise 1) (sSkip)
def S_Ring___init__ : SS := sSeq (G.sFor (itE true (eTup [eVar 1, eVar 2])) (.one 3) S_Ring___init___b1) (sSeq (sDrop (eFn R_ask_bits [eVar 1])) (sSeq (sDrop (eFn R_ask_bits [eVar 2])) (sSeq (G.sFld (fxOne 21 0) 0 (eBi .list [eVar 1])) (G.sFld (fxOne 21 1) 0 (eBi .list [eVar 2])))))
def R_Ring___init__ : List D → Out (D × Bool) := denI 4 21 2 S_Ring___init__
def S__law_ring : SS := sRet (eFn R_Ring___init__ [eBi .list [eBin oIx (eVar 0) (eC (.int 0))], eBi .list [eBin oIx (eVar 0) (eC (.int 1))]])
def R__law_ring : List D → Out (D × Bool) := denF 1 S__law_ring
def S_Ring_wide : SS := sRet (eBi .len [eUn (oFld (fxT [(21, 0)])) (eVar 0)])
def R_Ring_wide : List D → Out (D × Bool) := denF 1 S_Ring_wide
def S_Ring_tall : SS := sRet (eBi .len [eUn (oFld (fxT [(21, 1)])) (eVar 0)])
def R_Ring_tall : List D → Out (D × Bool) := denF 1 S_Ring_tall
def S_Ring_stitched : SS := sSeq (G.sIf (G.tAnd (tBl (eBin oNe (eVar 1) (eC (.str "col")))) (tBl (eBin oNe (eVar 1) (eC (.str "row"))))) (sRaise 4) (sSkip)) (sSeq (sPar false false 4 5 (eUn (oFld (fxT [(21, 1)])) (eVar 0)) (eM [(21, R_Ring_wide)] (eVar 0) [])) (sSeq (G.sIf (tBl (eBin oEq (eVar 1) (eC (.str "col")))) (sPar false false 4 5 (eUn (oFld (fxT [(21, 0)])) (eVar 0)) (eM [(21, R_Ring_tall)] (eVar 0) [])) (sSkip)) (sSeq (G.sIf (G.tOr (tBl (eBin oLt (eVar 2) (eC (.int 0)))) (tBl (eBin oGe (eVar 2) (eBi .len [eVar 4])))) (sRaise 4) (sSkip)) (sSeq (G.sIf (G.tOr (tBl (eBin oLt (eVar 3) (eC (.int 0)))) (tBl (eBin oGe (eVar 3) (eVar 5)))) (sRaise 5) (sSkip)) (sRet (eBin oEq (eBin oMod (eBin oAdd (eVar 3) (eBin oIx (eVar 4) (eVar 2))) (eC (.int 2))) (eC (.int 1))))))))
def R_Ring_stitched : List D → Out (D × Bool) := denF 6 S_Ring_stitched
def S_onward : SS := sSeq (G.sIf (tBl (eBin oEq (eBin oMod (eBin oAdd (eVar 1) (eVar 2)) (eC (.int 2))) (eC (.int 0)))) (sSeq (G.sIf (tTru (eM [(21, R_Ring_stitched)] (eVar 0) [eC (.str "row"), eVar 2, eVar 1])) (sRet (eTup [eC (.int 1), eC (.int 0)])) (sSkip)) (sRet (eTup [eUn oNeg (eC (.int 1)), eC (.int 0)]))) (sSkip)) (sSeq (G.sIf (tTru (eM [(21, R_Ring_stitched)] (eVar 0) [eC (.str "col"), eVar 1, eVar 2])) (sRet (eTup [eC (.int 0), eC (.int 1)])) (sSkip)) (sRet (eTup [eC (.int 0), eUn oNeg (eC (.int 1))])))
def R_onward : List D → Out (D × Bool) := denF 3 S_onward
def S_round_from_b1 : SS := sSeq (sOwL 3 kAp (eVar 4)) (sSeq (G.sTg (.tup [.one 7, .one 8]) (eFn R_onward [eVar 0, eBin oIx (eVar 4) (eC (.int 0)), eBin oIx (eVar 4) (eC (.int 1))])) (sSeq (sAugI (fun i j => i + j) 5 (eVar 7)) (sSeq (sAugI (fun i j => i + j) 6 (eVar 8)) (G.sAsg false 4 (eTup [eBin oMod (eBin oAdd (eBin oIx (eVar 4) (eC (.int 0))) (eVar 7)) (eM [(21, R_Ring_wide)] (eVar 0) []), eBin oMod (eBin oAdd (eBin oIx (eVar 4) (eC (.int 1))) (eVar 8)) (eM [(21, R_Ring_tall)] (eVar 0) [])])))))
def T_round_from_b2 : TSm := G.tOr (tBl (eBin oEq (eVar 3) (eLst []))) (tBl (eBin oNe (eVar 4) (eTup [eVar 1, eVar 2])))
def S_round_from : SS := sSeq (G.sAsg true 3 (eLst [])) (sSeq (G.sAsg false 4 (eTup [eVar 1, eVar 2])) (sSeq (G.sTg (.tup [.one 5, .one 6]) (eTup [eC (.int 0), eC (.int 0)])) (sSeq (G.sWhile T_round_from_b2 S_round_from_b1) (sSeq (sFrz 3) (sRet (eTup [eVar 3, eBin oDiv (eVar 5) (eM [(21, R_Ring_wide)] (eVar 0) []), eBin oDiv (eVar 6) (eM [(21, R_Ring_tall)] (eVar 0) [])]))))))
def R_round_from : List D → Out (D × Bool) := denF 9 S_round_from
def S_ring_rounds_b1 : SS := sPut 1 (eVar 6) (eC (.bl true))
def S_ring_rounds_b2 : SS := G.sIf (G.tAnd (tBl (eBin oEq (eBin oMod (eBin oAdd (eVar 3) (eVar 4)) (eC (.int 2))) (eC (.int 0)))) (tBl (eBin oNiD (eTup [eVar 3, eVar 4]) (eVar 1)))) (sSeq (G.sAsg false 5 (eFn R_round_from [eVar 0, eVar 3, eVar 4])) (sSeq (sOwL 2 kAp (eVar 5)) (G.sFor (itE true (eBin oIx (eVar 5) (eC (.int 0)))) (.one 6) S_ring_rounds_b1))) (sSkip)
def S_ring_rounds_b3 : SS := G.sFor (itR1 (eM [(21, R_Ring_tall)] (eVar 0) [])) (.one 4) S_ring_rounds_b2
def S_ring_rounds : SS := sSeq (G.sAsg true 1 (eDT)) (sSeq (G.sAsg true 2 (eLst [])) (sSeq (G.sFor (itR1 (eM [(21, R_Ring_wide)] (eVar 0) [])) (.one 3) S_ring_rounds_b3) (sRet (eVar 2))))
def R_ring_rounds : List D → Out (D × Bool) := denF 7 S_ring_rounds
def S__law_common_b1 : SS := sPar false false 0 1 (eVar 1) (eBin oMod (eVar 0) (eVar 1))
def T__law_common_b2 : TSm := tBl (eBin oGt (eVar 1) (eC (.int 0)))
def S__law_common : SS := sSeq (G.sAsg false 0 (eBi .abs [eVar 0])) (sSeq (G.sAsg false 1 (eBi .abs [eVar 1])) (sSeq (G.sWhile T__law_common_b2 S__law_common_b1) (sRet (eVar 0))))
def R__law_common : List D → Out (D × Bool) := denF 2 S__law_common
def S_law_k36_b1 : SS := sSeq (G.sIf (G.tAnd (tBl (eBin oNe (eTup [eVar 3, eVar 4]) (eBin oIx (eVar 2) (eC (.int 0))))) (tBl (eBin oNe (eTup [eUn oNeg (eVar 3), eUn oNeg (eVar 4)]) (eBin oIx (eVar 2) (eC (.int 0)))))) (sRet (eC (.bl false))) (sSkip)) (G.sIf (tBl (eBin oNe (eFn R__law_common [eVar 3, eVar 4]) (eC (.int 1)))) (sRet (eC (.bl false))) (sSkip))
def S_law_k36 : SS := sSeq (G.sAsg false 1 (eFn R__law_ring [eFn R__law_loop [eFn R__law_draws [eVar 0, eC (.int 11)]]])) (sSeq (G.sAsg false 2 (eLc (itE false (eFn R_ring_rounds [eVar 1])) (.tup [.one 5, .one 3, .one 4]) (tBl (eBin oNe (eTup [eVar 3, eVar 4]) (eTup [eC (.int 0), eC (.int 0)]))) (eTup [eVar 3, eVar 4]) [5, 3, 4])) (sSeq (G.sFor (itE true (eVar 2)) (.tup [.one 3, .one 4]) S_law_k36_b1) (sRet (eC (.bl true)))))
def R_law_k36 : List D → Out (D × Bool) := denF 6 S_law_k36
end GD
namespace G
open PySem PySem.Spec L2 PySem.W PyProof.Rows
end G
namespace G
open PySem PySem.Spec L2 PySem.W PyProof.Rows
def noTup : PyData → Bool
  | .none => false
  | .tuple _ => false
  | _ => true
end G
namespace G
open PySem PySem.Spec L2 PySem.W PyProof.Rows
section
variable {X : Cx} {c : Cn} {L : List Addr} {W : WX} {f g h : ES} {a b e d tg iter : Expr} {pos p : Pos}
/-- a list's method of one argument that changes nothing -/
def eLm (op : List D → D → Out (D × Kd)) (f g : ES) : ES := fun ρ => (f ρ).bind fun x => match x.1 with
  | .lst ds => (g ρ).bind fun y => op ds y.1
  | _ => .no
end
end G
namespace GD
open PySem L2 G
end GD
namespace G
open PySem PySem.Spec L2
section
variable {θ : Th} {F0 B F F' H H' : Hp} {L : List Addr} {σ : L2.St} {ρ : Sl} {i : Nat} {k : Sh} {d : D} {v : V} {a : Addr} {o : HO} {Z : Nat → List Addr} {S : List Addr}
theorem set_some {x z : Slot} {j : Nat} (h : (ρ.set i x)[j]? = some z) : (j = i ∧ z = x) ∨ (j ≠ i ∧ ρ[j]? = some z) := by
  by_cases q : i = j
  · subst q
    by_cases l : i < ρ.length
    · rw [List.getElem?_set_self l] at h
      exact .inl ⟨rfl, (Option.some.inj h).symm⟩
    · rw [List.getElem?_eq_none (by simpa using l)] at h
      cases h
  · rw [List.getElem?_set_ne q] at h
    exact .inr ⟨fun e => q e.symm, h⟩
def bare : Slot → Bool
  | .un => true
  | .pv _ _ => true
  | _ => false
theorem Owner.set_bare {x : Slot} {j : Nat} (hx : bare x = true) (h : Owner (ρ.set i x) j) : j ≠ i ∧ Owner ρ j := by
  rcases h with ⟨d, h⟩ | ⟨k, ds, h⟩
  · rcases set_some h with ⟨_, z⟩ | ⟨q, z⟩
    · subst z; cases hx
    · exact ⟨q, .inl ⟨d, z⟩⟩
  · rcases set_some h with ⟨_, z⟩ | ⟨q, z⟩
    · subst z; cases hx
    · exact ⟨q, .inr ⟨k, ds, z⟩⟩
theorem PvAll.drop {w : Option V} (hZ : PvAll θ B F H σ ρ Z) : PvAll θ B F H (σ.set i w) (ρ.set i .un) Z :=
  hZ.step (.refl _) (fun _ _ h => h) (fun j k d h => by
    rcases set_some h with ⟨_, z⟩ | ⟨q, z⟩
    · cases z
    · exact ⟨z, List.getElem?_set_ne (Ne.symm q), fun b hb => ⟨rfl, ((hZ j k d z).2.2.1 b hb).1⟩⟩) fun j k d l b h ho hs => by
    rcases set_some h with ⟨_, z⟩ | ⟨q, z⟩
    · cases z
    · obtain ⟨q2, ho⟩ := ho.set_bare rfl
      rw [List.getElem?_set_ne (Ne.symm q2)] at hs
      exact (hZ j k d z).2.2.2.1 l b ho hs
def sh1 : Sh := .nd fun _ => .lf
def sh2 : Sh := .nd fun _ => sh1
theorem TrL.append {k : Nat → Sh} : ∀ {n : Nat} {ds es : List D} {xs ys : List V} {S T : List Addr}, TrL θ B F H k n ds xs S → TrL θ B F H k (n + ds.length) es ys T → TrL θ B F H k n (ds ++ es) (xs ++ ys) (S ++ T)
  | n, _, es, _, ys, _, T, .nil, t => by simpa using t
  | n, _, es, _, ys, _, T, .cons (ds := ds) h r, t => by
    rw [List.cons_append, List.cons_append, List.append_assoc]
    refine .cons h (TrL.append r ?_)
    rw [List.length_cons] at t
    rw [show n + 1 + ds.length = n + (ds.length + 1) by omega]
    exact t
end
end G
namespace G
open PySem PySem.Spec L2
/-- a slot's own is no more its own -/
def sFrzA (i : Nat) : SS := fun ρ => match ρ[i]? with
  | some (.ow d) => .nx (ρ.set i (.va d))
  | some (.pv _ d) => .nx (ρ.set i (.va d))
  | _ => .nx ρ
/-- what may be read out of a tree that stays own -/
def outOk (r : D) (k : Kd) : Bool := flat r || (match k with
  | .fr => newD r
  | _ => false)
def eBor (i : Nat) (f : ES) : ES := fun ρ => match ρ[i]? with
  | some (.pv _ d) => (match f (ρ.set i (.va d)) with
    | .ok (r, k) => if outOk r k = true ∧ k.solid = true then .ok (r, k) else .no
    | .ex n fs => if fs = [] then .ex n [] else .no
    | .no => .no)
  | _ => f ρ
def tBor (i : Nat) (t : TSm) : TSm := fun ρ => match ρ[i]? with
  | some (.pv _ d) => (match t (ρ.set i (.va d)) with
    | .ok b => .ok b
    | .ex n fs => if fs = [] then .ex n [] else .no
    | .no => .no)
  | _ => t ρ
end G
namespace G
open PySem PySem.Spec L2
end G
namespace G
open PySem PySem.Spec L2
/-- the list at place i of a tree -/
def row2 : Sh → List D → D → Option ((Nat → Sh) × Nat × List D)
  | .nd k1, ds, .int n => match ixN ds.length n with
    | some p => match k1 p, ds[p]? with
      | .nd k2, some (.lst es) => some (k2, p, es)
      | _, _ => none
    | none => none
  | _, _, _ => none
def set2 (k : Nat → Sh) (es : List D) (j v : D) : Option (List D) := match j with
  | .int m => match ixN es.length m with
    | some q => match k q with
      | .lf => some (es.set q v)
      | _ => none
    | none => none
  | _ => none
/-- x[fi][fj] = fv -/
def sPut2 (i : Nat) (fi fj fv : ES) : SS := fun ρ => match ρ[i]? with
  | some (.pv k (.lst ds)) => sWith (fv ρ) ρ fun v => if v.2.solid then sWith (fi ρ) ρ fun a => (match row2 k ds a.1 with
    | some (k2, p, es) => sWith (fj ρ) ρ fun b => (match set2 k2 es b.1 v.1 with
      | some es' => .nx (ρ.set i (.pv k (.lst (ds.set p (.lst es')))))
      | none => .no)
    | none => .no) else .no
  | _ => .no
end G
namespace G
open PySem PySem.Spec L2
def okK (d : D) : Kd → Bool
  | .fr => true
  | .sh => flat d
  | _ => false
def okP (xs : List (D × Kd)) : Bool := xs.all fun x => okK x.1 x.2
def sSetLstP (i : Nat) (fs : List ES) : SS := fun ρ => sWith (eArgs fs ρ) ρ fun xs => if okP xs = true ∧ xs.length ≤ SZ then .nx (ρ.set i (.pv sh2 (.lst (xs.map (·.1))))) else .no
/-- x.append(fv), fv a fresh list -/
def sAppP (i : Nat) (f : ES) : SS := fun ρ => match ρ[i]? with
  | some (.pv (.nd k) (.lst ds)) => sWith (f ρ) ρ fun v => (match v with
    | (.lst es, .fr) => (match k ds.length with
      | .nd _ => if es.all flat = true ∧ ds.length < SZ then .nx (ρ.set i (.pv (.nd k) (.lst (ds ++ [.lst es])))) else .no
      | _ => .no)
    | _ => .no)
  | _ => .no
/-- o.append(e), o.clear() of a fresh list that nobody keeps -/
def sAppF (f g : ES) : SS := fun ρ => sWith (f ρ) ρ fun x => (match x with
  | (.lst ds, .fr) => sWith (g ρ) ρ fun _ => if ds.length < SZ then .nx ρ else .no
  | _ => .no)
def sClrF (f : ES) : SS := fun ρ => sWith (f ρ) ρ fun x => (match x with
  | (.lst _, .fr) => .nx ρ
  | _ => .no)
end G
namespace GD
open PySem L2 G
end GD
namespace GD
open PySem L2 G
end GD
namespace G
open PySem PySem.Spec L2
end G
namespace G
open PySem PySem.Spec L2
mutual
/-- flat values, and lists and tuples of them -/
def dataD : D → Bool
  | .non => true
  | .bl _ => true
  | .int _ => true
  | .str _ => true
  | .lst ds => dataL ds
  | .tup ds => dataL ds
  | _ => false
def dataL : List D → Bool
  | [] => true
  | d :: ds => dataD d && dataL ds
end
section
variable {θ : Th} {F H F' H' B : Hp}
mutual
theorem Rep.inj : ∀ {d e : D} {v : V}, dataD d = true → dataD e = true → Rep θ F d v → Rep θ F e v → d = e
  | _, _, _, _, _, .non, g => by cases g; rfl
  | _, _, _, _, _, .bl _, g => by cases g; rfl
  | _, _, _, _, _, .int _, g => by cases g; rfl
  | _, _, _, _, _, .str _, g => by cases g; rfl
  | _, _, _, hd, he, .lst h r, g => by
    cases g with
    | lst h2 r2 =>
      rw [h] at h2
      cases h2
      rw [RepL.inj hd he r r2]
    | tup h2 r2 => rw [h] at h2; cases h2
    | dK _ _ _ => cases he
    | dT _ _ _ => cases he
    | obj _ _ _ => cases he
    | frl _ => cases he
    | hx => cases he
  | _, _, _, hd, he, .tup h r, g => by
    cases g with
    | tup h2 r2 =>
      rw [h] at h2
      cases h2
      rw [RepL.inj hd he r r2]
    | lst h2 r2 => rw [h] at h2; cases h2
    | dK _ _ _ => cases he
    | dT _ _ _ => cases he
    | obj _ _ _ => cases he
    | frl _ => cases he
    | hx => cases he
  | _, _, _, hd, _, .dK _ _ _, _ => by cases hd
  | _, _, _, hd, _, .dT _ _ _, _ => by cases hd
  | _, _, _, hd, _, .obj _ _ _, _ => by cases hd
  | _, _, _, hd, _, .frl _, _ => by cases hd
  | _, _, _, hd, _, .hx, _ => by cases hd
theorem RepL.inj : ∀ {ds es : List D} {vs : List V}, dataL ds = true → dataL es = true → RepL θ F ds vs → RepL θ F es vs → ds = es
  | _, _, _, _, _, .nil, g => by cases g; rfl
  | _, _, _, hd, he, .cons h t, g => by
    cases g with
    | cons h2 t2 =>
      obtain ⟨a1, a2⟩ := Bool.and_eq_true_iff.mp hd
      obtain ⟨b1, b2⟩ := Bool.and_eq_true_iff.mp he
      rw [Rep.inj a1 b1 h h2, RepL.inj a2 b2 t t2]
end
/-- lists at their places -/
inductive All2 (θ : Th) (F : Hp) : List Addr → List D → Prop
  | nil : All2 θ F [] []
  | cons {b : Addr} {e : D} {S : List Addr} {T : List D} : Rep θ F e (.ref b) → All2 θ F S T → All2 θ F (b :: S) (e :: T)
theorem All2.append {S S' : List Addr} {T T' : List D} (h : All2 θ F S T) (h' : All2 θ F S' T') : All2 θ F (S ++ S') (T ++ T') := by
  induction h with
  | nil => exact h'
  | cons r _ ih => exact .cons r ih
theorem All2.mem {S : List Addr} {T : List D} (h : All2 θ F S T) {b : Addr} (hb : b ∈ S) : ∃ e ∈ T, Rep θ F e (.ref b) := by
  induction h with
  | nil => cases hb
  | cons r _ ih =>
    rcases List.mem_cons.mp hb with rfl | hb
    · exact ⟨_, List.mem_cons_self, r⟩
    · obtain ⟨e, he, r⟩ := ih hb
      exact ⟨e, List.mem_cons_of_mem _ he, r⟩
theorem All2.nodup {S : List Addr} {T : List D} (h : All2 θ F S T) (nd : T.Nodup) (hd : ∀ e ∈ T, dataD e = true) : S.Nodup := by
  induction h with
  | nil => exact List.nodup_nil
  | cons r t ih =>
    obtain ⟨n1, n2⟩ := List.nodup_cons.mp nd
    refine List.nodup_cons.mpr ⟨fun hb => ?_, ih n2 fun e he => hd e (List.mem_cons_of_mem _ he)⟩
    obtain ⟨e, he, r2⟩ := t.mem hb
    have := Rep.inj (hd _ List.mem_cons_self) (hd e (List.mem_cons_of_mem _ he)) r r2
    subst this
    exact n1 he
theorem Sub.up (s : Sub F H) (hh : Same H H') : Sub F H' := fun a u h => by
  rcases s a u h with z | ⟨z1, o, z⟩
  · exact .inl (hh _ _ z)
  · exact .inr ⟨z1, o, hh _ _ z⟩
end
end G
namespace GD
open PySem L2 G
end GD
namespace G
open PySem PySem.Spec L2
end G
namespace GD
open PySem L2 G
end GD
namespace G
open PySem PySem.Spec L2 PySem.W PyProof.Rows
end G
namespace GD
open PySem L2 G
end GD
namespace G
open PySem PySem.Spec L2 PySem.W PyProof.Rows
def oBk0 : D → Out (D × Kd)
  | .lst xs => .ok (.lst xs.tail.reverse, .fr)
  | _ => .no
end G
namespace G
open PySem PySem.Spec L2 PySem.W PyProof.Rows
abbrev TMm := Sl → Out (Bool × Sl)
def ResM (c : Cn) (L : List Addr) (W : WX) (σ : L2.St) (F H : Hp) (Q : Bool → Hp → Prop) : Out (Bool × Sl) → Prop
  | .ok (b, ρ') => ∀ F' H', Same F F' → Rel c.θ c.F0 c.B L F' H' σ ρ' → Q b H'
  | .ex n fs => ∀ cls dd F' H', Ext F H F' H' → ExV c.θ n fs cls dd F' H' → W cls dd σ H'
  | .no => False
section
variable {X : Cx} {c : Cn} {L : List Addr} {W : WX} {f g h : ES} {a b e ke ve d tg iter : Expr} {pos p : Pos} {s : IS} {t : TSm} {m : TMm} {F F1 H H1 : Hp} {σ : L2.St} {ρ : Sl} {Q : Bool → Hp → Prop}
theorem ResM.mono {o : Out (Bool × Sl)} (h : ResM c L W σ F H Q o) (e : Ext F H F1 H1) : ResM c L W σ F1 H1 Q o := by
  cases o with
  | ok x => exact fun F' H' e' => h F' H' (e.ff.trans e')
  | ex n fs => exact fun cls dd F' H' e' hv => h cls dd F' H' (e.trans e') hv
  | no => exact h
end
end G
namespace GD
open PySem L2 G
end GD
namespace G
open PySem PySem.Spec L2
end G
namespace G
open PySem PySem.Spec L2
end G
namespace GD
open PySem L2 G
end GD
namespace G
open PySem PySem.Spec L2 PySem.W PyProof.Rows
end G
namespace GD
open PySem L2 G
end GD
namespace GD
open PySem L2 G
end GD
namespace G
open PySem PySem.Spec L2 PySem.W PyProof.Rows
end G
namespace G
open PySem PySem.Spec L2
end G
namespace GD
open PySem L2 G
end GD
namespace G
open PySem PySem.Spec PySem.Calls PyProof.Rows PySem.W
end G
namespace G
open PySem PySem.Spec L2 PyProof.Rows
/-- the fields of an exception, in the frozen part -/
def Flds (θ : Th) (F : Hp) (n : Nat) (fs : List D) (dd : Option Addr) : Prop := match fs with
  | [] => dd = none
  | _ => ∃ dx xs, dd = some dx ∧ F dx = some (.xd ((θ.fld n).zip xs)) ∧ (θ.fld n).length = fs.length ∧ RepL θ F fs xs
theorem Flds.mono {θ : Th} {F F' : Hp} {n : Nat} {fs : List D} {dd : Option Addr} (h : Flds θ F n fs dd) (e : Same F F') : Flds θ F' n fs dd := by
  cases fs with
  | nil => exact h
  | cons g gs =>
    obtain ⟨dx, xs, h1, h2, h3, h4⟩ := h
    exact ⟨dx, xs, h1, e _ _ h2, h3, h4.mono e⟩
end G
namespace G
open PySem PySem.Spec L2 PyProof.Rows
end G
namespace G
open PySem PySem.Spec L2 PyProof.Rows
end G
namespace G
open PySem PySem.Spec L2 PyProof.Rows
/-- the ends of a suite: behind each of them but a return the name is gone -/
def gone (i : Nat) (D : Ends) : Ends := { nx := fun σ H => D.nx (σ.set i none) H, rt := D.rt, bk := fun σ H => D.bk (σ.set i none) H, ct := fun σ H => D.ct (σ.set i none) H }
abbrev Su := Addr → Value → Option Addr → TS
inductive Cls (X : Cx) (n : Str) : List ExceptHandler → List (Value × Su) → Prop
  | nil : Cls X n [] []
  | cons {x : Str} {C : Value} {su : Su} {b₀ : Stmt} {suite : List Stmt} {np p : Pos} {hs : List ExceptHandler} {l : List (Value × Su)} : Names X x C →
      (∀ (a : Addr) (oe : Obj) (cls : Value) (d : Option Addr) (pn : List (Addr × Obj)), L2N.Zn cls d oe → (∃ vs, oe.data = .fields vs) → PSs (X.suite a ((a, oe) :: pn)) (b₀ :: suite) (su a cls d)) →
      Cls X n hs l → Cls X n (.ExceptHandler (some (.Name x np)) (some n) (b₀ :: suite) p :: hs) ((C, su) :: l)
end G
namespace GD
open PySem L2 G
end GD
namespace G
open PySem PySem.Spec L2
def NoLn : Sh → Prop
  | .lf => True
  | .nd k => ∀ i, NoLn (k i)
  | .ln _ => False
  | .l2 _ => False
/-- which fields of a class's instances are own nodes -/
def shO : Nat → Nat → Sh
  | 22 => fun i => if i = 2 then .nd fun _ => .lf else .lf
  | 23 => fun i => if i = 0 then .lf else .nd fun _ => .lf
  | _ => fun _ => .lf
section
variable {θ : Th} {B F H : Hp} {x : Option Addr}
mutual
/-- the heap at the entry does not matter to a tree -/
theorem Tr.bs {B' : Hp} : ∀ {k : Sh} {d : D} {v : V} {S : List Addr}, Tr θ B F H k d v S → Tr θ B' F H k d v S
  | _, _, _, _, .lf r => .lf r
  | _, _, _, _, .fl h r => .fl h r
  | _, _, _, _, .lst h t => .lst h (TrL.bs t)
  | _, _, _, _, .tup h hb t => .tup h hb (TrL.bs t)
  | _, _, _, _, .dK h l t => .dK h l (TrL.bs t)
  | _, _, _, _, .dT h l t => .dT h l (TrL.bs t)
  | _, _, _, _, .obj h l t => .obj h l (TrL.bs t)
  | _, _, _, _, .fll h r => .fll h r
  | _, _, _, _, .f2l h r => .f2l h r
  | _, _, _, _, .ln h t => .ln h (Tr.bs t)
  | _, _, _, _, .l2 h t => .l2 h (Tr.bs t)
theorem TrL.bs {B' : Hp} : ∀ {k : Nat → Sh} {n : Nat} {ds : List D} {vs : List V} {S : List Addr}, TrL θ B F H k n ds vs S → TrL θ B' F H k n ds vs S
  | _, _, _, _, _, .nil => .nil
  | _, _, _, _, _, .cons h t => .cons (Tr.bs h) (TrL.bs t)
end
end
def ownW (b : Bool) (c : Nat) (ds : List D) : Slot := .pv (if b then .ln (shO c) else .nd (shO c)) (.obj c ds)
inductive Lo where
  | ok (r : D) (ds : List D) | ex (n : Nat) (fs : List D) (ds : List D) | no
structure ExtL (S : List Addr) (F H F' H' : Hp) : Prop where
  sub : Sub F' H'
  ff : Same F F'
  hh : ∀ a u, H a = some u → a ∉ S → H' a = some u
  nw : ∀ a u, F' a = some u → F a = some u ∨ H a = none ∨ a ∈ S ∨ ∃ xs, u = .tup xs
end G
namespace G
open PySem PySem.Spec L2
end G
namespace G
open PySem PySem.Spec L2
inductive Om (α : Type) where
  | ok (a : α) (ρ : Sl) | ex (n : Nat) (fs : List D) (ρ : Sl) | no
def Om.bind {α β : Type} : Om α → (α → Sl → Om β) → Om β
  | .ok a ρ, f => f a ρ
  | .ex n fs ρ, _ => .ex n fs ρ
  | .no, _ => .no
@[simp] theorem om_ok {α β : Type} (a : α) (ρ : Sl) (f : α → Sl → Om β) : (Om.ok a ρ).bind f = f a ρ := rfl
@[simp] theorem om_ex {α β : Type} (n : Nat) (fs : List D) (ρ : Sl) (f : α → Sl → Om β) : (Om.ex n fs ρ : Om α).bind f = .ex n fs ρ := rfl
@[simp] theorem om_no {α β : Type} (f : α → Sl → Om β) : (Om.no : Om α).bind f = .no := rfl
abbrev EM := Sl → Om D
def ResE (c : Cn) (L : List Addr) (W : WX) (σ : L2.St) (F : Hp) (Q : VK) : Om D → Prop
  | .ok d ρ' => ∀ v F' H', Same F F' → Rel c.θ c.F0 c.B L F' H' σ ρ' → Rep c.θ F' d v → Q v H'
  | .ex n fs ρ' => ∀ cls dd F' H', Same F F' → Rel c.θ c.F0 c.B L F' H' σ ρ' → ExV c.θ n fs cls dd F' H' → W cls dd σ H'
  | .no => False
def ResEs (c : Cn) (L : List Addr) (W : WX) (σ : L2.St) (F : Hp) (Q : List V → Hp → Prop) : Om (List D) → Prop
  | .ok ds ρ' => ∀ vs F' H', Same F F' → Rel c.θ c.F0 c.B L F' H' σ ρ' → RepL c.θ F' ds vs → Q vs H'
  | .ex n fs ρ' => ∀ cls dd F' H', Same F F' → Rel c.θ c.F0 c.B L F' H' σ ρ' → ExV c.θ n fs cls dd F' H' → W cls dd σ H'
  | .no => False
section
variable {X : Cx} {c : Cn} {L : List Addr} {W : WX} {f g h : ES} {m m1 m2 : EM} {ms : List EM} {a b e d o : Expr} {es : List Expr} {fs : List ES} {pos p apos : Pos} {F F1 H H1 : Hp} {σ : L2.St} {ρ : Sl} {Q : VK} {R : List D → List D → Lo} {cn i k : Nat} {x : Str} {fa : Addr} {fd : FuncData} {ps : List Str}
theorem ResE.mono {o : Om D} (h : ResE c L W σ F Q o) (e : Same F F1) : ResE c L W σ F1 Q o := by
  cases o with
  | ok d ρ' => exact fun v F' H' s => h v F' H' (e.trans s)
  | ex n fs ρ' => exact fun cls dd F' H' s => h cls dd F' H' (e.trans s)
  | no => exact h
theorem ResEs.mono {Q : List V → Hp → Prop} {o : Om (List D)} (h : ResEs c L W σ F Q o) (e : Same F F1) : ResEs c L W σ F1 Q o := by
  cases o with
  | ok d ρ' => exact fun v F' H' s => h v F' H' (e.trans s)
  | ex n fs ρ' => exact fun cls dd F' H' s => h cls dd F' H' (e.trans s)
  | no => exact h
end
end G
namespace G
open PySem PySem.Spec L2
end G
namespace G
open PySem PySem.Spec L2
end G
namespace G
open PySem PySem.Spec L2
end G
namespace G
open PySem PySem.Spec L2
end G
namespace G
open PySem PySem.Spec L2
end G
namespace G
open PySem PySem.Spec L2
end G
namespace G
open PySem PySem.Spec L2
end G
namespace G
open PySem PySem.Spec L2 PySem.W PyProof.Rows
end G
namespace G
open PySem PySem.Spec L2
end G
namespace G
open PySem PySem.Spec L2
end G
namespace GD
open PySem L2 G
end GD
namespace G
open PySem PySem.Spec L2
end G
namespace GD
open PySem L2 G
end GD
namespace G
open PySem PySem.Spec L2
end G
namespace G
open PySem PySem.Spec L2 PyProof.Rows
section
variable {θ : Th} {B F F' H H' : Hp}
theorem RepL.fl : ∀ {ds : List D} {vs : List V}, ds.all flat = true → RepL θ F ds vs → RepL θ F' ds vs
  | _, _, _, .nil => .nil
  | _, _, h, .cons r t => by
    rw [List.all_cons, Bool.and_eq_true] at h
    exact .cons (r.flat h.1) (RepL.fl h.2 t)
end
section
variable {θ : Th} {F H F' H' : Hp} {S : List Addr} {a : Addr} {c : Nat} {Q : VK} {E : XK}
theorem ExV.mono {n : Nat} {fs : List D} {cls : Value} {dd : Option Addr} {F2 : Hp} (h : ExV θ n fs cls dd F' H') (e : Same F' F2) : ExV θ n fs cls dd F2 H' := by
  obtain ⟨h1, h2⟩ := h
  refine ⟨h1, ?_⟩
  cases fs with
  | nil => exact h2
  | cons f fs =>
    obtain ⟨dx, xs, e1, e2, e3, e4⟩ := h2
    exact ⟨dx, xs, e1, e _ _ e2, e3, e4.mono e⟩
end
end G
namespace G
open PySem PySem.Spec L2 PyProof.Rows
end G
namespace G
open PySem PySem.Spec L2 PyProof.Rows
end G
namespace G
open PySem PySem.Spec L2 PyProof.Rows
end G
namespace G
open PySem PySem.Spec L2 PyProof.Rows
end G
namespace GD
open PySem L2 G
end GD
namespace G
open PySem PySem.Spec L2
end G
namespace G
open PySem PySem.Spec L2 PySem.W PyProof.Rows
end G
namespace GD
open PySem L2 G
end GD
namespace G
open PySem PySem.Spec L2
end G
namespace G
open PySem PySem.Spec L2
end G
namespace G
open PySem PySem.Spec L2
end G
namespace G
open PySem PySem.Spec L2
end G
namespace GD
open PySem L2 G
end GD
namespace GD
open PySem L2 G
end GD
namespace G
open PySem PySem.Spec L2
end G
namespace G
open PySem PySem.Spec L2
end G
namespace G
open PySem PySem.Spec L2
end G
namespace PySem.SeqAt
open AutoSeq1 (wpAny_loadPart')
open MeetsSeq MeetsSeq2 MeetsSeq3 SeqRoads2
end PySem.SeqAt
namespace G
open PySem PySem.Spec L2 PySem.W PyProof.Rows
end G
namespace G
open PySem PySem.Spec L2
end G
namespace G
open PySem PySem.Spec L2
end G
namespace GD
open PySem L2 G
end GD
namespace G
open PySem PySem.Spec L2
section
variable {θ : Th} {F0 B F F' H H' : Hp} {L : List Addr} {σ : L2.St} {ρ : Sl} {i : Nat} {Z : Nat → List Addr} {S S2 : List Addr}
theorem ExtL.mono (x : ExtL S F H F' H') (h : ∀ b ∈ S, b ∈ S2) : ExtL S2 F H F' H' := ⟨x.sub, x.ff, fun a u g n => x.hh a u g fun z => n (h a z), fun a u g => by
  rcases x.nw a u g with z | z | z | z
  · exact .inl z
  · exact .inr (.inl z)
  · exact .inr (.inr (.inl (h a z)))
  · exact .inr (.inr (.inr z))⟩
end
end G
namespace GD
open PySem L2 G
end GD
namespace G
open PySem PySem.Spec L2
end G
namespace GD
open PySem L2 G
end GD
namespace G
open PySem PySem.Spec L2
end G
namespace G
open PySem PySem.Spec L2 PyProof.Rows
def strsOf : List D → Option (List Str)
  | [] => some []
  | .str s :: r => (strsOf r).map (s :: ·)
  | _ :: _ => none
@[simp] theorem strsOf_map : ∀ ys : List Str, strsOf (ys.map D.str) = some ys
  | [] => rfl
  | y :: ys => by simp [strsOf, strsOf_map ys]
end G
namespace GD
open PySem L2 G
end GD
namespace G
open PySem PySem.Spec L2
end G
namespace G
open PySem PySem.Spec L2
end G
namespace G
open PySem PySem.Spec L2
end G
namespace GD
open PySem L2 G
end GD
namespace G
open PySem PySem.Spec L2
end G
namespace G
open PySem PySem.Spec L2
end G
namespace G
open PySem PySem.Spec L2 L2H PyProof.Rows
end G
namespace G
open PySem PySem.Spec L2 PyProof.Rows
end G
namespace G
open PySem PySem.Spec L2
end G
namespace G
open PySem PySem.Spec L2
end G
namespace G
open PySem PySem.Spec L2
end G
namespace G
open PySem PySem.Spec L2 PyProof.Rows
end G
namespace GD
open PySem L2 G
end GD
namespace G
open PySem PySem.Spec L2 L2H PyProof.Rows
end G
namespace GD
open PySem L2 G
end GD
namespace G
open PySem PySem.Spec L2 L2H PyProof.Rows
end G
namespace GD
open PySem L2 G
end GD
namespace G
open PySem PySem.Spec L2
end G
namespace GD
open PySem L2 G
end GD
namespace G
open PySem PySem.Spec L2
end G
namespace G
open PySem PySem.Spec L2
/-- nothing pinned, nothing that is being made or handled -/
def PlainS (ρ : Sl) : Prop := ∀ k : Nat, ρ[k]? ≠ some .xc ∧ (∀ m es, ρ[k]? ≠ some (.me m es)) ∧ ∀ sh d, ρ[k]? = some (.pv sh d) → NoLn sh
section
variable {θ : Th} {F0 B B' F H H0 : Hp} {L : List Addr} {σ : L2.St} {ρ : Sl} {i j : Nat} {x : Option Addr} {l : Addr} {hid : List Addr}
theorem PlainS.own {k : Nat} (p : PlainS ρ) (h : Owner ρ k) : ∃ d, ρ[k]? = some (.ow d) := by
  rcases h with h | ⟨m, es, h⟩
  · exact h
  · exact absurd h ((p k).2.1 m es)
end
end G
namespace G
open PySem PySem.Spec L2 PyProof.Rows
end G
namespace G
open PySem PySem.Spec L2
end G
namespace GD
open PySem L2 G
end GD
namespace G
open PySem PySem.Spec L2 PyProof.Rows
end G
namespace G
open PySem PySem.Spec L2 PyProof.Rows
end G
namespace GD
open PySem L2 G
end GD
namespace G
open PySem PySem.Spec L2
end G
namespace G
open PySem PySem.Spec L2
end G
namespace G
open PySem PySem.Spec L2
end G
namespace GD
open PySem L2 G
end GD
namespace G
open PySem PySem.Spec L2
end G
namespace L2
open PySem PySem.Spec PyProof.Rows
end L2
namespace G
open PySem PySem.Spec L2 PySem.W PyProof.Rows
end G
namespace G
open PySem PySem.Spec L2
end G
namespace GD
open PySem L2 G
end GD
namespace TM
open PySem PySem.Spec PyProof.Rows L2
theorem five_mod4 (e : Nat) : 5 ^ e % 4 = 1 := by
  induction e with
  | zero => rfl
  | succ e ih => rw [Nat.pow_succ]; omega
theorem five_odd (e : Nat) : 5 ^ (2 * e) % 8 = 1 := by
  induction e with
  | zero => rfl
  | succ e ih => rw [show 2 * (e + 1) = 2 * e + 1 + 1 by omega, Nat.pow_succ, Nat.pow_succ]; omega
theorem odd_cop (k q : Nat) (h : q % 2 = 1) : Nat.Coprime (2 ^ k) q := by
  refine Nat.Coprime.pow_left k ?_
  unfold Nat.Coprime
  have h1 := Nat.gcd_dvd_left 2 q
  have h2 := Nat.gcd_dvd_right 2 q
  have le := Nat.le_of_dvd (by omega) h1
  generalize Nat.gcd 2 q = g at *
  have : g ≠ 0 := fun e => by subst e; obtain ⟨c, hc⟩ := h1; omega
  have : g ≠ 2 := fun e => by subst e; obtain ⟨c, hc⟩ := h2; omega
  omega
theorem five_pow : ∀ (k d : Nat), 2 ^ (k + 2) ∣ 5 ^ d - 1 → 2 ^ k ∣ d
  | 0, d, _ => ⟨d, by omega⟩
  | k + 1, d, h => by
    have pd : 0 < 5 ^ d := Nat.pow_pos (by decide)
    have e8 : 8 ∣ 5 ^ d - 1 := Nat.dvd_trans ⟨2 ^ k, by rw [show k + 1 + 2 = k + 3 by omega, Nat.pow_add]; omega⟩ h
    obtain ⟨e, he⟩ : ∃ e, d = 2 * e ∨ d = 2 * e + 1 := ⟨d / 2, by omega⟩
    rcases he with rfl | rfl
    · have m4 := five_mod4 e
      have pe : 0 < 5 ^ e := Nat.pow_pos (by decide)
      obtain ⟨q, hq⟩ : ∃ q, 5 ^ e + 1 = 2 * q := ⟨(5 ^ e + 1) / 2, by omega⟩
      have oq : q % 2 = 1 := by omega
      have fac : 5 ^ (2 * e) - 1 = (5 ^ e - 1) * (2 * q) := by
        rw [← hq, Nat.two_mul, Nat.pow_add]
        obtain ⟨x, hx⟩ : ∃ x, 5 ^ e = x + 1 := ⟨5 ^ e - 1, by omega⟩
        rw [hx]
        have : (x + 1) * (x + 1) = x * x + 2 * x + 1 := by
          rw [Nat.add_mul, Nat.mul_add]
          omega
        rw [this]
        show x * x + 2 * x + 1 - 1 = x * (x + 1 + 1)
        rw [Nat.mul_add, Nat.mul_add]
        omega
      rw [fac] at h
      have h2 : 2 ^ (k + 2) ∣ (5 ^ e - 1) * q := by
        obtain ⟨c, hc⟩ := h
        refine ⟨c, ?_⟩
        rw [show k + 1 + 2 = (k + 2) + 1 by omega, Nat.pow_succ] at hc
        have a : (5 ^ e - 1) * (2 * q) = 2 * ((5 ^ e - 1) * q) := by rw [Nat.mul_left_comm]
        have b : 2 ^ (k + 2) * 2 * c = 2 * (2 ^ (k + 2) * c) := by rw [Nat.mul_comm (2 ^ (k + 2)) 2, Nat.mul_assoc]
        omega
      obtain ⟨c, hc⟩ := five_pow k e ((odd_cop (k + 2) q oq).dvd_of_dvd_mul_right h2)
      exact ⟨c, by rw [hc, Nat.pow_succ, Nat.mul_comm (2 ^ k) 2, Nat.mul_assoc]⟩
    · exfalso
      have := five_odd e
      rw [Nat.pow_succ] at e8 pd
      obtain ⟨c, hc⟩ := e8
      omega
/-- masks: one less than a power of two -/
def Mk (m : Nat) : Prop := ∃ k, 3 ≤ k ∧ k ≤ 13 ∧ m + 1 = 2 ^ k
theorem Mk.le {m : Nat} (h : Mk m) : m ≤ 8191 := by
  obtain ⟨k, _, h13, e⟩ := h
  have : 2 ^ k ≤ 2 ^ 13 := Nat.pow_le_pow_right (by decide) h13
  omega
theorem lcg_form (m i : Nat) : ∀ k, (4 * lcgI m i k + 1) % (4 * (m + 1)) = (5 ^ k * (4 * i + 1)) % (4 * (m + 1))
  | 0 => by show (4 * i + 1) % _ = (1 * (4 * i + 1)) % _; rw [Nat.one_mul]
  | k + 1 => by
    have ih := lcg_form m i k
    show (4 * ((lcgI m i k * 5 + 1) % (m + 1)) + 1) % (4 * (m + 1)) = _
    rw [Nat.pow_succ, Nat.mul_comm (5 ^ k) 5, Nat.mul_assoc, Nat.mul_mod 5, ← ih, ← Nat.mul_mod]
    have e : (4 * ((lcgI m i k * 5 + 1) % (m + 1))) = (4 * (lcgI m i k * 5 + 1)) % (4 * (m + 1)) := (Nat.mul_mod_mul_left 4 _ _).symm
    rw [e, Nat.mod_add_mod]
    congr 1
    omega
theorem lcg_inj {m i a b : Nat} (hm : Mk m) (hab : a < b) (hb : b ≤ m) : lcgI m i a ≠ lcgI m i b := fun e => by
  obtain ⟨k, h3, h13, em⟩ := hm
  have f1 := lcg_form m i a
  have f2 := lcg_form m i b
  rw [e, f2] at f1
  have pb : 5 ^ b = 5 ^ a * 5 ^ (b - a) := by rw [← Nat.pow_add]; congr 1; omega
  have e4 : 4 * (m + 1) = 2 ^ (k + 2) := by rw [em, Nat.pow_add]; omega
  rw [e4] at f1
  have pp : 0 < 5 ^ (b - a) := Nat.pow_pos (by decide)
  have dv : 2 ^ (k + 2) ∣ 5 ^ b * (4 * i + 1) - 5 ^ a * (4 * i + 1) := Nat.dvd_of_mod_eq_zero (Nat.sub_mod_eq_zero_of_mod_eq f1)
  have fac : 5 ^ b * (4 * i + 1) - 5 ^ a * (4 * i + 1) = (5 ^ (b - a) - 1) * (5 ^ a * (4 * i + 1)) := by
    rw [Nat.sub_mul, Nat.one_mul, pb, ← Nat.mul_assoc, Nat.mul_comm (5 ^ a) (5 ^ (b - a))]
  rw [fac] at dv
  have od : (5 ^ a * (4 * i + 1)) % 2 = 1 := by
    have h1 := five_mod4 a
    rw [Nat.mul_mod, show 5 ^ a % 2 = 1 by omega, show (4 * i + 1) % 2 = 1 by omega]
  obtain ⟨c, hc⟩ := five_pow k (b - a) ((odd_cop (k + 2) _ od).dvd_of_dvd_mul_right dv)
  have : c ≠ 0 := fun z => by subst z; omega
  have : 2 ^ k ≤ 2 ^ k * c := Nat.le_mul_of_pos_right _ (by omega)
  omega
theorem lcgI_le {m i : Nat} (hi : i ≤ m) : ∀ k, lcgI m i k ≤ m
  | 0 => hi
  | k + 1 => Nat.le_of_lt_succ (Nat.mod_lt _ (Nat.succ_pos _))
/-- from anywhere each slot is met within a round -/
theorem round_all {m : Nat} (hm : Mk m) {i j : Nat} (hi : i ≤ m) (hj : j ≤ m) : ∃ k, k ≤ m ∧ lcgI m i k = j := by
  refine Classical.byContradiction fun n => ?_
  have nd : ((List.range (m + 1)).map (lcgI m i)).Nodup := by
    refine List.pairwise_map.mpr ?_
    have : (List.range (m + 1)).Pairwise (fun a b => a < b) := List.pairwise_lt_range
    refine List.Pairwise.imp_of_mem (fun {a b} ha hb h => ?_) this
    exact lcg_inj hm h (Nat.le_of_lt_succ (List.mem_range.mp hb))
  have le := nat_nodup_len _ ((List.range (m + 1)).erase j) nd fun x hx => by
    obtain ⟨k, hk, rfl⟩ := List.mem_map.mp hx
    refine (List.mem_erase_of_ne fun e => n ⟨k, Nat.le_of_lt_succ (List.mem_range.mp hk), e⟩).mpr (List.mem_range.mpr ?_)
    have := lcgI_le hi k
    omega
  rw [List.length_map, List.length_range, List.length_erase_of_mem (List.mem_range.mpr (by omega)), List.length_range] at le
  omega
theorem run_all {m : Nat} (hm : Mk m) (h : Int) {j : Nat} (hj : j ≤ m) : ∃ n, n ≤ m + 12 ∧ runI m (SetTable.bits h) n = j := by
  obtain ⟨k, hk, e⟩ := round_all hm (runI_le m (SetTable.bits h) 12) hj
  exact ⟨12 + k, by omega, by rw [runI_tail (bits_lt h)]; exact e⟩
theorem way_in {m : Nat} {h : Int} {k : Nat} : way m h k ≤ m := by
  have hi : SetTable.bits h % (m + 1) ≤ m := Nat.le_of_lt_succ (Nat.mod_lt _ (Nat.succ_pos _))
  have r := runEnd_bd hi
  have q := nth_in (m := m) k (runAt m (SetTable.bits h % (m + 1)) (SetTable.bits h)) (by
    show SetTable.bits h % (m + 1) + (SetTable.runEnd m (SetTable.bits h % (m + 1)) - SetTable.bits h % (m + 1)) ≤ m
    omega)
  show (nth m (runAt m (SetTable.bits h % (m + 1)) (SetTable.bits h)) k).j ≤ m
  omega
structure TabD (t : SetTable) (n : Nat) : Prop where
  ris : Ris t.place.toList
  dm : t.dummies = #[]
  sz : t.place.size = n
  mok : Mk t.mask
theorem TabD.put {t : SetTable} {n : Nat} (T : TabD t n) {j : Nat} (hj : j ∉ t.place.toList) :
    (t.put j).2 = SetTable.below t.place j ∧ SetTable.below t.place j ≤ n ∧ TabD (t.put j).1 (n + 1) ∧
    (t.put j).1.mask = t.mask ∧ (t.put j).1.led = t.led ∧ (t.put j).1.plain = t.plain ∧ (t.put j).1.fill = n + 1 := by
  obtain ⟨c1, _, _⟩ := below_cut T.ris j
  have hpl : SetTable.below t.place j ≤ t.place.toList.length := by
    rw [Array.length_toList]
    exact c1
  have hnp : t.place[SetTable.below t.place j]? ≠ some j := fun e => hj (List.mem_of_getElem? (by rw [Array.getElem?_toList]; exact e))
  have hsize : (t.put j).1.place.size = n + 1 := by
    rw [← Array.length_toList, put_place t j, len_ins _ hpl, Array.length_toList, T.sz]
  refine ⟨rfl, by rw [← T.sz]; exact c1, ⟨ris_insert T.ris hnp, put_dm T.dm j, hsize, T.mok⟩, rfl, rfl, rfl, ?_⟩
  show (t.put j).1.place.size + (t.put j).1.dummies.size = n + 1
  rw [hsize, put_dm T.dm j] <;> rfl
theorem free_at {m : Nat} (hm : Mk m) (owner : Array (Option Nat)) (h : Int) {j : Nat} (hj : j ≤ m) (hf : oAt owner j = none) :
    ∃ K, SetTable.layClean.free m owner (SetTable.turns m) (SetTable.bits h % (m + 1)) (SetTable.bits h) = some (way m h K) ∧ oAt owner (way m h K) = none := by
  obtain ⟨n, hn, e⟩ := run_all hm h hj
  have hw : way m h (off m (SetTable.bits h % (m + 1)) (SetTable.bits h) n) = j := by
    show (nth m (runAt m (SetTable.bits h % (m + 1)) (SetTable.bits h)) (off m (SetTable.bits h % (m + 1)) (SetTable.bits h) n)).j = j
    rw [nth_off, itL_run]
    exact e
  obtain ⟨K, k1, k2, k3⟩ := st_least (p := fun k => oAt owner (way m h k) = none) (off m (SetTable.bits h % (m + 1)) (SetTable.bits h) n) (by
    show oAt owner (way m h (off m (SetTable.bits h % (m + 1)) (SetTable.bits h) n)) = none
    rw [hw]
    exact hf)
  refine ⟨K, free_spec m owner (SetTable.turns m) n _ _ K (by unfold SetTable.turns; omega) k1 (fun k hk => ?_) ?_, k2⟩
  · have q := k3 k hk
    cases z : oAt owner (nth m (runAt m (SetTable.bits h % (m + 1)) (SetTable.bits h)) k).j with
    | none => exact absurd z q
    | some _ => rfl
  · have q : oAt owner (nth m (runAt m (SetTable.bits h % (m + 1)) (SetTable.bits h)) K).j = none := k2
    rw [q] <;> rfl
/-- who sits where -/
structure Sits (m n : Nat) (owner : Array (Option Nat)) : Prop where
  sz : owner.size = m + 1
  all : ∀ k, k < n → ∃ j, j ≤ m ∧ oAt owner j = some k
  ps : ∃ ps : List Nat, ps.length = n ∧ ∀ j, j ≤ m → oAt owner j ≠ none → j ∈ ps
theorem Sits.init (m : Nat) : Sits m 0 (Array.replicate (m + 1) none) where
  sz := by simp
  all := fun k hk => absurd hk (Nat.not_lt_zero _)
  ps := ⟨[], rfl, fun j hj e => absurd (oAt_init hj) e⟩
theorem Sits.step {m n : Nat} (hm : Mk m) {owner : Array (Option Nat)} (W : Sits m n owner) (hl : n ≤ m) (h : Int) :
    ∃ j, SetTable.layClean.free m owner (SetTable.turns m) (SetTable.bits h % (m + 1)) (SetTable.bits h) = some j ∧ Sits m (n + 1) (owner.setIfInBounds j (some n)) := by
  obtain ⟨ps, hps, hin⟩ := W.ps
  obtain ⟨j0, h0, hn0⟩ := st_missing ps (m + 1) (by omega)
  have hj0 : oAt owner j0 = none := by
    cases z : oAt owner j0 with
    | none => rfl
    | some k => exact absurd (hin j0 (Nat.le_of_lt_succ h0) (by rw [z]; exact fun e => nomatch e)) hn0
  obtain ⟨K, e1, e2⟩ := free_at hm owner h (Nat.le_of_lt_succ h0) hj0
  have hjs : way m h K < owner.size := by
    rw [W.sz]
    exact Nat.lt_succ_of_le way_in
  have hself := oAt_set_self (some n) hjs
  refine ⟨way m h K, e1, by rw [Array.size_setIfInBounds]; exact W.sz, fun k hk => ?_, ⟨way m h K :: ps, by rw [List.length_cons, hps], fun j hj e => ?_⟩⟩
  · by_cases c : k < n
    · obtain ⟨j, hj, e⟩ := W.all k c
      refine ⟨j, hj, ?_⟩
      rw [oAt_set_ne _ (fun z => by rw [z, e2] at e; cases e)]
      exact e
    · have ek : k = n := by omega
      rw [ek]
      exact ⟨way m h K, way_in, hself⟩
  · by_cases c : j = way m h K
    · rw [c]
      exact List.mem_cons_self
    · rw [oAt_set_ne _ c] at e
      exact List.mem_cons_of_mem _ (hin j hj e)
end TM
namespace TM
open PySem PySem.Spec PyProof.Rows L2
section
variable {P : Program} {w : World} {A : Around} {E : Value → Shared → Prop} {s : Shared}
structure SetD (P : Program) (w : World) (h : Heap) (a : Addr) (L : List (Addr × List Int)) (es : Array (Int × Value)) (ep : Nat) (t : SetTable) : Prop where
  ob : ∃ o, h.get? a = some o ∧ o.ExactSet ∧ o.data = .set es ep t
  rows : es.toList = rowsOf P w L
  tab : TabD t L.length
  tup : ∀ p ∈ L, IsT P w h p.2 p.1
  plain : t.plain = true
  led : w.params.followText "set-order" = true ∨ t.led = true
  room : L.length * 5 < t.mask * 3
  few : L.length ≤ 2000
variable {a : Addr} {L : List (Addr × List Int)} {es : Array (Int × Value)} {ep : Nat} {t : SetTable}
theorem SetD.size (R : SetD P w s.heap a L es ep t) : es.size = L.length := by
  have h := congrArg List.length R.rows
  unfold rowsOf at h
  rw [Array.length_toList, List.length_map] at h
  exact h
end
end TM
namespace TM
open PySem PySem.Spec PyProof.Rows L2
section
variable {P : Program} {w : World} {A : Around} {E : Value → Shared → Prop} {s : Shared}
theorem SetD.keep {h h' : Heap} {a : Addr} {L : List (Addr × List Int)} {es : Array (Int × Value)} {ep : Nat} {t : SetTable} (R : SetD P w h a L es ep t) (ha : ∀ o, h.get? a = some o → h'.get? a = some o) (ht : ∀ p ∈ L, IsT P w h' p.2 p.1) : SetD P w h' a L es ep t := by
  obtain ⟨o, ho, r⟩ := R.ob
  exact ⟨⟨o, ha o ho, r⟩, R.rows, R.tab, ht, R.plain, R.led, R.room, R.few⟩
end
end TM
namespace G
open PySem PySem.Spec L2
end G
namespace GD
open PySem L2 G
end GD
namespace K36
open PySem L2 G GD
def top (i : Nat) : Stmt := PySem.Challenge.pw_sashiko_k36_whole_rounds_go_alike.main.body.getD i (.Pass ⟨0, 0, 0, 0⟩)
def mth (i j : Nat) : Stmt := match top i with
  | .ClassDef _ _ _ body _ _ _ _ _ _ _ => body.getD j (.Pass ⟨0, 0, 0, 0⟩)
  | s => s
abbrev st_ask_bits : Stmt := top 8
def d_ask_bits : He.DefD := ⟨("ask_bits", none), "ask_bits", "ask_bits", defArgs st_ask_bits, defBody st_ask_bits, defScope st_ask_bits, [], []⟩
abbrev N_ask_bits : List Str := ["bits", "bit"]
theorem sc_ask_bits : FnScope N_ask_bits ["bits"] (defScope st_ask_bits) := ⟨rfl, rfl, rfl, by decide +kernel, rfl, by decide +kernel, by decide +kernel⟩
abbrev st_Ring___init__ : Stmt := mth 10 0
def d_Ring___init__ : He.DefD := ⟨("Ring", some "__init__"), "__init__", "Ring.__init__", defArgs st_Ring___init__, defBody st_Ring___init__, defScope st_Ring___init__, [], []⟩
abbrev N_Ring___init__ : List Str := ["self", "cols", "rows", "bits"]
theorem sc_Ring___init__ : FnScope N_Ring___init__ ["self", "cols", "rows"] (defScope st_Ring___init__) := ⟨rfl, rfl, rfl, by decide +kernel, rfl, by decide +kernel, by decide +kernel⟩
abbrev st__law_ring : Stmt := top 15
def d__law_ring : He.DefD := ⟨("_law_ring", none), "_law_ring", "_law_ring", defArgs st__law_ring, defBody st__law_ring, defScope st__law_ring, [], []⟩
abbrev N__law_ring : List Str := ["_law_loop_here"]
theorem sc__law_ring : FnScope N__law_ring ["_law_loop_here"] (defScope st__law_ring) := ⟨rfl, rfl, rfl, by decide +kernel, rfl, by decide +kernel, by decide +kernel⟩
abbrev st__law_bits : Stmt := top 16
def d__law_bits : He.DefD := ⟨("_law_bits", none), "_law_bits", "_law_bits", defArgs st__law_bits, defBody st__law_bits, defScope st__law_bits, [], []⟩
abbrev N__law_bits : List Str := ["_law_number", "_law_many", "_law_row_here", "_law_k"]
theorem sc__law_bits : FnScope N__law_bits ["_law_number", "_law_many"] (defScope st__law_bits) := ⟨rfl, rfl, rfl, by decide +kernel, rfl, by decide +kernel, by decide +kernel⟩
abbrev st__law_row : Stmt := top 17
def d__law_row : He.DefD := ⟨("_law_row", none), "_law_row", "_law_row", defArgs st__law_row, defBody st__law_row, defScope st__law_row, [], []⟩
abbrev N__law_row : List Str := ["_law_some", "_law_many", "_law_raw", "_law_row_here", "_law_k"]
theorem sc__law_row : FnScope N__law_row ["_law_some", "_law_many"] (defScope st__law_row) := ⟨rfl, rfl, rfl, by decide +kernel, rfl, by decide +kernel, by decide +kernel⟩
abbrev st__law_loop : Stmt := top 18
def d__law_loop : He.DefD := ⟨("_law_loop", none), "_law_loop", "_law_loop", defArgs st__law_loop, defBody st__law_loop, defScope st__law_loop, [], []⟩
abbrev N__law_loop : List Str := ["_law_some", "_law_wide", "_law_tall"]
theorem sc__law_loop : FnScope N__law_loop ["_law_some"] (defScope st__law_loop) := ⟨rfl, rfl, rfl, by decide +kernel, rfl, by decide +kernel, by decide +kernel⟩
abbrev st__law_draws : Stmt := top 19
def d__law_draws : He.DefD := ⟨("_law_draws", none), "_law_draws", "_law_draws", defArgs st__law_draws, defBody st__law_draws, defScope st__law_draws, [], []⟩
abbrev N__law_draws : List Str := ["_law_script", "_law_many", "_law_rows", "_law_mix", "_law_cell", "_law_rest"]
theorem sc__law_draws : FnScope N__law_draws ["_law_script", "_law_many"] (defScope st__law_draws) := ⟨rfl, rfl, rfl, by decide +kernel, rfl, by decide +kernel, by decide +kernel⟩
abbrev st_Ring_wide : Stmt := mth 10 3
def d_Ring_wide : He.DefD := ⟨("Ring", some "wide"), "wide", "Ring.wide", defArgs st_Ring_wide, defBody st_Ring_wide, defScope st_Ring_wide, [], []⟩
abbrev N_Ring_wide : List Str := ["self"]
theorem sc_Ring_wide : FnScope N_Ring_wide ["self"] (defScope st_Ring_wide) := ⟨rfl, rfl, rfl, by decide +kernel, rfl, by decide +kernel, by decide +kernel⟩
abbrev st_Ring_tall : Stmt := mth 10 4
def d_Ring_tall : He.DefD := ⟨("Ring", some "tall"), "tall", "Ring.tall", defArgs st_Ring_tall, defBody st_Ring_tall, defScope st_Ring_tall, [], []⟩
abbrev N_Ring_tall : List Str := ["self"]
theorem sc_Ring_tall : FnScope N_Ring_tall ["self"] (defScope st_Ring_tall) := ⟨rfl, rfl, rfl, by decide +kernel, rfl, by decide +kernel, by decide +kernel⟩
abbrev st_Ring_stitched : Stmt := mth 10 5
def d_Ring_stitched : He.DefD := ⟨("Ring", some "stitched"), "stitched", "Ring.stitched", defArgs st_Ring_stitched, defBody st_Ring_stitched, defScope st_Ring_stitched, [], []⟩
abbrev N_Ring_stitched : List Str := ["self", "way", "k", "step", "bits", "steps"]
theorem sc_Ring_stitched : FnScope N_Ring_stitched ["self", "way", "k", "step"] (defScope st_Ring_stitched) := ⟨rfl, rfl, rfl, by decide +kernel, rfl, by decide +kernel, by decide +kernel⟩
abbrev st_onward : Stmt := top 11
def d_onward : He.DefD := ⟨("onward", none), "onward", "onward", defArgs st_onward, defBody st_onward, defScope st_onward, [], []⟩
abbrev N_onward : List Str := ["ring", "x", "y"]
theorem sc_onward : FnScope N_onward ["ring", "x", "y"] (defScope st_onward) := ⟨rfl, rfl, rfl, by decide +kernel, rfl, by decide +kernel, by decide +kernel⟩
abbrev st_round_from : Stmt := top 12
def d_round_from : He.DefD := ⟨("round_from", none), "round_from", "round_from", defArgs st_round_from, defBody st_round_from, defScope st_round_from, [], []⟩
abbrev N_round_from : List Str := ["ring", "x", "y", "line", "here", "right", "up", "across", "high"]
theorem sc_round_from : FnScope N_round_from ["ring", "x", "y"] (defScope st_round_from) := ⟨rfl, rfl, rfl, by decide +kernel, rfl, by decide +kernel, by decide +kernel⟩
abbrev st_ring_rounds : Stmt := top 13
def d_ring_rounds : He.DefD := ⟨("ring_rounds", none), "ring_rounds", "ring_rounds", defArgs st_ring_rounds, defBody st_ring_rounds, defScope st_ring_rounds, [], []⟩
abbrev N_ring_rounds : List Str := ["ring", "seen", "found", "x", "y", "one", "point"]
theorem sc_ring_rounds : FnScope N_ring_rounds ["ring"] (defScope st_ring_rounds) := ⟨rfl, rfl, rfl, by decide +kernel, rfl, by decide +kernel, by decide +kernel⟩
abbrev st__law_common : Stmt := top 20
def d__law_common : He.DefD := ⟨("_law_common", none), "_law_common", "_law_common", defArgs st__law_common, defBody st__law_common, defScope st__law_common, [], []⟩
abbrev N__law_common : List Str := ["_law_one", "_law_other"]
theorem sc__law_common : FnScope N__law_common ["_law_one", "_law_other"] (defScope st__law_common) := ⟨rfl, rfl, rfl, by decide +kernel, rfl, by decide +kernel, by decide +kernel⟩
abbrev st_law : Stmt := top 21
def d_law : He.DefD := ⟨("law", none), "law", "law", defArgs st_law, defBody st_law, defScope st_law, [], []⟩
abbrev N_law : List Str := ["_law_script", "_law_ring_here", "_law_ways", "_law_right", "_law_up", "_law_line"]
theorem sc_law : FnScope N_law ["_law_script"] (defScope st_law) := ⟨rfl, rfl, rfl, by decide +kernel, rfl, by decide +kernel, by decide +kernel⟩
def cname : Nat → Str
  | 0 => "SewError"
  | 1 => "BadSize"
  | 2 => "BadBit"
  | 4 => "NoLine"
  | 5 => "NoStep"
  | 21 => "Ring"
  | _ => ""
def cflds : Nat → List Str
  | 21 => ["upright", "level"]
  | _ => []
abbrev th (K : PySem.W.Frag) : Th := ⟨K, none, fun n => He.ga K (cname n), cflds, none⟩
def fn : List He.DefD := [d_ask_bits, d_Ring___init__, d__law_ring, d__law_bits, d__law_row, d__law_loop, d__law_draws, d_Ring_wide, d_Ring_tall, d_Ring_stitched, d_onward, d_round_from, d_ring_rounds, d__law_common, d_law]
def fa : List He.Fa := [.glo "BadBit", .exc "BadBit", .free "len", .int "MOST" 40, .glo "BadSize", .exc "BadSize", .glo "ask_bits", .free "list", .cls "Ring", .noat "Ring" "upright", .noat "Ring" "level", .mkr "Ring", .glo "Ring", .free "range", .glo "_law_bits", .glo "_law_row", .free "abs", .glo "NoLine", .exc "NoLine", .meth "Ring" "wide", .meth "Ring" "tall", .glo "NoStep", .exc "NoStep", .meth "Ring" "stitched", .glo "onward", .glo "round_from", .glo "_law_draws", .glo "_law_loop", .glo "_law_ring", .glo "ring_rounds", .glo "_law_common", .glo "law"]
section
variable {P : Program} {w : World} {K : PySem.W.Frag} {h base : Heap} {mg : Str → Option Value}
theorem ok_ask_bits (KX : K.In h) (G : h.Ns mainGlobals mg) (c : He.SaysD fa fn K) : Fine P w K mg base (th K) 1 d_ask_bits 1 R_ask_bits := by
  obtain ⟨fd, F⟩ := c.def_ 0 (d := d_ask_bits) rfl
  refine ⟨fd, _, fn_ok F sc_ask_bits rfl (fun cdv A outer s H E F0 B L b => ?_), F.bindsN (fun _ _ _ _ _ _ us hl => match us, hl with | [_], _ => rfl), F.kp⟩
  have x : XC (BX P w K mg base N_ask_bits d_ask_bits.qual d_ask_bits.scope (He.fAd K d_ask_bits.at_) cdv A outer s H E) ⟨th K, F0, B⟩ := ⟨⟨rfl, sc_ask_bits.nd, u128 b.rm⟩, rfl⟩
  exact gss_one (gs_for b.po x.calm (i_list (st := true) x.toXB (g_var 0 (.inl rfl))) (t_name x.toXB 1 (.inl rfl) (.inl rfl)) (gss_one (gs_if (t_pw (pgw_and (t_cmp (oc_ne x.toXB) (g_var 1 (.inl rfl)) (g_int)) (pw_and1 (t_cmp (oc_ne x.toXB) (g_var 1 (.inl rfl)) (g_int))))) (gss_one (g_raise x b.tk (He.glo_ok KX G (c.fact 0 (f := .glo "BadBit") rfl)) (He.exc_ok (c.fact 1 (f := .exc "BadBit") rfl)))) (gss_nil))))
theorem ok_Ring___init__ (KX : K.In h) (G : h.Ns mainGlobals mg) (c : He.SaysD fa fn K) : FineI P w K mg base (th K) 2 21 d_Ring___init__ 2 R_Ring___init__ := by
  obtain ⟨fd, F⟩ := c.def_ 1 (d := d_Ring___init__) rfl
  refine ⟨fd, _, init_ok F sc_Ring___init__ rfl rfl (fun cdv A outer s H E F0 B L b => ?_), F.bindsN (fun _ _ _ _ _ _ us hl => match us, hl with | [_, _, _], _ => rfl)⟩
  have x : XC (BX P w K mg base N_Ring___init__ d_Ring___init__.qual d_Ring___init__.scope (He.fAd K d_Ring___init__.at_) cdv A outer s H E) ⟨th K, F0, B⟩ := ⟨⟨rfl, sc_Ring___init__.nd, u128 b.rm⟩, rfl⟩
  exact gss_cons (gs_for b.po x.calm (i_list (st := true) x.toXB (pg_tup (g_cons (g_var 1 (.inl rfl)) (g_cons (g_var 2 (.inl rfl)) pga_nil)))) (t_name x.toXB 3 (.inl rfl) (.inl rfl)) (gss_one (gs_if (t_pw (pgw_or (t_cmp (oc_lt x.toXB) (g_bi (bf_len x.toXB) (He.free_ok KX G (c.fact 2 (f := .free "len") rfl)) (g_cons (g_var 3 (.inl rfl)) pga_nil)) (g_int)) (pgw_or (t_cmp (oc_gt x.toXB) (g_bi (bf_len x.toXB) (He.free_ok KX G (c.fact 2 (f := .free "len") rfl)) (g_cons (g_var 3 (.inl rfl)) pga_nil)) (g_globI (He.int_ok KX G (c.fact 3 (f := .int "MOST" 40) rfl)))) (pw_or1 (t_cmp (oc_eq x.toXB) (g_bin (ob_mod x.toXB) (g_bi (bf_len x.toXB) (He.free_ok KX G (c.fact 2 (f := .free "len") rfl)) (g_cons (g_var 3 (.inl rfl)) pga_nil)) (g_int)) (g_int)))))) (gss_one (g_raise x b.tk (He.glo_ok KX G (c.fact 4 (f := .glo "BadSize") rfl)) (He.exc_ok (c.fact 5 (f := .exc "BadSize") rfl)))) (gss_nil)))) (gss_cons (gs_drop (g_call (R := R_ask_bits) (k := 1) (m := 1) (Fine.call (dd := d_ask_bits) (ok_ask_bits KX G c)) b.rm (by decide) b.tk (He.glo_ok KX G (c.fact 6 (f := .glo "ask_bits") rfl)) (g_cons (g_var 1 (.inl rfl)) pga_nil))) (gss_cons (gs_drop (g_call (R := R_ask_bits) (k := 1) (m := 1) (Fine.call (dd := d_ask_bits) (ok_ask_bits KX G c)) b.rm (by decide) b.tk (He.glo_ok KX G (c.fact 6 (f := .glo "ask_bits") rfl)) (g_cons (g_var 2 (.inl rfl)) pga_nil))) (gss_cons (gs_fld (i := 0) (fx := fxOne 21 0) (g_bi (bf_list x.toXB) (He.free_ok KX G (c.fact 7 (f := .free "list") rfl)) (g_cons (g_var 1 (.inl rfl)) pga_nil)) (fx_of rfl (by decide : ("upright" : Str) ∉ (cflds 21).take 0) (He.cls_ok (c.fact 8 (f := .cls "Ring") rfl)) (He.noat_ok (c.fact 9 (f := .noat "Ring" "upright") rfl)) (by decide)) (.inl rfl)) (gss_one (gs_fld (i := 0) (fx := fxOne 21 1) (g_bi (bf_list x.toXB) (He.free_ok KX G (c.fact 7 (f := .free "list") rfl)) (g_cons (g_var 2 (.inl rfl)) pga_nil)) (fx_of rfl (by decide : ("level" : Str) ∉ (cflds 21).take 1) (He.cls_ok (c.fact 8 (f := .cls "Ring") rfl)) (He.noat_ok (c.fact 10 (f := .noat "Ring" "level") rfl)) (by decide)) (.inl rfl))))))
theorem ok__law_ring (KX : K.In h) (G : h.Ns mainGlobals mg) (c : He.SaysD fa fn K) : Fine P w K mg base (th K) 4 d__law_ring 1 R__law_ring := by
  obtain ⟨fd, F⟩ := c.def_ 2 (d := d__law_ring) rfl
  refine ⟨fd, _, fn_ok F sc__law_ring rfl (fun cdv A outer s H E F0 B L b => ?_), F.bindsN (fun _ _ _ _ _ _ us hl => match us, hl with | [_], _ => rfl), F.kp⟩
  have x : XC (BX P w K mg base N__law_ring d__law_ring.qual d__law_ring.scope (He.fAd K d__law_ring.at_) cdv A outer s H E) ⟨th K, F0, B⟩ := ⟨⟨rfl, sc__law_ring.nd, u128 b.rm⟩, rfl⟩
  exact gss_one (gs_ret (g_make (R := R_Ring___init__) (k := 2) (m := 2) (cn := 21) (FineI.make (dd := d_Ring___init__) (ok_Ring___init__ KX G c) (He.mkr_ok (c.fact 11 (f := .mkr "Ring") rfl))) b.rm (by decide) b.tk (He.glo_ok KX G (c.fact 12 (f := .glo "Ring") rfl)) (g_cons (g_bi (bf_list x.toXB) (He.free_ok KX G (c.fact 7 (f := .free "list") rfl)) (g_cons (g_ix x.toXB (g_var 0 (.inl rfl)) (g_int)) pga_nil)) (g_cons (g_bi (bf_list x.toXB) (He.free_ok KX G (c.fact 7 (f := .free "list") rfl)) (g_cons (g_ix x.toXB (g_var 0 (.inl rfl)) (g_int)) pga_nil)) pga_nil))))
theorem ok__law_bits (KX : K.In h) (G : h.Ns mainGlobals mg) (c : He.SaysD fa fn K) : Fine P w K mg base (th K) 1 d__law_bits 2 R__law_bits := by
  obtain ⟨fd, F⟩ := c.def_ 3 (d := d__law_bits) rfl
  refine ⟨fd, _, fn_ok F sc__law_bits rfl (fun cdv A outer s H E F0 B L b => ?_), F.bindsN (fun _ _ _ _ _ _ us hl => match us, hl with | [_, _], _ => rfl), F.kp⟩
  have x : XC (BX P w K mg base N__law_bits d__law_bits.qual d__law_bits.scope (He.fAd K d__law_bits.at_) cdv A outer s H E) ⟨th K, F0, B⟩ := ⟨⟨rfl, sc__law_bits.nd, u128 b.rm⟩, rfl⟩
  exact gss_cons (gs_set (own := true) (i := 2) x.nd (pg_lst pga_nil) (.inl rfl)) (gss_cons (gs_for b.po x.calm (i_r1 (st := true) (He.free_ok KX G (c.fact 13 (f := .free "range") rfl)) (g_var 1 (.inl rfl))) (t_name x.toXB 3 (.inl rfl) (.inl rfl)) (gss_cons (gs_append (i := 2) (g_bin (ob_mod x.toXB) (g_var 0 (.inl rfl)) (g_int)) (.inl rfl)) (gss_one (gs_set (own := false) (i := 0) x.nd (g_bin (ob_div x.toXB) (g_var 0 (.inl rfl)) (g_int)) (.inl rfl))))) (gss_one (gs_ret (g_var 2 (.inl rfl)))))
theorem ok__law_row (KX : K.In h) (G : h.Ns mainGlobals mg) (c : He.SaysD fa fn K) : Fine P w K mg base (th K) 2 d__law_row 2 R__law_row := by
  obtain ⟨fd, F⟩ := c.def_ 4 (d := d__law_row) rfl
  refine ⟨fd, _, fn_ok F sc__law_row rfl (fun cdv A outer s H E F0 B L b => ?_), F.bindsN (fun _ _ _ _ _ _ us hl => match us, hl with | [_, _], _ => rfl), F.kp⟩
  have x : XC (BX P w K mg base N__law_row d__law_row.qual d__law_row.scope (He.fAd K d__law_row.at_) cdv A outer s H E) ⟨th K, F0, B⟩ := ⟨⟨rfl, sc__law_row.nd, u128 b.rm⟩, rfl⟩
  exact gss_cons (gs_set (own := false) (i := 2) x.nd (g_bin (ob_add x.toXB) (g_bin (ob_add x.toXB) (g_ix x.toXB (g_var 0 (.inr (.inl rfl))) (g_int)) (g_bin (ob_mul x.toXB) (g_int) (g_ix x.toXB (g_var 0 (.inr (.inl rfl))) (g_int)))) (g_bin (ob_mul x.toXB) (g_bin (ob_mul x.toXB) (g_int) (g_int)) (g_ix x.toXB (g_var 0 (.inr (.inl rfl))) (g_int)))) (.inl rfl)) (gss_cons (gs_if (t_cmp (oc_eq x.toXB) (g_bin (ob_mod x.toXB) (g_ix x.toXB (g_var 0 (.inr (.inl rfl))) (g_int)) (g_int)) (g_int)) (gss_one (gs_set (own := false) (i := 2) x.nd (pg_neg (g_bin (ob_mod x.toXB) (g_ix x.toXB (g_var 0 (.inr (.inl rfl))) (g_int)) (g_int))) (.inl rfl))) (gss_nil)) (gss_cons (gs_set (own := false) (i := 3) x.nd (g_call (R := R__law_bits) (k := 1) (m := 2) (Fine.call (dd := d__law_bits) (ok__law_bits KX G c)) b.rm (by decide) b.tk (He.glo_ok KX G (c.fact 14 (f := .glo "_law_bits") rfl)) (g_cons (g_var 2 (.inl rfl)) (g_cons (g_var 1 (.inl rfl)) pga_nil))) (.inr rfl)) (gss_cons (gs_if (t_cmp (oc_eq x.toXB) (g_bin (ob_mod x.toXB) (g_ix x.toXB (g_var 0 (.inr (.inl rfl))) (g_int)) (g_int)) (g_int)) (gss_one (gs_set (own := false) (i := 3) x.nd (pg_lc (own := [("_law_k", 4)]) (by decide) x.calm x.nd (i_r1 (st := false) (He.free_ok KX G (c.fact 13 (f := .free "range") rfl)) (g_var 1 (.inl rfl))) (blkOk_by (N := N__law_row) (sc := defScope st__law_row) (by decide +kernel)) (fun _ _ _ _ _ => t_name x.blk.toXB 4 (.inl rfl) (.inr rfl)) (fun _ _ _ _ _ => pgts_nil) (fun _ _ _ _ _ => g_ix x.blk.toXB (g_var 3 (by first | exact .inr (.inl rfl) | exact .inr (.inr rfl))) (g_bin (ob_mod x.blk.toXB) (g_var 4 (.inl rfl)) (g_bin (ob_add x.blk.toXB) (g_int) (g_bin (ob_mod x.blk.toXB) (g_ix x.blk.toXB (g_var 0 (by first | exact .inr (.inl rfl) | exact .inr (.inr rfl))) (g_int)) (g_int))))) (fun _ => rfl)) (.inr rfl))) (gss_nil)) (gss_one (gs_ret (g_var 3 (.inr (.inl rfl))))))))
theorem ok__law_loop (KX : K.In h) (G : h.Ns mainGlobals mg) (c : He.SaysD fa fn K) : Fine P w K mg base (th K) 3 d__law_loop 1 R__law_loop := by
  obtain ⟨fd, F⟩ := c.def_ 5 (d := d__law_loop) rfl
  refine ⟨fd, _, fn_ok F sc__law_loop rfl (fun cdv A outer s H E F0 B L b => ?_), F.bindsN (fun _ _ _ _ _ _ us hl => match us, hl with | [_], _ => rfl), F.kp⟩
  have x : XC (BX P w K mg base N__law_loop d__law_loop.qual d__law_loop.scope (He.fAd K d__law_loop.at_) cdv A outer s H E) ⟨th K, F0, B⟩ := ⟨⟨rfl, sc__law_loop.nd, u128 b.rm⟩, rfl⟩
  exact gss_cons (gs_set (own := false) (i := 1) x.nd (g_bin (ob_add x.toXB) (g_int) (g_bin (ob_mul x.toXB) (g_int) (g_bin (ob_mod x.toXB) (g_ix x.toXB (g_var 0 (.inl rfl)) (g_int)) (g_ix x.toXB (pg_lst (g_cons (g_int) (g_cons (g_int) (g_cons (g_int) (g_cons (g_int) (g_cons (g_int) pga_nil)))))) (g_bin (ob_mod x.toXB) (g_ix x.toXB (g_var 0 (.inl rfl)) (g_int)) (g_int)))))) (.inl rfl)) (gss_cons (gs_set (own := false) (i := 2) x.nd (g_bin (ob_add x.toXB) (g_int) (g_bin (ob_mul x.toXB) (g_int) (g_bin (ob_mod x.toXB) (g_ix x.toXB (g_var 0 (.inl rfl)) (g_int)) (g_ix x.toXB (pg_lst (g_cons (g_int) (g_cons (g_int) (g_cons (g_int) (g_cons (g_int) (g_cons (g_int) pga_nil)))))) (g_bin (ob_mod x.toXB) (g_ix x.toXB (g_var 0 (.inl rfl)) (g_int)) (g_int)))))) (.inl rfl)) (gss_one (gs_ret (pg_tup (g_cons (g_call (R := R__law_row) (k := 2) (m := 2) (Fine.call (dd := d__law_row) (ok__law_row KX G c)) b.rm (by decide) b.tk (He.glo_ok KX G (c.fact 15 (f := .glo "_law_row") rfl)) (g_cons (g_sl x.toXB (g_var 0 (.inl rfl)) (pgo_some (g_int)) pgo_none) (g_cons (g_var 1 (.inl rfl)) pga_nil))) (g_cons (g_call (R := R__law_row) (k := 2) (m := 2) (Fine.call (dd := d__law_row) (ok__law_row KX G c)) b.rm (by decide) b.tk (He.glo_ok KX G (c.fact 15 (f := .glo "_law_row") rfl)) (g_cons (g_sl x.toXB (g_var 0 (.inl rfl)) (pgo_some (g_int)) pgo_none) (g_cons (g_var 2 (.inl rfl)) pga_nil))) pga_nil))))))
theorem ok__law_draws (KX : K.In h) (G : h.Ns mainGlobals mg) (c : He.SaysD fa fn K) : Fine P w K mg base (th K) 1 d__law_draws 2 R__law_draws := by
  obtain ⟨fd, F⟩ := c.def_ 6 (d := d__law_draws) rfl
  refine ⟨fd, _, fn_ok F sc__law_draws rfl (fun cdv A outer s H E F0 B L b => ?_), F.bindsN (fun _ _ _ _ _ _ us hl => match us, hl with | [_, _], _ => rfl), F.kp⟩
  have x : XC (BX P w K mg base N__law_draws d__law_draws.qual d__law_draws.scope (He.fAd K d__law_draws.at_) cdv A outer s H E) ⟨th K, F0, B⟩ := ⟨⟨rfl, sc__law_draws.nd, u128 b.rm⟩, rfl⟩
  exact gss_cons (gs_set (own := true) (i := 2) x.nd (pg_lst pga_nil) (.inl rfl)) (gss_cons (gs_set (own := false) (i := 3) x.nd (g_int) (.inl rfl)) (gss_cons (gs_for b.po x.calm (i_list (st := true) x.toXB (g_var 0 (.inl rfl))) (t_name x.toXB 4 (.inl rfl) (.inl rfl)) (gss_cons (gs_set (own := false) (i := 3) x.nd (g_bin (ob_mod x.toXB) (g_bin (ob_add x.toXB) (g_bin (ob_mul x.toXB) (g_var 3 (.inl rfl)) (g_int)) (g_var 4 (.inl rfl))) (g_int)) (.inl rfl)) (gss_cons (gs_set (own := false) (i := 5) x.nd (g_bi (bf_abs x.toXB) (He.free_ok KX G (c.fact 16 (f := .free "abs") rfl)) (g_cons (g_var 4 (.inl rfl)) pga_nil)) (.inl rfl)) (gss_cons (gs_if (t_cmp (oc_lt x.toXB) (g_var 5 (.inl rfl)) (g_bin (ob_pow x.toXB) (g_int) (g_int))) (gss_cons (gs_append (i := 2) (g_var 4 (.inl rfl)) (.inl rfl)) (gss_one (gs_set (own := false) (i := 5) x.nd (g_int) (.inl rfl)))) (gss_nil)) (gss_one (gs_while b.po (t_pw (pgw_and (t_cmp (oc_gt x.toXB) (g_var 5 (.inl rfl)) (g_int)) (pw_and1 (t_cmp (oc_lt x.toXB) (g_bi (bf_len x.toXB) (He.free_ok KX G (c.fact 2 (f := .free "len") rfl)) (g_cons (g_var 2 (.inl rfl)) pga_nil)) (g_var 1 (.inl rfl)))))) (gss_cons (gs_append (i := 2) (g_bin (ob_mod x.toXB) (g_var 5 (.inl rfl)) (g_int)) (.inl rfl)) (gss_one (gs_set (own := false) (i := 5) x.nd (g_bin (ob_div x.toXB) (g_var 5 (.inl rfl)) (g_int)) (.inl rfl)))))))))) (gss_cons (gs_while b.po (t_cmp (oc_lt x.toXB) (g_bi (bf_len x.toXB) (He.free_ok KX G (c.fact 2 (f := .free "len") rfl)) (g_cons (g_var 2 (.inl rfl)) pga_nil)) (g_var 1 (.inl rfl))) (gss_cons (gs_set (own := false) (i := 3) x.nd (g_bin (ob_mod x.toXB) (g_bin (ob_add x.toXB) (g_bin (ob_mul x.toXB) (g_var 3 (.inl rfl)) (g_int)) (g_int)) (g_int)) (.inl rfl)) (gss_one (gs_append (i := 2) (g_bin (ob_mod x.toXB) (g_bin (ob_mul x.toXB) (g_var 3 (.inl rfl)) (g_var 3 (.inl rfl))) (g_int)) (.inl rfl))))) (gss_one (gs_ret (g_var 2 (.inl rfl)))))))
theorem ok_Ring_wide (KX : K.In h) (G : h.Ns mainGlobals mg) (c : He.SaysD fa fn K) : Fine P w K mg base (th K) 1 d_Ring_wide 1 R_Ring_wide := by
  obtain ⟨fd, F⟩ := c.def_ 7 (d := d_Ring_wide) rfl
  refine ⟨fd, _, fn_ok F sc_Ring_wide rfl (fun cdv A outer s H E F0 B L b => ?_), F.bindsN (fun _ _ _ _ _ _ us hl => match us, hl with | [_], _ => rfl), F.kp⟩
  have x : XC (BX P w K mg base N_Ring_wide d_Ring_wide.qual d_Ring_wide.scope (He.fAd K d_Ring_wide.at_) cdv A outer s H E) ⟨th K, F0, B⟩ := ⟨⟨rfl, sc_Ring_wide.nd, u128 b.rm⟩, rfl⟩
  exact gss_one (gs_ret (g_bi (bf_len x.toXB) (He.free_ok KX G (c.fact 2 (f := .free "len") rfl)) (g_cons (g_fld x.toXB (fldOk_of (l := [(21, 0)]) ⟨⟨(He.cls_ok (c.fact 8 (f := .cls "Ring") rfl)), (He.noat_ok (c.fact 9 (f := .noat "Ring" "upright") rfl)), rfl, (by decide : (cflds 21).Nodup)⟩, trivial⟩) (g_var 0 (.inl rfl))) pga_nil)))
theorem ok_Ring_tall (KX : K.In h) (G : h.Ns mainGlobals mg) (c : He.SaysD fa fn K) : Fine P w K mg base (th K) 1 d_Ring_tall 1 R_Ring_tall := by
  obtain ⟨fd, F⟩ := c.def_ 8 (d := d_Ring_tall) rfl
  refine ⟨fd, _, fn_ok F sc_Ring_tall rfl (fun cdv A outer s H E F0 B L b => ?_), F.bindsN (fun _ _ _ _ _ _ us hl => match us, hl with | [_], _ => rfl), F.kp⟩
  have x : XC (BX P w K mg base N_Ring_tall d_Ring_tall.qual d_Ring_tall.scope (He.fAd K d_Ring_tall.at_) cdv A outer s H E) ⟨th K, F0, B⟩ := ⟨⟨rfl, sc_Ring_tall.nd, u128 b.rm⟩, rfl⟩
  exact gss_one (gs_ret (g_bi (bf_len x.toXB) (He.free_ok KX G (c.fact 2 (f := .free "len") rfl)) (g_cons (g_fld x.toXB (fldOk_of (l := [(21, 1)]) ⟨⟨(He.cls_ok (c.fact 8 (f := .cls "Ring") rfl)), (He.noat_ok (c.fact 10 (f := .noat "Ring" "level") rfl)), rfl, (by decide : (cflds 21).Nodup)⟩, trivial⟩) (g_var 0 (.inl rfl))) pga_nil)))
theorem ok_Ring_stitched (KX : K.In h) (G : h.Ns mainGlobals mg) (c : He.SaysD fa fn K) : Fine P w K mg base (th K) 2 d_Ring_stitched 4 R_Ring_stitched := by
  obtain ⟨fd, F⟩ := c.def_ 9 (d := d_Ring_stitched) rfl
  refine ⟨fd, _, fn_ok F sc_Ring_stitched rfl (fun cdv A outer s H E F0 B L b => ?_), F.bindsN (fun _ _ _ _ _ _ us hl => match us, hl with | [_, _, _, _], _ => rfl), F.kp⟩
  have x : XC (BX P w K mg base N_Ring_stitched d_Ring_stitched.qual d_Ring_stitched.scope (He.fAd K d_Ring_stitched.at_) cdv A outer s H E) ⟨th K, F0, B⟩ := ⟨⟨rfl, sc_Ring_stitched.nd, u128 b.rm⟩, rfl⟩
  exact gss_cons (gs_if (t_pw (pgw_and (t_cmp (oc_ne x.toXB) (g_var 1 (.inl rfl)) (g_str)) (pw_and1 (t_cmp (oc_ne x.toXB) (g_var 1 (.inl rfl)) (g_str))))) (gss_one (g_raise x b.tk (He.glo_ok KX G (c.fact 17 (f := .glo "NoLine") rfl)) (He.exc_ok (c.fact 18 (f := .exc "NoLine") rfl)))) (gss_nil)) (gss_cons (gs_par (o1 := false) (o2 := false) (i := 4) (j := 5) x.calm x.nd (by decide) (g_fld x.toXB (fldOk_of (l := [(21, 1)]) ⟨⟨(He.cls_ok (c.fact 8 (f := .cls "Ring") rfl)), (He.noat_ok (c.fact 10 (f := .noat "Ring" "level") rfl)), rfl, (by decide : (cflds 21).Nodup)⟩, trivial⟩) (g_var 0 (.inl rfl))) (g_mt0 (l := [(21, R_Ring_wide)]) b.rm b.tk ⟨⟨_, (by decide), Fine.met (dd := d_Ring_wide) (k := 1) (ok_Ring_wide KX G c) (He.cls_ok (c.fact 8 (f := .cls "Ring") rfl)) (He.meth_ok (c.fact 19 (f := .meth "Ring" "wide") rfl)) (by decide : ("wide" : Str) ∉ cflds 21)⟩, trivial⟩ (g_var 0 (.inl rfl))) rfl) (gss_cons (gs_if (t_cmp (oc_eq x.toXB) (g_var 1 (.inl rfl)) (g_str)) (gss_one (gs_par (o1 := false) (o2 := false) (i := 4) (j := 5) x.calm x.nd (by decide) (g_fld x.toXB (fldOk_of (l := [(21, 0)]) ⟨⟨(He.cls_ok (c.fact 8 (f := .cls "Ring") rfl)), (He.noat_ok (c.fact 9 (f := .noat "Ring" "upright") rfl)), rfl, (by decide : (cflds 21).Nodup)⟩, trivial⟩) (g_var 0 (.inl rfl))) (g_mt0 (l := [(21, R_Ring_tall)]) b.rm b.tk ⟨⟨_, (by decide), Fine.met (dd := d_Ring_tall) (k := 1) (ok_Ring_tall KX G c) (He.cls_ok (c.fact 8 (f := .cls "Ring") rfl)) (He.meth_ok (c.fact 20 (f := .meth "Ring" "tall") rfl)) (by decide : ("tall" : Str) ∉ cflds 21)⟩, trivial⟩ (g_var 0 (.inl rfl))) rfl)) (gss_nil)) (gss_cons (gs_if (t_pw (pgw_or (t_cmp (oc_lt x.toXB) (g_var 2 (.inl rfl)) (g_int)) (pw_or1 (t_cmp (oc_ge x.toXB) (g_var 2 (.inl rfl)) (g_bi (bf_len x.toXB) (He.free_ok KX G (c.fact 2 (f := .free "len") rfl)) (g_cons (g_var 4 (.inl rfl)) pga_nil)))))) (gss_one (g_raise x b.tk (He.glo_ok KX G (c.fact 17 (f := .glo "NoLine") rfl)) (He.exc_ok (c.fact 18 (f := .exc "NoLine") rfl)))) (gss_nil)) (gss_cons (gs_if (t_pw (pgw_or (t_cmp (oc_lt x.toXB) (g_var 3 (.inl rfl)) (g_int)) (pw_or1 (t_cmp (oc_ge x.toXB) (g_var 3 (.inl rfl)) (g_var 5 (.inl rfl)))))) (gss_one (g_raise x b.tk (He.glo_ok KX G (c.fact 21 (f := .glo "NoStep") rfl)) (He.exc_ok (c.fact 22 (f := .exc "NoStep") rfl)))) (gss_nil)) (gss_one (gs_ret (g_cmp (oc_eq x.toXB) (g_bin (ob_mod x.toXB) (g_bin (ob_add x.toXB) (g_var 3 (.inl rfl)) (g_ix x.toXB (g_var 4 (.inl rfl)) (g_var 2 (.inl rfl)))) (g_int)) (g_int))))))))
theorem ok_onward (KX : K.In h) (G : h.Ns mainGlobals mg) (c : He.SaysD fa fn K) : Fine P w K mg base (th K) 3 d_onward 3 R_onward := by
  obtain ⟨fd, F⟩ := c.def_ 10 (d := d_onward) rfl
  refine ⟨fd, _, fn_ok F sc_onward rfl (fun cdv A outer s H E F0 B L b => ?_), F.bindsN (fun _ _ _ _ _ _ us hl => match us, hl with | [_, _, _], _ => rfl), F.kp⟩
  have x : XC (BX P w K mg base N_onward d_onward.qual d_onward.scope (He.fAd K d_onward.at_) cdv A outer s H E) ⟨th K, F0, B⟩ := ⟨⟨rfl, sc_onward.nd, u128 b.rm⟩, rfl⟩
  exact gss_cons (gs_if (t_cmp (oc_eq x.toXB) (g_bin (ob_mod x.toXB) (g_bin (ob_add x.toXB) (g_var 1 (.inl rfl)) (g_var 2 (.inl rfl))) (g_int)) (g_int)) (gss_cons (gs_if (t_tru x.toXB (g_mt (l := [(21, R_Ring_stitched)]) (n := 3) b.rm b.tk ⟨⟨_, (by decide), Fine.met (dd := d_Ring_stitched) (k := 2) (ok_Ring_stitched KX G c) (He.cls_ok (c.fact 8 (f := .cls "Ring") rfl)) (He.meth_ok (c.fact 23 (f := .meth "Ring" "stitched") rfl)) (by decide : ("stitched" : Str) ∉ cflds 21)⟩, trivial⟩ (g_var 0 (.inl rfl)) (g_cons (g_str) (g_cons (g_var 2 (.inl rfl)) (g_cons (g_var 1 (.inl rfl)) pga_nil))))) (gss_one (gs_ret (pg_tup (g_cons (g_int) (g_cons (g_int) pga_nil))))) (gss_nil)) (gss_one (gs_ret (pg_tup (g_cons (pg_neg (g_int)) (g_cons (g_int) pga_nil)))))) (gss_nil)) (gss_cons (gs_if (t_tru x.toXB (g_mt (l := [(21, R_Ring_stitched)]) (n := 3) b.rm b.tk ⟨⟨_, (by decide), Fine.met (dd := d_Ring_stitched) (k := 2) (ok_Ring_stitched KX G c) (He.cls_ok (c.fact 8 (f := .cls "Ring") rfl)) (He.meth_ok (c.fact 23 (f := .meth "Ring" "stitched") rfl)) (by decide : ("stitched" : Str) ∉ cflds 21)⟩, trivial⟩ (g_var 0 (.inl rfl)) (g_cons (g_str) (g_cons (g_var 1 (.inl rfl)) (g_cons (g_var 2 (.inl rfl)) pga_nil))))) (gss_one (gs_ret (pg_tup (g_cons (g_int) (g_cons (g_int) pga_nil))))) (gss_nil)) (gss_one (gs_ret (pg_tup (g_cons (g_int) (g_cons (pg_neg (g_int)) pga_nil))))))
theorem ok_round_from (KX : K.In h) (G : h.Ns mainGlobals mg) (c : He.SaysD fa fn K) : Fine P w K mg base (th K) 4 d_round_from 3 R_round_from := by
  obtain ⟨fd, F⟩ := c.def_ 11 (d := d_round_from) rfl
  refine ⟨fd, _, fn_ok F sc_round_from rfl (fun cdv A outer s H E F0 B L b => ?_), F.bindsN (fun _ _ _ _ _ _ us hl => match us, hl with | [_, _, _], _ => rfl), F.kp⟩
  have x : XC (BX P w K mg base N_round_from d_round_from.qual d_round_from.scope (He.fAd K d_round_from.at_) cdv A outer s H E) ⟨th K, F0, B⟩ := ⟨⟨rfl, sc_round_from.nd, u128 b.rm⟩, rfl⟩
  exact gss_cons (gs_set (own := true) (i := 3) x.nd (pg_lst pga_nil) (.inl rfl)) (gss_cons (gs_set (own := false) (i := 4) x.nd (pg_tup (g_cons (g_var 1 (.inl rfl)) (g_cons (g_var 2 (.inl rfl)) pga_nil))) (.inl rfl)) (gss_cons (gs_tg (pg_tup (g_cons (g_int) (g_cons (g_int) pga_nil))) (t_tup x (ts_cons (t_name x.toXB 5 (.inl rfl) (.inl rfl)) (ts_cons (t_name x.toXB 6 (.inl rfl) (.inl rfl)) ggs_nil)))) (gss_cons (gs_while b.po (t_pw (pgw_or (t_cmp (oc_eq x.toXB) (g_var 3 (.inl rfl)) (pg_lst pga_nil)) (pw_or1 (t_cmp (oc_ne x.toXB) (g_var 4 (.inl rfl)) (pg_tup (g_cons (g_var 1 (.inl rfl)) (g_cons (g_var 2 (.inl rfl)) pga_nil))))))) (gss_cons (gs_append (i := 3) (g_var 4 (.inl rfl)) (.inl rfl)) (gss_cons (gs_tg (g_call (R := R_onward) (k := 3) (m := 3) (Fine.call (dd := d_onward) (ok_onward KX G c)) b.rm (by decide) b.tk (He.glo_ok KX G (c.fact 24 (f := .glo "onward") rfl)) (g_cons (g_var 0 (.inl rfl)) (g_cons (g_ix x.toXB (g_var 4 (.inl rfl)) (g_int)) (g_cons (g_ix x.toXB (g_var 4 (.inl rfl)) (g_int)) pga_nil)))) (t_tup x (ts_cons (t_name x.toXB 7 (.inl rfl) (.inl rfl)) (ts_cons (t_name x.toXB 8 (.inl rfl) (.inl rfl)) ggs_nil)))) (gss_cons (gs_augI ip_add x.nd (g_var 7 (.inl rfl)) (.inl rfl)) (gss_cons (gs_augI ip_add x.nd (g_var 8 (.inl rfl)) (.inl rfl)) (gss_one (gs_set (own := false) (i := 4) x.nd (pg_tup (g_cons (g_bin (ob_mod x.toXB) (g_bin (ob_add x.toXB) (g_ix x.toXB (g_var 4 (.inl rfl)) (g_int)) (g_var 7 (.inl rfl))) (g_mt0 (l := [(21, R_Ring_wide)]) b.rm b.tk ⟨⟨_, (by decide), Fine.met (dd := d_Ring_wide) (k := 1) (ok_Ring_wide KX G c) (He.cls_ok (c.fact 8 (f := .cls "Ring") rfl)) (He.meth_ok (c.fact 19 (f := .meth "Ring" "wide") rfl)) (by decide : ("wide" : Str) ∉ cflds 21)⟩, trivial⟩ (g_var 0 (.inl rfl)))) (g_cons (g_bin (ob_mod x.toXB) (g_bin (ob_add x.toXB) (g_ix x.toXB (g_var 4 (.inl rfl)) (g_int)) (g_var 8 (.inl rfl))) (g_mt0 (l := [(21, R_Ring_tall)]) b.rm b.tk ⟨⟨_, (by decide), Fine.met (dd := d_Ring_tall) (k := 1) (ok_Ring_tall KX G c) (He.cls_ok (c.fact 8 (f := .cls "Ring") rfl)) (He.meth_ok (c.fact 20 (f := .meth "Ring" "tall") rfl)) (by decide : ("tall" : Str) ∉ cflds 21)⟩, trivial⟩ (g_var 0 (.inl rfl)))) pga_nil))) (.inl rfl)))))))) (gss_one (gs_frz 3 (gs_ret (pg_tup (g_cons (g_var 3 (.inl rfl)) (g_cons (g_bin (ob_div x.toXB) (g_var 5 (.inl rfl)) (g_mt0 (l := [(21, R_Ring_wide)]) b.rm b.tk ⟨⟨_, (by decide), Fine.met (dd := d_Ring_wide) (k := 1) (ok_Ring_wide KX G c) (He.cls_ok (c.fact 8 (f := .cls "Ring") rfl)) (He.meth_ok (c.fact 19 (f := .meth "Ring" "wide") rfl)) (by decide : ("wide" : Str) ∉ cflds 21)⟩, trivial⟩ (g_var 0 (.inl rfl)))) (g_cons (g_bin (ob_div x.toXB) (g_var 6 (.inl rfl)) (g_mt0 (l := [(21, R_Ring_tall)]) b.rm b.tk ⟨⟨_, (by decide), Fine.met (dd := d_Ring_tall) (k := 1) (ok_Ring_tall KX G c) (He.cls_ok (c.fact 8 (f := .cls "Ring") rfl)) (He.meth_ok (c.fact 20 (f := .meth "Ring" "tall") rfl)) (by decide : ("tall" : Str) ∉ cflds 21)⟩, trivial⟩ (g_var 0 (.inl rfl)))) pga_nil))))))))))
theorem ok_ring_rounds (KX : K.In h) (G : h.Ns mainGlobals mg) (c : He.SaysD fa fn K) : Fine P w K mg base (th K) 5 d_ring_rounds 1 R_ring_rounds := by
  obtain ⟨fd, F⟩ := c.def_ 12 (d := d_ring_rounds) rfl
  refine ⟨fd, _, fn_ok F sc_ring_rounds rfl (fun cdv A outer s H E F0 B L b => ?_), F.bindsN (fun _ _ _ _ _ _ us hl => match us, hl with | [_], _ => rfl), F.kp⟩
  have x : XC (BX P w K mg base N_ring_rounds d_ring_rounds.qual d_ring_rounds.scope (He.fAd K d_ring_rounds.at_) cdv A outer s H E) ⟨th K, F0, B⟩ := ⟨⟨rfl, sc_ring_rounds.nd, u128 b.rm⟩, rfl⟩
  exact gss_cons (gs_set (own := true) (i := 1) x.nd (g_dT) (.inl rfl)) (gss_cons (gs_set (own := true) (i := 2) x.nd (pg_lst pga_nil) (.inl rfl)) (gss_cons (gs_for b.po x.calm (i_r1 (st := true) (He.free_ok KX G (c.fact 13 (f := .free "range") rfl)) (g_mt0 (l := [(21, R_Ring_wide)]) b.rm b.tk ⟨⟨_, (by decide), Fine.met (dd := d_Ring_wide) (k := 1) (ok_Ring_wide KX G c) (He.cls_ok (c.fact 8 (f := .cls "Ring") rfl)) (He.meth_ok (c.fact 19 (f := .meth "Ring" "wide") rfl)) (by decide : ("wide" : Str) ∉ cflds 21)⟩, trivial⟩ (g_var 0 (.inl rfl)))) (t_name x.toXB 3 (.inl rfl) (.inl rfl)) (gss_one (gs_for b.po x.calm (i_r1 (st := true) (He.free_ok KX G (c.fact 13 (f := .free "range") rfl)) (g_mt0 (l := [(21, R_Ring_tall)]) b.rm b.tk ⟨⟨_, (by decide), Fine.met (dd := d_Ring_tall) (k := 1) (ok_Ring_tall KX G c) (He.cls_ok (c.fact 8 (f := .cls "Ring") rfl)) (He.meth_ok (c.fact 20 (f := .meth "Ring" "tall") rfl)) (by decide : ("tall" : Str) ∉ cflds 21)⟩, trivial⟩ (g_var 0 (.inl rfl)))) (t_name x.toXB 4 (.inl rfl) (.inl rfl)) (gss_one (gs_if (t_pw (pgw_and (t_cmp (oc_eq x.toXB) (g_bin (ob_mod x.toXB) (g_bin (ob_add x.toXB) (g_var 3 (.inl rfl)) (g_var 4 (.inl rfl))) (g_int)) (g_int)) (pw_and1 (t_niD x.toXB (pg_tup (g_cons (g_var 3 (.inl rfl)) (g_cons (g_var 4 (.inl rfl)) pga_nil))) (g_var 1 (.inl rfl)))))) (gss_cons (gs_set (own := false) (i := 5) x.nd (g_call (R := R_round_from) (k := 4) (m := 3) (Fine.call (dd := d_round_from) (ok_round_from KX G c)) b.rm (by decide) b.tk (He.glo_ok KX G (c.fact 25 (f := .glo "round_from") rfl)) (g_cons (g_var 0 (.inl rfl)) (g_cons (g_var 3 (.inl rfl)) (g_cons (g_var 4 (.inl rfl)) pga_nil)))) (.inl rfl)) (gss_cons (gs_append (i := 2) (g_var 5 (.inl rfl)) (.inl rfl)) (gss_one (gs_for b.po x.calm (i_list (st := true) x.toXB (g_ix x.toXB (g_var 5 (.inl rfl)) (g_int))) (t_name x.toXB 6 (.inl rfl) (.inl rfl)) (gss_one (gs_put (i := 1) x.u1 (g_var 6 (.inl rfl)) (g_bl) rfl rfl rfl (fun _ => rfl) (.inl rfl))))))) (gss_nil)))))) (gss_one (gs_ret (g_var 2 (.inl rfl))))))
theorem ok__law_common (KX : K.In h) (G : h.Ns mainGlobals mg) (c : He.SaysD fa fn K) : Fine P w K mg base (th K) 1 d__law_common 2 R__law_common := by
  obtain ⟨fd, F⟩ := c.def_ 13 (d := d__law_common) rfl
  refine ⟨fd, _, fn_ok F sc__law_common rfl (fun cdv A outer s H E F0 B L b => ?_), F.bindsN (fun _ _ _ _ _ _ us hl => match us, hl with | [_, _], _ => rfl), F.kp⟩
  have x : XC (BX P w K mg base N__law_common d__law_common.qual d__law_common.scope (He.fAd K d__law_common.at_) cdv A outer s H E) ⟨th K, F0, B⟩ := ⟨⟨rfl, sc__law_common.nd, u128 b.rm⟩, rfl⟩
  exact gss_cons (gs_set (own := false) (i := 0) x.nd (g_bi (bf_abs x.toXB) (He.free_ok KX G (c.fact 16 (f := .free "abs") rfl)) (g_cons (g_var 0 (.inl rfl)) pga_nil)) (.inl rfl)) (gss_cons (gs_set (own := false) (i := 1) x.nd (g_bi (bf_abs x.toXB) (He.free_ok KX G (c.fact 16 (f := .free "abs") rfl)) (g_cons (g_var 1 (.inl rfl)) pga_nil)) (.inl rfl)) (gss_cons (gs_while b.po (t_cmp (oc_gt x.toXB) (g_var 1 (.inl rfl)) (g_int)) (gss_one (gs_par (o1 := false) (o2 := false) (i := 0) (j := 1) x.calm x.nd (by decide) (g_var 1 (.inl rfl)) (g_bin (ob_mod x.toXB) (g_var 0 (.inl rfl)) (g_var 1 (.inl rfl))) rfl))) (gss_one (gs_ret (g_var 0 (.inl rfl))))))
theorem ok_law (KX : K.In h) (G : h.Ns mainGlobals mg) (c : He.SaysD fa fn K) {fd : FuncData} (F : FunD K d_law.name d_law.qual d_law.params d_law.body d_law.scope [] [] (He.fAd K d_law.at_) fd) : FnOk P w K mg base (L2N.CX P w) 6 (He.fAd K d_law.at_) fd ["_law_script"] (spOf (th K) 1 R_law_k36) := by
  refine fn_ok F sc_law rfl (fun cdv A outer s H E F0 B L b => ?_)
  have x : XC (BX P w K mg base N_law d_law.qual d_law.scope (He.fAd K d_law.at_) cdv A outer s H E) ⟨th K, F0, B⟩ := ⟨⟨rfl, sc_law.nd, u128 b.rm⟩, rfl⟩
  exact gss_cons (gs_set (own := false) (i := 1) x.nd (g_call (R := R__law_ring) (k := 4) (m := 1) (Fine.call (dd := d__law_ring) (ok__law_ring KX G c)) b.rm (by decide) b.tk (He.glo_ok KX G (c.fact 28 (f := .glo "_law_ring") rfl)) (g_cons (g_call (R := R__law_loop) (k := 3) (m := 1) (Fine.call (dd := d__law_loop) (ok__law_loop KX G c)) b.rm (by decide) b.tk (He.glo_ok KX G (c.fact 27 (f := .glo "_law_loop") rfl)) (g_cons (g_call (R := R__law_draws) (k := 1) (m := 2) (Fine.call (dd := d__law_draws) (ok__law_draws KX G c)) b.rm (by decide) b.tk (He.glo_ok KX G (c.fact 26 (f := .glo "_law_draws") rfl)) (g_cons (g_var 0 (.inl rfl)) (g_cons (g_int) pga_nil))) pga_nil)) pga_nil)) (.inl rfl)) (gss_cons (gs_setLc (own := false) (i := 2) (ow := [("_law_line", 5), ("_law_right", 3), ("_law_up", 4)]) (by decide) x.calm x.nd rfl rfl (sw_true rfl rfl rfl (by decide +kernel)) (i_list (st := false) x.toXB (g_call (R := R_ring_rounds) (k := 5) (m := 1) (Fine.call (dd := d_ring_rounds) (ok_ring_rounds KX G c)) b.rm (by decide) b.tk (He.glo_ok KX G (c.fact 29 (f := .glo "ring_rounds") rfl)) (g_cons (g_var 1 (.inl rfl)) pga_nil))) (blkOk_by (N := N_law) (sc := defScope st_law) (by decide +kernel)) (fun _ _ _ _ _ => t_tup x.blk (ts_cons (t_name x.blk.toXB 5 (.inl rfl) (.inr rfl)) (ts_cons (t_name x.blk.toXB 3 (.inl rfl) (.inr rfl)) (ts_cons (t_name x.blk.toXB 4 (.inl rfl) (.inr rfl)) ggs_nil)))) (fun _ _ _ _ _ => pgts_one (t_cmp (oc_ne x.blk.toXB) (pg_tup (g_cons (g_var 3 (.inl rfl)) (g_cons (g_var 4 (.inl rfl)) pga_nil))) (pg_tup (g_cons (g_int) (g_cons (g_int) pga_nil))))) (fun _ _ _ _ _ => pg_tup (g_cons (g_var 3 (.inl rfl)) (g_cons (g_var 4 (.inl rfl)) pga_nil))) (fun _ => rfl)) (gss_cons (gs_for b.po x.calm (i_list (st := true) x.toXB (g_var 2 (.inl rfl))) (t_tup x (ts_cons (t_name x.toXB 3 (.inl rfl) (.inl rfl)) (ts_cons (t_name x.toXB 4 (.inl rfl) (.inl rfl)) ggs_nil))) (gss_cons (gs_if (t_pw (pgw_and (t_cmp (oc_ne x.toXB) (pg_tup (g_cons (g_var 3 (.inl rfl)) (g_cons (g_var 4 (.inl rfl)) pga_nil))) (g_ix x.toXB (g_var 2 (.inl rfl)) (g_int))) (pw_and1 (t_cmp (oc_ne x.toXB) (pg_tup (g_cons (pg_neg (g_var 3 (.inl rfl))) (g_cons (pg_neg (g_var 4 (.inl rfl))) pga_nil))) (g_ix x.toXB (g_var 2 (.inl rfl)) (g_int)))))) (gss_one (gs_ret (g_bl))) (gss_nil)) (gss_one (gs_if (t_cmp (oc_ne x.toXB) (g_call (R := R__law_common) (k := 1) (m := 2) (Fine.call (dd := d__law_common) (ok__law_common KX G c)) b.rm (by decide) b.tk (He.glo_ok KX G (c.fact 30 (f := .glo "_law_common") rfl)) (g_cons (g_var 3 (.inl rfl)) (g_cons (g_var 4 (.inl rfl)) pga_nil))) (g_int)) (gss_one (gs_ret (g_bl))) (gss_nil))))) (gss_one (gs_ret (g_bl)))))
end
abbrev RR : PySem.W.OpenRow := PySem.W.OpenLaw.row PySem.Challenge.rw_sashiko_k36_whole_rounds_go_alike
abbrev hk : PySem.W.Hook := He.hookD 5 fa fn
def ob (s : PySem.W.SharedT) : He.AlD := He.obsDG 5 fa fn (HandSHeadRun.getT s)
theorem ob_eq (s : PySem.W.SharedT) : ob s = hk.obs s.abs := He.obsDG_eq (HandSHeadRun.getT_eq s)
abbrev loose : List Str := ["SewError", "BadSize", "BadBit", "NoLine", "NoStep", "MOST", "ask_bits", "Ring", "onward", "round_from", "ring_rounds", "_law_ring", "_law_bits", "_law_row", "_law_loop", "_law_draws", "_law_common"]
theorem run (w : World) : HandSHeadRun.RunEq RR (PySem.W.view RR.prog [21]) hk ob 6000 loose w := by
  intro os
  kernel_rfl
theorem pre (hl : ∀ ns : List Int, ns.length ≤ 63 → R_law_k36 [.frl ns] = .ok (.bl true, false)) (w : World) (mg : Str → Option Value) (a : Addr) (h : Heap) (K : PySem.W.Frag) (KX : K.In h) (G : h.Ns mainGlobals mg) (c : He.SaysD fa fn K) (hmg : mg "law" = some (.ref a)) :
    ∃ (fd : FuncData) (sp : Sp), (∀ (s : Shared) (u : Value), BindsTo s fd ⟨[u], []⟩ [("_law_script", u)]) ∧ (∀ (H : Hp) (a : Addr) (ns : List Int), ns.length ≤ 63 → Only H → SqL K H a (ns.map V.int) → sp [.ref a] H (fun v _ => v = .bl true) fun _ _ _ => False) ∧
      ∀ base : Heap, K.In base → base.Ns mainGlobals mg → FnOk (PySem.Challenge.rw_sashiko_k36_whole_rounds_go_alike).prog w K mg base (CXW (PySem.Challenge.rw_sashiko_k36_whole_rounds_go_alike).prog) 6 a fd ["_law_script"] sp := by
  obtain ⟨fd, F⟩ := c.def_ 14 (d := d_law) rfl
  have e := hmg.symm.trans (He.glo_ok KX G (c.fact 31 (f := .glo "law") rfl))
  cases e
  have b := FunD.bindsA (ps := ["_law_script"]) F fun _ _ _ _ _ _ us hl => match us, hl with | [_], _ => rfl
  exact ⟨fd, spOf (th K) 1 R_law_k36, fun s u => b s [u] rfl, fun H a ns hn _ hS => law_sp (θ := th K) hl H a ns hn hS, fun base _ _ => wcx (ok_law KX G c F)⟩
end K36
namespace G
open PySem L2
section
variable {f g h : ES} {t u : TSm} {s : IS} {a b : SS} {ρ : Sl} {i j : Nat} {d e : D} {k : Kd}
@[simp] theorem shr_ap (d : D) : shr d = .ok (d, .sh) := rfl
@[simp] theorem eVar_ap : eVar i ρ = match ρ[i]? with
  | some (.va d) => .ok (d, .sh)
  | some (.ow d) => .ok (d, .at i)
  | _ => .no := rfl
@[simp] theorem eC_ap : eC d ρ = .ok (d, .sh) := rfl
@[simp] theorem eBin_ap (op : D → D → Out (D × Kd)) : eBin op f g ρ = (f ρ).bind fun x => (g ρ).bind fun y => op x.1 y.1 := rfl
@[simp] theorem eUn_ap (op : D → Out (D × Kd)) : eUn op f ρ = (f ρ).bind fun x => op x.1 := rfl
@[simp] theorem eArgs_nil : eArgs [] ρ = .ok [] := rfl
@[simp] theorem eArgs_cons (fs : List ES) : eArgs (f :: fs) ρ = (f ρ).bind fun x => (eArgs fs ρ).bind fun xs => .ok (x :: xs) := rfl
@[simp] theorem eChain_ap (op op' : D → D → Out (D × Kd)) : eChain op op' f g h ρ = (f ρ).bind fun x => (g ρ).bind fun y => (op x.1 y.1).bind fun z => (oBl z.1).bind fun b => if b = true then (h ρ).bind fun w => op' y.1 w.1 else shr (.bl false) := by
  show ((f ρ).bind fun x => (g ρ).bind fun y => (op x.1 y.1).bind fun z => match z.1 with
    | .bl true => (h ρ).bind fun w => op' y.1 w.1
    | .bl false => shr (.bl false)
    | _ => .no) = _
  congr 1
  funext x
  congr 1
  funext y
  congr 1
  funext z
  obtain ⟨d, k⟩ := z
  cases d <;> first | rfl | skip
  rename_i b
  cases b <;> rfl
@[simp] theorem oBl_ap (c : Bool) : oBl (.bl c) = .ok c := rfl
@[simp] theorem eAnd_ap : eAnd f g ρ = (f ρ).bind fun x => (oBl x.1).bind fun b => if b = true then g ρ else shr (.bl false) := rfl
@[simp] theorem eOr_ap : eOr f g ρ = (f ρ).bind fun x => (oBl x.1).bind fun b => if b = true then shr (.bl true) else g ρ := rfl
@[simp] theorem oNot_ap (c : Bool) : oNot (.bl c) = .ok (.bl (!c), .sh) := rfl
@[simp] theorem tBl_ap : tBl f ρ = (f ρ).bind fun x => oBl x.1 := rfl
@[simp] theorem tTru_ap : tTru f ρ = (f ρ).bind fun x => oTru x.1 := rfl
@[simp] theorem tAnd_ap : G.tAnd t u ρ = (t ρ).bind fun b => if b = true then u ρ else .ok false := rfl
@[simp] theorem tOr_ap : G.tOr t u ρ = (t ρ).bind fun b => if b = true then .ok true else u ρ := rfl
@[simp] theorem tNot_ap : G.tNot t ρ = (t ρ).bind fun b => .ok (!b) := rfl
@[simp] theorem eIf_ap : eIf t f g ρ = (t ρ).bind fun b => if b = true then f ρ else g ρ := rfl
@[simp] theorem allSolid_nil : allSolid [] = true := rfl
@[simp] theorem allSolid_cons (x : D × Kd) (xs : List (D × Kd)) : allSolid (x :: xs) = (x.2.solid && allSolid xs) := rfl
@[simp] theorem solid_sh : Kd.solid .sh = true := rfl
@[simp] theorem solid_fr : Kd.solid .fr = true := rfl
@[simp] theorem solid_at : Kd.solid (.at i) = false := rfl
@[simp] theorem eTup_ap (fs : List ES) : eTup fs ρ = (eArgs fs ρ).bind fun xs => if allSolid xs = true ∧ xs.length ≤ SZ then shr (.tup (xs.map (·.1))) else .no := rfl
@[simp] theorem eLst_ap (fs : List ES) : eLst fs ρ = (eArgs fs ρ).bind fun xs => if allSolid xs = true ∧ xs.length ≤ SZ then .ok (.lst (xs.map (·.1)), .fr) else .no := rfl
@[simp] theorem ePart_none : ePart none ρ = .ok none := rfl
@[simp] theorem ePart_some : ePart (some f) ρ = (f ρ).bind fun x => match x.1 with
  | .int i => .ok (some i)
  | _ => .no := rfl
@[simp] theorem eSl_ap (lo hi : Option ES) : eSl f lo hi ρ = (f ρ).bind fun x => (ePart lo ρ).bind fun l => (ePart hi ρ).bind fun h => oSl x.1 l h := rfl
@[simp] theorem eBi_ap (bi : Bi) (fs : List ES) : eBi bi fs ρ = (eArgs fs ρ).bind fun xs => oBi bi (xs.map (·.1)) := rfl
@[simp] theorem eFn_ap (R : List D → Out (D × Bool)) (fs : List ES) : eFn R fs ρ = (eArgs fs ρ).bind fun xs => match R (xs.map (·.1)) with
  | .ok (d, b) => if allSolid xs then .ok (d, if b then .fr else .sh) else if flat d && okArgs xs then shr d else if (b && newD d) && okArgs xs then .ok (d, .fr) else .no
  | .ex c gs => if allSolid xs || (gs.isEmpty && okArgs xs) then .ex c gs else .no
  | .no => .no := rfl
/-- a method of the table's only class -/
@[simp] theorem eM_one (fs : List ES) (c : Nat) (R : List D → Out (D × Bool)) : eM [(c, R)] f fs ρ = match f ρ with
  | .ok (.obj c' ds, k) => if c' = c ∧ k.solid = true then (eArgs fs ρ).bind fun xs => (match R (.obj c' ds :: xs.map (·.1)) with
    | .ok (d, b) => if allSolid xs then .ok (d, if b then .fr else .sh) else if flat d && okArgs xs then shr d else if (b && newD d) && okArgs xs then .ok (d, .fr) else .no
    | .ex c gs => if allSolid xs || (gs.isEmpty && okArgs xs) then .ex c gs else .no
    | .no => .no) else .no
  | _ => .no := by
  unfold eM eMeth
  cases q : f ρ with
  | no => rfl
  | ex n gs => rfl
  | ok z =>
    obtain ⟨d, k⟩ := z
    cases d with
    | obj c' ds =>
      by_cases e : c' = c
      · subst e
        have e1 : mIx [(c', R)] c' = some c' := by unfold mIx; rw [List.lookup_cons_self]
        have e2 : mGam [(c', R)] c' = R := by unfold mGam; rw [List.lookup_cons_self]
        show (match mIx [(c', R)] c' with
          | some n => if k.solid = true then eCall (mGam [(c', R)]) n (eC (.obj c' ds) :: fs) ρ else .no
          | none => .no) = _
        rw [e1]
        show (if k.solid = true then eCall (mGam [(c', R)]) c' (eC (.obj c' ds) :: fs) ρ else .no) = _
        rw [meth_args, e2]
        by_cases s : k.solid = true
        · rw [if_pos s]
          refine Eq.trans ?_ (if_pos (⟨rfl, s⟩ : c' = c' ∧ k.solid = true)).symm
          cases eArgs fs ρ <;> rfl
        · rw [if_neg s]
          exact (if_neg (fun z : c' = c' ∧ k.solid = true => s z.2)).symm
      · have ne : (c' == c) = false := beq_eq_false_iff_ne.mpr e
        have e1 : mIx [(c, R)] c' = none := by
          unfold mIx
          rw [List.lookup_cons, ne]
          rfl
        show (match mIx [(c, R)] c' with
          | some n => if k.solid = true then eCall (mGam [(c, R)]) n (eC (.obj c' ds) :: fs) ρ else .no
          | none => .no) = _
        rw [e1]
        exact (if_neg (fun z : c' = c ∧ k.solid = true => e z.1)).symm
    | _ => rfl
@[simp] theorem sSkip_ap : sSkip ρ = .nx ρ := rfl
theorem sSeq_ap : sSeq a b ρ = match a ρ with
  | .nx ρ' => b ρ'
  | o => o := rfl
@[simp] theorem sIf_ap : G.sIf t a b ρ = match t ρ with
  | .ok c => if c = true then a ρ else b ρ
  | .ex n fs => .ex n fs ρ
  | .no => .no := rfl
@[simp] theorem sWith_ok {α : Type} (x : α) (k : α → Fl) : sWith (.ok x) ρ k = k x := rfl
@[simp] theorem sWith_ex {α : Type} (n : Nat) (fs : List D) (k : α → Fl) : sWith (.ex n fs) ρ k = .ex n fs ρ := rfl
@[simp] theorem sDrop_ap : sDrop f ρ = sWith (f ρ) ρ fun _ => .nx ρ := rfl
@[simp] theorem asg_sh (o : Bool) (x : D) : asg o i (x, .sh) ρ = if i < ρ.length then .nx (ρ.set i (.va x)) else .no := rfl
@[simp] theorem notObj_bl (b : Bool) : notObj (.bl b) = true := rfl
@[simp] theorem notObj_int (b : Int) : notObj (.int b) = true := rfl
@[simp] theorem notObj_str (b : Str) : notObj (.str b) = true := rfl
@[simp] theorem notObj_non : notObj .non = true := rfl
@[simp] theorem notObj_lst (b : List D) : notObj (.lst b) = true := rfl
@[simp] theorem notObj_tup (b : List D) : notObj (.tup b) = true := rfl
@[simp] theorem notObj_dK (a : List Key) (b : List D) : notObj (.dK a b) = true := rfl
@[simp] theorem notObj_dT (a : List (List Key)) (b : List D) : notObj (.dT a b) = true := rfl
@[simp] theorem notObj_obj (a : Nat) (b : List D) : notObj (.obj a b) = false := rfl
@[simp] theorem flat_bl (b : Bool) : flat (.bl b) = true := rfl
@[simp] theorem flat_int (b : Int) : flat (.int b) = true := rfl
@[simp] theorem flat_str (b : Str) : flat (.str b) = true := rfl
@[simp] theorem flat_non : flat .non = true := rfl
@[simp] theorem flat_lst (b : List D) : flat (.lst b) = false := rfl
@[simp] theorem flat_tup (b : List D) : flat (.tup b) = false := rfl
@[simp] theorem newD_obj (c : Nat) (b : List D) : newD (.obj c b) = true := rfl
@[simp] theorem newD_lst (b : List D) : newD (.lst b) = b.all flat := rfl
@[simp] theorem flat_ints (us : List Int) : (us.map D.int).all flat = true := by
  rw [List.all_map]
  exact List.all_eq_true.mpr fun _ _ => rfl
@[simp] theorem clean_int (n : Int) (k : Kd) : clean (.int n) k = true := rfl
@[simp] theorem clean_bl (n : Bool) (k : Kd) : clean (.bl n) k = true := rfl
@[simp] theorem clean_str (n : Str) (k : Kd) : clean (.str n) k = true := rfl
@[simp] theorem clean_non (k : Kd) : clean .non k = true := rfl
@[simp] theorem clean_lst (ds : List D) : clean (.lst ds) .fr = ds.all flat := rfl
@[simp] theorem clean_dK (ks : List Key) (ds : List D) : clean (.dK ks ds) .fr = ds.all flat := rfl
@[simp] theorem clean_dT (ks : List (List Key)) (ds : List D) : clean (.dT ks ds) .fr = ds.all flat := rfl
@[simp] theorem asg_frT (x : D) : asg true i (x, .fr) ρ = if i < ρ.length then (if notObj x = true then .nx (ρ.set i (.ow x)) else .no) else .no := rfl
@[simp] theorem asg_frF (x : D) : asg false i (x, .fr) ρ = if i < ρ.length then .nx (ρ.set i (.va x)) else .no := rfl
@[simp] theorem sAsg_ap (o : Bool) : G.sAsg o i f ρ = sWith (f ρ) ρ fun x => asg o i x ρ := rfl
@[simp] theorem sTg_ap (tg : Tg) : G.sTg tg f ρ = sWith (f ρ) ρ fun x => if x.2.solid then (match tgSet tg x.1 ρ with
  | some ρ' => .nx ρ'
  | none => .no) else .no := rfl
@[simp] theorem sRet_ap : sRet f ρ = sWith (f ρ) ρ fun x => .rt x.1 x.2 ρ := rfl
@[simp] theorem sRetN_ap : sRetN ρ = .rt .non .sh ρ := rfl
@[simp] theorem sRaise_ap (n : Nat) : sRaise n ρ = .ex n [] ρ := rfl
@[simp] theorem sAugI_ap (op : Int → Int → Int) : sAugI op i f ρ = match ρ[i]? with
  | some (.va (.int a)) => sWith (f ρ) ρ fun y => (match y.1 with
    | .int b => .nx (ρ.set i (.va (.int (op a b))))
    | _ => .no)
  | _ => .no := rfl
@[simp] theorem sOwL_ap (k : List D → D → Option (List D)) : sOwL i k f ρ = match ρ[i]? with
  | some (.ow (.lst xs)) => sWith (f ρ) ρ fun y => if y.2.solid then (match k xs y.1 with
    | some ys => .nx (ρ.set i (.ow (.lst ys)))
    | none => .no) else .no
  | _ => .no := rfl
@[simp] theorem sOwL0_ap (k : List D → Option (List D)) : sOwL0 i k ρ = match ρ[i]? with
  | some (.ow (.lst xs)) => (match k xs with
    | some ys => .nx (ρ.set i (.ow (.lst ys)))
    | none => .no)
  | _ => .no := rfl
@[simp] theorem sFrz_ap : sFrz i ρ = match ρ[i]? with
  | some (.ow d) => .nx (ρ.set i (.va d))
  | _ => .nx ρ := rfl
@[simp] theorem sPar_ap (o1 o2 : Bool) : sPar o1 o2 i j f g ρ = sWith (f ρ) ρ fun x => sWith (g ρ) ρ fun y => match asg o1 i x ρ with
  | .nx ρ1 => asg o2 j y ρ1
  | o => o := rfl
@[simp] theorem sPut_ap : sPut i f g ρ = sWith (g ρ) ρ fun v => if v.2.solid then (match ρ[i]? with
  | some (.ow d) => sWith (f ρ) ρ fun k => (match kPut d k.1 v.1 with
    | some d' => .nx (ρ.set i (.ow d'))
    | none => .no)
  | _ => .no) else .no := rfl
@[simp] theorem sFld_ap (fx : Nat → Nat → Bool) : G.sFld fx i f ρ = sWith (f ρ) ρ fun x => if clean x.1 x.2 then (match ρ[i]? with
  | some (.me c ds) => if fx c ds.length then .nx (ρ.set i (.me c (ds ++ [x.1]))) else .no
  | _ => .no) else .no := rfl
theorem sFor_ap (tg : Tg) : G.sFor s tg a ρ = sWith (s ρ) ρ fun ds => forL tg a ds ρ := rfl
@[simp] theorem tgSet_one : tgSet (.one i) d ρ = if i < ρ.length then some (ρ.set i (.va d)) else none := rfl
@[simp] theorem tgSet_tt (ts : List Tg) (ds : List D) : tgSet (.tup ts) (.tup ds) ρ = tgSets ts ds ρ := rfl
@[simp] theorem tgSet_tl (ts : List Tg) (ds : List D) : tgSet (.tup ts) (.lst ds) ρ = tgSets ts ds ρ := rfl
@[simp] theorem tgSets_nil : tgSets [] [] ρ = some ρ := rfl
@[simp] theorem tgSets_cons (tg : Tg) (ts : List Tg) (ds : List D) : tgSets (tg :: ts) (d :: ds) ρ = (tgSet tg d ρ).bind fun ρ' => tgSets ts ds ρ' := rfl
@[simp] theorem oAdd_ii (m n : Int) : oAdd (.int m) (.int n) = .ok (.int (m + n), .sh) := rfl
@[simp] theorem oAdd_ll (xs ys : List D) : oAdd (.lst xs) (.lst ys) = if xs.length + ys.length ≤ SZ then .ok (.lst (xs ++ ys), .fr) else .no := rfl
@[simp] theorem oAdd_tt (xs ys : List D) : oAdd (.tup xs) (.tup ys) = if xs.length + ys.length ≤ SZ then shr (.tup (xs ++ ys)) else .no := rfl
@[simp] theorem oSub_ii (m n : Int) : oSub (.int m) (.int n) = .ok (.int (m - n), .sh) := rfl
theorem oMul_ii (m n : Int) : oMul (.int m) (.int n) = if smallI m || smallI n then .ok (.int (m * n), .sh) else .no := rfl
theorem oMul_l {m n : Int} (h1 : -(2 ^ 64) < m) (h2 : m < 2 ^ 64) : oMul (.int m) (.int n) = .ok (.int (m * n), .sh) := by
  rw [oMul_ii, if_pos]
  rw [show smallI m = true from decide_eq_true ⟨h1, h2⟩, Bool.true_or]
theorem oMul_r {m n : Int} (h1 : -(2 ^ 64) < n) (h2 : n < 2 ^ 64) : oMul (.int m) (.int n) = .ok (.int (m * n), .sh) := by
  rw [oMul_ii, if_pos]
  rw [show smallI n = true from decide_eq_true ⟨h1, h2⟩, Bool.or_true]
@[simp] theorem oMod_ii (m n : Int) : oMod (.int m) (.int n) = if 0 < n then .ok (.int (m % n), .sh) else .no := rfl
@[simp] theorem oDiv_ii (m n : Int) : oDiv (.int m) (.int n) = if 0 < n ∧ n < 1073741824 then .ok (.int (m / n), .sh) else .no := rfl
@[simp] theorem oPow_ii (m n : Int) : oPow (.int m) (.int n) = if 0 ≤ n ∧ n ≤ 1000000 ∧ m.natAbs < 2 ^ 64 then .ok (.int (m ^ n.toNat), .sh) else .no := rfl
@[simp] theorem oNeg_i (m : Int) : oNeg (.int m) = .ok (.int (-m), .sh) := rfl
@[simp] theorem oEq_ii (m n : Int) : oEq (.int m) (.int n) = .ok (.bl (decide (m = n)), .sh) := rfl
@[simp] theorem oEq_ss (m n : Str) : oEq (.str m) (.str n) = .ok (.bl (decide (m = n)), .sh) := rfl
@[simp] theorem oEq_bb (m n : Bool) : oEq (.bl m) (.bl n) = .ok (.bl (decide (m = n)), .sh) := rfl
@[simp] theorem oNe_ii (m n : Int) : oNe (.int m) (.int n) = .ok (.bl (!decide (m = n)), .sh) := rfl
@[simp] theorem oNe_ss (m n : Str) : oNe (.str m) (.str n) = .ok (.bl (!decide (m = n)), .sh) := rfl
@[simp] theorem oNe_bb (m n : Bool) : oNe (.bl m) (.bl n) = .ok (.bl (!decide (m = n)), .sh) := rfl
@[simp] theorem oLt_ii (m n : Int) : oLt (.int m) (.int n) = .ok (.bl (decide (m < n)), .sh) := rfl
@[simp] theorem oLe_ii (m n : Int) : oLe (.int m) (.int n) = .ok (.bl (decide (m ≤ n)), .sh) := rfl
@[simp] theorem oGt_ii (m n : Int) : oGt (.int m) (.int n) = .ok (.bl (decide (n < m)), .sh) := rfl
@[simp] theorem oGe_ii (m n : Int) : oGe (.int m) (.int n) = .ok (.bl (decide (n ≤ m)), .sh) := rfl
@[simp] theorem oTru_bl (c : Bool) : oTru (.bl c) = .ok c := rfl
@[simp] theorem oTru_int (m : Int) : oTru (.int m) = .ok (m != 0) := rfl
@[simp] theorem oTru_lst (xs : List D) : oTru (.lst xs) = .ok (!xs.isEmpty) := rfl
@[simp] theorem oSl_l (xs : List D) (lo hi : Option Int) : oSl (.lst xs) lo hi = .ok (.lst (cutD xs lo hi), .fr) := rfl
@[simp] theorem oSl_t (xs : List D) (lo hi : Option Int) : oSl (.tup xs) lo hi = .ok (.tup (cutD xs lo hi), .sh) := rfl
@[simp] theorem fxT_ap (l : List (Nat × Nat)) (n : Nat) : fxT l n = l.lookup n := rfl
@[simp] theorem oFld_ap (fx : Nat → Option Nat) (c : Nat) (ds : List D) : oFld fx (.obj c ds) = match fx c with
  | some i => (match ds[i]? with
    | some d => .ok (d, .sh)
    | none => .no)
  | none => .no := rfl
@[simp] theorem oBi_lenL (xs : List D) : oBi .len [.lst xs] = .ok (.int xs.length, .sh) := rfl
@[simp] theorem oBi_lenT (xs : List D) : oBi .len [.tup xs] = .ok (.int xs.length, .sh) := rfl
@[simp] theorem oBi_abs (m : Int) : oBi .abs [.int m] = .ok (.int (if m < 0 then -m else m), .sh) := rfl
@[simp] theorem oBi_intI (m : Int) : oBi .int [.int m] = .ok (.int m, .sh) := rfl
@[simp] theorem oBi_intB (m : Bool) : oBi .int [.bl m] = .ok (.int (if m then 1 else 0), .sh) := rfl
@[simp] theorem oBi_listL (xs : List D) : oBi .list [.lst xs] = .ok (.lst xs, .fr) := rfl
@[simp] theorem oBi_listT (xs : List D) : oBi .list [.tup xs] = .ok (.lst xs, .fr) := rfl
@[simp] theorem oBi_max2 (m n : Int) : oBi .max2 [.int m, .int n] = .ok (.int (if n > m then n else m), .sh) := rfl
@[simp] theorem oBi_min2 (m n : Int) : oBi .min2 [.int m, .int n] = .ok (.int (if n < m then n else m), .sh) := rfl
theorem oBi_sum (ns : List Int) : oBi .sum [.lst (ns.map .int)] = .ok (.int ns.sum, .sh) := by
  show (match intsOf (ns.map D.int) with
    | some ns => shr (.int ns.sum)
    | none => .no) = _
  rw [intsOf_map]
  rfl
@[simp] theorem itemsOf_l (xs : List D) : itemsOf (.lst xs) = some xs := rfl
@[simp] theorem itemsOf_t (xs : List D) : itemsOf (.tup xs) = some xs := rfl
@[simp] theorem itemsOf_f (ns : List Int) : itemsOf (.frl ns) = some (ns.map D.int) := rfl
@[simp] theorem itE_ap (st : Bool) : itE st f ρ = (f ρ).bind fun x => if st && !x.2.solid then .no else match itemsOf x.1 with
  | some ds => .ok ds
  | none => .no := rfl
@[simp] theorem itR1_ap : itR1 f ρ = (f ρ).bind fun x => match x.1 with
  | .int j => if in62 j then .ok (rngD 0 j) else .no
  | _ => .no := rfl
@[simp] theorem itR2_ap : itR2 f g ρ = (f ρ).bind fun x => (g ρ).bind fun y => match x.1, y.1 with
  | .int i, .int j => if in62 i && in62 j then .ok (rngD i j) else .no
  | _, _ => .no := rfl
theorem in62_of {m : Int} (h1 : -(2 ^ 62) < m) (h2 : m < 2 ^ 62) : in62 m = true := by
  have e : (2 : Int) ^ 62 = 4611686018427387904 := by decide
  rw [e] at h1 h2
  have h3 : m.natAbs < 4611686018427387904 := by omega
  exact decide_eq_true h3
theorem ixN_ok {n : Nat} {i : Int} (h0 : 0 ≤ i) (h1 : i < n) : ixN n i = some i.toNat := by
  unfold ixN
  rw [if_pos h0, if_pos h1]
theorem oIx_l {xs : List D} {i : Int} {d : D} (h0 : 0 ≤ i) (h : xs[i.toNat]? = some d) : oIx (.lst xs) (.int i) = .ok (d, .sh) := by
  have l := (List.getElem?_eq_some_iff.mp h).1
  show (match atI xs i with
    | some d => shr d
    | none => .no) = _
  unfold atI
  rw [ixN_ok h0 (by omega)]
  show (match xs[i.toNat]? with
    | some d => shr d
    | none => .no) = _
  rw [h]
  rfl
/-- the whole numbers of a list -/
def gt (us : List Int) (n : Nat) : Int := us.getD n 0
theorem gt_eq {us : List Int} {n : Nat} (h : n < us.length) : gt us n = us[n] := by
  unfold gt
  rw [List.getD_eq_getElem?_getD, List.getElem?_eq_getElem h]
  rfl
theorem oIx_i {us : List Int} {i : Int} (h0 : 0 ≤ i) (h1 : i < us.length) : oIx (.lst (us.map .int)) (.int i) = .ok (.int (gt us i.toNat), .sh) := by
  refine oIx_l h0 ?_
  have l : i.toNat < us.length := by omega
  rw [List.getElem?_map, List.getElem?_eq_getElem l, gt_eq l]
  rfl
/-- a for whose body goes on: by a word of the turns -/
theorem forL_nx {tg : Tg} {I : Nat → Sl → Prop} : ∀ {ds : List D} {k : Nat} {ρ : Sl}, I k ρ → (∀ (j : Nat) (d : D) (ρ : Sl), ds[j]? = some d → I (k + j) ρ → ∃ ρ1 ρ2, tgSet tg d ρ = some ρ1 ∧ (a ρ1 = .nx ρ2 ∨ a ρ1 = .ct ρ2) ∧ I (k + j + 1) ρ2) →
    ∃ ρ', forL tg a ds ρ = .nx ρ' ∧ I (k + ds.length) ρ'
  | [], k, ρ, h, _ => ⟨ρ, rfl, h⟩
  | d :: ds, k, ρ, h, st => by
    obtain ⟨ρ1, ρ2, e1, e2, e3⟩ := st 0 d ρ rfl h
    obtain ⟨ρ', e4, e5⟩ := forL_nx (I := I) (ds := ds) (k := k + 1) (ρ := ρ2) e3 fun j d' ρ hd hi => by
      have := st (j + 1) d' ρ (by simpa using hd) (by rw [show k + (j + 1) = k + 1 + j from by omega]; exact hi)
      rw [show k + (j + 1) + 1 = k + 1 + j + 1 from by omega] at this
      exact this
    refine ⟨ρ', ?_, by rw [List.length_cons, show k + (ds.length + 1) = k + 1 + ds.length from by omega]; exact e5⟩
    unfold forL
    rw [e1]
    rcases e2 with e2 | e2 <;> (dsimp only; rw [e2]; exact e4)
theorem FU_eq : FU = 1000000000 := by unfold FU; rfl
/-- a while by a measure and a word -/
theorem sWhile_nx {I : Sl → Prop} (μ : Sl → Nat) (st : ∀ ρ, I ρ → (t ρ = .ok false) ∨ (t ρ = .ok true ∧ ∃ ρ2, (a ρ = .nx ρ2 ∨ a ρ = .ct ρ2) ∧ I ρ2 ∧ μ ρ2 < μ ρ)) (h : I ρ) (hm : μ ρ < 1000000000) :
    ∃ ρ', G.sWhile t a ρ = .nx ρ' ∧ I ρ' ∧ t ρ' = .ok false := by
  have key : ∀ (n : Nat) (ρ : Sl), I ρ → μ ρ < n → ∃ ρ', whileL t a n ρ = .nx ρ' ∧ I ρ' ∧ t ρ' = .ok false := by
    intro n
    induction n with
    | zero => intro ρ _ h; omega
    | succ n ih =>
      intro ρ hi hl
      rcases st ρ hi with e | ⟨e, ρ2, e2, i2, l2⟩
      · refine ⟨ρ, ?_, hi, e⟩
        unfold whileL
        rw [e]
      · obtain ⟨ρ', e3, e4⟩ := ih ρ2 i2 (by omega)
        refine ⟨ρ', ?_, e4⟩
        unfold whileL
        rw [e]
        rcases e2 with e2 | e2 <;> (dsimp only; rw [e2]; exact e3)
  unfold G.sWhile
  rw [FU_eq]
  exact key _ ρ h hm
end
end G
namespace GD
open PySem L2 G
theorem kAp_i {us : List Int} {x : Int} (h : us.length < SZ) : kAp (us.map D.int) (.int x) = some ((us ++ [x]).map D.int) := by
  unfold kAp
  rw [List.length_map, if_pos h, List.map_append]
  rfl
theorem draws_while {fr : D} {n : Int} {mix c : Int} {us : List Int} {rest : Int} {B : Nat} (hB : B < 1000000) (hn : n ≤ B) (hl : us.length ≤ B) (hr : 0 ≤ rest) :
    ∃ us' : List Int, ∃ rest' : Int, us'.length ≤ B ∧ G.sWhile T__law_draws_b2 S__law_draws_b1
      [.va fr, .va (.int n), .ow (.lst (us.map .int)), .va (.int mix), .va (.int c), .va (.int rest)] = .nx [.va fr, .va (.int n), .ow (.lst (us'.map .int)), .va (.int mix), .va (.int c), .va (.int rest')] := by
  obtain ⟨ρ', h1, ⟨us', rest', rfl, h2, _⟩, _⟩ := sWhile_nx (I := fun ρ => ∃ us : List Int, ∃ rest : Int, ρ = [.va fr, .va (.int n), .ow (.lst (us.map .int)), .va (.int mix), .va (.int c), .va (.int rest)] ∧ us.length ≤ B ∧ 0 ≤ rest)
    (t := T__law_draws_b2) (a := S__law_draws_b1)
    (μ := fun ρ => match ρ[2]? with
      | some (Slot.ow (.lst xs)) => B - xs.length
      | _ => 0)
    (ρ := [.va fr, .va (.int n), .ow (.lst (us.map .int)), .va (.int mix), .va (.int c), .va (.int rest)]) (fun ρ ⟨us, rest, e, hl, hr⟩ => by
      subst e
      by_cases c1 : 0 < rest
      · by_cases c2 : (us.length : Int) < n
        · right
          have hs : us.length < SZ := by unfold SZ; omega
          refine ⟨by simp [T__law_draws_b2, c1, c2], _, .inl ?_, ⟨us ++ [rest % 1000003], rest / 1000003, rfl, ?_, ?_⟩, ?_⟩
          · simp [S__law_draws_b1, sSeq_ap, kAp_i hs]
          · simp
            omega
          · omega
          · simp
            omega
        · left
          simp [T__law_draws_b2, c1, c2]
      · left
        simp [T__law_draws_b2, c1]) ⟨us, rest, rfl, hl, hr⟩ (by simp; omega)
  exact ⟨us', rest', h2, h1⟩
theorem draws_while2 {fr : D} {n : Int} {mix : Int} {s4 s5 : Slot} {us : List Int} {B : Nat} (hB : B < 1000000) (hn : n ≤ B) (hl : us.length ≤ B) :
    ∃ us' : List Int, ∃ mix' : Int, n ≤ us'.length ∧ us'.length ≤ B ∧ G.sWhile T__law_draws_b5 S__law_draws_b4
      [.va fr, .va (.int n), .ow (.lst (us.map .int)), .va (.int mix), s4, s5] = .nx [.va fr, .va (.int n), .ow (.lst (us'.map .int)), .va (.int mix'), s4, s5] := by
  obtain ⟨ρ', h1, ⟨us', mix', rfl, h2⟩, h3⟩ := sWhile_nx (I := fun ρ => ∃ us : List Int, ∃ mix : Int, ρ = [.va fr, .va (.int n), .ow (.lst (us.map .int)), .va (.int mix), s4, s5] ∧ us.length ≤ B)
    (t := T__law_draws_b5) (a := S__law_draws_b4)
    (μ := fun ρ => match ρ[2]? with
      | some (Slot.ow (.lst xs)) => B - xs.length
      | _ => 0)
    (ρ := [.va fr, .va (.int n), .ow (.lst (us.map .int)), .va (.int mix), s4, s5]) (fun ρ ⟨us, mix, e, hl⟩ => by
      subst e
      by_cases c2 : (us.length : Int) < n
      · right
        have hs : us.length < SZ := by unfold SZ; omega
        have b1 : (mix * 48271 + 11) % 2147483647 < 2 ^ 64 := by omega
        have b2 : -(2 ^ 64) < (mix * 48271 + 11) % 2147483647 := by omega
        refine ⟨by simp [T__law_draws_b5, c2], _, .inl ?_, ⟨us ++ [((mix * 48271 + 11) % 2147483647) * ((mix * 48271 + 11) % 2147483647) % 999983], (mix * 48271 + 11) % 2147483647, rfl, ?_⟩, ?_⟩
        · simp [S__law_draws_b4, sSeq_ap, kAp_i hs, oMul_r, oMul_l b2 b1]
        · simp
          omega
        · simp
          omega
      · left
        simp [T__law_draws_b5, c2]) ⟨us, mix, rfl, hl⟩ (by simp; omega)
  refine ⟨us', mix', ?_, h2, h1⟩
  simp [T__law_draws_b5] at h3
  exact h3
/-- the draws: at least as many whole numbers as are asked for -/
theorem draws {ns : List Int} {n : Int} (hns : ns.length ≤ 63) (h0 : 0 ≤ n) (hn : n ≤ 1000) : ∃ us : List Int, R__law_draws [.frl ns, .int n] = .ok (.lst (us.map .int), true) ∧ n ≤ us.length ∧ us.length ≤ 2000 := by
  obtain ⟨ρ', h1, ⟨us, mix, s4, s5, rfl, hl⟩⟩ := forL_nx (tg := .one 4) (a := S__law_draws_b3)
    (I := fun k ρ => ∃ us : List Int, ∃ mix : Int, ∃ s4 s5 : Slot, ρ = [.va (.frl ns), .va (.int n), .ow (.lst (us.map .int)), .va (.int mix), s4, s5] ∧ us.length ≤ k + n.toNat)
    (ds := ns.map .int) (k := 0) (ρ := [.va (.frl ns), .va (.int n), .ow (.lst (([] : List Int).map .int)), .va (.int 1), .un, .un]) ⟨[], 1, .un, .un, rfl, by simp⟩ (fun j d ρ hd ⟨us, mix, s4, s5, e, hl⟩ => by
      subst e
      obtain ⟨lt, e⟩ := List.getElem?_eq_some_iff.mp hd
      have lt : j < ns.length := by simpa using lt
      rw [List.getElem_map] at e
      subst e
      have hs : us.length < SZ := by unfold SZ; omega
      by_cases c1 : (if ns[j] < 0 then -ns[j] else ns[j]) < 10 ^ 18
      · obtain ⟨us', rest', z1, z2⟩ := draws_while (fr := .frl ns) (n := n) (mix := (mix * 31 + ns[j]) % 2147483647) (c := ns[j]) (us := us ++ [ns[j]]) (rest := 0) (B := j + n.toNat + 1) (by omega) (by omega) (by simp; omega) (by omega)
        refine ⟨[.va (.frl ns), .va (.int n), .ow (.lst (us.map .int)), .va (.int mix), .va (.int ns[j]), s5], _, by simp, .inl ?_, us', (mix * 31 + ns[j]) % 2147483647, .va (.int ns[j]), .va (.int rest'), rfl, by omega⟩
        simp at c1
        simp [S__law_draws_b3, sSeq_ap, oMul_r, c1, kAp_i hs]
        simpa using z2
      · have nn : (0 : Int) ≤ if ns[j] < 0 then -ns[j] else ns[j] := by split <;> omega
        obtain ⟨us', rest', z1, z2⟩ := draws_while (fr := .frl ns) (n := n) (mix := (mix * 31 + ns[j]) % 2147483647) (c := ns[j]) (us := us) (rest := if ns[j] < 0 then -ns[j] else ns[j]) (B := j + n.toNat + 1) (by omega) (by omega) (by omega) nn
        refine ⟨[.va (.frl ns), .va (.int n), .ow (.lst (us.map .int)), .va (.int mix), .va (.int ns[j]), s5], _, by simp, .inl ?_, us', (mix * 31 + ns[j]) % 2147483647, .va (.int ns[j]), .va (.int rest'), rfl, by omega⟩
        simp at c1
        simp [S__law_draws_b3, sSeq_ap, oMul_r, Int.not_lt.mpr c1]
        simpa using z2)
  obtain ⟨us', mix', g1, g2, g3⟩ := draws_while2 (fr := .frl ns) (n := n) (mix := mix) (s4 := s4) (s5 := s5) (us := us) (B := 63 + n.toNat) (by omega) (by omega) (by simp at hl; omega)
  refine ⟨us', ?_, g1, by omega⟩
  simp at h1
  simp [R__law_draws, denF, slots, S__law_draws, sSeq_ap, sFor_ap, h1, g3, SZ]
def Bits (bs : List Int) : Prop := ∀ b ∈ bs, b = 0 ∨ b = 1
theorem mod2 (x : Int) : x % 2 = 0 ∨ x % 2 = 1 := by omega
theorem Bits.append {as bs : List Int} (h : Bits as) (g : Bits bs) : Bits (as ++ bs) := fun b hb => (List.mem_append.mp hb).elim (h b) (g b)
theorem Bits.get {bs : List Int} (h : Bits bs) (i : Nat) : gt bs i = 0 ∨ gt bs i = 1 := by
  unfold gt
  rw [List.getD_eq_getElem?_getD]
  cases q : bs[i]? with
  | none => exact .inl rfl
  | some b => exact h b (List.mem_of_getElem? q)
theorem cutD_from {xs : List D} {k : Int} (h0 : 0 ≤ k) (h1 : k ≤ xs.length) : cutD xs (some k) none = xs.drop k.toNat := by
  obtain ⟨n, rfl⟩ := Int.eq_ofNat_of_zero_le h0
  unfold cutD
  rw [HT.sIx_nat, HT.sIx_none, Int.toNat_natCast, Nat.min_eq_left (by omega)]
  exact List.take_of_length_le (by rw [List.length_drop]; exact Nat.le_refl _)
theorem cutD_to {xs : List D} {k : Int} (h0 : 0 ≤ k) : cutD xs none (some k) = xs.take k.toNat := by
  obtain ⟨n, rfl⟩ := Int.eq_ofNat_of_zero_le h0
  unfold cutD
  rw [HT.sIx_nat, HT.sIx_none, Int.toNat_natCast, List.drop_zero, Nat.sub_zero]
  by_cases q : n ≤ xs.length
  · rw [Nat.min_eq_left q]
  · rw [Nat.min_eq_right (by omega), List.take_length, List.take_of_length_le (by omega)]
theorem rngD_get {n : Int} {j : Nat} {d : D} (h : (rngD 0 n)[j]? = some d) : d = .int j ∧ (j : Int) < n := by
  unfold rngD at h
  rw [List.getElem?_map] at h
  cases q : (List.range (n - 0).toNat)[j]? with
  | none => rw [q] at h; cases h
  | some m =>
    rw [q] at h
    have e := List.getElem?_eq_some_iff.mp q
    obtain ⟨lt, e⟩ := e
    rw [List.getElem_range] at e
    subst e
    simp at lt
    refine ⟨?_, by omega⟩
    simp at h
    exact h.symm
theorem rngD_len (n : Int) : (rngD 0 n).length = n.toNat := by simp [rngD]
theorem bits {num many : Int} (h0 : 0 ≤ many) (h1 : many ≤ 1000) : ∃ bs : List Int, R__law_bits [.int num, .int many] = .ok (.lst (bs.map .int), true) ∧ (bs.length : Int) = many ∧ Bits bs := by
  obtain ⟨ρ', e1, ⟨bs, x, s3, rfl, hl, hb⟩⟩ := forL_nx (tg := .one 3) (a := S__law_bits_b1)
    (I := fun k ρ => ∃ bs : List Int, ∃ x : Int, ∃ s3 : Slot, ρ = [.va (.int x), .va (.int many), .ow (.lst (bs.map .int)), s3] ∧ bs.length = k ∧ Bits bs)
    (ds := rngD 0 many) (k := 0) (ρ := [.va (.int num), .va (.int many), .ow (.lst (([] : List Int).map .int)), .un]) ⟨[], num, .un, rfl, rfl, fun _ h => by cases h⟩ (fun j d ρ hd ⟨bs, x, s3, e, hl, hb⟩ => by
      subst e
      obtain ⟨rfl, lt⟩ := rngD_get hd
      have hs : bs.length < SZ := by unfold SZ; omega
      refine ⟨[.va (.int x), .va (.int many), .ow (.lst (bs.map .int)), .va (.int j)], _, by simp, .inl ?_, bs ++ [x % 2], x / 2, .va (.int j), rfl, by simp [hl], hb.append fun b hb => ?_⟩
      · simp [S__law_bits_b1, sSeq_ap, kAp_i hs]
      · simp at hb
        rw [hb]
        exact mod2 x)
  refine ⟨bs, ?_, by rw [hl, rngD_len]; omega, hb⟩
  simp at e1
  simp [R__law_bits, denF, slots, S__law_bits, sSeq_ap, sFor_ap, in62_of (show -(2 ^ 62) < many by omega) (by omega), e1, SZ]
theorem emod_le_nat (j : Nat) {p : Int} (h : 0 < p) : (j : Int) % p ≤ j := by
  obtain ⟨q, rfl⟩ := Int.eq_ofNat_of_zero_le (Int.le_of_lt h)
  have e : ((j % q : Nat) : Int) = (j : Int) % (q : Int) := by simp
  have := Nat.mod_le j q
  show (j : Int) % (q : Int) ≤ j
  omega
theorem lcA_ok {tg : Tg} {e : ES} {ρ : Sl} {P : Nat → D → Prop} : ∀ {ds acc : List D} {k : Nat}, acc.length + ds.length < SZ → (∀ (j : Nat) (d : D), ds[j]? = some d → ∃ ρ1 y kd, tgSet tg d ρ = some ρ1 ∧ e ρ1 = .ok (y, kd) ∧ kd.solid = true ∧ P (k + j) y) →
    ∃ r : List D, lcA tg tYes e ρ acc ds = .ok (acc ++ r) ∧ r.length = ds.length ∧ ∀ (j : Nat) (y : D), r[j]? = some y → P (k + j) y
  | [], acc, k, _, _ => ⟨[], by simp [lcA], rfl, fun j y h => by simp at h⟩
  | d :: ds, acc, k, hl, h => by
    obtain ⟨ρ1, y, kd, h1, h2, h3, h4⟩ := h 0 d rfl
    obtain ⟨r, g1, g2, g3⟩ := lcA_ok (tg := tg) (e := e) (ρ := ρ) (P := P) (ds := ds) (acc := acc ++ [y]) (k := k + 1) (by simp at hl ⊢; omega) fun j d hd => by
      have := h (j + 1) d (by simpa using hd)
      rwa [show k + (j + 1) = k + 1 + j from by omega] at this
    refine ⟨y :: r, ?_, by simp [g2], fun j z hz => ?_⟩
    · unfold lcA
      rw [h1]
      dsimp only
      show (match (Out.ok true : Out Bool) with
        | .ok true => match e ρ1 with
          | .ok (y, k) => if k.solid && decide (acc.length < SZ) then lcA tg tYes e ρ (acc ++ [y]) ds else .no
          | _ => .no
        | .ok false => lcA tg tYes e ρ acc ds
        | _ => .no) = _
      dsimp only
      rw [h2]
      dsimp only
      rw [h3, decide_eq_true (by simp at hl; omega : acc.length < SZ)]
      simp [g1]
    · cases j with
      | zero =>
        simp at hz
        subst hz
        exact h4
      | succ j =>
        have := g3 j z (by simpa using hz)
        rwa [show k + 1 + j = k + (j + 1) from by omega] at this
/-- whole numbers in order -/
theorem ints_of : ∀ {ds : List D} {P : Int → Prop}, (∀ (j : Nat) (y : D), ds[j]? = some y → ∃ i, y = .int i ∧ P i) → ∃ us : List Int, ds = us.map .int ∧ ∀ u ∈ us, P u
  | [], _, _ => ⟨[], rfl, fun _ h => by cases h⟩
  | d :: ds, P, h => by
    obtain ⟨i, rfl, hi⟩ := h 0 d rfl
    obtain ⟨us, rfl, hu⟩ := ints_of (ds := ds) (P := P) fun j y hy => h (j + 1) y (by simpa using hy)
    exact ⟨i :: us, rfl, fun u hm => (List.mem_cons.mp hm).elim (fun e => e ▸ hi) (hu u)⟩
theorem row {us : List Int} {many : Int} (hu : 4 ≤ us.length) (h0 : 0 ≤ many) (h1 : many ≤ 1000) : ∃ bs : List Int, R__law_row [.lst (us.map .int), .int many] = .ok (.lst (bs.map .int), false) ∧ (bs.length : Int) = many ∧ Bits bs := by
  have i0 := oIx_i (us := us) (i := 0) (by omega) (by omega)
  have i1 := oIx_i (us := us) (i := 1) (by omega) (by omega)
  have i2 := oIx_i (us := us) (i := 2) (by omega) (by omega)
  have i3 := oIx_i (us := us) (i := 3) (by omega) (by omega)
  have in62m := in62_of (show -(2 ^ 62) < many by omega) (by omega)
  have key : ∀ num : Int, ∃ bs : List Int, (match (R__law_bits [.int num, .int many]) with
      | .ok (d, _) => (if gt us 3 % 5 = 4 then (match lcA (.one 4) tYes (eBin oIx (eVar 3) (eBin oMod (eVar 4) (eBin oAdd (eC (.int 1)) (eBin oMod (eBin oIx (eVar 0) (eC (.int 1))) (eC (.int 4)))))) [.va (.lst (us.map .int)), .va (.int many), .va (.int num), .va d, .un] [] (rngD 0 many) with
        | .ok r => r
        | _ => []) else (match d with
        | .lst xs => xs
        | _ => []))
      | _ => []) = bs.map .int ∧ (bs.length : Int) = many ∧ Bits bs ∧ (∃ d, R__law_bits [.int num, .int many] = .ok (.lst d, true) ∧ (gt us 3 % 5 = 4 → lcA (.one 4) tYes (eBin oIx (eVar 3) (eBin oMod (eVar 4) (eBin oAdd (eC (.int 1)) (eBin oMod (eBin oIx (eVar 0) (eC (.int 1))) (eC (.int 4)))))) [.va (.lst (us.map .int)), .va (.int many), .va (.int num), .va (.lst d), .un] [] (rngD 0 many) = .ok (bs.map .int)) ∧ (¬ gt us 3 % 5 = 4 → d = bs.map .int)) := by
    intro num
    obtain ⟨bs, e1, e2, e3⟩ := bits (num := num) h0 h1
    by_cases q : gt us 3 % 5 = 4
    · obtain ⟨r, g1, g2, g3⟩ := lcA_ok (tg := .one 4) (e := eBin oIx (eVar 3) (eBin oMod (eVar 4) (eBin oAdd (eC (.int 1)) (eBin oMod (eBin oIx (eVar 0) (eC (.int 1))) (eC (.int 4)))))) (ρ := [.va (.lst (us.map .int)), .va (.int many), .va (.int num), .va (.lst (bs.map .int)), .un])
        (P := fun _ y => ∃ i, y = .int i ∧ (i = 0 ∨ i = 1)) (ds := rngD 0 many) (acc := []) (k := 0) (by rw [rngD_len]; unfold SZ; simp; omega) (fun j d hd => by
          obtain ⟨rfl, lt⟩ := rngD_get hd
          have p1 : 0 < 1 + gt us 1 % 4 := by omega
          have p2 : 0 ≤ (j : Int) % (1 + gt us 1 % 4) := Int.emod_nonneg _ (by omega)
          have p3 : (j : Int) % (1 + gt us 1 % 4) < bs.length := by
            rw [e2]
            exact Int.lt_of_le_of_lt (emod_le_nat j (by omega)) lt
          have i4 := oIx_i (us := bs) p2 p3
          refine ⟨[.va (.lst (us.map .int)), .va (.int many), .va (.int num), .va (.lst (bs.map .int)), .va (.int j)], .int (gt bs ((j : Int) % (1 + gt us 1 % 4)).toNat), .sh, by simp, ?_, rfl, _, rfl, e3.get _⟩
          simp at i1 i4 p1
          simp [i1, p1, i4])
      obtain ⟨vs, e4, e5⟩ := ints_of g3
      refine ⟨vs, ?_, ?_, e5, bs.map .int, e1, fun _ => ?_, fun z => absurd q z⟩
      · rw [e1]
        dsimp only
        rw [if_pos q, g1]
        simpa using e4
      · have := congrArg List.length e4
        rw [List.length_map, g2, rngD_len] at this
        omega
      · rw [g1, e4]
        rfl
    · refine ⟨bs, ?_, e2, e3, bs.map .int, e1, fun z => absurd z q, fun _ => rfl⟩
      rw [e1]
      dsimp only
      rw [if_neg q]
  by_cases q3 : gt us 3 % 5 = 3
  · obtain ⟨bs, _, h2, h3, d, h4, h5, h6⟩ := key (-(gt us 0 % 2))
    refine ⟨bs, ?_, h2, h3⟩
    have ne : ¬ gt us 3 % 5 = 4 := by omega
    obtain rfl := h6 ne
    simp at i0 i1 i2 i3 h4 q3
    simp [R__law_row, denF, slots, S__law_row, sSeq_ap, i0, i1, i2, i3, oMul_l, oMul_r, q3, h4]
  · obtain ⟨bs, _, h2, h3, d, h4, h5, h6⟩ := key (gt us 0 + 1000003 * gt us 1 + 1000003 * 1000003 * gt us 2)
    refine ⟨bs, ?_, h2, h3⟩
    by_cases q4 : gt us 3 % 5 = 4
    · have h5 := h5 q4
      simp at i0 i1 i2 i3 h4 q4 h5
      simp [R__law_row, denF, slots, S__law_row, sSeq_ap, i0, i1, i2, i3, oMul_l, oMul_r, q4, h4, eLc, wipeS, in62m, h5]
    · obtain rfl := h6 q4
      simp at i0 i1 i2 i3 h4 q3 q4
      simp [R__law_row, denF, slots, S__law_row, sSeq_ap, i0, i1, i2, i3, oMul_l, oMul_r, q3, q4, h4]
end GD
namespace GD
open PySem L2 G
theorem pick5 {a b c d e : Int} {x : Int} {P : Int → Prop} (ha : P a) (hb : P b) (hc : P c) (hd : P d) (he : P e) : ∃ m, oIx (.lst [.int a, .int b, .int c, .int d, .int e]) (.int (x % 5)) = .ok (.int m, .sh) ∧ P m := by
  have h : x % 5 = 0 ∨ x % 5 = 1 ∨ x % 5 = 2 ∨ x % 5 = 3 ∨ x % 5 = 4 := by omega
  rcases h with h | h | h | h | h <;> rw [h]
  · exact ⟨a, rfl, ha⟩
  · exact ⟨b, rfl, hb⟩
  · exact ⟨c, rfl, hc⟩
  · exact ⟨d, rfl, hd⟩
  · exact ⟨e, rfl, he⟩
abbrev dI (us : List Int) : D := .lst (us.map .int)
theorem cut_us {us : List Int} {k : Int} (h0 : 0 ≤ k) (h1 : k ≤ us.length) : cutD (us.map .int) (some k) none = (us.drop k.toNat).map .int := by
  rw [cutD_from h0 (by simpa using h1), List.map_drop]
/-- what a plan is -/
structure Plan (s : Int) (us ls : List Int) : Prop where
  bs : s = 0 ∨ s = 1
  bu : Bits us
  bl : Bits ls
  lu : us.length ≤ 39
  ll : ls.length ≤ 39
abbrev cl (s : Int) (us ls : List Int) : D := .obj 20 [.int s, dI us, dI ls]
theorem ask_bits_ok {bs : List Int} (h : Bits bs) : R_ask_bits [dI bs] = .ok (.non, false) := by
  obtain ⟨ρ', h1, _⟩ := forL_nx (tg := .one 1) (a := S_ask_bits_b1) (I := fun _ ρ => ∃ x, ρ = [.va (dI bs), x]) (ds := bs.map .int) (k := 0) (ρ := [.va (dI bs), .un]) ⟨_, rfl⟩ (fun j d ρ hd ⟨x, e⟩ => by
    subst e
    obtain ⟨lt, e⟩ := List.getElem?_eq_some_iff.mp hd
    have lt : j < bs.length := by simpa using lt
    rw [List.getElem_map] at e
    subst e
    refine ⟨[.va (dI bs), .va (.int bs[j])], [.va (dI bs), .va (.int bs[j])], by simp, .inl ?_, _, rfl⟩
    rcases h bs[j] (List.getElem_mem lt) with z | z <;> simp [S_ask_bits_b1, z])
  simp [R_ask_bits, denF, slots, S_ask_bits, sFor_ap, h1]
theorem init_cl {s : Int} {us ls : List Int} (p : Plan s us ls) : R_Cloth___init__ [.int s, dI us, dI ls] = .ok (cl s us ls, true) := by
  have ab := ask_bits_ok (bs := [s] ++ us ++ ls) (Bits.append (Bits.append (fun b hb => by simp at hb; subst hb; exact p.bs) p.bu) p.bl)
  have n1 : ¬ (40 : Int) ≤ us.length := by have := p.lu; omega
  have n2 : ¬ (40 : Int) ≤ ls.length := by have := p.ll; omega
  have n3 : 1 + us.length ≤ SZ := by have := p.lu; unfold SZ; omega
  have n4 : us.length + 1 + ls.length ≤ SZ := by have := p.ll; have := p.lu; unfold SZ; omega
  simp [dI] at ab n3 n4
  simp [R_Cloth___init__, denI, slots, S_Cloth___init__, sSeq_ap, n1, n2, n3, n4, ab, fxOne, SZ]
theorem made {s : Int} {us ls : List Int} (p : Plan s us ls) : R__law_made [.tup [.int s, dI us, dI ls]] = .ok (cl s us ls, true) := by
  have h := init_cl p
  have e0 : oIx (.tup [.int s, dI us, dI ls]) (.int 0) = .ok (.int s, .sh) := rfl
  have e1 : oIx (.tup [.int s, dI us, dI ls]) (.int 1) = .ok (dI us, .sh) := rfl
  have e2 : oIx (.tup [.int s, dI us, dI ls]) (.int 2) = .ok (dI ls, .sh) := rfl
  simp [R__law_made, denF, slots, S__law_made, e0, e1, e2, h]
theorem wide_cl (s : Int) (us ls : List Int) : R_Cloth_wide [cl s us ls] = .ok (.int (us.length + 1), false) := by
  simp [R_Cloth_wide, denF, slots, S_Cloth_wide]
theorem tall_cl (s : Int) (us ls : List Int) : R_Cloth_tall [cl s us ls] = .ok (.int (ls.length + 1), false) := by
  simp [R_Cloth_tall, denF, slots, S_Cloth_tall]
theorem ask_cell_ok {s : Int} {us ls : List Int} {x y : Int} (h1 : 0 ≤ x) (h2 : x ≤ us.length) (h3 : 0 ≤ y) (h4 : y ≤ ls.length) : R_Cloth_ask_cell [cl s us ls, .int x, .int y] = .ok (.non, false) := by
  have e1 : ¬ x < 0 := by omega
  have e2 : ¬ y < 0 := by omega
  have e3 : ¬ ((us.length : Int) + 1 ≤ x) := by omega
  have e4 : ¬ ((ls.length : Int) + 1 ≤ y) := by omega
  simp [R_Cloth_ask_cell, denF, slots, S_Cloth_ask_cell, wide_cl, tall_cl, e1, e2, e3, e4]
/-- the colour by the plain rule -/
def colour (s : Int) (us ls : List Int) (x y : Int) : Int := (s + (us.take x.toNat).sum + (ls.take y.toNat).sum + x * y) % 2
theorem cut_to {us : List Int} {k : Int} (h0 : 0 ≤ k) : cutD (us.map .int) none (some k) = (us.take k.toNat).map .int := by
  rw [cutD_to h0, List.map_take]
theorem colour_ok {s : Int} {us ls : List Int} {x y : Int} (p : Plan s us ls) (h1 : 0 ≤ x) (h2 : x ≤ us.length) (h3 : 0 ≤ y) (h4 : y ≤ ls.length) : R_Cloth_colour [cl s us ls, .int x, .int y] = .ok (.int (colour s us ls x y), false) := by
  have a := ask_cell_ok (s := s) h1 h2 h3 h4
  have c1 := cut_to (us := us) h1
  have c2 := cut_to (us := ls) h3
  have b1 := oBi_sum (us.take x.toNat)
  have b2 := oBi_sum (ls.take y.toNat)
  have m := oMul_l (m := x) (n := y) (by omega) (by have := p.lu; omega)
  simp at a c1 c2 b1 b2
  simp [R_Cloth_colour, denF, slots, S_Cloth_colour, sSeq_ap, a, c1, c2, b1, b2, m, colour]
end GD
namespace GD
open PySem L2 G
/-- a for over range(n) -/
theorem for_rng {i : Nat} {n : Int} {a : SS} {ρ : Sl} (I : Nat → Sl → Prop) (h0 : I 0 ρ) (st : ∀ (j : Nat) (ρ : Sl), (j : Int) < n → I j ρ → i < ρ.length ∧ ∃ ρ2, (a (ρ.set i (.va (.int j))) = .nx ρ2 ∨ a (ρ.set i (.va (.int j))) = .ct ρ2) ∧ I (j + 1) ρ2) :
    ∃ ρ', forL (.one i) a (rngD 0 n) ρ = .nx ρ' ∧ I n.toNat ρ' := by
  obtain ⟨ρ', h1, h2⟩ := forL_nx (tg := .one i) (a := a) (I := I) (ds := rngD 0 n) (k := 0) (ρ := ρ) h0 (fun j d ρ hd hi => by
    rw [Nat.zero_add] at hi ⊢
    obtain ⟨rfl, lt⟩ := rngD_get hd
    obtain ⟨l, ρ2, h1, h2⟩ := st j ρ lt hi
    exact ⟨ρ.set i (.va (.int j)), ρ2, by simp [l], h1, h2⟩)
  rw [Nat.zero_add, rngD_len] at h2
  exact ⟨ρ', h1, h2⟩
/-- values that are like themselves -/
inductive Nice : Nat → D → Prop
  | int (n : Nat) (i : Int) : Nice (n + 1) (.int i)
  | bl (n : Nat) (i : Bool) : Nice (n + 1) (.bl i)
  | str (n : Nat) (i : Str) : Nice (n + 1) (.str i)
  | lst {n : Nat} {xs : List D} : xs.length < SZ → (∀ x ∈ xs, Nice n x) → Nice (n + 1) (.lst xs)
  | tup {n : Nat} {xs : List D} : xs.length < SZ → (∀ x ∈ xs, Nice n x) → Nice (n + 1) (.tup xs)
theorem Nice.up {n : Nat} {d : D} (h : Nice n d) : Nice (n + 1) d := by
  induction h with
  | int n i => exact .int _ _
  | bl n i => exact .bl _ _
  | str n i => exact .str _ _
  | lst l _ ih => exact .lst l ih
  | tup l _ ih => exact .tup l ih
theorem Nice.le {n m : Nat} {d : D} (h : Nice n d) (l : n ≤ m) : Nice m d := by
  induction l with
  | refl => exact h
  | step _ ih => exact ih.up
theorem zip_self : ∀ xs : List D, zipD xs xs = xs.map fun x => .tup [x, x]
  | [] => rfl
  | x :: xs => by
    show D.tup [x, x] :: zipD xs xs = _
    rw [zip_self xs]
    rfl
theorem bools_true : ∀ r : List D, (∀ (j : Nat) (y : D), r[j]? = some y → y = .bl true) → boolsOf r = some (List.replicate r.length true)
  | [], _ => rfl
  | d :: r, h => by
    obtain rfl := h 0 d rfl
    show (boolsOf r).map (true :: ·) = _
    rw [bools_true r fun j y hy => h (j + 1) y (by simpa using hy)]
    rfl
theorem all_true (r : List D) (h : ∀ (j : Nat) (y : D), r[j]? = some y → y = .bl true) : oBi .all [.lst r] = .ok (.bl true, .sh) := by
  show (match boolsOf r with
    | some bs => shr (.bl (bs.all id))
    | none => .no) = _
  rw [bools_true r h]
  simp
theorem same_step {self : List D → Out (D × Bool)} {ρ : Sl} {xs : List D} (hl : xs.length < SZ) (h2 : 3 < ρ.length) (hs : ∀ x ∈ xs, self [x, x] = .ok (.bl true, false)) :
    ∃ r, lcA (.tup [.one 2, .one 3]) tYes (eFn self [eVar 2, eVar 3]) ρ [] (zipD xs xs) = .ok r ∧ ∀ (j : Nat) (y : D), r[j]? = some y → y = .bl true := by
  obtain ⟨r, g1, g2, g3⟩ := lcA_ok (tg := .tup [.one 2, .one 3]) (e := eFn self [eVar 2, eVar 3]) (ρ := ρ) (P := fun _ y => y = .bl true) (ds := zipD xs xs) (acc := []) (k := 0) (by rw [zip_self]; simpa using hl) (fun j d hd => by
    rw [zip_self, List.getElem?_map] at hd
    cases q : xs[j]? with
    | none => rw [q] at hd; cases hd
    | some x =>
      rw [q] at hd
      cases hd
      have hx := hs x (List.mem_of_getElem? q)
      refine ⟨(ρ.set 2 (.va x)).set 3 (.va x), .bl true, .sh, ?_, ?_, rfl, rfl⟩
      · have h3 : 2 < ρ.length := by omega
        simp [h2, h3]
      · have e2 : ((ρ.set 2 (.va x)).set 3 (.va x))[2]? = some (.va x) := by
          rw [List.getElem?_set_ne (by decide), List.getElem?_set_self (by omega)]
        have e3 : ((ρ.set 2 (.va x)).set 3 (.va x))[3]? = some (.va x) := List.getElem?_set_self (by rw [List.length_set]; exact h2)
        simp [eFn_ap, e2, e3, hx])
  exact ⟨r, by simpa using g1, g3⟩
@[simp] theorem oIsi_int (T : String) (i : Int) : oIsi T (.int i) = .ok (.bl (isiT T "int"), .sh) := rfl
@[simp] theorem oIsi_bl (T : String) (i : Bool) : oIsi T (.bl i) = .ok (.bl (isiT T "bool"), .sh) := rfl
@[simp] theorem oIsi_str (T : String) (i : Str) : oIsi T (.str i) = .ok (.bl (isiT T "str"), .sh) := rfl
@[simp] theorem oIsi_lst (T : String) (i : List D) : oIsi T (.lst i) = .ok (.bl (isiT T "list"), .sh) := rfl
@[simp] theorem oIsi_tup (T : String) (i : List D) : oIsi T (.tup i) = .ok (.bl (isiT T "tuple"), .sh) := rfl
@[simp] theorem oIsi_non (T : String) : oIsi T .non = .ok (.bl (isiT T "NoneType"), .sh) := rfl
theorem same_self : ∀ {n : Nat} {d : D}, Nice n d → RR__law_same n [d, d] = .ok (.bl true, false)
  | 0, _, h => by cases h
  | n + 1, _, .int _ i => by simp [RR__law_same, denF, slots, S__law_same, sSeq_ap, isiT]
  | n + 1, _, .bl _ i => by simp [RR__law_same, denF, slots, S__law_same, sSeq_ap, isiT]
  | n + 1, _, .str _ i => by simp [RR__law_same, denF, slots, S__law_same, sSeq_ap, isiT]
  | n + 1, _, .lst (xs := xs) l h => by
    obtain ⟨r, h1, h2⟩ := same_step (self := RR__law_same n) (ρ := [.va (.lst xs), .va (.lst xs), .un, .un]) l (by simp) fun x hx => same_self (h x hx)
    simp [RR__law_same, denF, slots, S__law_same, sSeq_ap, isiT, eLc, wipeS, itZip, h1, all_true r h2]
  | n + 1, _, .tup (xs := xs) l h => by
    obtain ⟨r, h1, h2⟩ := same_step (self := RR__law_same n) (ρ := [.va (.tup xs), .va (.tup xs), .un, .un]) l (by simp) fun x hx => same_self (h x hx)
    simp [RR__law_same, denF, slots, S__law_same, sSeq_ap, isiT, eLc, wipeS, itZip, h1, all_true r h2]
theorem same {d : D} (h : Nice 6 d) : R__law_same [d, d] = .ok (.bl true, false) := same_self h
end GD
namespace GD
open PySem L2 G
@[simp] theorem get0 {α : Type} (a : α) (l : List α) : (a :: l)[0]? = some a := rfl
/-- numbers of at most eighteen figures -/
def Small (us : List Int) : Prop := ∀ u ∈ us, -1000000000000000000 < u ∧ u < 1000000000000000000
theorem Small.nil : Small [] := fun _ h => by cases h
theorem Small.snoc {us : List Int} {x : Int} (h : Small us) (h1 : -1000000000000000000 < x) (h2 : x < 1000000000000000000) : Small (us ++ [x]) := fun u hu => by
  rcases List.mem_append.mp hu with z | z
  · exact h u z
  · simp at z
    subst z
    exact ⟨h1, h2⟩
theorem Small.gt {us : List Int} (h : Small us) (n : Nat) : -1000000000000000000 < gt us n ∧ gt us n < 1000000000000000000 := by
  unfold G.gt
  rw [List.getD_eq_getElem?_getD]
  cases q : us[n]? with
  | none => decide
  | some b => exact h b (List.mem_of_getElem? q)
/-- a number far away: what the law makes of a draw -/
theorem far {us : List Int} (h : Small us) (n : Nat) (c : Int) : ∃ F : Int, oMul (.int (if gt us n < 0 then -gt us n else gt us n)) (.int c) = .ok (.int F, .sh) ∧ F = (if gt us n < 0 then -gt us n else gt us n) * c := by
  have g := h.gt n
  exact ⟨_, oMul_l (by split <;> omega) (by split <;> omega), rfl⟩
end GD
namespace G
open PySem L2
section
variable {f g h : ES} {t u : TSm} {s : IS} {a b : SS} {ρ : Sl} {i j : Nat} {d e : D} {k : Kd}
@[simp] theorem sTry_ap (hit : Nat → Option Bool) (su : Nat → List D → SS) : sTry i hit a su ρ = match a ρ with
  | .ex n fs ρ' => match hit n with
    | some true => fOut i (su n fs (clr i .xc ρ'))
    | some false => .ex n fs ρ'
    | none => .no
  | o => o := rfl
@[simp] theorem fOut_nx : fOut i (.nx ρ) = .nx (clr i .un ρ) := rfl
@[simp] theorem fOut_bk : fOut i (.bk ρ) = .bk (clr i .un ρ) := rfl
@[simp] theorem fOut_ct : fOut i (.ct ρ) = .ct (clr i .un ρ) := rfl
@[simp] theorem fOut_rt : fOut i (.rt d k ρ) = .rt d k (clr i .un ρ) := rfl
@[simp] theorem suN_nil (z : Nat → SS) (n : Nat) : suN z n [] = z n := rfl
@[simp] theorem unX_un : unX .un = .un := rfl
@[simp] theorem unX_va : unX (.va d) = .va d := rfl
@[simp] theorem unX_ow : unX (.ow d) = .ow d := rfl
@[simp] theorem unX_me (c : Nat) (ds : List D) : unX (.me c ds) = .un := rfl
@[simp] theorem unX_xc : unX .xc = .un := rfl
@[simp] theorem clr_ap (z : Slot) : clr i z ρ = (ρ.map unX).set i z := rfl
@[simp] theorem eCallX_ap (R : Nat → Out (D × Bool)) (n : Nat) : eCallX R i n ρ = match ρ[i]? with
  | some .xc => match R n with
    | .ok (d, b) => .ok (d, if b = true then .fr else .sh)
    | _ => .no
  | _ => .no := rfl
@[simp] theorem eIsE_ap (hit : Nat → Option Bool) (n : Nat) : eIsE hit i n ρ = match ρ[i]? with
  | some .xc => match hit n with
    | some b => .ok (.bl b, .sh)
    | none => .no
  | _ => .no := rfl
@[simp] theorem okArgs_nil : okArgs [] = true := rfl
@[simp] theorem okArgs_cons (x : D × Kd) (xs : List (D × Kd)) : okArgs (x :: xs) = ((x.2.solid || notObj x.1) && okArgs xs) := rfl
end
end G
namespace GD
open PySem L2 G
end GD
namespace G
open PySem L2
section
variable {f g h : ES} {t u : TSm} {ρ : Sl} {i j : Nat} {d e : D} {k : Kd} {c : Sh}
@[simp] theorem unX_pv (c : Sh) : unX (.pv c d) = .pv c d := rfl
@[simp] theorem sFrzA_ap : sFrzA i ρ = match ρ[i]? with
  | some (.ow d) => .nx (ρ.set i (.va d))
  | some (.pv _ d) => .nx (ρ.set i (.va d))
  | _ => .nx ρ := rfl
@[simp] theorem outOk_int (n : Int) : outOk (.int n) k = true := rfl
@[simp] theorem outOk_bl (n : Bool) : outOk (.bl n) k = true := rfl
@[simp] theorem outOk_str (n : Str) : outOk (.str n) k = true := rfl
@[simp] theorem outOk_non : outOk .non k = true := rfl
@[simp] theorem outOk_lst (ds : List D) : outOk (.lst ds) .fr = ds.all flat := rfl
@[simp] theorem outOk_obj (c : Nat) (ds : List D) : outOk (.obj c ds) .fr = true := rfl
@[simp] theorem eBor_ap : eBor i f ρ = match ρ[i]? with
  | some (.pv _ d) => (match f (ρ.set i (.va d)) with
    | .ok (r, k) => if outOk r k = true ∧ k.solid = true then .ok (r, k) else .no
    | .ex n fs => if fs = [] then .ex n [] else .no
    | .no => .no)
  | _ => f ρ := rfl
@[simp] theorem tBor_ap : tBor i t ρ = match ρ[i]? with
  | some (.pv _ d) => (match t (ρ.set i (.va d)) with
    | .ok b => .ok b
    | .ex n fs => if fs = [] then .ex n [] else .no
    | .no => .no)
  | _ => t ρ := rfl
@[simp] theorem okP_nil : okP [] = true := rfl
@[simp] theorem okP_cons (x : D × Kd) (xs : List (D × Kd)) : okP (x :: xs) = (okK x.1 x.2 && okP xs) := rfl
@[simp] theorem okK_fr : okK d .fr = true := rfl
@[simp] theorem okK_sh : okK d .sh = flat d := rfl
@[simp] theorem sSetLstP_ap (fs : List ES) : sSetLstP i fs ρ = sWith (eArgs fs ρ) ρ fun xs => if okP xs = true ∧ xs.length ≤ SZ then .nx (ρ.set i (.pv sh2 (.lst (xs.map (·.1))))) else .no := rfl
@[simp] theorem sAppP_ap : sAppP i f ρ = match ρ[i]? with
  | some (.pv (.nd k) (.lst ds)) => sWith (f ρ) ρ fun v => (match v with
    | (.lst es, .fr) => (match k ds.length with
      | .nd _ => if es.all flat = true ∧ ds.length < SZ then .nx (ρ.set i (.pv (.nd k) (.lst (ds ++ [.lst es])))) else .no
      | _ => .no)
    | _ => .no)
  | _ => .no := rfl
@[simp] theorem sAppF_ap : sAppF f g ρ = sWith (f ρ) ρ fun x => (match x with
  | (.lst ds, .fr) => sWith (g ρ) ρ fun _ => if ds.length < SZ then .nx ρ else .no
  | _ => .no) := rfl
@[simp] theorem sClrF_ap : sClrF f ρ = sWith (f ρ) ρ fun x => (match x with
  | (.lst _, .fr) => .nx ρ
  | _ => .no) := rfl
@[simp] theorem sPut2_ap : sPut2 i f g h ρ = match ρ[i]? with
  | some (.pv k (.lst ds)) => sWith (h ρ) ρ fun v => if v.2.solid then sWith (f ρ) ρ fun a => (match row2 k ds a.1 with
    | some (k2, p, es) => sWith (g ρ) ρ fun b => (match set2 k2 es b.1 v.1 with
      | some es' => .nx (ρ.set i (.pv k (.lst (ds.set p (.lst es')))))
      | none => .no)
    | none => .no) else .no
  | _ => .no := rfl
end
end G
namespace GD
open PySem L2 G
end GD
namespace G
open PySem L2 PySem.W
section
variable {f g : ES} {ρ : Sl}
@[simp] theorem eLm_ap (op : List D → D → Out (D × Kd)) : eLm op f g ρ = (f ρ).bind fun x => match x.1 with
  | .lst ds => (g ρ).bind fun y => op ds y.1
  | _ => .no := rfl
end
abbrev Pt : Type := Int × Int
def ptD (p : Pt) : D := .tup [.int p.1, .int p.2]
def leP (p q : Pt) : Bool := decide (p.1 < q.1 ∨ (p.1 = q.1 ∧ p.2 ≤ q.2))
theorem toPy_pt (p : Pt) : toPy (ptD p) = some (.tuple [.int p.1, .int p.2]) := rfl
theorem toPys_pts : ∀ ps : List Pt, toPys (ps.map ptD) = some (ps.map fun p => .tuple [.int p.1, .int p.2])
  | [] => rfl
  | p :: ps => by
    show (toPy (ptD p)).bind (fun z => (toPys (ps.map ptD)).map (z :: ·)) = _
    rw [toPy_pt, toPys_pts ps]
    rfl
def sortP (ps : List Pt) : List Pt := ps.mergeSort leP
end G
namespace GD
open PySem L2 G
section
variable {s : Int} {us ls : List Int}
/-- the partner along the row, along the column -/
def rx (ls : List Int) (x y : Int) : Int := if (x + gt ls (y - 1).toNat) % 2 = 1 then x + 1 else x - 1
def cy (us : List Int) (x y : Int) : Int := if (y + gt us (x - 1).toNat) % 2 = 1 then y + 1 else y - 1
def rowN (us ls : List Int) (x y : Int) : List Pt := if 0 < y ∧ y < ls.length + 1 ∧ 0 ≤ rx ls x y ∧ rx ls x y ≤ us.length + 1 then [(rx ls x y, y)] else []
def colN (us ls : List Int) (x y : Int) : List Pt := if 0 < x ∧ x < us.length + 1 ∧ 0 ≤ cy us x y ∧ cy us x y ≤ ls.length + 1 then [(x, cy us x y)] else []
def joinL (us ls : List Int) (x y : Int) : List Pt := sortP (rowN us ls x y ++ colN us ls x y)
end
end GD
namespace GD
open PySem L2 G
theorem map_get {α β : Type} {f : α → β} {xs : List α} {j : Nat} {d : β} (h : (xs.map f)[j]? = some d) : ∃ x, xs[j]? = some x ∧ d = f x := by
  rw [List.getElem?_map] at h
  cases q : xs[j]? with
  | none => rw [q] at h; cases h
  | some x =>
    rw [q] at h
    cases h
    exact ⟨x, rfl, rfl⟩
/-- F holds the colours of that cloth -/
structure IsTab (s : Int) (us ls : List Int) (F : List (List Int)) : Prop where
  len : F.length = ls.length + 1
  row : ∀ (y : Nat) (r : List Int), F[y]? = some r → r.length = us.length + 1 ∧ ∀ x : Nat, x ≤ us.length → gt r x = colour s us ls x y
theorem oIx_n {xs : List D} {n : Nat} {d : D} (h : xs[n]? = some d) : oIx (.lst xs) (.int (n : Int)) = .ok (d, .sh) := oIx_l (by omega) (by rw [Int.toNat_natCast]; exact h)
theorem whole {s : Int} {us ls : List Int} {F : List (List Int)} (p : Plan s us ls) (h : IsTab s us ls F) : R__law_whole [cl s us ls, .lst (F.map dI)] = .ok (.bl true, false) := by
  have lu := p.lu
  have ll := p.ll
  have hl := h.len
  have sm : ∀ i : Int, R__law_same [.int i, .int i] = .ok (.bl true, false) := fun i => same (.int _ _)
  obtain ⟨r0, hr0⟩ : ∃ r, F[0]? = some r := ⟨F[0], List.getElem?_eq_getElem (by omega)⟩
  have l0 := (h.row 0 r0 hr0).1
  have f0 : oIx (.lst (F.map dI)) (.int 0) = .ok (dI r0, .sh) := oIx_n (n := 0) (by rw [List.getElem?_map, hr0]; rfl)
  have iu := in62_of (show -(2 ^ 62) < (r0.length : Int) by omega) (by omega)
  have il := in62_of (show -(2 ^ 62) < (F.length : Int) by omega) (by omega)
  obtain ⟨ρ', g1, s2, s3, rfl⟩ := for_rng (i := 2) (n := F.length) (a := S__law_whole_b2) (fun _ ρ => ∃ s2 s3, ρ = [.va (cl s us ls), .va (.lst (F.map dI)), s2, s3]) (ρ := [.va (cl s us ls), .va (.lst (F.map dI)), .un, .un]) ⟨_, _, rfl⟩ (fun y ρ lt ⟨s2, s3, e⟩ => by
    subst e
    refine ⟨by simp, ?_⟩
    obtain ⟨r, hr⟩ : ∃ r, F[y]? = some r := ⟨F[y]'(by omega), List.getElem?_eq_getElem (by omega)⟩
    obtain ⟨lr, cr⟩ := h.row y r hr
    have fy : oIx (.lst (F.map dI)) (.int y) = .ok (dI r, .sh) := oIx_n (by rw [List.getElem?_map, hr]; rfl)
    obtain ⟨ρ', g1, s3', rfl⟩ := for_rng (i := 3) (n := r0.length) (a := S__law_whole_b1) (fun _ ρ => ∃ s3, ρ = [.va (cl s us ls), .va (.lst (F.map dI)), .va (.int y), s3]) (ρ := [.va (cl s us ls), .va (.lst (F.map dI)), .va (.int y), s3]) ⟨_, rfl⟩ (fun x ρ lt' ⟨s3, e⟩ => by
      subst e
      have c := colour_ok (x := x) (y := y) p (by omega) (by omega) (by omega) (by omega)
      have ix := oIx_i (us := r) (i := x) (by omega) (by omega)
      rw [Int.toNat_natCast, cr x (by omega)] at ix
      exact ⟨by simp, _, .inl (by simp [S__law_whole_b1, c, fy, ix, sm]), .va (.int x), rfl⟩)
    exact ⟨_, .inl (by simp [S__law_whole_b2, sFor_ap, f0, iu, g1]), .va (.int y), s3', rfl⟩)
  have w := wide_cl s us ls
  have t := tall_cl s us ls
  have w2 : ((us.length : Int) + 1) = r0.length := by omega
  have t2 : ((ls.length : Int) + 1) = F.length := by omega
  rw [w2] at w
  rw [t2] at t
  simp [R__law_whole, denF, slots, S__law_whole, sSeq_ap, sFor_ap, w, t, f0, sm, il, g1]
end GD
namespace GD
open PySem L2 G
theorem Bits.take {us : List Int} (h : Bits us) (k : Nat) : Bits (us.take k) := fun b hb => h b (List.mem_of_mem_take hb)
theorem Bits.drop {us : List Int} (h : Bits us) (k : Nat) : Bits (us.drop k) := fun b hb => h b (List.mem_of_mem_drop hb)
end GD
namespace GD
open PySem L2 G
end GD
namespace GD
open PySem L2 G
theorem kAp_pt {acc : List Pt} {x y : Int} (h : acc.length < SZ) : kAp (acc.map ptD) (.tup [.int x, .int y]) = some ((acc ++ [(x, y)]).map ptD) := by
  unfold kAp
  rw [List.length_map, if_pos h, List.map_append]
  rfl
end GD
namespace GD
open PySem L2 G
@[simp] theorem flat_obj (c : Nat) (b : List D) : flat (.obj c b) = false := rfl
abbrev rg (us ls : List Int) : D := .obj 21 [dI us, dI ls]
/-- what a ring's lists are -/
structure Loop (us ls : List Int) : Prop where
  bu : Bits us
  bl : Bits ls
  u2 : 2 ≤ us.length
  u40 : us.length ≤ 40
  ue : us.length % 2 = 0
  l2 : 2 ≤ ls.length
  l40 : ls.length ≤ 40
  le : ls.length % 2 = 0
section
variable {us ls : List Int}
theorem ring_init (p : Loop us ls) : R_Ring___init__ [dI us, dI ls] = .ok (rg us ls, true) := by
  have h1 := p.u2
  have h2 := p.u40
  have h3 := p.ue
  have h4 := p.l2
  have h5 := p.l40
  have h6 := p.le
  have q1 : ¬ (us.length : Int) < 2 := by omega
  have q2 : ¬ (40 : Int) < us.length := by omega
  have q3 : ¬ (us.length : Int) % 2 = 1 := by omega
  have q4 : ¬ (ls.length : Int) < 2 := by omega
  have q5 : ¬ (40 : Int) < ls.length := by omega
  have q6 : ¬ (ls.length : Int) % 2 = 1 := by omega
  have b1 := ask_bits_ok p.bu
  have b2 := ask_bits_ok p.bl
  simp [R_Ring___init__, denI, slots, S_Ring___init__, S_Ring___init___b1, sSeq_ap, sFor_ap, forL, q1, q2, q3, q4, q5, q6, b1, b2, fxOne, SZ]
theorem rg_wide (us ls : List Int) : R_Ring_wide [rg us ls] = .ok (.int us.length, false) := by simp [R_Ring_wide, denF, slots, S_Ring_wide]
theorem rg_tall (us ls : List Int) : R_Ring_tall [rg us ls] = .ok (.int ls.length, false) := by simp [R_Ring_tall, denF, slots, S_Ring_tall]
theorem ring_law (p : Loop us ls) : R__law_ring [.tup [dI us, dI ls]] = .ok (rg us ls, true) := by
  have m := ring_init p
  have e0 : ∀ a b : D, oIx (.tup [a, b]) (.int 0) = .ok (a, .sh) := fun _ _ => rfl
  have e1 : ∀ a b : D, oIx (.tup [a, b]) (.int 1) = .ok (b, .sh) := fun _ _ => rfl
  simp [R__law_ring, denF, slots, S__law_ring, e0, e1, m]
theorem st_col {k y : Int} (h1 : 0 ≤ k) (h2 : k < us.length) (h3 : 0 ≤ y) (h4 : y < ls.length) : R_Ring_stitched [rg us ls, .str "col", .int k, .int y] = .ok (.bl (decide ((y + gt us k.toNat) % 2 = 1)), false) := by
  have q1 : ¬ k < 0 := by omega
  have q2 : ¬ (us.length : Int) ≤ k := by omega
  have q3 : ¬ y < 0 := by omega
  have q4 : ¬ (ls.length : Int) ≤ y := by omega
  have i := oIx_i (us := us) (i := k) h1 h2
  have ne2 : ¬ (Str.ofString "col" = Str.ofString "row") := by decide
  have tl := rg_tall us ls
  have wd := rg_wide us ls
  simp [R_Ring_stitched, denF, slots, S_Ring_stitched, sSeq_ap, ne2, tl, wd, q1, q2, q3, q4, i]
theorem st_row {k x : Int} (h1 : 0 ≤ k) (h2 : k < ls.length) (h3 : 0 ≤ x) (h4 : x < us.length) : R_Ring_stitched [rg us ls, .str "row", .int k, .int x] = .ok (.bl (decide ((x + gt ls k.toNat) % 2 = 1)), false) := by
  have q1 : ¬ k < 0 := by omega
  have q2 : ¬ (ls.length : Int) ≤ k := by omega
  have q3 : ¬ x < 0 := by omega
  have q4 : ¬ (us.length : Int) ≤ x := by omega
  have i := oIx_i (us := ls) (i := k) h1 h2
  have ne2 : ¬ (Str.ofString "row" = Str.ofString "col") := by decide
  have tl := rg_tall us ls
  have wd := rg_wide us ls
  simp [R_Ring_stitched, denF, slots, S_Ring_stitched, sSeq_ap, ne2, tl, wd, q1, q2, q3, q4, i]
end
/-- what the laws make of their draws -/
theorem loop_core {zs : List Int} (hz : 11 ≤ zs.length) : ∃ m1 m2 : Int, oIx (.lst [.int 4, .int 4, .int 8, .int 20, .int 3]) (.int (gt zs 0 % 5)) = .ok (.int m1, .sh) ∧ oIx (.lst [.int 4, .int 8, .int 4, .int 3, .int 20]) (.int (gt zs 0 % 5)) = .ok (.int m2, .sh) ∧
    (1 ≤ m1 ∧ m1 ≤ 20) ∧ (1 ≤ m2 ∧ m2 ≤ 20) := by
  obtain ⟨m1, p1, q1⟩ := pick5 (a := 4) (b := 4) (c := 8) (d := 20) (e := 3) (x := gt zs 0) (P := fun m => 1 ≤ m ∧ m ≤ 20) (by omega) (by omega) (by omega) (by omega) (by omega)
  obtain ⟨m2, p2, q2⟩ := pick5 (a := 4) (b := 8) (c := 4) (d := 3) (e := 20) (x := gt zs 0) (P := fun m => 1 ≤ m ∧ m ≤ 20) (by omega) (by omega) (by omega) (by omega) (by omega)
  exact ⟨m1, m2, p1, p2, q1, q2⟩
theorem loop_ok {zs : List Int} (hz : 11 ≤ zs.length) : ∃ us ls, R__law_loop [dI zs] = .ok (.tup [dI us, dI ls], false) ∧ Loop us ls := by
  obtain ⟨m1, m2, p1, p2, q1, q2⟩ := loop_core hz
  have w1 : 0 ≤ gt zs 1 % m1 := Int.emod_nonneg _ (by omega)
  have w2 : gt zs 1 % m1 < m1 := Int.emod_lt_of_pos _ (by omega)
  have w3 : 0 ≤ gt zs 2 % m2 := Int.emod_nonneg _ (by omega)
  have w4 : gt zs 2 % m2 < m2 := Int.emod_lt_of_pos _ (by omega)
  obtain ⟨us, r1, l1, u1⟩ := row (us := zs.drop 3) (many := 2 + 2 * (gt zs 1 % m1)) (by simp; omega) (by omega) (by omega)
  obtain ⟨ls, r2, l2, u2⟩ := row (us := zs.drop 7) (many := 2 + 2 * (gt zs 2 % m2)) (by simp; omega) (by omega) (by omega)
  refine ⟨us, ls, ?_, u1, u2, by omega, by omega, by omega, by omega, by omega, by omega⟩
  have i0 := oIx_i (us := zs) (i := 0) (by omega) (by omega)
  have i1 := oIx_i (us := zs) (i := 1) (by omega) (by omega)
  have i2 := oIx_i (us := zs) (i := 2) (by omega) (by omega)
  have c3 := cut_us (us := zs) (k := 3) (by omega) (by omega)
  have c7 := cut_us (us := zs) (k := 7) (by omega) (by omega)
  have z1 : 0 < m1 := by omega
  have z2 : 0 < m2 := by omega
  have mu1 : oMul (.int 2) (.int (gt zs 1 % m1)) = .ok (.int (2 * (gt zs 1 % m1)), .sh) := oMul_l (by decide) (by decide)
  have mu2 : oMul (.int 2) (.int (gt zs 2 % m2)) = .ok (.int (2 * (gt zs 2 % m2)), .sh) := oMul_l (by decide) (by decide)
  have sz : 2 ≤ SZ := by decide
  simp at i0 i1 i2 c3 c7 r1 r2
  simp [R__law_loop, denF, slots, S__law_loop, sSeq_ap, i0, i1, i2, p1, p2, z1, z2, mu1, mu2, c3, c7, r1, r2, SZ, -List.map_drop]
end GD
namespace Orb
variable {α : Type}
def it (f : α → α) : Nat → α → α
  | 0, p => p
  | n + 1, p => f (it f n p)
theorem it_add (f : α → α) (m : Nat) : ∀ (n : Nat) (p : α), it f (n + m) p = it f n (it f m p)
  | 0, p => by rw [Nat.zero_add]; rfl
  | n + 1, p => by
    rw [show n + 1 + m = (n + m) + 1 by omega]
    show f (it f (n + m) p) = f (it f n (it f m p))
    rw [it_add f m n p]
theorem least {P : Nat → Prop} (h : ∃ n, P n) : ∃ n, P n ∧ ∀ m, m < n → ¬ P m := by
  obtain ⟨n, hn⟩ := h
  induction n using Nat.strongRecOn with
  | _ n ih =>
    by_cases q : ∃ m, m < n ∧ P m
    · obtain ⟨m, hm, hp⟩ := q
      exact ih m hm hp
    · exact ⟨n, hn, fun m hm hp => q ⟨m, hm, hp⟩⟩
/-- the pigeons -/
theorem nodup_le [DecidableEq α] : ∀ {l L : List α}, l.Nodup → (∀ x ∈ l, x ∈ L) → l.length ≤ L.length
  | [], _, _, _ => Nat.zero_le _
  | a :: l, L, nd, h => by
    obtain ⟨n1, n2⟩ := List.nodup_cons.mp nd
    have ha := h a List.mem_cons_self
    have := nodup_le (l := l) (L := L.erase a) n2 fun x hx => (List.mem_erase_of_ne (a := x) (b := a) (fun e => by subst e; exact n1 hx)).mpr (h x (List.mem_cons_of_mem _ hx))
    have hp : 0 < L.length := List.length_pos_of_mem ha
    rw [List.length_erase_of_mem ha] at this
    rw [List.length_cons]
    omega
section
variable {f : α → α} {S : α → Prop}
theorem it_in (hS : ∀ p, S p → S (f p)) {p : α} (hp : S p) : ∀ n, S (it f n p)
  | 0 => hp
  | n + 1 => hS _ (it_in hS hp n)
theorem it_inj (hS : ∀ p, S p → S (f p)) (inj : ∀ p q, S p → S q → f p = f q → p = q) : ∀ (n : Nat) {p q : α}, S p → S q → it f n p = it f n q → p = q
  | 0, _, _, _, _, e => e
  | n + 1, p, q, hp, hq, e => it_inj hS inj n hp hq (inj _ _ (it_in hS hp n) (it_in hS hq n) e)
/-- a walk by an injective step within finitely many places comes back -/
theorem back [DecidableEq α] {L : List α} (hS : ∀ p, S p → S (f p)) (inj : ∀ p q, S p → S q → f p = f q → p = q) (hL : ∀ p, S p → p ∈ L) {p : α} (hp : S p) : ∃ n, 1 ≤ n ∧ n ≤ L.length ∧ it f n p = p := by
  by_cases q : ∃ n, 1 ≤ n ∧ n ≤ L.length ∧ it f n p = p
  · exact q
  · exfalso
    have nd : ((List.range (L.length + 1)).map fun i => it f i p).Nodup := by
      refine List.pairwise_map.mpr ?_
      refine List.Pairwise.imp_of_mem (R := fun i j => i < j) (fun {i j} hi hj lt e => ?_) List.pairwise_lt_range
      have hj' := List.mem_range.mp hj
      rw [show j = i + (j - i) by omega, it_add] at e
      have := it_inj hS inj i hp (it_in hS hp _) e
      exact q ⟨j - i, by omega, by omega, this.symm⟩
    have := nodup_le nd (L := L) fun x hx => by
      obtain ⟨i, _, rfl⟩ := List.mem_map.mp hx
      exact hL _ (it_in hS hp i)
    rw [List.length_map, List.length_range] at this
    omega
/-- .. at a first time -/
theorem first [DecidableEq α] {L : List α} (hS : ∀ p, S p → S (f p)) (inj : ∀ p q, S p → S q → f p = f q → p = q) (hL : ∀ p, S p → p ∈ L) {p : α} (hp : S p) : ∃ n, 1 ≤ n ∧ n ≤ L.length ∧ it f n p = p ∧ ∀ m, 1 ≤ m → m < n → it f m p ≠ p := by
  obtain ⟨n, ⟨h1, h2, h3⟩, h4⟩ := least (P := fun n => 1 ≤ n ∧ n ≤ L.length ∧ it f n p = p) (back hS inj hL hp)
  exact ⟨n, h1, h2, h3, fun m hm lt e => h4 m lt ⟨hm, by omega, e⟩⟩
/-- the round from p on: p, f p, .. -/
def round (f : α → α) (n : Nat) (p : α) : List α := (List.range n).map fun i => it f i p
theorem round_nodup (hS : ∀ p, S p → S (f p)) (inj : ∀ p q, S p → S q → f p = f q → p = q) {p : α} (hp : S p) {n : Nat} (h : ∀ m, 1 ≤ m → m < n → it f m p ≠ p) : (round f n p).Nodup := by
  refine List.pairwise_map.mpr ?_
  refine List.Pairwise.imp_of_mem (R := fun i j => i < j) (fun {i j} hi hj lt e => ?_) List.pairwise_lt_range
  have hj' := List.mem_range.mp hj
  rw [show j = i + (j - i) by omega, it_add] at e
  have := it_inj hS inj i hp (it_in hS hp _) e
  exact h (j - i) (by omega) (by omega) this.symm
/-- who is in a round has the same round, begun elsewhere -/
theorem it_mod {n : Nat} {p : α} (h : it f n p = p) : ∀ k : Nat, it f (k + n) p = it f k p := fun k => by rw [it_add, h]
theorem it_mul {n : Nat} {p : α} (h : it f n p = p) : ∀ q k : Nat, it f (k + q * n) p = it f k p
  | 0, k => by rw [Nat.zero_mul, Nat.add_zero]
  | q + 1, k => by
    rw [show k + (q + 1) * n = (k + q * n) + n by rw [Nat.add_mul]; omega, it_mod h, it_mul h q k]
theorem in_round {n : Nat} {p : α} (h : it f n p = p) (hn : 1 ≤ n) (k : Nat) : it f k p ∈ round f n p := by
  have := it_mul h (k / n) (k % n)
  rw [Nat.mul_comm, Nat.mod_add_div] at this
  rw [this]
  exact List.mem_map.mpr ⟨k % n, List.mem_range.mpr (Nat.mod_lt _ hn), rfl⟩
theorem mem_round {n : Nat} {p x : α} (h : x ∈ round f n p) : ∃ i, i < n ∧ x = it f i p := by
  obtain ⟨i, hi, rfl⟩ := List.mem_map.mp h
  exact ⟨i, List.mem_range.mp hi, rfl⟩
/-- rounds are alike or apart -/
theorem round_sym {n : Nat} {p x : α} (h : it f n p = p) (hx : x ∈ round f n p) : ∃ j, it f j x = p := by
  obtain ⟨i, hi, rfl⟩ := mem_round hx
  exact ⟨n - i, by rw [← it_add, show n - i + i = n by omega]; exact h⟩
end
end Orb
namespace GD
open PySem L2 G
section
variable {us ls : List Int}
/-- the step on: to the right, up -/
def onw (us ls : List Int) (x y : Int) : Int × Int := if (x + y) % 2 = 0 then (if (x + gt ls y.toNat) % 2 = 1 then (1, 0) else (-1, 0)) else (if (y + gt us x.toNat) % 2 = 1 then (0, 1) else (0, -1))
def rstep (us ls : List Int) (p : Pt) : Pt := ((p.1 + (onw us ls p.1 p.2).1) % us.length, (p.2 + (onw us ls p.1 p.2).2) % ls.length)
def InR (us ls : List Int) (p : Pt) : Prop := 0 ≤ p.1 ∧ p.1 < us.length ∧ 0 ≤ p.2 ∧ p.2 < ls.length
theorem onward_ok {x y : Int} (h : InR us ls (x, y)) : R_onward [rg us ls, .int x, .int y] = .ok (.tup [.int (onw us ls x y).1, .int (onw us ls x y).2], false) := by
  obtain ⟨h1, h2, h3, h4⟩ := h
  have sr := st_row (us := us) (ls := ls) (k := y) (x := x) h3 h4 h1 h2
  have sc := st_col (us := us) (ls := ls) (k := x) (y := y) h1 h2 h3 h4
  have sz : 2 ≤ SZ := by decide
  unfold onw
  by_cases q : (x + y) % 2 = 0
  · by_cases q1 : (x + gt ls y.toNat) % 2 = 1
    · simp [R_onward, denF, slots, S_onward, sSeq_ap, q, q1, sr, sz]
    · simp [R_onward, denF, slots, S_onward, sSeq_ap, q, q1, sr, sz]
  · by_cases q1 : (y + gt us x.toNat) % 2 = 1
    · simp [R_onward, denF, slots, S_onward, sSeq_ap, q, q1, sc, sz]
    · simp [R_onward, denF, slots, S_onward, sSeq_ap, q, q1, sc, sz]
theorem up1 {x w : Int} (h0 : 0 ≤ x) (h : x < w) : (x + 1) % w = if x + 1 = w then 0 else x + 1 := by
  by_cases q : x + 1 = w
  · rw [if_pos q, q, Int.emod_self]
  · rw [if_neg q, Int.emod_eq_of_lt (by omega) (by omega)]
theorem dn1 {x w : Int} (h0 : 0 ≤ x) (h : x < w) : (x + -1) % w = if x = 0 then w - 1 else x - 1 := by
  by_cases q : x = 0
  · rw [if_pos q, q, Int.zero_add, ← Int.add_emod_right, Int.emod_eq_of_lt (by omega) (by omega)]
    omega
  · rw [if_neg q, Int.emod_eq_of_lt (by omega) (by omega)]
    omega
theorem st0 {x w : Int} (h0 : 0 ≤ x) (h : x < w) : (x + 0) % w = x := by rw [Int.add_zero, Int.emod_eq_of_lt h0 h]
theorem rstep_in (p : Loop us ls) {q : Pt} (h : InR us ls q) : InR us ls (rstep us ls q) := by
  have h1 := p.u2
  have h2 := p.l2
  exact ⟨Int.emod_nonneg _ (by omega), Int.emod_lt_of_pos _ (by omega), Int.emod_nonneg _ (by omega), Int.emod_lt_of_pos _ (by omega)⟩
/-- what the step does, by kinds of places -/
theorem rstep_even {x y : Int} (h : InR us ls (x, y)) (e : (x + y) % 2 = 0) : rstep us ls (x, y) = (if (y + gt ls y.toNat) % 2 = 1 then (if x + 1 = us.length then 0 else x + 1) else (if x = 0 then (us.length : Int) - 1 else x - 1), y) := by
  obtain ⟨h1, h2, h3, h4⟩ := h
  have k : (x + gt ls y.toNat) % 2 = (y + gt ls y.toNat) % 2 := by omega
  unfold rstep onw
  simp only [e, if_true, k]
  by_cases q : (y + gt ls y.toNat) % 2 = 1
  · simp only [q, if_true]
    rw [up1 h1 h2, st0 h3 h4]
  · simp only [q, if_false]
    rw [dn1 h1 h2, st0 h3 h4]
theorem rstep_odd {x y : Int} (h : InR us ls (x, y)) (e : ¬ (x + y) % 2 = 0) : rstep us ls (x, y) = (x, if (x + 1 + gt us x.toNat) % 2 = 1 then (if y + 1 = ls.length then 0 else y + 1) else (if y = 0 then (ls.length : Int) - 1 else y - 1)) := by
  obtain ⟨h1, h2, h3, h4⟩ := h
  have k : (y + gt us x.toNat) % 2 = (x + 1 + gt us x.toNat) % 2 := by omega
  unfold rstep onw
  simp only [e, if_false, k]
  by_cases q : (x + 1 + gt us x.toNat) % 2 = 1
  · simp only [q, if_true]
    rw [up1 h3 h4, st0 h1 h2]
  · simp only [q, if_false]
    rw [dn1 h3 h4, st0 h1 h2]
theorem rstep_par (p : Loop us ls) {q : Pt} (h : InR us ls q) : ((rstep us ls q).1 + (rstep us ls q).2) % 2 = (q.1 + q.2 + 1) % 2 := by
  obtain ⟨x, y⟩ := q
  have ue := p.ue
  have le := p.le
  by_cases e : (x + y) % 2 = 0
  · rw [rstep_even h e]
    obtain ⟨h1, h2, h3, h4⟩ := h
    dsimp only at h1 h2 h3 h4 ⊢
    split <;> split <;> omega
  · rw [rstep_odd h e]
    obtain ⟨h1, h2, h3, h4⟩ := h
    dsimp only at h1 h2 h3 h4 ⊢
    split <;> split <;> omega
theorem rstep_inj (p : Loop us ls) : ∀ a b : Pt, InR us ls a → InR us ls b → rstep us ls a = rstep us ls b → a = b := by
  rintro ⟨x, y⟩ ⟨x', y'⟩ ha hb e
  have pa := rstep_par p ha
  have pb := rstep_par p hb
  rw [e] at pa
  rw [pa] at pb
  dsimp only at pb
  by_cases q : (x + y) % 2 = 0
  · have q' : (x' + y') % 2 = 0 := by omega
    rw [rstep_even ha q, rstep_even hb q'] at e
    obtain ⟨h1, h2, h3, h4⟩ := ha
    obtain ⟨g1, g2, g3, g4⟩ := hb
    dsimp only at h1 h2 h3 h4 g1 g2 g3 g4
    injection e with e1 e2
    subst e2
    have : x = x' := by
      split at e1
      · split at e1 <;> split at e1 <;> omega
      · split at e1 <;> split at e1 <;> omega
    rw [this]
  · have q' : ¬ (x' + y') % 2 = 0 := by omega
    rw [rstep_odd ha q, rstep_odd hb q'] at e
    obtain ⟨h1, h2, h3, h4⟩ := ha
    obtain ⟨g1, g2, g3, g4⟩ := hb
    dsimp only at h1 h2 h3 h4 g1 g2 g3 g4
    injection e with e1 e2
    subst e1
    have : y = y' := by
      split at e2
      · split at e2 <;> split at e2 <;> omega
      · split at e2 <;> split at e2 <;> omega
    rw [this]
end
end GD
namespace GD
open PySem L2 G
theorem eqD_pt (p q : Pt) : eqD (ptD p) (ptD q) = some (decide (p = q)) := by
  obtain ⟨a, b⟩ := p
  obtain ⟨c, d⟩ := q
  have tp : ∀ r : Pt, toPy (ptD r) = some (.tuple [.int r.1, .int r.2]) := fun _ => rfl
  have sh : ∀ i j : Int, SeqAt.shaped (.tuple [.int i, .int j]) = true := fun _ _ => rfl
  show (match toPy (ptD (a, b)), toPy (ptD (c, d)) with
    | some p, some q => if SeqAt.shaped p && SeqAt.shaped q then some (PyData.eqv p q) else none
    | _, _ => none) = _
  rw [tp, tp]
  simp [sh]
  show PyData.eqvAll [.int a, .int b] [.int c, .int d] = _
  simp [PyData.eqvAll, PyData.eqv]
  rw [Bool.beq_eq_decide_eq a c, Bool.beq_eq_decide_eq b d]
theorem ne_pt (p q : Pt) : oNe (ptD p) (ptD q) = .ok (.bl (!decide (p = q)), .sh) := by
  show obl ((eqD (ptD p) (ptD q)).map (!·)) = _
  rw [eqD_pt]
  rfl
abbrev pyP (ps : List Pt) : List PyData := ps.map fun p => .tuple [.int p.1, .int p.2]
theorem pts_lay : ∀ ps : List Pt, PyData.canLayAll0 (pyP ps) = true
  | [] => rfl
  | p :: ps => by
    have h1 : PyData.canLay0 (.tuple [.int p.1, .int p.2]) = true := rfl
    have := pts_lay ps
    simp [PyData.canLayAll0, h1] at this ⊢
    exact this
theorem pts_depth : ∀ ps : List Pt, PyData.depthAll (pyP ps) ≤ 1
  | [] => by simp [PyData.depthAll]
  | p :: ps => by
    have h1 : PyData.depth (.tuple [.int p.1, .int p.2]) = 1 := rfl
    have := pts_depth ps
    show max (PyData.depth (.tuple [.int p.1, .int p.2])) (PyData.depthAll (pyP ps)) ≤ 1
    rw [h1]
    omega
theorem shaped_pts (ps : List Pt) : SeqAt.shaped (.list (pyP ps)) = true := by
  unfold SeqAt.shaped
  have h1 : PyData.canLay0 (.list (pyP ps)) = true := pts_lay ps
  have h2 := pts_depth ps
  rw [h1]
  show (true && decide (PyData.depthAll (pyP ps) + 1 ≤ 64)) = true
  simp
  omega
theorem eq_nil (ps : List Pt) : oEq (.lst (ps.map ptD)) (.lst []) = .ok (.bl (decide (ps = [])), .sh) := by
  have tp : toPy (.lst (ps.map ptD)) = some (.list (pyP ps)) := by
    show (toPys (ps.map ptD)).map PyData.list = _
    rw [toPys_pts]
    rfl
  have t0 : toPy (.lst []) = some (.list []) := rfl
  have s0 : SeqAt.shaped (.list []) = true := rfl
  show obl (eqD (.lst (ps.map ptD)) (.lst [])) = _
  have e : eqD (.lst (ps.map ptD)) (.lst []) = (match toPy (.lst (ps.map ptD)), toPy (.lst []) with
    | some p, some q => if SeqAt.shaped p && SeqAt.shaped q then some (PyData.eqv p q) else none
    | _, _ => none) := rfl
  rw [e, tp, t0]
  simp [shaped_pts, s0]
  cases ps with
  | nil => rfl
  | cons p ps => rfl
section
variable {us ls : List Int}
def rsum (us ls : List Int) (p : Pt) : Nat → Int
  | 0 => 0
  | k + 1 => rsum us ls p k + (onw us ls (Orb.it (rstep us ls) k p).1 (Orb.it (rstep us ls) k p).2).1
def usum (us ls : List Int) (p : Pt) : Nat → Int
  | 0 => 0
  | k + 1 => usum us ls p k + (onw us ls (Orb.it (rstep us ls) k p).1 (Orb.it (rstep us ls) k p).2).2
theorem round_succ (f : Pt → Pt) (k : Nat) (p : Pt) : Orb.round f (k + 1) p = Orb.round f k p ++ [Orb.it f k p] := by
  unfold Orb.round
  rw [List.range_succ, List.map_append]
  rfl
theorem round_len (f : Pt → Pt) (k : Nat) (p : Pt) : (Orb.round f k p).length = k := by simp [Orb.round]
theorem it_inR (p : Loop us ls) {q : Pt} (h : InR us ls q) (k : Nat) : InR us ls (Orb.it (rstep us ls) k q) := Orb.it_in (S := InR us ls) (fun _ h => rstep_in p h) h k
theorem round_turn (p : Loop us ls) {q : Pt} (h : InR us ls q) {k : Nat} (hk : k < 1700) {R U : Int} {x y : D} {s7 s8 : Slot} :
    ∃ s7' s8', S_round_from_b1 [.va (rg us ls), .va x, .va y, .ow (.lst ((Orb.round (rstep us ls) k q).map ptD)), .va (ptD (Orb.it (rstep us ls) k q)), .va (.int R), .va (.int U), s7, s8] =
      .nx [.va (rg us ls), .va x, .va y, .ow (.lst ((Orb.round (rstep us ls) (k + 1) q).map ptD)), .va (ptD (Orb.it (rstep us ls) (k + 1) q)), .va (.int (R + (onw us ls (Orb.it (rstep us ls) k q).1 (Orb.it (rstep us ls) k q).2).1)), .va (.int (U + (onw us ls (Orb.it (rstep us ls) k q).1 (Orb.it (rstep us ls) k q).2).2)), s7', s8'] := by
  have hi := it_inR p h k
  have h1 := p.u2
  have h2 := p.l2
  have e : Orb.it (rstep us ls) (k + 1) q = rstep us ls (Orb.it (rstep us ls) k q) := rfl
  rw [round_succ, e]
  have hl := round_len (rstep us ls) k q
  generalize Orb.round (rstep us ls) k q = ps at hl
  generalize Orb.it (rstep us ls) k q = r at hi
  obtain ⟨a, b⟩ := r
  have o := onward_ok hi
  have ka : kAp (ps.map ptD) (.tup [.int a, .int b]) = some ((ps ++ [(a, b)]).map ptD) := kAp_pt (by rw [hl]; unfold SZ; omega)
  have i0 : oIx (.tup [.int a, .int b]) (.int 0) = .ok (.int a, .sh) := rfl
  have i1 : oIx (.tup [.int a, .int b]) (.int 1) = .ok (.int b, .sh) := rfl
  have pu : 0 < us.length := by omega
  have pl : 0 < ls.length := by omega
  have sz : 2 ≤ SZ := by decide
  refine ⟨.va (.int (onw us ls a b).1), .va (.int (onw us ls a b).2), ?_⟩
  simp [S_round_from_b1, sSeq_ap, ptD, ka, i0, i1, o, rg_wide, rg_tall, pu, pl, sz, rstep, -List.map_append]
abbrev rSt (us ls : List Int) (q : Pt) (k : Nat) (s7 s8 : Slot) : Sl := [.va (rg us ls), .va (.int q.1), .va (.int q.2), .ow (.lst ((Orb.round (rstep us ls) k q).map ptD)), .va (ptD (Orb.it (rstep us ls) k q)), .va (.int (rsum us ls q k)), .va (.int (usum us ls q k)), s7, s8]
theorem round_tst {q : Pt} {k : Nat} {s7 s8 : Slot} : T_round_from_b2 (rSt us ls q k s7 s8) = .ok (decide (k = 0) || !decide (Orb.it (rstep us ls) k q = q)) := by
  have e := eq_nil (Orb.round (rstep us ls) k q)
  have hl := round_len (rstep us ls) k q
  have n := ne_pt (Orb.it (rstep us ls) k q) q
  have e2 : decide (Orb.round (rstep us ls) k q = []) = decide (k = 0) := by
    congr 1
    simp only [eq_iff_iff]
    constructor
    · intro z
      rw [z] at hl
      exact hl.symm
    · intro z
      subst z
      rfl
  rw [e2] at e
  have eq' : ptD q = .tup [.int q.1, .int q.2] := rfl
  rw [eq'] at n
  have sz2 : 2 ≤ SZ := by decide
  by_cases k0 : k = 0
  · rw [decide_eq_true k0] at e ⊢
    simp [T_round_from_b2, e, SZ]
  · rw [decide_eq_false k0] at e ⊢
    simp [T_round_from_b2, e, n, sz2, SZ]
def rmu (n : Nat) (ρ : Sl) : Nat := match ρ[3]? with
  | some (G.Slot.ow (G.D.lst xs)) => n - xs.length
  | _ => 0
theorem rmu_st {n : Nat} {q : Pt} {k : Nat} {s7 s8 : Slot} : rmu n (rSt us ls q k s7 s8) = n - k := by
  have e : rmu n (rSt us ls q k s7 s8) = n - ((Orb.round (rstep us ls) k q).map ptD).length := rfl
  rw [e, List.length_map, round_len]
theorem from_ok (p : Loop us ls) {q : Pt} (h : InR us ls q) {n : Nat} (h1 : 1 ≤ n) (h2 : n ≤ 1600) (hr : Orb.it (rstep us ls) n q = q) (hf : ∀ m, 1 ≤ m → m < n → Orb.it (rstep us ls) m q ≠ q) :
    R_round_from [rg us ls, .int q.1, .int q.2] = .ok (.tup [.lst ((Orb.round (rstep us ls) n q).map ptD), .int (rsum us ls q n / us.length), .int (usum us ls q n / ls.length)], false) := by
  have pu := p.u2
  have pl := p.l2
  obtain ⟨ρ', g1, ⟨k, s7, s8, hk, rfl⟩, g2⟩ := sWhile_nx (t := T_round_from_b2) (a := S_round_from_b1) (I := fun ρ => ∃ k s7 s8, k ≤ n ∧ ρ = rSt us ls q k s7 s8) (ρ := rSt us ls q 0 .un .un)
    (rmu n) (fun ρ ⟨k, s7, s8, hk, e⟩ => by
      subst e
      have t := round_tst (us := us) (ls := ls) (q := q) (k := k) (s7 := s7) (s8 := s8)
      by_cases kn : k = n
      · subst kn
        rw [decide_eq_true hr, decide_eq_false (show ¬ k = 0 by omega)] at t
        exact .inl t
      · have tt : T_round_from_b2 (rSt us ls q k s7 s8) = .ok true := by
          rw [t]
          by_cases k0 : k = 0
          · rw [decide_eq_true k0]; rfl
          · rw [decide_eq_false (hf k (by omega) (by omega)), Bool.not_false, Bool.or_true]
        obtain ⟨s7', s8', tn⟩ := round_turn p h (k := k) (by omega) (R := rsum us ls q k) (U := usum us ls q k) (x := .int q.1) (y := .int q.2) (s7 := s7) (s8 := s8)
        refine .inr ⟨tt, rSt us ls q (k + 1) s7' s8', .inl tn, ⟨k + 1, s7', s8', by omega, rfl⟩, ?_⟩
        rw [rmu_st, rmu_st]
        omega) ⟨0, .un, .un, Nat.zero_le _, rfl⟩ (by
      rw [rmu_st]
      exact Nat.lt_of_le_of_lt (Nat.sub_le _ _) (Nat.lt_of_le_of_lt h2 (by decide)))
  have kn : k = n := by
    by_cases z : k = n
    · exact z
    · exfalso
      rw [round_tst] at g2
      by_cases k0 : k = 0
      · rw [decide_eq_true k0] at g2
        cases g2
      · rw [decide_eq_false (hf k (by omega) (by omega)), Bool.not_false, Bool.or_true] at g2
        cases g2
  subst kn
  have e0 : ptD q = .tup [.int q.1, .int q.2] := rfl
  have g1' : G.sWhile T_round_from_b2 S_round_from_b1 [.va (rg us ls), .va (.int q.1), .va (.int q.2), .ow (.lst []), .va (.tup [.int q.1, .int q.2]), .va (.int 0), .va (.int 0), .un, .un] = _ := g1
  have sz2 : 2 ≤ SZ := by decide
  have sz3 : 3 ≤ SZ := by decide
  have pu' : 0 < us.length := by omega
  have pl' : 0 < ls.length := by omega
  have bu : (us.length : Int) < 1073741824 := by have := p.u40; omega
  have bl : (ls.length : Int) < 1073741824 := by have := p.l40; omega
  simp [R_round_from, denF, slots, S_round_from, sSeq_ap, g1', rSt, rg_wide, rg_tall, pu', pl', bu, bl, sz2, sz3]
/-- all points -/
def ptsR (us ls : List Int) : List Pt := ((List.range us.length).map fun x => (List.range ls.length).map fun y => (((x : Nat) : Int), ((y : Nat) : Int))).flatten
theorem ptsR_mem {q : Pt} (h : InR us ls q) : q ∈ ptsR us ls := by
  obtain ⟨x, y⟩ := q
  obtain ⟨h1, h2, h3, h4⟩ := h
  dsimp only at h1 h2 h3 h4
  unfold ptsR
  rw [List.mem_flatten]
  refine ⟨_, List.mem_map.mpr ⟨x.toNat, List.mem_range.mpr (by omega), rfl⟩, List.mem_map.mpr ⟨y.toNat, List.mem_range.mpr (by omega), ?_⟩⟩
  rw [Int.toNat_of_nonneg h1, Int.toNat_of_nonneg h3]
theorem flat_len {α β : Type} (f : α → List β) (n : Nat) : ∀ xs : List α, (∀ x ∈ xs, (f x).length = n) → ((xs.map f).flatten).length = xs.length * n
  | [], _ => by simp
  | x :: xs, h => by
    rw [List.map_cons, List.flatten_cons, List.length_append, h x List.mem_cons_self, flat_len f n xs fun y hy => h y (List.mem_cons_of_mem _ hy), List.length_cons, Nat.add_mul]
    omega
theorem ptsR_len : (ptsR us ls).length = us.length * ls.length := by
  unfold ptsR
  rw [flat_len _ ls.length _ fun x _ => by simp, List.length_range]
/-- each round comes back, at a first time -/
theorem rfirst (p : Loop us ls) {q : Pt} (h : InR us ls q) : ∃ n, 1 ≤ n ∧ n ≤ 1600 ∧ Orb.it (rstep us ls) n q = q ∧ ∀ m, 1 ≤ m → m < n → Orb.it (rstep us ls) m q ≠ q := by
  obtain ⟨n, h1, h2, h3, h4⟩ := Orb.first (S := InR us ls) (L := ptsR us ls) (fun _ h => rstep_in p h) (rstep_inj p) (fun _ h => ptsR_mem h) h
  rw [ptsR_len] at h2
  have : us.length * ls.length ≤ 40 * 40 := Nat.mul_le_mul p.u40 p.l40
  exact ⟨n, h1, by omega, h3, h4⟩
end
end GD
namespace GD
open PySem L2 G
def kyP (p : Pt) : List Key := [.inl p.1, .inl p.2]
def seenD (vs : List Pt) : D := .dT (vs.map kyP) (vs.map fun _ => D.bl true)
theorem kyP_inj {p q : Pt} : kyP p = kyP q ↔ p = q := by
  obtain ⟨a, b⟩ := p
  obtain ⟨c, d⟩ := q
  unfold kyP
  simp
theorem mem_ky {p : Pt} {vs : List Pt} : kyP p ∈ vs.map kyP ↔ p ∈ vs := by
  rw [List.mem_map]
  constructor
  · rintro ⟨q, hq, e⟩
    rw [kyP_inj] at e
    exact e ▸ hq
  · exact fun h => ⟨p, h, rfl⟩
theorem zip_same (k : List Key) : ∀ vs : List Pt, List.zipWith (fun x y => if x = k then D.bl true else y) (vs.map kyP) (vs.map fun _ => D.bl true) = vs.map fun _ => D.bl true
  | [] => rfl
  | v :: vs => by
    rw [List.map_cons, List.map_cons, List.zipWith_cons_cons, zip_same k vs]
    split <;> rfl
def addP (vs : List Pt) (p : Pt) : List Pt := if p ∈ vs then vs else vs ++ [p]
theorem put_seen {vs : List Pt} {p : Pt} (h : vs.length < SZ) : kPut (seenD vs) (ptD p) (.bl true) = some (seenD (addP vs p)) := by
  have e : kPut (seenD vs) (ptD p) (.bl true) = if (vs.map kyP).length < SZ then some (.dT (putD (kyP p) (.bl true) (vs.map kyP) (vs.map fun _ => D.bl true)).1 (putD (kyP p) (.bl true) (vs.map kyP) (vs.map fun _ => D.bl true)).2) else none := rfl
  rw [e, if_pos (by rw [List.length_map]; exact h)]
  unfold putD addP
  by_cases m : p ∈ vs
  · rw [if_pos (mem_ky.mpr m), if_pos m, zip_same]
    rfl
  · rw [if_neg fun z => m (mem_ky.mp z), if_neg m]
    unfold seenD
    rw [List.map_append, List.map_append]
    rfl
theorem look_seen {p : Pt} : ∀ {vs : List Pt}, lookK (vs.map kyP) (vs.map fun _ => D.bl true) (kyP p) = if p ∈ vs then some (.bl true) else none
  | [] => by simp [lookK]
  | v :: vs => by
    have ih := look_seen (p := p) (vs := vs)
    rw [List.map_cons, List.map_cons]
    unfold lookK
    by_cases e : v = p
    · subst e
      simp
    · have e2 : ¬ kyP v = kyP p := fun z => e (kyP_inj.mp z)
      have e3 : ¬ p = v := fun z => e z.symm
      simp [e2, e3, ih]
theorem ni_seen (vs : List Pt) (p : Pt) : oNiD (ptD p) (seenD vs) = .ok (.bl (!decide (p ∈ vs)), .sh) := by
  have e : dGet (seenD vs) (ptD p) = some (lookK (vs.map kyP) (vs.map fun _ => D.bl true) (kyP p)) := rfl
  unfold oNiD
  rw [e, look_seen]
  by_cases m : p ∈ vs
  · rw [if_pos m, decide_eq_true m]; rfl
  · rw [if_neg m, decide_eq_false m]; rfl
theorem addP_mem {vs : List Pt} {p q : Pt} : q ∈ addP vs p ↔ q ∈ vs ∨ q = p := by
  unfold addP
  by_cases m : p ∈ vs
  · rw [if_pos m]
    exact ⟨.inl, fun h => h.elim id fun e => e ▸ m⟩
  · rw [if_neg m, List.mem_append, List.mem_singleton]
theorem addP_len (vs : List Pt) (p : Pt) : (addP vs p).length ≤ vs.length + 1 := by
  unfold addP
  split <;> simp
def addAll (vs ps : List Pt) : List Pt := ps.foldl addP vs
theorem addAll_mem {q : Pt} : ∀ {ps vs : List Pt}, q ∈ addAll vs ps ↔ q ∈ vs ∨ q ∈ ps
  | [], vs => by simp [addAll]
  | p :: ps, vs => by
    have := addAll_mem (q := q) (ps := ps) (vs := addP vs p)
    unfold addAll at this ⊢
    rw [List.foldl_cons, this, addP_mem, List.mem_cons, or_assoc]
theorem addAll_len : ∀ (ps vs : List Pt), (addAll vs ps).length ≤ vs.length + ps.length
  | [], vs => by simp [addAll]
  | p :: ps, vs => by
    have := addAll_len ps (addP vs p)
    have h := addP_len vs p
    unfold addAll at this ⊢
    rw [List.foldl_cons, List.length_cons]
    omega
end GD
namespace GD
open PySem L2 G
section
variable {us ls : List Int}
def PerP (us ls : List Int) (q : Pt) (n : Nat) : Prop := 1 ≤ n ∧ n ≤ 1600 ∧ Orb.it (rstep us ls) n q = q ∧ ∀ m, 1 ≤ m → m < n → Orb.it (rstep us ls) m q ≠ q
open Classical in
noncomputable def per (us ls : List Int) (q : Pt) : Nat := if h : ∃ n, PerP us ls q n then Classical.choose h else 1
theorem per_ok (p : Loop us ls) {q : Pt} (h : InR us ls q) : PerP us ls q (per us ls q) := by
  have e : ∃ n, PerP us ls q n := rfirst p h
  unfold per
  rw [dif_pos e]
  exact Classical.choose_spec e
/-- the points of the round through q -/
noncomputable def rnd (us ls : List Int) (q : Pt) : List Pt := Orb.round (rstep us ls) (per us ls q) q
noncomputable def oneD (us ls : List Int) (q : Pt) : D := .tup [.lst ((rnd us ls q).map ptD), .int (rsum us ls q (per us ls q) / us.length), .int (usum us ls q (per us ls q) / ls.length)]
theorem rnd_len (p : Loop us ls) {q : Pt} (h : InR us ls q) : (rnd us ls q).length ≤ 1600 := by
  unfold rnd
  rw [round_len]
  exact (per_ok p h).2.1
theorem from_one (p : Loop us ls) {x y : Int} (h : InR us ls (x, y)) : R_round_from [rg us ls, .int x, .int y] = .ok (oneD us ls (x, y), false) := by
  obtain ⟨h1, h2, h3, h4⟩ := per_ok p h
  exact from_ok p h h1 h2 h3 h4
theorem see_all (x y fd : D) (one : Slot) : ∀ (ps vs : List Pt) (s6 : Slot), vs.length + ps.length < SZ → ∃ s6', forL (.one 6) S_ring_rounds_b1 (ps.map ptD) [.va (rg us ls), .ow (seenD vs), .ow fd, .va x, .va y, one, s6] = .nx [.va (rg us ls), .ow (seenD (addAll vs ps)), .ow fd, .va x, .va y, one, s6']
  | [], vs, s6, _ => ⟨s6, by simp [forL, addAll]⟩
  | p :: ps, vs, s6, hl => by
    have pu := put_seen (vs := vs) (p := p) (by simp at hl; omega)
    obtain ⟨s6', g⟩ := see_all x y fd one ps (addP vs p) (.va (ptD p)) (by have := addP_len vs p; simp at hl; omega)
    refine ⟨s6', ?_⟩
    have e : addAll vs (p :: ps) = addAll (addP vs p) ps := rfl
    rw [e, List.map_cons]
    have b : S_ring_rounds_b1 [.va (rg us ls), .ow (seenD vs), .ow fd, .va x, .va y, one, .va (ptD p)] = .nx [.va (rg us ls), .ow (seenD (addP vs p)), .ow fd, .va x, .va y, one, .va (ptD p)] := by
      simp [S_ring_rounds_b1, pu]
    simp [forL, b, g]
/-- a turn of the walk over the points: what is seen, what is found -/
noncomputable def rrS (us ls : List Int) (q : Pt) (vs : List Pt) : List Pt := if (q.1 + q.2) % 2 = 0 ∧ q ∉ vs then addAll vs (rnd us ls q) else vs
noncomputable def rrF (us ls : List Int) (q : Pt) (vs : List Pt) (qs : List Pt) : List Pt := if (q.1 + q.2) % 2 = 0 ∧ q ∉ vs then qs ++ [q] else qs
theorem rr_turn (p : Loop us ls) {x y : Int} (h : InR us ls (x, y)) {vs qs : List Pt} {s5 s6 : Slot} (hv : vs.length + 1600 < SZ) (hq : qs.length < SZ) :
    ∃ s5' s6', S_ring_rounds_b2 [.va (rg us ls), .ow (seenD vs), .ow (.lst (qs.map (oneD us ls))), .va (.int x), .va (.int y), s5, s6] = .nx [.va (rg us ls), .ow (seenD (rrS us ls (x, y) vs)), .ow (.lst ((rrF us ls (x, y) vs qs).map (oneD us ls))), .va (.int x), .va (.int y), s5', s6'] := by
  have ni := ni_seen vs (x, y)
  have eq' : ptD (x, y) = .tup [.int x, .int y] := rfl
  rw [eq'] at ni
  have sz2 : 2 ≤ SZ := by decide
  by_cases e : (x + y) % 2 = 0
  · by_cases m : (x, y) ∈ vs
    · rw [decide_eq_true m] at ni
      have e1 : rrS us ls (x, y) vs = vs := by unfold rrS; rw [if_neg fun z => z.2 m]
      have e2 : rrF us ls (x, y) vs qs = qs := by unfold rrF; rw [if_neg fun z => z.2 m]
      rw [e1, e2]
      exact ⟨s5, s6, by simp [S_ring_rounds_b2, e, ni, sz2]⟩
    · rw [decide_eq_false m] at ni
      have e1 : rrS us ls (x, y) vs = addAll vs (rnd us ls (x, y)) := by unfold rrS; rw [if_pos ⟨e, m⟩]
      have e2 : rrF us ls (x, y) vs qs = qs ++ [(x, y)] := by unfold rrF; rw [if_pos ⟨e, m⟩]
      rw [e1, e2]
      have f := from_one p h
      have rl := rnd_len p h
      obtain ⟨s6', g⟩ := see_all (us := us) (ls := ls) (.int x) (.int y) (.lst ((qs ++ [(x, y)]).map (oneD us ls))) (.va (oneD us ls (x, y))) (rnd us ls (x, y)) vs s6 (by omega)
      have ka : kAp (qs.map (oneD us ls)) (oneD us ls (x, y)) = some ((qs ++ [(x, y)]).map (oneD us ls)) := by
        unfold kAp
        rw [List.length_map, if_pos hq, List.map_append]
        rfl
      have i0 : oIx (oneD us ls (x, y)) (.int 0) = .ok (.lst ((rnd us ls (x, y)).map ptD), .sh) := rfl
      refine ⟨.va (oneD us ls (x, y)), s6', ?_⟩
      simp [S_ring_rounds_b2, sSeq_ap, sFor_ap, e, ni, sz2, f, ka, i0, g, -List.map_append]
  · have e1 : rrS us ls (x, y) vs = vs := by unfold rrS; rw [if_neg fun z => e z.1]
    have e2 : rrF us ls (x, y) vs qs = qs := by unfold rrF; rw [if_neg fun z => e z.1]
    rw [e1, e2]
    exact ⟨s5, s6, by simp [S_ring_rounds_b2, e]⟩
noncomputable def stp (us ls : List Int) (s : List Pt × List Pt) (q : Pt) : List Pt × List Pt := (rrS us ls q s.1, rrF us ls q s.1 s.2)
theorem stp_len (p : Loop us ls) (s : List Pt × List Pt) {q : Pt} (h : InR us ls q) : (stp us ls s q).1.length ≤ s.1.length + 1600 ∧ (stp us ls s q).2.length ≤ s.2.length + 1 := by
  unfold stp rrS rrF
  have rl := rnd_len p h
  have al := addAll_len (rnd us ls q) s.1
  constructor
  · dsimp only
    split
    · omega
    · omega
  · dsimp only
    split
    · simp
    · omega
def colP (x : Int) (k : Nat) : List Pt := (List.range k).map fun y => (x, ((y : Nat) : Int))
theorem colP_succ (x : Int) (k : Nat) : colP x (k + 1) = colP x k ++ [(x, (k : Int))] := by
  unfold colP
  rw [List.range_succ, List.map_append]
  rfl
theorem rr_col (p : Loop us ls) {x : Nat} (hx : x < us.length) {s : List Pt × List Pt} {s4 s5 s6 : Slot} (hv : s.1.length ≤ 64000 * x) (hq : s.2.length ≤ 40 * x) :
    ∃ s4' s5' s6', S_ring_rounds_b3 [.va (rg us ls), .ow (seenD s.1), .ow (.lst (s.2.map (oneD us ls))), .va (.int x), s4, s5, s6] = .nx [.va (rg us ls), .ow (seenD ((colP x ls.length).foldl (stp us ls) s).1), .ow (.lst (((colP x ls.length).foldl (stp us ls) s).2.map (oneD us ls))), .va (.int x), s4', s5', s6'] ∧
      ((colP x ls.length).foldl (stp us ls) s).1.length ≤ 64000 * (x + 1) ∧ ((colP x ls.length).foldl (stp us ls) s).2.length ≤ 40 * (x + 1) := by
  have h2 := p.u40
  have h5 := p.l40
  have im := in62_of (show -(2 ^ 62) < (ls.length : Int) by omega) (by omega)
  obtain ⟨ρ', g1, s4', s5', s6', rfl, b1, b2⟩ := for_rng (i := 4) (n := ls.length) (a := S_ring_rounds_b2) (fun k ρ => ∃ s4 s5 s6, ρ = [.va (rg us ls), .ow (seenD ((colP x k).foldl (stp us ls) s).1), .ow (.lst (((colP x k).foldl (stp us ls) s).2.map (oneD us ls))), .va (.int x), s4, s5, s6] ∧ ((colP x k).foldl (stp us ls) s).1.length ≤ 64000 * x + 1600 * k ∧ ((colP x k).foldl (stp us ls) s).2.length ≤ 40 * x + k)
    (ρ := [.va (rg us ls), .ow (seenD s.1), .ow (.lst (s.2.map (oneD us ls))), .va (.int x), s4, s5, s6]) ⟨s4, s5, s6, rfl, (by show s.1.length ≤ _; omega), (by show s.2.length ≤ _; omega)⟩ (fun k ρ lt ⟨s4, s5, s6, e, b1, b2⟩ => by
    subst e
    refine ⟨by simp, ?_⟩
    have hi : InR us ls ((x : Int), (k : Int)) := by
      refine ⟨?_, ?_, ?_, ?_⟩ <;> dsimp only <;> omega
    have sl := stp_len p ((colP x k).foldl (stp us ls) s) hi
    obtain ⟨s5', s6', g⟩ := rr_turn p hi (vs := ((colP x k).foldl (stp us ls) s).1) (qs := ((colP x k).foldl (stp us ls) s).2) (s5 := s5) (s6 := s6) (by unfold SZ; omega) (by unfold SZ; omega)
    have ef : (colP x (k + 1)).foldl (stp us ls) s = stp us ls ((colP x k).foldl (stp us ls) s) ((x : Int), (k : Int)) := by
      rw [colP_succ, List.foldl_append]
      rfl
    rw [ef]
    exact ⟨_, .inl g, .va (.int k), s5', s6', rfl, by omega, by omega⟩)
  rw [Int.toNat_natCast] at b1 b2 g1
  refine ⟨s4', s5', s6', ?_, by omega, by omega⟩
  simp [S_ring_rounds_b3, sFor_ap, rg_tall, im]
  exact g1
def allP (ls : List Int) (k : Nat) : List Pt := ((List.range k).map fun x : Nat => colP (x : Int) ls.length).flatten
theorem allP_succ (ls : List Int) (k : Nat) : allP ls (k + 1) = allP ls k ++ colP (k : Int) ls.length := by
  unfold allP
  rw [List.range_succ, List.map_append, List.flatten_append]
  simp
noncomputable def rrAll (us ls : List Int) (k : Nat) : List Pt × List Pt := (allP ls k).foldl (stp us ls) ([], [])
theorem rrAll_succ (us ls : List Int) (k : Nat) : rrAll us ls (k + 1) = (colP (k : Int) ls.length).foldl (stp us ls) (rrAll us ls k) := by
  unfold rrAll
  rw [allP_succ, List.foldl_append]
/-- what ring_rounds gives -/
theorem rounds_ok (p : Loop us ls) : R_ring_rounds [rg us ls] = .ok (.lst ((rrAll us ls us.length).2.map (oneD us ls)), true) := by
  have h2 := p.u40
  have im := in62_of (show -(2 ^ 62) < (us.length : Int) by omega) (by omega)
  obtain ⟨ρ', g1, s3', s4', s5', s6', rfl, _, _⟩ := for_rng (i := 3) (n := us.length) (a := S_ring_rounds_b3) (fun k ρ => ∃ s3 s4 s5 s6, ρ = [.va (rg us ls), .ow (seenD (rrAll us ls k).1), .ow (.lst ((rrAll us ls k).2.map (oneD us ls))), s3, s4, s5, s6] ∧ (rrAll us ls k).1.length ≤ 64000 * k ∧ (rrAll us ls k).2.length ≤ 40 * k)
    (ρ := [.va (rg us ls), .ow (seenD []), .ow (.lst []), .un, .un, .un, .un]) ⟨.un, .un, .un, .un, rfl, Nat.zero_le _, Nat.zero_le _⟩ (fun k ρ lt ⟨s3, s4, s5, s6, e, b1, b2⟩ => by
    subst e
    refine ⟨by simp, ?_⟩
    obtain ⟨s4', s5', s6', g, c1, c2⟩ := rr_col p (x := k) (by omega) (s := rrAll us ls k) (s4 := s4) (s5 := s5) (s6 := s6) b1 b2
    rw [rrAll_succ]
    exact ⟨_, .inl g, .va (.int k), s4', s5', s6', rfl, c1, c2⟩)
  rw [Int.toNat_natCast] at g1
  have g1' : forL (.one 3) S_ring_rounds_b3 (rngD 0 us.length) [.va (rg us ls), .ow (.dT [] []), .ow (.lst []), .un, .un, .un, .un] = _ := g1
  simp [R_ring_rounds, denF, slots, S_ring_rounds, sSeq_ap, sFor_ap, rg_wide, im, g1', eDT, SZ]
end
end GD
namespace GD
open PySem L2 G
section
variable {us ls : List Int}
theorem rnd_all (p : Loop us ls) {q : Pt} (h : InR us ls q) (k : Nat) : Orb.it (rstep us ls) k q ∈ rnd us ls q := by
  obtain ⟨h1, _, h3, _⟩ := per_ok p h
  exact Orb.in_round h3 h1 k
theorem rnd_it (p : Loop us ls) {q z : Pt} (h : InR us ls q) (hz : z ∈ rnd us ls q) (k : Nat) : Orb.it (rstep us ls) k z ∈ rnd us ls q := by
  obtain ⟨i, _, rfl⟩ := Orb.mem_round hz
  rw [← Orb.it_add]
  exact rnd_all p h _
theorem rnd_in (p : Loop us ls) {q z : Pt} (h : InR us ls q) (hz : z ∈ rnd us ls q) : InR us ls z := by
  obtain ⟨i, _, rfl⟩ := Orb.mem_round hz
  exact it_inR p h i
theorem rnd_to (p : Loop us ls) {q z : Pt} (h : InR us ls q) (hz : z ∈ rnd us ls q) : ∃ j, Orb.it (rstep us ls) j z = q := by
  obtain ⟨_, _, h3, _⟩ := per_ok p h
  exact Orb.round_sym h3 hz
/-- two rounds with a point in common: each begins in the other -/
theorem rnd_meet (p : Loop us ls) {a b z : Pt} (ha : InR us ls a) (hb : InR us ls b) (h1 : z ∈ rnd us ls a) (h2 : z ∈ rnd us ls b) : a ∈ rnd us ls b := by
  obtain ⟨j, hj⟩ := rnd_to p ha h1
  rw [← hj]
  exact rnd_it p hb h2 j
theorem rnd_self (p : Loop us ls) {q : Pt} (h : InR us ls q) : q ∈ rnd us ls q := rnd_all p h 0
/-- the point ahead is in the round too -/
theorem rnd_pred (p : Loop us ls) {q z : Pt} (h : InR us ls q) (hz : InR us ls z) (hs : rstep us ls z ∈ rnd us ls q) : z ∈ rnd us ls q := by
  obtain ⟨j, hj⟩ := rnd_to p hz (rnd_it p hz (rnd_self p hz) 1)
  have := rnd_it p h hs j
  rw [show Orb.it (rstep us ls) j (rstep us ls z) = z from hj] at this
  exact this
theorem rnd_nodup (p : Loop us ls) {q : Pt} (h : InR us ls q) : (rnd us ls q).Nodup := by
  obtain ⟨_, _, _, h4⟩ := per_ok p h
  exact Orb.round_nodup (S := InR us ls) (fun _ h => rstep_in p h) (rstep_inj p) h h4
/-- what is seen and found along the way -/
structure RrInv (us ls : List Int) (s : List Pt × List Pt) : Prop where
  ev : ∀ q ∈ s.2, InR us ls q ∧ (q.1 + q.2) % 2 = 0
  seen : ∀ z, z ∈ s.1 ↔ ∃ q ∈ s.2, z ∈ rnd us ls q
  apart : s.2.Pairwise fun a b => ∀ z ∈ rnd us ls a, z ∉ rnd us ls b
theorem RrInv.stp (p : Loop us ls) {s : List Pt × List Pt} (I : RrInv us ls s) {q : Pt} (h : InR us ls q) : RrInv us ls (stp us ls s q) ∧ ((q.1 + q.2) % 2 = 0 → q ∈ (GD.stp us ls s q).1) ∧ ∀ z ∈ s.1, z ∈ (GD.stp us ls s q).1 := by
  unfold GD.stp rrS rrF
  by_cases c : (q.1 + q.2) % 2 = 0 ∧ q ∉ s.1
  · rw [if_pos c, if_pos c]
    refine ⟨⟨fun x hx => ?_, fun z => ?_, ?_⟩, fun _ => addAll_mem.mpr (.inr (rnd_self p h)), fun z hz => addAll_mem.mpr (.inl hz)⟩
    · rcases List.mem_append.mp hx with hx | hx
      · exact I.ev x hx
      · rw [List.mem_singleton.mp hx]
        exact ⟨h, c.1⟩
    · dsimp only
      rw [addAll_mem, I.seen]
      constructor
      · rintro (⟨x, hx, hz⟩ | hz)
        · exact ⟨x, List.mem_append_left _ hx, hz⟩
        · exact ⟨q, by simp, hz⟩
      · rintro ⟨x, hx, hz⟩
        rcases List.mem_append.mp hx with hx | hx
        · exact .inl ⟨x, hx, hz⟩
        · rw [List.mem_singleton.mp hx] at hz
          exact .inr hz
    · refine List.pairwise_append.mpr ⟨I.apart, by simp, fun a ha b hb z hz1 hz2 => ?_⟩
      rw [List.mem_singleton.mp hb] at hz2
      exact c.2 ((I.seen q).mpr ⟨a, ha, rnd_meet p h (I.ev a ha).1 hz2 hz1⟩)
  · rw [if_neg c, if_neg c]
    refine ⟨I, fun e => ?_, fun z hz => hz⟩
    by_cases m : q ∈ s.1
    · exact m
    · exact absurd ⟨e, m⟩ c
theorem RrInv.fold (p : Loop us ls) : ∀ (L : List Pt) {s : List Pt × List Pt}, RrInv us ls s → (∀ q ∈ L, InR us ls q) → RrInv us ls (L.foldl (GD.stp us ls) s) ∧ (∀ q ∈ L, (q.1 + q.2) % 2 = 0 → q ∈ (L.foldl (GD.stp us ls) s).1) ∧ ∀ z ∈ s.1, z ∈ (L.foldl (GD.stp us ls) s).1
  | [], s, I, _ => ⟨I, (fun _ h => by cases h), fun _ h => h⟩
  | q :: L, s, I, h => by
    obtain ⟨a1, a2, a3⟩ := RrInv.stp p I (h q List.mem_cons_self)
    obtain ⟨b1, b2, b3⟩ := RrInv.fold p L a1 fun x hx => h x (List.mem_cons_of_mem _ hx)
    refine ⟨b1, fun x hx e => ?_, fun z hz => b3 z (a3 z hz)⟩
    rcases List.mem_cons.mp hx with rfl | hx
    · exact b3 _ (a2 e)
    · exact b2 x hx e
theorem allP_mem {q : Pt} : q ∈ allP ls us.length ↔ InR us ls q := by
  obtain ⟨x, y⟩ := q
  unfold allP colP InR
  simp only [List.mem_flatten, List.mem_map, List.mem_range]
  constructor
  · rintro ⟨l, ⟨a, ha, rfl⟩, hl⟩
    obtain ⟨b, hb, e⟩ := List.mem_map.mp hl
    have hb := List.mem_range.mp hb
    injection e with e1 e2
    omega
  · rintro ⟨h1, h2, h3, h4⟩
    refine ⟨_, ⟨x.toNat, by omega, rfl⟩, List.mem_map.mpr ⟨y.toNat, List.mem_range.mpr (by omega), ?_⟩⟩
    rw [Int.toNat_of_nonneg h1, Int.toNat_of_nonneg h3]
/-- the rounds that ring_rounds tells: apart, and together all points -/
theorem rr_all (p : Loop us ls) : RrInv us ls (rrAll us ls us.length) ∧ ∀ z, InR us ls z → ∃ q ∈ (rrAll us ls us.length).2, z ∈ rnd us ls q := by
  have I0 : RrInv us ls (([], []) : List Pt × List Pt) := ⟨(fun _ h => by cases h), fun z => ⟨(fun h => by cases h), fun ⟨_, h, _⟩ => by cases h⟩, List.Pairwise.nil⟩
  obtain ⟨I, ev, _⟩ := RrInv.fold p (allP ls us.length) I0 fun q hq => allP_mem.mp hq
  have even : ∀ z, InR us ls z → (z.1 + z.2) % 2 = 0 → ∃ q ∈ (rrAll us ls us.length).2, z ∈ rnd us ls q := fun z hz e => (I.seen z).mp (ev z (allP_mem.mpr hz) e)
  refine ⟨I, fun z hz => ?_⟩
  by_cases e : (z.1 + z.2) % 2 = 0
  · exact even z hz e
  · have h2 := rstep_par p hz
    obtain ⟨q, hq, hs⟩ := even _ (rstep_in p hz) (by omega)
    exact ⟨q, hq, rnd_pred p (I.ev q hq).1 hz hs⟩
theorem rsum_mod {q : Pt} (h : InR us ls q) : ∀ k, (q.1 + rsum us ls q k) % us.length = (Orb.it (rstep us ls) k q).1
  | 0 => by
    show (q.1 + 0) % _ = q.1
    rw [Int.add_zero, Int.emod_eq_of_lt h.1 h.2.1]
  | k + 1 => by
    have ih := rsum_mod h k
    show (q.1 + (rsum us ls q k + (onw us ls (Orb.it (rstep us ls) k q).1 (Orb.it (rstep us ls) k q).2).1)) % us.length = ((Orb.it (rstep us ls) k q).1 + (onw us ls (Orb.it (rstep us ls) k q).1 (Orb.it (rstep us ls) k q).2).1) % us.length
    rw [← Int.add_assoc, ← Int.emod_add_emod, ih]
theorem usum_mod {q : Pt} (h : InR us ls q) : ∀ k, (q.2 + usum us ls q k) % ls.length = (Orb.it (rstep us ls) k q).2
  | 0 => by
    show (q.2 + 0) % _ = q.2
    rw [Int.add_zero, Int.emod_eq_of_lt h.2.2.1 h.2.2.2]
  | k + 1 => by
    have ih := usum_mod h k
    show (q.2 + (usum us ls q k + (onw us ls (Orb.it (rstep us ls) k q).1 (Orb.it (rstep us ls) k q).2).2)) % ls.length = ((Orb.it (rstep us ls) k q).2 + (onw us ls (Orb.it (rstep us ls) k q).1 (Orb.it (rstep us ls) k q).2).2) % ls.length
    rw [← Int.add_assoc, ← Int.emod_add_emod, ih]
/-- right and up times the sizes are the sums -/
theorem rsum_div (p : Loop us ls) {q : Pt} (h : InR us ls q) : rsum us ls q (per us ls q) / us.length * us.length = rsum us ls q (per us ls q) := by
  obtain ⟨_, _, h3, _⟩ := per_ok p h
  have hw := p.u2
  have m := rsum_mod h (per us ls q)
  rw [h3] at m
  have d : (us.length : Int) ∣ rsum us ls q (per us ls q) := by
    refine Int.dvd_of_emod_eq_zero ?_
    have k : (q.1 + rsum us ls q (per us ls q) - q.1) % us.length = 0 := by
      rw [Int.sub_emod, m, Int.emod_eq_of_lt h.1 h.2.1, Int.sub_self, Int.zero_emod]
    rwa [show q.1 + rsum us ls q (per us ls q) - q.1 = rsum us ls q (per us ls q) by omega] at k
  exact Int.ediv_mul_cancel d
theorem usum_div (p : Loop us ls) {q : Pt} (h : InR us ls q) : usum us ls q (per us ls q) / ls.length * ls.length = usum us ls q (per us ls q) := by
  obtain ⟨_, _, h3, _⟩ := per_ok p h
  have hw := p.l2
  have m := usum_mod h (per us ls q)
  rw [h3] at m
  have d : (ls.length : Int) ∣ usum us ls q (per us ls q) := by
    refine Int.dvd_of_emod_eq_zero ?_
    have k : (q.2 + usum us ls q (per us ls q) - q.2) % ls.length = 0 := by
      rw [Int.sub_emod, m, Int.emod_eq_of_lt h.2.2.1 h.2.2.2, Int.sub_self, Int.zero_emod]
    rwa [show q.2 + usum us ls q (per us ls q) - q.2 = usum us ls q (per us ls q) by omega] at k
  exact Int.ediv_mul_cancel d
end
end GD
namespace GD
open PySem L2 G
section
variable {us ls : List Int}
/-- along a round the parity goes by turns -/
theorem it_par (p : Loop us ls) {q : Pt} (h : InR us ls q) (ev : (q.1 + q.2) % 2 = 0) : ∀ k : Nat, ((Orb.it (rstep us ls) k q).1 + (Orb.it (rstep us ls) k q).2) % 2 = (k : Int) % 2
  | 0 => ev
  | k + 1 => by
    have ih := it_par p h ev k
    have := rstep_par p (it_inR p h k)
    show ((rstep us ls (Orb.it (rstep us ls) k q)).1 + (rstep us ls (Orb.it (rstep us ls) k q)).2) % 2 = _
    rw [this]
    omega
theorem per_even (p : Loop us ls) {q : Pt} (h : InR us ls q) : per us ls q % 2 = 0 := by
  obtain ⟨_, _, h3, _⟩ := per_ok p h
  have key : ∀ k : Nat, ((Orb.it (rstep us ls) k q).1 + (Orb.it (rstep us ls) k q).2) % 2 = (q.1 + q.2 + k) % 2 := by
    intro k
    induction k with
    | zero => simp [Orb.it]
    | succ k ih =>
      have := rstep_par p (it_inR p h k)
      show ((rstep us ls (Orb.it (rstep us ls) k q)).1 + (rstep us ls (Orb.it (rstep us ls) k q)).2) % 2 = _
      rw [this]
      omega
  have := key (per us ls q)
  rw [h3] at this
  omega
theorem ptsR_in {q : Pt} (h : q ∈ ptsR us ls) : InR us ls q := by
  unfold ptsR at h
  simp only [List.mem_flatten, List.mem_map, List.mem_range] at h
  obtain ⟨l, ⟨a, ha, rfl⟩, hl⟩ := h
  obtain ⟨b, hb, e⟩ := List.mem_map.mp hl
  have hb := List.mem_range.mp hb
  subst e
  refine ⟨?_, ?_, ?_, ?_⟩ <;> dsimp only <;> omega
theorem flat_nodup {α β : Type} {f : α → List β} : ∀ {xs : List α}, (∀ x ∈ xs, (f x).Nodup) → xs.Pairwise (fun a b => ∀ z ∈ f a, z ∉ f b) → ((xs.map f).flatten).Nodup
  | [], _, _ => List.nodup_nil
  | x :: xs, h1, h2 => by
    rw [List.map_cons, List.flatten_cons]
    obtain ⟨p1, p2⟩ := List.pairwise_cons.mp h2
    refine List.nodup_append.mpr ⟨h1 x List.mem_cons_self, flat_nodup (fun y hy => h1 y (List.mem_cons_of_mem _ hy)) p2, fun a ha b hb e => ?_⟩
    subst e
    obtain ⟨l, hl, hb⟩ := List.mem_flatten.mp hb
    obtain ⟨y, hy, rfl⟩ := List.mem_map.mp hl
    exact p1 y hy a ha hb
theorem ptsR_nodup : (ptsR us ls).Nodup := by
  unfold ptsR
  refine flat_nodup (fun x _ => ?_) ?_
  · refine List.pairwise_map.mpr (List.Pairwise.imp (R := fun i j => i < j) (fun {a b} lt e => ?_) List.pairwise_lt_range)
    injection e with _ e
    omega
  · refine List.Pairwise.imp (R := fun i j => i < j) (fun {a b} lt z hz hz' => ?_) List.pairwise_lt_range
    obtain ⟨c, _, rfl⟩ := List.mem_map.mp hz
    obtain ⟨d, _, e⟩ := List.mem_map.mp hz'
    injection e with e _
    omega
/-- the first points of the told rounds -/
noncomputable def firsts (us ls : List Int) : List Pt := (rrAll us ls us.length).2
theorem rr_flat (p : Loop us ls) : (((firsts us ls).map (rnd us ls)).flatten).Nodup ∧ (((firsts us ls).map (rnd us ls)).flatten).length = us.length * ls.length ∧ ∀ z, z ∈ ((firsts us ls).map (rnd us ls)).flatten ↔ InR us ls z := by
  obtain ⟨I, al⟩ := rr_all p
  have nd : (((firsts us ls).map (rnd us ls)).flatten).Nodup := flat_nodup (fun x hx => rnd_nodup p (I.ev x hx).1) I.apart
  have mem : ∀ z, z ∈ ((firsts us ls).map (rnd us ls)).flatten ↔ InR us ls z := fun z => by
    simp only [List.mem_flatten, List.mem_map]
    constructor
    · rintro ⟨l, ⟨q, hq, rfl⟩, hl⟩
      exact rnd_in p (I.ev q hq).1 hl
    · intro h
      obtain ⟨q, hq, hz⟩ := al z h
      exact ⟨_, ⟨q, hq, rfl⟩, hz⟩
  refine ⟨nd, ?_, mem⟩
  rw [← ptsR_len]
  have a := Orb.nodup_le nd (L := ptsR us ls) fun x hx => ptsR_mem ((mem x).mp hx)
  have b := Orb.nodup_le ptsR_nodup (L := ((firsts us ls).map (rnd us ls)).flatten) fun x hx => (mem x).mpr (ptsR_in hx)
  omega
end
end GD
namespace Turn
def I (a : Int) : Int := if 1 ≤ a then 1 else 0
/-- a step up from b to b' at a, counted behind a = 1 -/
def W (a b b' : Int) : Int := if 1 ≤ a then I b' - I b else 0
theorem square {a b e1 e2 f1 f2 : Int} (he : (e1 = 0 ∧ (e2 = 1 ∨ e2 = -1)) ∨ (e2 = 0 ∧ (e1 = 1 ∨ e1 = -1))) (hf : (f1 = 0 ∧ (f2 = 1 ∨ f2 = -1)) ∨ (f2 = 0 ∧ (f1 = 1 ∨ f1 = -1)))
    (n1 : ¬ (a = 0 ∧ b = 0)) (n2 : ¬ (a + e1 = 0 ∧ b + e2 = 0)) (n3 : ¬ (a - f1 = 0 ∧ b - f2 = 0)) (n4 : ¬ (a + e1 - f1 = 0 ∧ b + e2 - f2 = 0)) :
    W a b (b + e2) + W (a + e1) (b + e2) (b + e2 - f2) = W a b (b - f2) + W (a - f1) (b - f2) (b + e2 - f2) := by
  rcases he with ⟨rfl, he⟩ | ⟨rfl, he⟩ <;> rcases hf with ⟨rfl, hf⟩ | ⟨rfl, hf⟩
  · unfold W
    simp only [Int.add_zero, Int.sub_zero]
    split <;> omega
  · unfold W
    simp only [Int.add_zero, Int.sub_zero]
    rcases he with rfl | rfl <;> rcases hf with rfl | rfl <;> unfold I <;> split <;> split <;> first | omega | (split <;> split <;> omega)
  · unfold W
    simp only [Int.add_zero, Int.sub_zero]
    rcases he with rfl | rfl <;> rcases hf with rfl | rfl <;> unfold I <;> split <;> split <;> first | omega | (split <;> split <;> omega)
  · unfold W
    simp only [Int.add_zero, Int.sub_zero]
    split <;> split <;> omega
def sm (f : Nat → Int) : Nat → Int
  | 0 => 0
  | n + 1 => sm f n + f n
theorem sm_congr {f g : Nat → Int} : ∀ {n : Nat}, (∀ k, k < n → f k = g k) → sm f n = sm g n
  | 0, _ => rfl
  | n + 1, h => by
    show sm f n + f n = sm g n + g n
    rw [sm_congr fun k hk => h k (by omega), h n (by omega)]
theorem sm_zero {f : Nat → Int} {n : Nat} (h : ∀ k, k < n → f k = 0) : sm f n = 0 := by
  induction n with
  | zero => rfl
  | succ n ih =>
    show sm f n + f n = 0
    rw [ih fun k hk => h k (by omega), h n (by omega)]
    rfl
theorem sm_tel (f : Nat → Int) : ∀ n : Nat, sm (fun k => f (k + 1) - f k) n = f n - f 0
  | 0 => by show (0 : Int) = f 0 - f 0; omega
  | n + 1 => by
    show sm (fun k => f (k + 1) - f k) n + (f (n + 1) - f n) = _
    rw [sm_tel f n]
    omega
section
variable {X Y : Nat → Int} {M : Nat}
def A (X Y : Nat → Int) (i j : Nat) : Int := W (X j - X i) (Y j - Y i) (Y (j + 1) - Y i)
def B (X Y : Nat → Int) (i j : Nat) : Int := W (X j - X i) (Y j - Y i) (Y j - Y (i + 1))
def psi (X Y : Nat → Int) (i j : Nat) : Int := sm (fun k => A X Y 0 (k + 1)) (j - 1) + sm (fun k => B X Y k j) i
def Unit (X Y : Nat → Int) (i : Nat) : Prop := (X (i + 1) - X i = 0 ∧ (Y (i + 1) - Y i = 1 ∨ Y (i + 1) - Y i = -1)) ∨ (Y (i + 1) - Y i = 0 ∧ (X (i + 1) - X i = 1 ∨ X (i + 1) - X i = -1))
theorem psi_step (st : ∀ i, i < M → Unit X Y i) (inj : ∀ i j, i < j → j ≤ M → ¬ (X j - X i = 0 ∧ Y j - Y i = 0)) : ∀ i j, i < j → j < M → psi X Y i (j + 1) = psi X Y i j + A X Y i j
  | 0, j, hi, hj => by
    unfold psi
    obtain ⟨m, rfl⟩ : ∃ m, j = m + 1 := ⟨j - 1, by omega⟩
    show sm _ (m + 1) + 0 = sm _ m + 0 + _
    show sm _ m + A X Y 0 (m + 1) + 0 = sm _ m + 0 + A X Y 0 (m + 1)
    omega
  | i + 1, j, hi, hj => by
    have ih := psi_step st inj i j (by omega) hj
    have e1 : psi X Y (i + 1) (j + 1) = psi X Y i (j + 1) + B X Y i (j + 1) := by
      unfold psi
      show _ + (sm _ i + B X Y i (j + 1)) = _
      omega
    have e2 : psi X Y (i + 1) j = psi X Y i j + B X Y i j := by
      unfold psi
      show _ + (sm _ i + B X Y i j) = _
      omega
    have sq := square (a := X j - X i) (b := Y j - Y i) (st j (by omega)) (st i (by omega)) (inj i j (by omega) (by omega))
      (fun z => inj i (j + 1) (by omega) (by omega) (by omega)) (fun z => inj (i + 1) j (by omega) (by omega) (by omega)) (fun z => inj (i + 1) (j + 1) (by omega) (by omega) (by omega))
    have a1 : A X Y i j = W (X j - X i) (Y j - Y i) (Y j - Y i + (Y (j + 1) - Y j)) := by unfold A; congr 1; omega
    have a2 : B X Y i (j + 1) = W (X j - X i + (X (j + 1) - X j)) (Y j - Y i + (Y (j + 1) - Y j)) (Y j - Y i + (Y (j + 1) - Y j) - (Y (i + 1) - Y i)) := by unfold B; congr 1 <;> omega
    have a3 : B X Y i j = W (X j - X i) (Y j - Y i) (Y j - Y i - (Y (i + 1) - Y i)) := by unfold B; congr 1; omega
    have a4 : A X Y (i + 1) j = W (X j - X i - (X (i + 1) - X i)) (Y j - Y i - (Y (i + 1) - Y i)) (Y j - Y i + (Y (j + 1) - Y j) - (Y (i + 1) - Y i)) := by unfold A; congr 1 <;> omega
    rw [e1, e2, ih]
    omega
/-- a turn -/
def tn (X Y : Nat → Int) (i : Nat) : Int := A X Y i (i + 1) + B X Y i (i + 2)
theorem psi_tn (st : ∀ i, i < M → Unit X Y i) (inj : ∀ i j, i < j → j ≤ M → ¬ (X j - X i = 0 ∧ Y j - Y i = 0)) : ∀ i, i + 1 ≤ M → psi X Y i (i + 1) = sm (tn X Y) i
  | 0, _ => rfl
  | i + 1, h => by
    have ih := psi_tn st inj i (by omega)
    have s := psi_step st inj i (i + 1) (by omega) (by omega)
    have e1 : psi X Y (i + 1) (i + 2) = psi X Y i (i + 2) + B X Y i (i + 2) := by
      unfold psi
      show _ + (sm _ i + B X Y i (i + 2)) = _
      omega
    show psi X Y (i + 1) (i + 2) = sm (tn X Y) i + tn X Y i
    rw [e1, s, ih]
    unfold tn
    omega
/-- from the least point on, where the first step goes right and the last point stands above the first: the turns add up to one -/
theorem turns (hM : 2 ≤ M) (st : ∀ i, i < M → Unit X Y i) (inj : ∀ i j, i < j → j ≤ M → ¬ (X j - X i = 0 ∧ Y j - Y i = 0)) (least : ∀ i, i ≤ M → X 0 < X i ∨ (X 0 = X i ∧ Y 0 ≤ Y i))
    (f1 : Y 1 = Y 0) (l1 : X M = X 0) (l2 : Y M = Y 0 + 1) : sm (tn X Y) (M - 1) = 1 := by
  have h := psi_tn st inj (M - 1) (by omega)
  rw [← h, show M - 1 + 1 = M by omega]
  unfold psi
  have z : sm (fun k => B X Y k M) (M - 1) = 0 := sm_zero fun k hk => by
    unfold B W
    rw [if_neg]
    have := least k (by omega)
    omega
  rw [z]
  have a : sm (fun k => A X Y 0 (k + 1)) (M - 1) = sm (fun k => I (Y (k + 1 + 1) - Y 0) - I (Y (k + 1) - Y 0)) (M - 1) := sm_congr fun k hk => by
    have l := least (k + 1) (by omega)
    have n := inj 0 (k + 1) (by omega) (by omega)
    have n2 := inj 0 (k + 2) (by omega) (by omega)
    have l2 := least (k + 2) (by omega)
    have u := st (k + 1) (by omega)
    show W (X (k + 1) - X 0) (Y (k + 1) - Y 0) (Y (k + 1 + 1) - Y 0) = _
    unfold W
    split
    · rfl
    · rcases u with ⟨u1, u2⟩ | ⟨u1, u2⟩
      · have : I (Y (k + 1 + 1) - Y 0) = 1 ∧ I (Y (k + 1) - Y 0) = 1 := by
          unfold I
          have e : X (k + 1 + 1) = X (k + 2) := rfl
          have e2 : Y (k + 1 + 1) = Y (k + 2) := rfl
          constructor
          · rw [if_pos (by omega)]
          · rw [if_pos (by omega)]
        omega
      · rw [show Y (k + 1 + 1) = Y (k + 1) by omega]
        omega
  rw [a]
  have t := sm_tel (fun k => I (Y (k + 1) - Y 0)) (M - 1)
  rw [t]
  rw [show M - 1 + 1 = M by omega, l2, show (0 : Nat) + 1 = 1 from rfl, f1]
  unfold I
  rw [if_pos (by omega), if_neg (by omega)]
  rfl
end
def pot (g : Int → Int) (y : Int) : Int := if 0 ≤ y then sm (fun k => g (k : Int)) y.toNat else - sm (fun k => g (-(k : Int) - 1)) (-y).toNat
theorem pot_succ (g : Int → Int) (y : Int) : pot g (y + 1) = pot g y + g y := by
  unfold pot
  by_cases c : 0 ≤ y
  · rw [if_pos (by omega), if_pos c, show (y + 1).toNat = y.toNat + 1 by omega]
    show sm _ y.toNat + g (y.toNat : Int) = _
    rw [show ((y.toNat : Nat) : Int) = y by omega]
  · by_cases c1 : y = -1
    · subst c1
      rw [if_pos (by omega), if_neg (by omega)]
      show (0 : Int) = -(0 + g (-((0 : Nat) : Int) - 1)) + g (-1)
      rw [show (-((0 : Nat) : Int) - 1) = -1 by omega]
      omega
    · rw [if_neg (by omega), if_neg (by omega), show (-y).toNat = (-(y + 1)).toNat + 1 by omega]
      show - sm _ _ = -(sm _ _ + g (-(((-(y + 1)).toNat : Nat) : Int) - 1)) + g y
      rw [show (-(((-(y + 1)).toNat : Nat) : Int) - 1) = y by omega]
      omega
end Turn
namespace GD
open PySem L2 G
section
variable {us ls : List Int}
theorem rsum_add (q : Pt) (a : Nat) : ∀ k : Nat, rsum us ls q (a + k) = rsum us ls q a + rsum us ls (Orb.it (rstep us ls) a q) k
  | 0 => by show rsum us ls q a = rsum us ls q a + 0; omega
  | k + 1 => by
    have ih := rsum_add q a k
    show rsum us ls q (a + k) + (onw us ls (Orb.it (rstep us ls) (a + k) q).1 (Orb.it (rstep us ls) (a + k) q).2).1 = rsum us ls q a + (rsum us ls (Orb.it (rstep us ls) a q) k + (onw us ls (Orb.it (rstep us ls) k (Orb.it (rstep us ls) a q)).1 (Orb.it (rstep us ls) k (Orb.it (rstep us ls) a q)).2).1)
    rw [ih, show a + k = k + a by omega, Orb.it_add]
    omega
theorem usum_add (q : Pt) (a : Nat) : ∀ k : Nat, usum us ls q (a + k) = usum us ls q a + usum us ls (Orb.it (rstep us ls) a q) k
  | 0 => by show usum us ls q a = usum us ls q a + 0; omega
  | k + 1 => by
    have ih := usum_add q a k
    show usum us ls q (a + k) + (onw us ls (Orb.it (rstep us ls) (a + k) q).1 (Orb.it (rstep us ls) (a + k) q).2).2 = usum us ls q a + (usum us ls (Orb.it (rstep us ls) a q) k + (onw us ls (Orb.it (rstep us ls) k (Orb.it (rstep us ls) a q)).1 (Orb.it (rstep us ls) k (Orb.it (rstep us ls) a q)).2).2)
    rw [ih, show a + k = k + a by omega, Orb.it_add]
    omega
/-- how far a walk gets -/
theorem sum_bound (p : Loop us ls) {q : Pt} (h : InR us ls q) (ev : (q.1 + q.2) % 2 = 0) : ∀ k : Nat, (2 * rsum us ls q k ≤ k + 1 ∧ -(2 * rsum us ls q k) ≤ k + 1 ∧ 2 * usum us ls q k ≤ k ∧ -(2 * usum us ls q k) ≤ k) ∧ ((k : Int) % 2 = 0 → 2 * rsum us ls q k ≤ k ∧ -(2 * rsum us ls q k) ≤ k)
  | 0 => by
    have a : rsum us ls q 0 = 0 := rfl
    have b : usum us ls q 0 = 0 := rfl
    omega
  | k + 1 => by
    obtain ⟨⟨i1, i2, i3, i4⟩, i5⟩ := sum_bound p h ev k
    have par := it_par p h ev k
    have e1 : rsum us ls q (k + 1) = rsum us ls q k + (onw us ls (Orb.it (rstep us ls) k q).1 (Orb.it (rstep us ls) k q).2).1 := rfl
    have e2 : usum us ls q (k + 1) = usum us ls q k + (onw us ls (Orb.it (rstep us ls) k q).1 (Orb.it (rstep us ls) k q).2).2 := rfl
    generalize Orb.it (rstep us ls) k q = z at *
    have o : (onw us ls z.1 z.2 = (1, 0) ∨ onw us ls z.1 z.2 = (-1, 0)) ∧ (k : Int) % 2 = 0 ∨ (onw us ls z.1 z.2 = (0, 1) ∨ onw us ls z.1 z.2 = (0, -1)) ∧ (k : Int) % 2 = 1 := by
      unfold onw
      by_cases c : (z.1 + z.2) % 2 = 0
      · rw [if_pos c]
        refine .inl ⟨?_, by omega⟩
        split
        · exact .inl rfl
        · exact .inr rfl
      · rw [if_neg c]
        refine .inr ⟨?_, by omega⟩
        split
        · exact .inl rfl
        · exact .inr rfl
    rcases o with ⟨o | o, c⟩ | ⟨o | o, c⟩ <;> rw [o] at e1 e2 <;> dsimp only at e1 e2 <;> omega
/-- a round of the plane -/
def LX (us ls : List Int) (q : Pt) (k : Nat) : Int := q.1 + rsum us ls q k
def LY (us ls : List Int) (q : Pt) (k : Nat) : Int := q.2 + usum us ls q k
/-- each row's way -/
def hdir (ls : List Int) (y : Int) : Int := if (y % ls.length + gt ls (y % ls.length).toNat) % 2 = 1 then 1 else -1
theorem L_mod {q : Pt} (h : InR us ls q) (k : Nat) : (LX us ls q k % us.length, LY us ls q k % ls.length) = Orb.it (rstep us ls) k q := by
  unfold LX LY
  rw [rsum_mod h k, usum_mod h k]
theorem L_H (p : Loop us ls) {q : Pt} (h : InR us ls q) (ev : (q.1 + q.2) % 2 = 0) {k : Nat} (hk : k % 2 = 0) : LX us ls q (k + 1) = LX us ls q k + hdir ls (LY us ls q k) ∧ LY us ls q (k + 1) = LY us ls q k := by
  have par := it_par p h ev k
  have m := L_mod (us := us) (ls := ls) h k
  have e1 : rsum us ls q (k + 1) = rsum us ls q k + (onw us ls (Orb.it (rstep us ls) k q).1 (Orb.it (rstep us ls) k q).2).1 := rfl
  have e2 : usum us ls q (k + 1) = usum us ls q k + (onw us ls (Orb.it (rstep us ls) k q).1 (Orb.it (rstep us ls) k q).2).2 := rfl
  have hy : LY us ls q k % ls.length = (Orb.it (rstep us ls) k q).2 := congrArg Prod.snd m
  unfold hdir
  rw [hy]
  unfold LX LY
  rw [e1, e2]
  generalize Orb.it (rstep us ls) k q = z at *
  unfold onw
  rw [if_pos (by omega)]
  by_cases c : (z.1 + gt ls z.2.toNat) % 2 = 1
  · rw [if_pos c, if_pos (by omega)]
    dsimp only
    omega
  · rw [if_neg c, if_neg (by omega)]
    dsimp only
    omega
theorem it_apart (p : Loop us ls) {q : Pt} (h : InR us ls q) {i j : Nat} (lt : i < j) (hj : j < i + per us ls q) : Orb.it (rstep us ls) i q ≠ Orb.it (rstep us ls) j q := by
  intro e
  obtain ⟨_, _, _, h4⟩ := per_ok p h
  rw [show j = i + (j - i) by omega, Orb.it_add] at e
  have := Orb.it_inj (S := InR us ls) (fun _ h => rstep_in p h) (rstep_inj p) i h (it_inR p h _) e
  exact h4 (j - i) (by omega) (by omega) this.symm
end
end GD
namespace Kick
open GD Turn
structure K (h v : Int → Int) (x y : Nat → Int) : Prop where
  hh : ∀ j, h j = 1 ∨ h j = -1
  hv : ∀ i, v i = 1 ∨ v i = -1
  sx : ∀ t, x (t + 1) = x t + h (y t)
  sy : ∀ t, y (t + 1) = y t + v (x (t + 1))
def mx (a b : Int) : Int := if a ≤ b then b else a
def mn (a b : Int) : Int := if a ≤ b then a else b
def top (g : Int → Int) (y : Int) : Int := mx (pot g y) (pot g (y + 1))
def low (g : Int → Int) (y : Int) : Int := mn (pot g y) (pot g (y + 1))
def aa (x : Nat → Int) (t : Nat) : Int := mx (x t) (x (t + 1))
section
variable {h v : Int → Int} {x y : Nat → Int}
theorem K.swap (k : K h v x y) : K v h y (fun t => x (t + 1)) := ⟨k.hv, k.hh, fun t => k.sy t, fun t => k.sx (t + 1)⟩
theorem top_low (g : Int → Int) (hg : ∀ j, g j = 1 ∨ g j = -1) (y : Int) : top g y = low g y + 1 ∧ ((top g y = pot g y ∧ low g y = pot g (y + 1)) ∨ (top g y = pot g (y + 1) ∧ low g y = pot g y)) := by
  have := pot_succ g y
  unfold top low mx mn
  rcases hg y with e | e
  · rw [if_pos (by omega), if_pos (by omega)]; omega
  · rw [if_neg (by omega), if_neg (by omega)]; omega
/-- the two climbers are level: x's gap and y's row -/
theorem level2 (k : K h v x y) (t : Nat) {c : Int} (e : top h (y t) = pot v (aa x t) + c) : pot h (aa y t) = low v (x (t + 1)) + c := by
  have e1 := k.sx t
  have e2 := k.sy t
  have p1 := pot_succ h (y t)
  have p0 := pot_succ h (y t - 1)
  rw [show y t - 1 + 1 = y t by omega] at p0
  have q1 := pot_succ v (x (t + 1))
  unfold top aa mx at e
  unfold aa low mx mn
  rcases k.hh (y t) with h1 | h1 <;> rcases k.hv (x (t + 1)) with h2 | h2
  · rw [if_pos (show pot h (y t) ≤ pot h (y t + 1) by omega), if_pos (show x t ≤ x (t + 1) by omega)] at e
    rw [if_pos (show y t ≤ y (t + 1) by omega), if_pos (show pot v (x (t + 1)) ≤ pot v (x (t + 1) + 1) by omega), show y (t + 1) = y t + 1 by omega]
    omega
  · rw [if_pos (show pot h (y t) ≤ pot h (y t + 1) by omega), if_pos (show x t ≤ x (t + 1) by omega)] at e
    rw [if_neg (show ¬ y t ≤ y (t + 1) by omega), if_neg (show ¬ pot v (x (t + 1)) ≤ pot v (x (t + 1) + 1) by omega)]
    omega
  · rw [if_neg (show ¬ pot h (y t) ≤ pot h (y t + 1) by omega), if_neg (show ¬ x t ≤ x (t + 1) by omega), show x t = x (t + 1) + 1 by omega] at e
    rw [if_pos (show y t ≤ y (t + 1) by omega), if_pos (show pot v (x (t + 1)) ≤ pot v (x (t + 1) + 1) by omega), show y (t + 1) = y t + 1 by omega]
    omega
  · rw [if_neg (show ¬ pot h (y t) ≤ pot h (y t + 1) by omega), if_neg (show ¬ x t ≤ x (t + 1) by omega), show x t = x (t + 1) + 1 by omega] at e
    rw [if_neg (show ¬ y t ≤ y (t + 1) by omega), if_neg (show ¬ pot v (x (t + 1)) ≤ pot v (x (t + 1) + 1) by omega)]
    omega
theorem level_next (k : K h v x y) (t : Nat) {c : Int} (e : pot h (aa y t) = low v (x (t + 1)) + c) : top h (y (t + 1)) = pot v (aa x (t + 1)) + c := by
  have tl := top_low v k.hv (x (t + 1))
  have r := level2 k.swap t (c := 1 - c) (by
    show top v (x (t + 1)) = _
    omega)
  have tl2 := top_low h k.hh (y (t + 1))
  have r : pot v (aa (fun t => x (t + 1)) t) = low h (y (t + 1)) + (1 - c) := r
  have e3 : aa (fun t => x (t + 1)) t = aa x (t + 1) := rfl
  rw [e3] at r
  omega
/-- what stays -/
theorem level (k : K h v x y) : ∀ t, top h (y t) = pot v (aa x t) + (top h (y 0) - pot v (aa x 0))
  | 0 => by omega
  | t + 1 => level_next k t (level2 k t (level k t))
/-- a value between is met -/
theorem met {f : Nat → Int} (st : ∀ t, f (t + 1) ≤ f t + 1) {w : Int} : ∀ (n s : Nat), f s ≤ w → w ≤ f (s + n) → ∃ t, s ≤ t ∧ f t = w
  | 0, s, h1, h2 => ⟨s, Nat.le_refl _, by rw [Nat.add_zero] at h2; omega⟩
  | n + 1, s, h1, h2 => by
    by_cases c : f s = w
    · exact ⟨s, Nat.le_refl _, c⟩
    · obtain ⟨t, l, e⟩ := met st (w := w) n (s + 1) (by have := st s; omega) (by rw [show s + 1 + n = s + (n + 1) by omega]; exact h2)
      exact ⟨t, by omega, e⟩
theorem last {f : Nat → Int} {N : Int} : ∀ B : Nat, (∀ t, B ≤ t → N < f t) → f 0 ≤ N → ∃ t0, f t0 ≤ N ∧ ∀ t, t0 < t → N < f t
  | 0, h, h0 => by have := h 0 (Nat.le_refl _); omega
  | B + 1, h, h0 => by
    by_cases c : f B ≤ N
    · exact ⟨B, c, fun t ht => h t (by omega)⟩
    · exact last B (fun t ht => by
        by_cases e : t = B
        · subst e; omega
        · exact h t (by omega)) h0
/-- two climbers that go up without end: the last places below a height are one -/
theorem last_eq {α β : Nat → Int} {F : Int → Int} {N : Int} {s t : Nat} (sa : ∀ k, α (k + 1) ≤ α k + 1) (sb : ∀ k, β (k + 1) ≤ β k + 1) (ua : ∀ B, ∃ n, B ≤ α (s + n)) (ub : ∀ B, ∃ n, B ≤ β (t + n))
    (la : F (α s) ≤ N) (la2 : ∀ k, s < k → N < F (α k)) (lb : F (β t) ≤ N) (lb2 : ∀ k, t < k → N < F (β k)) : α s = β t := by
  refine Classical.byContradiction fun ne => ?_
  rcases Int.lt_or_gt_of_ne ne with c | c
  · obtain ⟨n, hn⟩ := ua (β t)
    obtain ⟨k, l, e⟩ := met sa n s (Int.le_of_lt c) hn
    have : k ≠ s := fun z => by rw [z] at e; omega
    have := la2 k (by omega)
    rw [e] at this
    omega
  · obtain ⟨n, hn⟩ := ub (α s)
    obtain ⟨k, l, e⟩ := met sb n t (Int.le_of_lt c) hn
    have : k ≠ t := fun z => by rw [z] at e; omega
    have := lb2 k (by omega)
    rw [e] at this
    omega
/-- the same, going on either way -/
theorem last_eq2 {α β : Nat → Int} {F : Int → Int} {N : Int} {s t : Nat} (sa : ∀ k, α (k + 1) ≤ α k + 1 ∧ α k - 1 ≤ α (k + 1)) (sb : ∀ k, β (k + 1) ≤ β k + 1 ∧ β k - 1 ≤ β (k + 1)) (un : ((∀ B, ∃ n, B ≤ α (s + n)) ∧ ∀ B, ∃ n, B ≤ β (t + n)) ∨ ((∀ B, ∃ n, α (s + n) ≤ B) ∧ ∀ B, ∃ n, β (t + n) ≤ B))
    (la : F (α s) ≤ N) (la2 : ∀ k, s < k → N < F (α k)) (lb : F (β t) ≤ N) (lb2 : ∀ k, t < k → N < F (β k)) : α s = β t := by
  rcases un with ⟨ua, ub⟩ | ⟨ua, ub⟩
  · exact last_eq (fun k => (sa k).1) (fun k => (sb k).1) ua ub la la2 lb lb2
  · have := last_eq (α := fun k => -α k) (β := fun k => -β k) (F := fun i => F (-i)) (N := N) (s := s) (t := t) (fun k => by have := (sa k).2; omega) (fun k => by have := (sb k).2; omega)
      (fun B => by obtain ⟨n, hn⟩ := ua (-B); exact ⟨n, by omega⟩) (fun B => by obtain ⟨n, hn⟩ := ub (-B); exact ⟨n, by omega⟩)
      (by rw [Int.neg_neg]; exact la) (fun k hk => by rw [Int.neg_neg]; exact la2 k hk) (by rw [Int.neg_neg]; exact lb) (fun k hk => by rw [Int.neg_neg]; exact lb2 k hk)
    omega
/-- what goes on by D each n times -/
theorem far {f : Nat → Int} {n : Nat} {D : Int} (per : ∀ t, f (t + n) = f t + D) : ∀ (k s : Nat), f (s + k * n) = f s + k * D
  | 0, s => by simp
  | k + 1, s => by
    rw [show s + (k + 1) * n = s + k * n + n by rw [Nat.add_mul]; omega, per, far per k s]
    rw [show (((k + 1 : Nat) : Int)) = (k : Int) + 1 by omega, Int.add_mul]
    omega
theorem far_up {f : Nat → Int} {n : Nat} {D : Int} (per : ∀ t, f (t + n) = f t + D) (hD : 0 < D) (s : Nat) (B : Int) : ∃ m, B ≤ f (s + m) := by
  refine ⟨(B - f s).toNat * n, ?_⟩
  rw [far per]
  have : ((B - f s).toNat : Int) * 1 ≤ ((B - f s).toNat : Int) * D := Int.mul_le_mul_of_nonneg_left (by omega) (by omega)
  omega
theorem far_dn {f : Nat → Int} {n : Nat} {D : Int} (per : ∀ t, f (t + n) = f t + D) (hD : D < 0) (s : Nat) (B : Int) : ∃ m, f (s + m) ≤ B := by
  obtain ⟨m, hm⟩ := far_up (f := fun t => -f t) (n := n) (D := -D) (fun t => by have := per t; omega) (by omega) s (-B)
  exact ⟨m, by omega⟩
/-- from some time on above N -/
theorem far_all {f : Nat → Int} {n : Nat} {D : Int} (per : ∀ t, f (t + n) = f t + D) (hn : 1 ≤ n) (hD : 0 < D) (N : Int) : ∃ B, ∀ t, B ≤ t → N < f t := by
  have one : ∀ r : Nat, ∃ B : Nat, ∀ k, B ≤ k → N < f (r + k * n) := fun r => by
    refine ⟨(N - f r).toNat + 1, fun k hk => ?_⟩
    rw [far per]
    have : (k : Int) * 1 ≤ (k : Int) * D := Int.mul_le_mul_of_nonneg_left (by omega) (by omega)
    omega
  have all : ∀ m : Nat, ∃ B : Nat, ∀ r, r < m → ∀ k, B ≤ k → N < f (r + k * n) := fun m => by
    induction m with
    | zero => exact ⟨0, fun r hr => by omega⟩
    | succ m ih =>
      obtain ⟨B, hB⟩ := ih
      obtain ⟨C, hC⟩ := one m
      refine ⟨B + C, fun r hr k hk => ?_⟩
      by_cases e : r = m
      · subst e; exact hC k (by omega)
      · exact hB r (by omega) k (by omega)
  obtain ⟨B, hB⟩ := all n
  refine ⟨B * n, fun t ht => ?_⟩
  have d := Nat.div_add_mod t n
  have m := Nat.mod_lt t (show 0 < n by omega)
  have q : B ≤ t / n := (Nat.le_div_iff_mul_le (by omega)).mpr ht
  have := hB (t % n) m (t / n) q
  rw [show t % n + t / n * n = t by rw [Nat.mul_comm]; omega] at this
  exact this
end
end Kick
namespace Kick
open GD Turn
section
variable {h v : Int → Int} {x y : Nat → Int}
/-- a climber's way, shifted: the last places below a height -/
theorem shift_last {a : Nat → Int} {F : Int → Int} {n : Nat} {g : Nat} {p δ N : Int} {s t : Nat} (sa : ∀ k, a (k + 1) ≤ a k + 1 ∧ a k - 1 ≤ a (k + 1)) (per : ∀ k, a (k + n) = a k + g * p) (hp : (g : Int) * p ≠ 0) (hF : ∀ i, F (i + p) = F i + δ)
    (la : F (a s) ≤ N) (la2 : ∀ k, s < k → N < F (a k)) (lb : F (a t) + δ ≤ N) (lb2 : ∀ k, t < k → N < F (a k) + δ) : a s = a t + p := by
  refine last_eq2 (α := a) (β := fun k => a k + p) (F := F) (N := N) sa (fun k => by have := sa k; omega) ?_ la la2 (by rw [hF]; exact lb) (fun k hk => by rw [hF]; exact lb2 k hk)
  rcases Int.lt_or_gt_of_ne hp with c | c
  · exact .inr ⟨fun B => far_dn per c s B, fun B => by
      obtain ⟨m, hm⟩ := far_dn per c t (B - p)
      exact ⟨m, by omega⟩⟩
  · exact .inl ⟨fun B => far_up per c s B, fun B => by
      obtain ⟨m, hm⟩ := far_up per c t (B - p)
      exact ⟨m, by omega⟩⟩
theorem meets_up {a y : Nat → Int} {F G : Int → Int} {n g : Nat} {px py δ c : Int} (hn : 1 ≤ n) (hg : 1 ≤ g) (hδ : 0 < δ) (sa : ∀ k, a (k + 1) ≤ a k + 1 ∧ a k - 1 ≤ a (k + 1)) (sy : ∀ k, y (k + 1) ≤ y k + 1 ∧ y k - 1 ≤ y (k + 1)) (lev : ∀ t, G (y t) = F (a t) + c)
    (pa : ∀ k, a (k + n) = a k + g * px) (py' : ∀ k, y (k + n) = y k + g * py) (hF : ∀ i, F (i + px) = F i + δ) (hG : ∀ i, G (i + py) = G i + δ) : ∃ s t, a s = a t + px ∧ y s = y t + py := by
  have mul : ∀ (F : Int → Int) (p : Int), (∀ i, F (i + p) = F i + δ) → ∀ (m : Nat) (i : Int), F (i + m * p) = F i + m * δ := fun F p hF m => by
    induction m with
    | zero => intro i; simp
    | succ m ih =>
      intro i
      rw [show i + ((m + 1 : Nat) : Int) * p = i + m * p + p by rw [show (((m + 1 : Nat) : Int)) = (m : Int) + 1 by omega, Int.add_mul]; omega, hF, ih, show (((m + 1 : Nat) : Int)) = (m : Int) + 1 by omega, Int.add_mul]
      omega
  have hgd : 0 < (g : Int) * δ := Int.mul_pos (by omega) hδ
  have pf : ∀ k, F (a (k + n)) = F (a k) + g * δ := fun k => by rw [pa, mul F px hF]
  have ne1 : (g : Int) * px ≠ 0 := fun z => by
    have := mul F px hF g 0
    rw [z, Int.add_zero] at this
    omega
  have ne2 : (g : Int) * py ≠ 0 := fun z => by
    have := mul G py hG g 0
    rw [z, Int.add_zero] at this
    omega
  -- the last times below N
  obtain ⟨B1, hB1⟩ := far_all (f := fun t => F (a t)) pf hn hgd (F (a 0) + δ)
  obtain ⟨s, l1, l2⟩ := last (f := fun t => F (a t)) (N := F (a 0) + δ) B1 hB1 (by omega)
  obtain ⟨B2, hB2⟩ := far_all (f := fun t => F (a t) + δ) (n := n) (D := g * δ) (fun t => by have := pf t; omega) hn hgd (F (a 0) + δ)
  obtain ⟨t, m1, m2⟩ := last (f := fun t => F (a t) + δ) (N := F (a 0) + δ) B2 hB2 (Int.le_refl _)
  replace l1 : F (a s) ≤ F (a 0) + δ := l1
  replace l2 : ∀ k, s < k → F (a 0) + δ < F (a k) := l2
  replace m1 : F (a t) + δ ≤ F (a 0) + δ := m1
  replace m2 : ∀ k, t < k → F (a 0) + δ < F (a k) + δ := m2
  refine ⟨s, t, shift_last sa pa ne1 hF l1 l2 m1 m2, shift_last (F := G) (N := F (a 0) + δ + c) sy py' ne2 hG (by rw [lev]; omega) (fun k hk => by rw [lev]; have := l2 k hk; omega) (by rw [lev]; omega) (fun k hk => by rw [lev]; have := m2 k hk; omega)⟩
theorem meets {a y : Nat → Int} {F G : Int → Int} {n g : Nat} {px py δ c : Int} (hn : 1 ≤ n) (hg : 1 ≤ g) (hδ : δ ≠ 0) (sa : ∀ k, a (k + 1) ≤ a k + 1 ∧ a k - 1 ≤ a (k + 1)) (sy : ∀ k, y (k + 1) ≤ y k + 1 ∧ y k - 1 ≤ y (k + 1)) (lev : ∀ t, G (y t) = F (a t) + c)
    (pa : ∀ k, a (k + n) = a k + g * px) (py' : ∀ k, y (k + n) = y k + g * py) (hF : ∀ i, F (i + px) = F i + δ) (hG : ∀ i, G (i + py) = G i + δ) : ∃ s t, a s = a t + px ∧ y s = y t + py := by
  rcases Int.lt_or_gt_of_ne hδ with q | q
  · exact meets_up (F := fun i => -F i) (G := fun i => -G i) (δ := -δ) (c := -c) hn hg (by omega) sa sy (fun t => by have := lev t; omega) pa py' (fun i => by have := hF i; omega) (fun i => by have := hG i; omega)
  · exact meets_up hn hg q sa sy lev pa py' hF hG
theorem K.ay (k : K h v x y) (t : Nat) : y (t + 1) ≤ y t + 1 ∧ y t - 1 ≤ y (t + 1) := by
  have := k.sy t
  rcases k.hv (x (t + 1)) with e | e <;> omega
theorem K.ax (k : K h v x y) (t : Nat) : aa x (t + 1) ≤ aa x t + 1 ∧ aa x t - 1 ≤ aa x (t + 1) := by
  have e1 := k.sx t
  have e2 := k.sx (t + 1)
  unfold aa mx
  rcases k.hh (y t) with q | q <;> rcases k.hh (y (t + 1)) with r | r <;> (repeat' split) <;> omega
/-- from the gap and the row back to the point -/
theorem K.back (k : K h v x y) {s t : Nat} {px py : Int} (hp : ∀ j, h (j + py) = h j) (ea : aa x s = aa x t + px) (ey : y s = y t + py) : x s = x t + px := by
  have e1 := k.sx s
  have e2 := k.sx t
  have e3 : h (y s) = h (y t) := by rw [ey, hp]
  unfold aa mx at ea
  rcases k.hh (y t) with q | q
  · rw [if_pos (show x s ≤ x (s + 1) by omega), if_pos (show x t ≤ x (t + 1) by omega)] at ea
    omega
  · rw [if_neg (show ¬ x s ≤ x (s + 1) by omega), if_neg (show ¬ x t ≤ x (t + 1) by omega)] at ea
    omega
theorem aa_per {n : Nat} {D : Int} (per : ∀ t, x (t + n) = x t + D) (t : Nat) : aa x (t + n) = aa x t + D := by
  unfold aa mx
  rw [per, show t + n + 1 = t + 1 + n by omega, per]
  (repeat' split) <;> omega
theorem pot_per {g : Int → Int} {p : Int} (hp : ∀ j, g (j + p) = g j) : ∀ i, pot g (i + p) = pot g i + (pot g p - pot g 0) := by
  have up : ∀ n : Nat, pot g ((n : Int) + p) = pot g n + (pot g p - pot g 0) := fun n => by
    induction n with
    | zero => rw [show (((0 : Nat) : Int)) + p = p by omega]; show _ = pot g 0 + _; omega
    | succ n ih =>
      have a := pot_succ g ((n : Int) + p)
      have b := pot_succ g (n : Int)
      rw [show (((n + 1 : Nat) : Int)) + p = (n : Int) + p + 1 by omega, a, ih, hp, show (((n + 1 : Nat) : Int)) = (n : Int) + 1 by omega, b]
      omega
  have dn : ∀ n : Nat, pot g (-(n : Int) + p) = pot g (-(n : Int)) + (pot g p - pot g 0) := fun n => by
    induction n with
    | zero => rw [show -(((0 : Nat) : Int)) + p = p by omega]; show _ = pot g 0 + _; omega
    | succ n ih =>
      have a := pot_succ g (-((n + 1 : Nat) : Int) + p)
      have b := pot_succ g (-((n + 1 : Nat) : Int))
      rw [hp] at a
      rw [show -((n + 1 : Nat) : Int) + p + 1 = -(n : Int) + p by omega, ih] at a
      rw [show -((n + 1 : Nat) : Int) + 1 = -(n : Int) by omega] at b
      omega
  intro i
  by_cases c : 0 ≤ i
  · have := up i.toNat
    rw [show ((i.toNat : Nat) : Int) = i by omega] at this
    exact this
  · have := dn (-i).toNat
    rw [show -(((-i).toNat : Nat) : Int) = i by omega] at this
    exact this
theorem per_mul {g : Int → Int} {p : Int} (hp : ∀ j, g (j + p) = g j) (m : Int) (j : Int) : g (j + m * p) = g j := by
  have up : ∀ (n : Nat) (j : Int), g (j + n * p) = g j := fun n => by
    induction n with
    | zero => intro j; simp
    | succ n ih =>
      intro j
      rw [show j + ((n + 1 : Nat) : Int) * p = j + n * p + p by rw [show (((n + 1 : Nat) : Int)) = (n : Int) + 1 by omega, Int.add_mul]; omega, hp, ih]
  by_cases c : 0 ≤ m
  · have := up m.toNat j
    rw [show ((m.toNat : Nat) : Int) = m by omega] at this
    exact this
  · have := up (-m).toNat (j + m * p)
    rw [show (((-m).toNat : Nat) : Int) = -m by omega, Int.neg_mul, show j + m * p + -(m * p) = j by omega] at this
    exact this.symm
end
end Kick
namespace Kick
open GD Turn
section
variable {h v : Int → Int} {x y : Nat → Int}
theorem wall {j : Int} (sy : ∀ k, y (k + 1) ≤ y k + 1 ∧ y k - 1 ≤ y (k + 1)) (hb : ∀ t, aa y t ≠ j) : (∀ s, j ≤ y s) ∨ ∀ s, y s < j := by
  by_cases c : j ≤ y 0
  · refine .inl fun s => ?_
    induction s with
    | zero => exact c
    | succ s ih =>
      refine Classical.byContradiction fun n => ?_
      have := sy s
      refine hb s ?_
      unfold aa mx
      rw [if_neg (by omega)]
      omega
  · refine .inr fun s => ?_
    induction s with
    | zero => omega
    | succ s ih =>
      refine Classical.byContradiction fun n => ?_
      have := sy s
      refine hb s ?_
      unfold aa mx
      rw [if_pos (by omega)]
      omega
theorem max_on (F : Int → Int) : ∀ n : Nat, 1 ≤ n → ∃ i : Nat, i < n ∧ ∀ j : Nat, j < n → F j ≤ F i
  | 0, h => by omega
  | 1, _ => ⟨0, by omega, fun j hj => by rw [show j = 0 by omega]; exact Int.le_refl _⟩
  | n + 2, _ => by
    obtain ⟨i, h1, h2⟩ := max_on F (n + 1) (by omega)
    by_cases c : F i ≤ F ((n + 1 : Nat) : Int)
    · refine ⟨n + 1, by omega, fun j hj => ?_⟩
      by_cases e : j = n + 1
      · rw [e]; exact Int.le_refl _
      · exact Int.le_trans (h2 j (by omega)) c
    · refine ⟨i, by omega, fun j hj => ?_⟩
      by_cases e : j = n + 1
      · rw [e]; omega
      · exact h2 j (by omega)
theorem fper_mul {F : Int → Int} {p : Int} (hp : ∀ j, F (j + p) = F j) (m : Int) (j : Int) : F (j + m * p) = F j := per_mul hp m j
theorem max_per {F : Int → Int} {W : Int} (hW : 1 ≤ W) (hp : ∀ j, F (j + W) = F j) : ∃ i, ∀ j, F j ≤ F i := by
  obtain ⟨i, h1, h2⟩ := max_on F W.toNat (by omega)
  refine ⟨i, fun j => ?_⟩
  have e := fper_mul hp (j / W) (j % W)
  have d := Int.emod_add_mul_ediv j W
  rw [Int.mul_comm (j / W) W, d] at e
  have l1 := Int.emod_nonneg j (show W ≠ 0 by omega)
  have l2 := Int.emod_lt_of_pos j (show 0 < W by omega)
  have := h2 (j % W).toNat (by omega)
  rw [show (((j % W).toNat : Nat) : Int) = j % W by omega] at this
  rw [e]
  exact this
theorem min_per {F : Int → Int} {W : Int} (hW : 1 ≤ W) (hp : ∀ j, F (j + W) = F j) : ∃ i, ∀ j, F i ≤ F j := by
  obtain ⟨i, hi⟩ := max_per (F := fun i => -F i) hW (fun j => by have := hp j; omega)
  exact ⟨i, fun j => by have := hi j; omega⟩
theorem visits {a : Nat → Int} {n : Nat} {D : Int} (sa : ∀ k, a (k + 1) ≤ a k + 1 ∧ a k - 1 ≤ a (k + 1)) (per : ∀ t, a (t + n) = a t + D) (hD : D ≠ 0) : (∀ w, a 0 ≤ w → ∃ t, a t = w) ∨ ∀ w, w ≤ a 0 → ∃ t, a t = w := by
  rcases Int.lt_or_gt_of_ne hD with c | c
  · refine .inr fun w hw => ?_
    obtain ⟨m, hm⟩ := far_dn per c 0 w
    obtain ⟨t, _, e⟩ := met (f := fun k => -a k) (w := -w) (fun k => by have := (sa k).2; omega) m 0 (by omega) (by omega)
    exact ⟨t, by omega⟩
  · refine .inl fun w hw => ?_
    obtain ⟨m, hm⟩ := far_up per c 0 w
    obtain ⟨t, _, e⟩ := met (f := a) (w := w) (fun k => (sa k).1) m 0 hw hm
    exact ⟨t, e⟩
/-- a place and the one a turn on are both passed -/
theorem visits2 {a : Nat → Int} {n : Nat} {D W : Int} (hW : 1 ≤ W) (sa : ∀ k, a (k + 1) ≤ a k + 1 ∧ a k - 1 ≤ a (k + 1)) (per : ∀ t, a (t + n) = a t + D) (hD : D ≠ 0) (i : Int) : ∃ (m : Int) (s t : Nat), a t = i + m * W ∧ a s = a t + W := by
  rcases visits sa per hD with V | V
  · have e : ∀ N : Int, 0 ≤ N → N ≤ N * W := fun N hN => by
      have := Int.mul_le_mul_of_nonneg_left hW hN
      omega
    have b := e ((a 0 - i).natAbs) (by omega)
    obtain ⟨t, ht⟩ := V (i + ((a 0 - i).natAbs : Int) * W) (by omega)
    obtain ⟨s, hs⟩ := V (i + ((a 0 - i).natAbs : Int) * W + W) (by omega)
    exact ⟨_, s, t, ht, by rw [hs, ht]⟩
  · have e : ∀ N : Int, 0 ≤ N → N ≤ N * W := fun N hN => by
      have := Int.mul_le_mul_of_nonneg_left hW hN
      omega
    have b := e ((a 0 - i).natAbs + 1) (by omega)
    have q : (-((((a 0 - i).natAbs : Nat) : Int) + 1)) * W = -(((((a 0 - i).natAbs : Nat) : Int) + 1) * W) := Int.neg_mul _ _
    have q2 : (((((a 0 - i).natAbs : Nat) : Int) + 1)) * W = (((a 0 - i).natAbs : Nat) : Int) * W + W := by rw [Int.add_mul]; omega
    have b2 := e ((a 0 - i).natAbs) (by omega)
    obtain ⟨t, ht⟩ := V (i + (-((((a 0 - i).natAbs : Nat) : Int) + 1)) * W) (by omega)
    obtain ⟨s, hs⟩ := V (i + (-((((a 0 - i).natAbs : Nat) : Int) + 1)) * W + W) (by omega)
    exact ⟨_, s, t, ht, by rw [hs, ht]⟩
/-- x goes round, its heights come back: y stays -/
theorem rounds_x (k : K h v x y) {W D Dy : Int} {n : Nat} (hW : 1 ≤ W) (hv : ∀ i, v (i + W) = v i) (hT : pot v W = pot v 0) (px : ∀ t, x (t + n) = x t + D) (py : ∀ t, y (t + n) = y t + Dy) (hD : D ≠ 0) :
    Dy = 0 ∧ (∃ s t, x s = x t + W ∧ y s = y t) ∧ ∃ i j p q, (∀ z, pot v z ≤ pot v i) ∧ (∀ z, pot v j ≤ pot v z) ∧ pot h p - pot h q = pot v i - pot v j + 1 := by
  have sa := k.ax
  have sy := k.ay
  have lev := level k
  generalize top h (y 0) - pot v (aa x 0) = c at lev
  have tp : ∀ i, pot v (i + W) = pot v i := fun i => by have := pot_per hv i; omega
  obtain ⟨i, hi⟩ := max_per hW tp
  obtain ⟨j, hj⟩ := min_per hW tp
  have pa := aa_per px
  obtain ⟨m1, s, t, e1, e2⟩ := visits2 hW sa pa hD i
  obtain ⟨m2, _, u, e3, _⟩ := visits2 hW sa pa hD j
  have f1 : pot v (aa x t) = pot v i := by rw [e1, fper_mul tp]
  have f2 : pot v (aa x s) = pot v i := by rw [e2, tp, f1]
  have f3 : pot v (aa x u) = pot v j := by rw [e3, fper_mul tp]
  -- the walls
  have b1 : ∀ r, pot h (aa y r) ≤ pot v i - 1 + c := fun r => by
    have l := level2 k r (lev r)
    have tl := top_low v k.hv (x (r + 1))
    have m1 := hi (x (r + 1))
    have m2 := hi (x (r + 1) + 1)
    omega
  have b2 : ∀ r, pot v j + c ≤ pot h (aa y r) := fun r => by
    have l := level2 k r (lev r)
    have tl := top_low v k.hv (x (r + 1))
    have m1 := hj (x (r + 1))
    have m2 := hj (x (r + 1) + 1)
    omega
  have mm := hi j
  have topw : ∀ r, pot v (aa x r) = pot v i → ∃ p, (p = y r ∨ p = y r + 1) ∧ pot h p = pot v i + c ∧ ((∀ s, p ≤ y s) ∨ ∀ s, y s < p) := fun r e => by
    have l := lev r
    have tl := top_low h k.hh (y r)
    rw [e] at l
    rcases tl.2 with ⟨q, _⟩ | ⟨q, _⟩
    · exact ⟨y r, .inl rfl, by omega, wall sy fun t z => by have := b1 t; rw [z] at this; omega⟩
    · exact ⟨y r + 1, .inr rfl, by omega, wall sy fun t z => by have := b1 t; rw [z] at this; omega⟩
  obtain ⟨p1, a1, a2, a3⟩ := topw t f1
  obtain ⟨p2, d1, d2, d3⟩ := topw s f2
  obtain ⟨q, g1, g2, g3⟩ : ∃ q, (q = y u ∨ q = y u + 1) ∧ pot h q = pot v j + c - 1 ∧ ((∀ s, q ≤ y s) ∨ ∀ s, y s < q) := by
    have l := lev u
    have tl := top_low h k.hh (y u)
    rw [f3] at l
    rcases tl.2 with ⟨_, q⟩ | ⟨_, q⟩
    · exact ⟨y u + 1, .inr rfl, by omega, wall sy fun t z => by have := b2 t; rw [z] at this; omega⟩
    · exact ⟨y u, .inl rfl, by omega, wall sy fun t z => by have := b2 t; rw [z] at this; omega⟩
  have n1 : q ≠ p1 := fun z => by rw [z] at g2; omega
  have n2 : q ≠ p2 := fun z => by rw [z] at g2; omega
  have yst : y s = y t := by
    rcases a3 with a3 | a3 <;> rcases d3 with d3 | d3 <;> rcases g3 with g3 | g3 <;>
    · have x1 := a3 s
      have x2 := a3 t
      have x3 := a3 u
      have x4 := d3 s
      have x5 := d3 t
      have x6 := d3 u
      have x7 := g3 s
      have x8 := g3 t
      have x9 := g3 u
      clear b1 b2 a3 d3 g3 hi hj tp pa lev sa sy topw hv hT px py e1 e2 e3 f1 f2 f3 mm a2 d2 g2
      omega
  have bd : ∃ lo hi, ∀ r, lo ≤ y r ∧ y r ≤ hi := by
    rcases a3 with a3 | a3 <;> rcases g3 with g3 | g3
    · exfalso
      have x2 := a3 t
      have x3 := a3 u
      have x8 := g3 t
      have x9 := g3 u
      omega
    · exact ⟨p1, q, fun r => ⟨a3 r, Int.le_of_lt (g3 r)⟩⟩
    · exact ⟨q, p1, fun r => ⟨g3 r, Int.le_of_lt (a3 r)⟩⟩
    · exfalso
      have x2 := a3 t
      have x3 := a3 u
      have x8 := g3 t
      have x9 := g3 u
      omega
  refine ⟨?_, ⟨s, t, k.back (px := W) (py := 0) (fun j => by rw [Int.add_zero]) e2 (by omega), yst⟩, i, j, p1, q, hi, hj, by omega⟩
  obtain ⟨lo, hi', hb⟩ := bd
  refine Classical.byContradiction fun ne => ?_
  rcases Int.lt_or_gt_of_ne ne with z | z
  · obtain ⟨m, hm⟩ := far_dn py z 0 (lo - 1)
    have := (hb (0 + m)).1
    omega
  · obtain ⟨m, hm⟩ := far_up py z 0 (hi' + 1)
    have := (hb (0 + m)).2
    omega
end
end Kick
namespace GD
open PySem L2 G Turn
section
variable {us ls : List Int}
/-- each column's way -/
def vdir (us : List Int) (x : Int) : Int := if (x % us.length + 1 + gt us (x % us.length).toNat) % 2 = 1 then 1 else -1
theorem L_V2 (p : Loop us ls) {q : Pt} (h : InR us ls q) (ev : (q.1 + q.2) % 2 = 0) {k : Nat} (hk : k % 2 = 1) : LX us ls q (k + 1) = LX us ls q k ∧ LY us ls q (k + 1) = LY us ls q k + vdir us (LX us ls q k) := by
  have par := it_par p h ev k
  have m := L_mod (us := us) (ls := ls) h k
  have e1 : rsum us ls q (k + 1) = rsum us ls q k + (onw us ls (Orb.it (rstep us ls) k q).1 (Orb.it (rstep us ls) k q).2).1 := rfl
  have e2 : usum us ls q (k + 1) = usum us ls q k + (onw us ls (Orb.it (rstep us ls) k q).1 (Orb.it (rstep us ls) k q).2).2 := rfl
  have hx : LX us ls q k % us.length = (Orb.it (rstep us ls) k q).1 := congrArg Prod.fst m
  unfold vdir
  rw [hx]
  unfold LX LY
  rw [e1, e2]
  generalize Orb.it (rstep us ls) k q = z at *
  unfold onw
  rw [if_neg (by omega)]
  by_cases c : (z.2 + gt us z.1.toNat) % 2 = 1
  · rw [if_pos c, if_pos (by omega)]
    dsimp only
    omega
  · rw [if_neg c, if_neg (by omega)]
    dsimp only
    omega
theorem hdir_one (ls : List Int) (y : Int) : hdir ls y = 1 ∨ hdir ls y = -1 := by
  unfold hdir
  split
  · exact .inl rfl
  · exact .inr rfl
theorem vdir_one (us : List Int) (x : Int) : vdir us x = 1 ∨ vdir us x = -1 := by
  unfold vdir
  split
  · exact .inl rfl
  · exact .inr rfl
theorem hdir_per (ls : List Int) (y : Int) : hdir ls (y + ls.length) = hdir ls y := by
  unfold hdir
  rw [Int.add_emod_right]
theorem vdir_per (us : List Int) (x : Int) : vdir us (x + us.length) = vdir us x := by
  unfold vdir
  rw [Int.add_emod_right]
abbrev kX (us ls : List Int) (q : Pt) (t : Nat) : Int := LX us ls q (2 * t)
abbrev kY (us ls : List Int) (q : Pt) (t : Nat) : Int := LY us ls q (2 * t)
theorem kickR (p : Loop us ls) {q : Pt} (h : InR us ls q) (ev : (q.1 + q.2) % 2 = 0) : Kick.K (hdir ls) (vdir us) (kX us ls q) (kY us ls q) where
  hh := hdir_one ls
  hv := vdir_one us
  sx := fun t => by
    have a := L_H p h ev (k := 2 * t) (by omega)
    have b := L_V2 p h ev (k := 2 * t + 1) (by omega)
    show LX us ls q (2 * (t + 1)) = LX us ls q (2 * t) + hdir ls (LY us ls q (2 * t))
    rw [show 2 * (t + 1) = 2 * t + 1 + 1 by omega, b.1, a.1]
  sy := fun t => by
    have a := L_H p h ev (k := 2 * t) (by omega)
    have b := L_V2 p h ev (k := 2 * t + 1) (by omega)
    show LY us ls q (2 * (t + 1)) = LY us ls q (2 * t) + vdir us (LX us ls q (2 * (t + 1)))
    rw [show 2 * (t + 1) = 2 * t + 1 + 1 by omega, b.1, b.2, a.2]
noncomputable def rW (us ls : List Int) (q : Pt) : Int := rsum us ls q (per us ls q) / us.length
noncomputable def uW (us ls : List Int) (q : Pt) : Int := usum us ls q (per us ls q) / ls.length
theorem L_per (p : Loop us ls) {q : Pt} (h : InR us ls q) (k : Nat) : LX us ls q (k + per us ls q) = LX us ls q k + rW us ls q * us.length ∧ LY us ls q (k + per us ls q) = LY us ls q k + uW us ls q * ls.length := by
  obtain ⟨_, _, h3, _⟩ := per_ok p h
  have a := rsum_add (us := us) (ls := ls) q (per us ls q) k
  have b := usum_add (us := us) (ls := ls) q (per us ls q) k
  rw [h3] at a b
  have c := rsum_div p h
  have d := usum_div p h
  unfold LX LY rW uW
  rw [show k + per us ls q = per us ls q + k by omega, a, b, c, d]
  omega
/-- points that come again come again whole rounds later -/
theorem comes (p : Loop us ls) {q : Pt} (h : InR us ls q) (i : Nat) : ∀ d : Nat, Orb.it (rstep us ls) (i + d) q = Orb.it (rstep us ls) i q → ∃ m : Int, LX us ls q (i + d) = LX us ls q i + m * (rW us ls q * us.length) ∧ LY us ls q (i + d) = LY us ls q i + m * (uW us ls q * ls.length) := by
  intro d
  induction d using Nat.strongRecOn with
  | ind d ih =>
    intro e
    by_cases c0 : d = 0
    · subst c0
      exact ⟨0, by simp, by simp⟩
    · obtain ⟨p1, _, p3, _⟩ := per_ok p h
      by_cases c1 : d < per us ls q
      · exact absurd e.symm (it_apart p h (i := i) (j := i + d) (by omega) (by omega))
      · have e2 : Orb.it (rstep us ls) (i + d) q = Orb.it (rstep us ls) (i + (d - per us ls q)) q := by
          rw [show i + d = i + (d - per us ls q) + per us ls q by omega]
          exact Orb.it_mod p3 _
        obtain ⟨m, a1, a2⟩ := ih (d - per us ls q) (by omega) (e2.symm.trans e)
        obtain ⟨b1, b2⟩ := L_per p h (i + (d - per us ls q))
        rw [show i + (d - per us ls q) + per us ls q = i + d by omega] at b1 b2
        refine ⟨m + 1, ?_, ?_⟩
        · rw [b1, a1, Int.add_mul]; omega
        · rw [b2, a2, Int.add_mul]; omega
theorem comes2 (p : Loop us ls) {q : Pt} (h : InR us ls q) {i j : Nat} {a b : Int} (e1 : LX us ls q i = LX us ls q j + a * us.length) (e2 : LY us ls q i = LY us ls q j + b * ls.length) : ∃ m : Int, a * us.length = m * (rW us ls q * us.length) ∧ b * ls.length = m * (uW us ls q * ls.length) := by
  have mi := L_mod (us := us) (ls := ls) h i
  have mj := L_mod (us := us) (ls := ls) h j
  rw [e1, e2, Int.add_mul_emod_self_right, Int.add_mul_emod_self_right] at mi
  have e := mi.symm.trans mj
  by_cases c : j ≤ i
  · obtain ⟨m, m1, m2⟩ := comes p h j (i - j) (by rw [show j + (i - j) = i by omega]; exact e)
    rw [show j + (i - j) = i by omega] at m1 m2
    exact ⟨m, by omega, by omega⟩
  · obtain ⟨m, m1, m2⟩ := comes p h i (j - i) (by rw [show i + (j - i) = j by omega]; exact e.symm)
    rw [show i + (j - i) = j by omega] at m1 m2
    exact ⟨-m, by rw [Int.neg_mul]; omega, by rw [Int.neg_mul]; omega⟩
theorem k_per (p : Loop us ls) {q : Pt} (h : InR us ls q) : ∀ t, kX us ls q (t + per us ls q / 2) = kX us ls q t + rW us ls q * us.length ∧ kY us ls q (t + per us ls q / 2) = kY us ls q t + uW us ls q * ls.length := fun t => by
  have ev := per_even p h
  have := L_per p h (2 * t)
  unfold kX kY
  rw [show 2 * (t + per us ls q / 2) = 2 * t + per us ls q by omega]
  exact this
noncomputable def sH (ls : List Int) : Int := pot (hdir ls) ls.length - pot (hdir ls) 0
noncomputable def sV (us : List Int) : Int := pot (vdir us) us.length - pot (vdir us) 0
end
end GD
namespace Kick
open GD Turn
theorem pot_mul {g : Int → Int} {p : Int} (hp : ∀ j, g (j + p) = g j) (m i : Int) : pot g (i + m * p) = pot g i + m * (pot g p - pot g 0) := by
  have up : ∀ (n : Nat) (i : Int), pot g (i + n * p) = pot g i + n * (pot g p - pot g 0) := fun n => by
    induction n with
    | zero => intro i; simp
    | succ n ih =>
      intro i
      rw [show i + ((n + 1 : Nat) : Int) * p = i + n * p + p by rw [show (((n + 1 : Nat) : Int)) = (n : Int) + 1 by omega, Int.add_mul]; omega, pot_per hp, ih, show (((n + 1 : Nat) : Int)) = (n : Int) + 1 by omega, Int.add_mul]
      omega
  by_cases c : 0 ≤ m
  · have := up m.toNat i
    rw [show ((m.toNat : Nat) : Int) = m by omega] at this
    exact this
  · have := up (-m).toNat (i + m * p)
    rw [show (((-m).toNat : Nat) : Int) = -m by omega, Int.neg_mul, Int.neg_mul, show i + m * p + -(m * p) = i by omega] at this
    omega
theorem top_mul {g : Int → Int} {p : Int} (hp : ∀ j, g (j + p) = g j) (m i : Int) : top g (i + m * p) = top g i + m * (pot g p - pot g 0) := by
  have a := pot_mul hp m i
  have b := pot_mul hp m (i + 1)
  unfold top mx
  rw [show i + m * p + 1 = i + 1 + m * p by omega, a, b]
  (repeat' split) <;> omega
end Kick
namespace GD
open PySem L2 G Turn
theorem unit_of {m r : Int} (h : m * r = 1) : r = 1 ∨ r = -1 := by
  have e : m.natAbs * r.natAbs = 1 := by rw [← Int.natAbs_mul, h]; rfl
  have : r.natAbs = 1 := Nat.dvd_one.mp ⟨m.natAbs, by rw [Nat.mul_comm]; exact e.symm⟩
  omega
section
variable {us ls : List Int}
theorem bal (p : Loop us ls) {q : Pt} (h : InR us ls q) (ev : (q.1 + q.2) % 2 = 0) : uW us ls q * sH ls = rW us ls q * sV us := by
  have k := kickR p h ev
  have lev := Kick.level k (0 + per us ls q / 2)
  have pr := k_per p h
  have ap := Kick.aa_per (fun t => (pr t).1) 0
  rw [(pr 0).2, ap, Kick.top_mul (hdir_per ls), Kick.pot_mul (vdir_per us)] at lev
  unfold sH sV
  omega
/-- both ways without end -/
theorem way_both (p : Loop us ls) {q : Pt} (h : InR us ls q) (ev : (q.1 + q.2) % 2 = 0) (hr : rW us ls q ≠ 0) (hv : sV us ≠ 0) : Int.gcd (rW us ls q) (uW us ls q) = 1 := by
  have k := kickR p h ev
  have b := bal p h ev
  have pr := k_per p h
  have p1 := (per_ok p h).1
  have pe := per_even p h
  have w0 : (us.length : Int) ≠ 0 := by have := p.u2; omega
  obtain ⟨R, hR⟩ := Int.gcd_dvd_left (a := rW us ls q) (b := uW us ls q)
  obtain ⟨U, hU⟩ := Int.gcd_dvd_right (a := rW us ls q) (b := uW us ls q)
  generalize hg : Int.gcd (rW us ls q) (uW us ls q) = g at *
  have g1 : 1 ≤ g := by
    refine Nat.pos_of_ne_zero fun z => hr ?_
    rw [hR, z]
    simp
  have R0 : R ≠ 0 := fun z => hr (by rw [hR, z, Int.mul_zero])
  have hδ : U * sH ls = R * sV us := by
    rw [hR, hU, Int.mul_assoc, Int.mul_assoc] at b
    exact Int.eq_of_mul_eq_mul_left (by omega) b
  obtain ⟨s, t, e1, e2⟩ := Kick.meets (a := Kick.aa (kX us ls q)) (y := kY us ls q) (F := pot (vdir us)) (G := Kick.top (hdir ls)) (n := per us ls q / 2) (g := g) (px := R * us.length) (py := U * ls.length) (δ := R * sV us) (c := Kick.top (hdir ls) (kY us ls q 0) - pot (vdir us) (Kick.aa (kX us ls q) 0))
    (by omega) g1 (Int.mul_ne_zero R0 hv) k.ax k.ay (Kick.level k) (fun t => by rw [Kick.aa_per (fun t => (pr t).1), ← Int.mul_assoc, ← hR]) (fun t => by rw [(pr t).2, ← Int.mul_assoc, ← hU]) (fun i => Kick.pot_mul (vdir_per us) R i) (fun i => by rw [Kick.top_mul (hdir_per ls) U i, ← hδ]; rfl)
  have e3 := k.back (px := R * us.length) (py := U * ls.length) (fun j => Kick.per_mul (hdir_per ls) U j) e1 e2
  obtain ⟨m, m1, _⟩ := comes2 p h (i := 2 * s) (j := 2 * t) (a := R) (b := U) e3 e2
  rw [hR] at m1
  have rw0 : R * (us.length : Int) ≠ 0 := Int.mul_ne_zero R0 w0
  have m2 : (m * g) * (R * us.length) = 1 * (R * us.length) := by
    rw [Int.one_mul]
    rw [Int.mul_assoc, ← Int.mul_assoc (g : Int)]
    exact m1.symm
  have m3 := Int.eq_of_mul_eq_mul_right rw0 m2
  rcases unit_of m3 with z | z <;> omega
/-- what the lines' heights tell where one way comes back -/
def Osc (h v : Int → Int) : Prop := ∃ i j p q, (∀ z, pot v z ≤ pot v i) ∧ (∀ z, pot v j ≤ pot v z) ∧ pot h p - pot h q = pot v i - pot v j + 1
theorem osc_not {h v : Int → Int} (a : Osc h v) (b : Osc v h) : False := by
  obtain ⟨i, j, p, q, a1, a2, a3⟩ := a
  obtain ⟨i', j', p', q', b1, b2, b3⟩ := b
  have x1 := a1 p'
  have x2 := a2 q'
  have x3 := b1 p
  have x4 := b2 q
  omega
theorem way_x (p : Loop us ls) {q : Pt} (h : InR us ls q) (ev : (q.1 + q.2) % 2 = 0) (hr : rW us ls q ≠ 0) (hv : sV us = 0) : uW us ls q = 0 ∧ (rW us ls q = 1 ∨ rW us ls q = -1) ∧ Osc (hdir ls) (vdir us) := by
  have k := kickR p h ev
  have pr := k_per p h
  have w0 : (us.length : Int) ≠ 0 := by have := p.u2; omega
  have l0 : (ls.length : Int) ≠ 0 := by have := p.l2; omega
  have w1 := p.u2
  obtain ⟨d0, ⟨s, t, e1, e2⟩, o⟩ := Kick.rounds_x k (W := us.length) (n := per us ls q / 2) (by omega) (vdir_per us) (by unfold sV at hv; omega) (fun t => (pr t).1) (fun t => (pr t).2) (Int.mul_ne_zero hr w0)
  have u0 : uW us ls q = 0 := (Int.mul_eq_zero.mp d0).resolve_right l0
  refine ⟨u0, ?_, o⟩
  obtain ⟨m, m1, _⟩ := comes2 p h (i := 2 * s) (j := 2 * t) (a := 1) (b := 0) (by rw [Int.one_mul]; exact e1) (by rw [Int.zero_mul, Int.add_zero]; exact e2)
  rw [← Int.mul_assoc] at m1
  exact unit_of (Int.eq_of_mul_eq_mul_right w0 m1).symm
theorem way_y (p : Loop us ls) {q : Pt} (h : InR us ls q) (ev : (q.1 + q.2) % 2 = 0) (hu : uW us ls q ≠ 0) (hh : sH ls = 0) : rW us ls q = 0 ∧ (uW us ls q = 1 ∨ uW us ls q = -1) ∧ Osc (vdir us) (hdir ls) := by
  have k := (kickR p h ev).swap
  have pr := k_per p h
  have w0 : (us.length : Int) ≠ 0 := by have := p.u2; omega
  have l0 : (ls.length : Int) ≠ 0 := by have := p.l2; omega
  have l1 := p.l2
  obtain ⟨d0, ⟨s, t, e1, e2⟩, o⟩ := Kick.rounds_x k (W := ls.length) (n := per us ls q / 2) (by omega) (hdir_per ls) (by unfold sH at hh; omega) (fun t => (pr t).2) (fun t => by
    show kX us ls q (t + per us ls q / 2 + 1) = kX us ls q (t + 1) + rW us ls q * us.length
    rw [show t + per us ls q / 2 + 1 = t + 1 + per us ls q / 2 by omega]
    exact (pr (t + 1)).1) (Int.mul_ne_zero hu l0)
  have r0 : rW us ls q = 0 := (Int.mul_eq_zero.mp d0).resolve_right w0
  refine ⟨r0, ?_, o⟩
  have as := L_H p h ev (k := 2 * s) (by omega)
  have at' := L_H p h ev (k := 2 * t) (by omega)
  have bs := L_V2 p h ev (k := 2 * s + 1) (by omega)
  have bt := L_V2 p h ev (k := 2 * t + 1) (by omega)
  have e2 : LX us ls q (2 * s + 1 + 1) = LX us ls q (2 * t + 1 + 1) := e2
  have e1 : LY us ls q (2 * s) = LY us ls q (2 * t) + ls.length := e1
  obtain ⟨m, _, m1⟩ := comes2 p h (i := 2 * s + 1) (j := 2 * t + 1) (a := 0) (b := 1) (by rw [Int.zero_mul, Int.add_zero, ← bs.1, ← bt.1]; exact e2) (by rw [Int.one_mul, as.2, at'.2]; exact e1)
  rw [← Int.mul_assoc] at m1
  exact unit_of (Int.eq_of_mul_eq_mul_right l0 m1).symm
/-- a way that is not none: its numbers have nothing in common -/
theorem way_one (p : Loop us ls) {q : Pt} (h : InR us ls q) (ev : (q.1 + q.2) % 2 = 0) (ne : ¬ (rW us ls q = 0 ∧ uW us ls q = 0)) : Int.gcd (rW us ls q) (uW us ls q) = 1 := by
  by_cases hr : rW us ls q = 0
  · have hu : uW us ls q ≠ 0 := fun z => ne ⟨hr, z⟩
    have b := bal p h ev
    rw [hr, Int.zero_mul] at b
    obtain ⟨_, u1, _⟩ := way_y p h ev hu ((Int.mul_eq_zero.mp b).resolve_left hu)
    rw [hr]
    rcases u1 with z | z <;> rw [z] <;> rfl
  · by_cases hv : sV us = 0
    · obtain ⟨u0, r1, _⟩ := way_x p h ev hr hv
      rw [u0]
      rcases r1 with z | z <;> rw [z] <;> rfl
    · exact way_both p h ev hr hv
theorem idvd {r a u : Int} (g : Int.gcd r u = 1) (h : r ∣ a * u) : r ∣ a :=
  Int.natAbs_dvd_natAbs.mp ((show Nat.Coprime r.natAbs u.natAbs from g).dvd_of_dvd_mul_right (by rw [← Int.natAbs_mul]; exact Int.natAbs_dvd_natAbs.mpr h))
theorem alike_of {r u r' u' : Int} (h : r * u' = r' * u) (g1 : Int.gcd r u = 1) (g2 : Int.gcd r' u' = 1) : (r' = r ∧ u' = u) ∨ (r' = -r ∧ u' = -u) := by
  have d1 : r ∣ r' := by
    have : r ∣ r' * u := ⟨u', h.symm⟩
    exact idvd g1 this
  have d2 : r' ∣ r := by
    have : r' ∣ r * u' := ⟨u, h⟩
    exact idvd g2 this
  have d3 : u ∣ u' := by
    have : u ∣ u' * r := ⟨r', by rw [Int.mul_comm u' r, h, Int.mul_comm]⟩
    exact idvd (by rw [Int.gcd_comm]; exact g1) this
  have d4 : u' ∣ u := by
    have : u' ∣ u * r' := ⟨r, by rw [Int.mul_comm u r', ← h, Int.mul_comm]⟩
    exact idvd (by rw [Int.gcd_comm]; exact g2) this
  have a1 : r.natAbs = r'.natAbs := Nat.dvd_antisymm (Int.natAbs_dvd_natAbs.mpr d1) (Int.natAbs_dvd_natAbs.mpr d2)
  have a2 : u.natAbs = u'.natAbs := Nat.dvd_antisymm (Int.natAbs_dvd_natAbs.mpr d3) (Int.natAbs_dvd_natAbs.mpr d4)
  by_cases z : r = 0
  · have : r' = 0 := by omega
    omega
  · rcases (show r' = r ∨ r' = -r by omega) with e | e
    · rw [e] at h
      exact .inl ⟨e, Int.eq_of_mul_eq_mul_left z h⟩
    · rw [e, Int.neg_mul, ← Int.mul_neg] at h
      exact .inr ⟨e, Int.eq_of_mul_eq_mul_left z h⟩
/-- any two ways that are not none -/
theorem way_alike (p : Loop us ls) {q q' : Pt} (h : InR us ls q) (ev : (q.1 + q.2) % 2 = 0) (h' : InR us ls q') (ev' : (q'.1 + q'.2) % 2 = 0) (ne : ¬ (rW us ls q = 0 ∧ uW us ls q = 0)) (ne' : ¬ (rW us ls q' = 0 ∧ uW us ls q' = 0)) :
    (rW us ls q' = rW us ls q ∧ uW us ls q' = uW us ls q) ∨ (rW us ls q' = -rW us ls q ∧ uW us ls q' = -uW us ls q) := by
  have g1 := way_one p h ev ne
  have g2 := way_one p h' ev' ne'
  have b1 := bal p h ev
  have b2 := bal p h' ev'
  by_cases c : sV us = 0 ∧ sH ls = 0
  · have X := fun hr => way_x p h ev hr c.1
    have Y := fun hu => way_y p h ev hu c.2
    have X' := fun hr => way_x p h' ev' hr c.1
    have Y' := fun hu => way_y p h' ev' hu c.2
    by_cases r : rW us ls q = 0
    · have hu : uW us ls q ≠ 0 := fun z => ne ⟨r, z⟩
      obtain ⟨_, u1, o⟩ := Y hu
      by_cases r' : rW us ls q' = 0
      · have hu' : uW us ls q' ≠ 0 := fun z => ne' ⟨r', z⟩
        obtain ⟨_, u1', _⟩ := Y' hu'
        omega
      · obtain ⟨_, _, o'⟩ := X' r'
        exact (osc_not o o').elim
    · obtain ⟨u0, r1, o⟩ := X r
      by_cases r' : rW us ls q' = 0
      · have hu' : uW us ls q' ≠ 0 := fun z => ne' ⟨r', z⟩
        obtain ⟨_, _, o'⟩ := Y' hu'
        exact (osc_not o o').elim
      · obtain ⟨u0', r1', _⟩ := X' r'
        omega
  · refine alike_of ?_ g1 g2
    generalize rW us ls q = r at *
    generalize uW us ls q = u at *
    generalize rW us ls q' = r' at *
    generalize uW us ls q' = u' at *
    generalize sV us = V at *
    generalize sH ls = H at *
    by_cases v0 : V = 0
    · have h0 : H ≠ 0 := fun z => c ⟨v0, z⟩
      rw [v0, Int.mul_zero] at b1 b2
      rw [(Int.mul_eq_zero.mp b1).resolve_right h0, (Int.mul_eq_zero.mp b2).resolve_right h0, Int.mul_zero, Int.mul_zero]
    · refine Int.eq_of_mul_eq_mul_right v0 ?_
      have e1 : r * u' * V = u * H * u' := by rw [b1, Int.mul_right_comm]
      have e2 : r' * u * V = u' * H * u := by rw [b2, Int.mul_right_comm]
      rw [e1, e2, Int.mul_right_comm u H u', Int.mul_right_comm u' H u, Int.mul_comm u u']
end
end GD
namespace Bf
variable {α : Type} [DecidableEq α]
/-- what is found: the point, how far, from where -/
structure E (α : Type) where
  k : α
  d : Nat
  p : α
def add (c : E α) (es : List (E α)) (o : α) : List (E α) := if o ∈ es.map (·.k) then es else es ++ [⟨o, c.d + 1, c.k⟩]
def turn (N : α → List α) (es : List (E α)) (n : Nat) : List (E α) := match es[n]? with
  | some c => (N c.k).foldl (add c) es
  | none => es
def run (N : α → List α) (s : α) : Nat → List (E α)
  | 0 => [⟨s, 0, s⟩]
  | n + 1 => turn N (run N s n) n
structure Inv (N : α → List α) (s : α) (n : Nat) (es : List (E α)) : Prop where
  nd : (es.map (·.k)).Nodup
  h0 : es[0]? = some ⟨s, 0, s⟩
  par : ∀ (i : Nat) (e : E α), es[i]? = some e → i = 0 ∨ ∃ (j : Nat) (c : E α), j < i ∧ es[j]? = some c ∧ e.k ∈ N c.k ∧ e.d = c.d + 1 ∧ e.p = c.k
  cl : ∀ (j : Nat) (c : E α), j < n → es[j]? = some c → ∀ o ∈ N c.k, ∃ e ∈ es, e.k = o ∧ e.d ≤ c.d + 1
  mono : ∀ (i j : Nat) (e f : E α), i ≤ j → es[i]? = some e → es[j]? = some f → e.d ≤ f.d
  bnd : ∀ c : E α, es[n]? = some c → ∀ e ∈ es, e.d ≤ c.d + 1
theorem app_get {es : List (E α)} {x e : E α} {i : Nat} (h : (es ++ [x])[i]? = some e) : es[i]? = some e ∨ (i = es.length ∧ e = x) := by
  by_cases q : i < es.length
  · rw [List.getElem?_append_left q] at h
    exact .inl h
  · rw [List.getElem?_append_right (by omega)] at h
    have : i = es.length := by
      have := (List.getElem?_eq_some_iff.mp h).1
      simp at this
      omega
    subst this
    rw [Nat.sub_self] at h
    exact .inr ⟨rfl, (Option.some.inj h).symm⟩
/-- the state amid the turn of c = es[n]: those of D are done -/
structure Mid (N : α → List α) (s : α) (n : Nat) (c : E α) (D : List α) (es : List (E α)) : Prop where
  nd : (es.map (·.k)).Nodup
  h0 : es[0]? = some ⟨s, 0, s⟩
  at_ : es[n]? = some c
  par : ∀ (i : Nat) (e : E α), es[i]? = some e → i = 0 ∨ ∃ (j : Nat) (c : E α), j < i ∧ es[j]? = some c ∧ e.k ∈ N c.k ∧ e.d = c.d + 1 ∧ e.p = c.k
  cl : ∀ (j : Nat) (b : E α), j < n → es[j]? = some b → ∀ o ∈ N b.k, ∃ e ∈ es, e.k = o ∧ e.d ≤ b.d + 1
  dn : ∀ o ∈ D, ∃ e ∈ es, e.k = o ∧ e.d ≤ c.d + 1
  mono : ∀ (i j : Nat) (e f : E α), i ≤ j → es[i]? = some e → es[j]? = some f → e.d ≤ f.d
  bnd : ∀ e ∈ es, e.d ≤ c.d + 1
theorem Mid.add {N : α → List α} {s : α} {n : Nat} {c : E α} {D : List α} {es : List (E α)} (I : Mid N s n c D es) {o : α} (ho : o ∈ N c.k) : Mid N s n c (D ++ [o]) (add c es o) := by
  unfold Bf.add
  by_cases m : o ∈ es.map (·.k)
  · rw [if_pos m]
    refine ⟨I.nd, I.h0, I.at_, I.par, I.cl, fun z hz => ?_, I.mono, I.bnd⟩
    rcases List.mem_append.mp hz with hz | hz
    · exact I.dn z hz
    · rw [List.mem_singleton.mp hz]
      obtain ⟨e, he, ek⟩ := List.mem_map.mp m
      exact ⟨e, he, ek, I.bnd e he⟩
  · rw [if_neg m]
    have old : ∀ {i : Nat} {e : E α}, es[i]? = some e → (es ++ [⟨o, c.d + 1, c.k⟩])[i]? = some e := fun {i e} h => by
      rw [List.getElem?_append_left (List.getElem?_eq_some_iff.mp h).1]
      exact h
    have lt : n < es.length := (List.getElem?_eq_some_iff.mp I.at_).1
    refine ⟨?_, old I.h0, old I.at_, fun i e h => ?_, fun j b hj h z hz => ?_, fun z hz => ?_, fun i j e f hij h1 h2 => ?_, fun e he => ?_⟩
    · rw [List.map_append, List.nodup_append]
      refine ⟨I.nd, by simp, fun a ha b hb e => ?_⟩
      simp at hb
      subst hb
      subst e
      exact m ha
    · rcases app_get h with h | ⟨rfl, rfl⟩
      · rcases I.par i e h with z | ⟨j, b, h1, h2, h3⟩
        · exact .inl z
        · exact .inr ⟨j, b, h1, old h2, h3⟩
      · exact .inr ⟨n, c, lt, old I.at_, ho, rfl, rfl⟩
    · rcases app_get h with h | ⟨rfl, rfl⟩
      · obtain ⟨e, he, z1⟩ := I.cl j b hj h z hz
        exact ⟨e, List.mem_append_left _ he, z1⟩
      · omega
    · rcases List.mem_append.mp hz with hz | hz
      · obtain ⟨e, he, z1⟩ := I.dn z hz
        exact ⟨e, List.mem_append_left _ he, z1⟩
      · rw [List.mem_singleton.mp hz]
        exact ⟨⟨o, c.d + 1, c.k⟩, by simp, rfl, Nat.le_refl _⟩
    · rcases app_get h2 with h2 | ⟨rfl, rfl⟩
      · rcases app_get h1 with h1 | ⟨rfl, rfl⟩
        · exact I.mono i j e f hij h1 h2
        · have := (List.getElem?_eq_some_iff.mp h2).1
          omega
      · rcases app_get h1 with h1 | ⟨rfl, rfl⟩
        · exact I.bnd e (List.mem_of_getElem? h1)
        · exact Nat.le_refl _
    · rcases List.mem_append.mp he with he | he
      · exact I.bnd e he
      · rw [List.mem_singleton.mp he]
        exact Nat.le_refl _
theorem Mid.fold {N : α → List α} {s : α} {n : Nat} {c : E α} : ∀ (L : List α) {D : List α} {es : List (E α)}, Mid N s n c D es → (∀ o ∈ L, o ∈ N c.k) → Mid N s n c (D ++ L) (L.foldl (Bf.add c) es)
  | [], D, es, I, _ => by simpa using I
  | o :: L, D, es, I, h => by
    have := Mid.fold L (I.add (h o List.mem_cons_self)) fun z hz => h z (List.mem_cons_of_mem _ hz)
    rw [List.append_assoc] at this
    exact this
theorem Inv.turn {N : α → List α} {s : α} {n : Nat} {es : List (E α)} (I : Inv N s n es) : Inv N s (n + 1) (turn N es n) := by
  unfold Bf.turn
  cases q : es[n]? with
  | none =>
    have hl := List.getElem?_eq_none_iff.mp q
    refine ⟨I.nd, I.h0, I.par, fun j c hj h => ?_, I.mono, fun c h => ?_⟩
    · have h2 : j < es.length := (List.getElem?_eq_some_iff.mp h).1
      exact I.cl j c (by omega) h
    · have h2 : n + 1 < es.length := (List.getElem?_eq_some_iff.mp h).1
      omega
  | some c =>
    have M := Mid.fold (N c.k) (D := []) (es := es) ⟨I.nd, I.h0, q, I.par, I.cl, (fun _ h => by cases h), I.mono, I.bnd c q⟩ fun _ h => h
    rw [List.nil_append] at M
    refine ⟨M.nd, M.h0, M.par, fun j b hj h o ho => ?_, M.mono, fun b h e he => ?_⟩
    · by_cases e : j = n
      · subst e
        rw [M.at_] at h
        cases h
        exact M.dn o ho
      · exact M.cl j b (by omega) h o ho
    · have h1 := M.mono n (n + 1) c b (by omega) M.at_ h
      have h2 := M.bnd e he
      omega
theorem run_inv (N : α → List α) (s : α) : ∀ n, Inv N s n (run N s n)
  | 0 => by
    refine ⟨by simp [run], rfl, fun i e h => ?_, fun j c hj _ => by omega, fun i j e f hij h1 h2 => ?_, fun c h e he => ?_⟩
    · cases i with
      | zero => exact .inl rfl
      | succ i => simp [run] at h
    · have i0 : i = 0 := by
        have := (List.getElem?_eq_some_iff.mp h1).1
        simp [run] at this
        exact this
      have j0 : j = 0 := by
        have := (List.getElem?_eq_some_iff.mp h2).1
        simp [run] at this
        exact this
      subst i0 j0
      rw [h1] at h2
      cases h2
      exact Nat.le_refl _
    · simp [run] at h he
      subst he
      exact Nat.zero_le _
  | n + 1 => (run_inv N s n).turn
inductive Wk (N : α → List α) : Nat → α → α → Prop
  | nil (a : α) : Wk N 0 a a
  | snoc {n : Nat} {a b c : α} : Wk N n a b → c ∈ N b → Wk N (n + 1) a c
theorem Wk.cons {N : α → List α} {a b : α} (h : b ∈ N a) : ∀ {n : Nat} {c : α}, Wk N n b c → Wk N (n + 1) a c
  | _, _, .nil _ => .snoc (.nil a) h
  | _, _, .snoc w hc => .snoc (Wk.cons h w) hc
theorem Wk.sym {N : α → List α} {S : α → Prop} (sy : ∀ a, S a → ∀ b ∈ N a, S b ∧ a ∈ N b) : ∀ {n : Nat} {a b : α}, S a → Wk N n a b → S b ∧ Wk N n b a
  | _, _, _, ha, .nil _ => ⟨ha, .nil _⟩
  | _, _, _, ha, .snoc (b := b) w hc => by
    obtain ⟨h1, h2⟩ := Wk.sym sy ha w
    obtain ⟨h3, h4⟩ := sy b h1 _ hc
    exact ⟨h3, Wk.cons h4 h2⟩
theorem Wk.mono {N M : α → List α} (h : ∀ a, ∀ b ∈ N a, b ∈ M a) : ∀ {n : Nat} {a b : α}, Wk N n a b → Wk M n a b
  | _, _, _, .nil _ => .nil _
  | _, _, _, .snoc w hc => .snoc (Wk.mono h w) (h _ _ hc)
section
variable {N : α → List α} {s : α} {n : Nat} {es : List (E α)}
/-- within every closed part -/
theorem Inv.within (I : Inv N s n es) {S : α → Prop} (hs : S s) (cl : ∀ a, S a → ∀ b ∈ N a, S b) : ∀ e ∈ es, S e.k := by
  have key : ∀ (i : Nat) (e : E α), es[i]? = some e → S e.k := by
    intro i
    induction i using Nat.strongRecOn with
    | ind i ih =>
      intro e h
      rcases I.par i e h with z | ⟨j, c, h1, h2, h3, _⟩
      · subst z
        rw [I.h0] at h
        cases h
        exact hs
      · exact cl _ (ih j h1 c h2) _ h3
  intro e he
  obtain ⟨i, hi⟩ := List.getElem?_of_mem he
  exact key i e hi
end
/-- the flood ends -/
theorem run_ends {N : α → List α} {s : α} {S : α → Prop} {L : List α} (hs : S s) (cl : ∀ a, S a → ∀ b ∈ N a, S b) (fin : ∀ a, S a → a ∈ L) (n : Nat) : (run N s n).length ≤ L.length := by
  have I := run_inv N s n
  have := Orb.nodup_le I.nd (L := L) fun z hz => by
    obtain ⟨e, he, rfl⟩ := List.mem_map.mp hz
    exact fin _ (I.within hs cl e he)
  rwa [List.length_map] at this
end Bf
namespace Fd
/-- a strip: ("x", k), ("y", k) -/
abbrev Stp := Bool × Int
inductive Fc where
  | cell (x y c : Int) | line (r : Bool) (k s : Int) (b : Bool)
  deriving DecidableEq
def one : Fc → Stp
  | .cell x _ _ => (false, x)
  | .line r k _ _ => (r, k)
def two : Fc → Stp
  | .cell _ y _ => (true, y)
  | .line r k _ _ => (r, k + 1)
def b2 (b : Bool) : Int := if b then 1 else 0
def wt : Fc → Int
  | .cell x y c => (c + x * y) % 2
  | .line _ _ s b => (s + b2 b) % 2
abbrev Nfs := List (Int × Fc)
/-- a fact's number, the other strip, the weight -/
abbrev Tr3 := Int × Stp × Int
def tie (b : Stp) (z : Int × Fc) : List Tr3 := (if one z.2 = b then [(z.1, two z.2, wt z.2)] else []) ++ if two z.2 = b then [(z.1, one z.2, wt z.2)] else []
def ties (fs : Nfs) (b : Stp) : List Tr3 := fs.flatMap (tie b)
theorem mem_ties {fs : Nfs} {b : Stp} {t : Tr3} : t ∈ ties fs b ↔ ∃ z ∈ fs, t.1 = z.1 ∧ t.2.2 = wt z.2 ∧ ((one z.2 = b ∧ two z.2 = t.2.1) ∨ (two z.2 = b ∧ one z.2 = t.2.1)) := by
  unfold ties
  rw [List.mem_flatMap]
  constructor
  · rintro ⟨z, hz, h⟩
    refine ⟨z, hz, ?_⟩
    unfold tie at h
    rcases List.mem_append.mp h with h | h
    · split at h
      · rename_i e
        rw [List.mem_singleton.mp h]
        exact ⟨rfl, rfl, .inl ⟨e, rfl⟩⟩
      · cases h
    · split at h
      · rename_i e
        rw [List.mem_singleton.mp h]
        exact ⟨rfl, rfl, .inr ⟨e, rfl⟩⟩
      · cases h
  · rintro ⟨z, hz, h1, h2, h3⟩
    refine ⟨z, hz, ?_⟩
    obtain ⟨n, o, w⟩ := t
    dsimp only at h1 h2 h3
    subst h1 h2
    unfold tie
    rcases h3 with ⟨e1, e2⟩ | ⟨e1, e2⟩
    · rw [if_pos e1, e2]
      simp
    · rw [if_pos e1, e2]
      simp
theorem ties_sym {fs : Nfs} {a b : Stp} {n w : Int} (h : (n, b, w) ∈ ties fs a) : (n, a, w) ∈ ties fs b := by
  obtain ⟨z, hz, h1, h2, h3⟩ := mem_ties.mp h
  refine mem_ties.mpr ⟨z, hz, h1, h2, ?_⟩
  rcases h3 with ⟨e1, e2⟩ | ⟨e1, e2⟩
  · exact .inr ⟨e2, e1⟩
  · exact .inl ⟨e2, e1⟩
structure E where
  k : Stp
  rs : List Int
  w : Int
def add (c : E) (es : List E) (z : Tr3) : List E := if z.2.1 ∈ es.map (·.k) then es else es ++ [⟨z.2.1, c.rs ++ [z.1], (c.w + z.2.2) % 2⟩]
def turn (N : Stp → List Tr3) (es : List E) (n : Nat) : List E := match es[n]? with
  | some c => (N c.k).foldl (add c) es
  | none => es
def run (N : Stp → List Tr3) (s : Stp) : Nat → List E
  | 0 => [⟨s, [], 0⟩]
  | n + 1 => turn N (run N s n) n
/-- the neighbours alone -/
def nbs (N : Stp → List Tr3) (a : Stp) : List Stp := (N a).map (·.2.1)
theorem fold_keys (c : E) (d : Bf.E Stp) : ∀ (zs : List Tr3) (es : List E) (fs : List (Bf.E Stp)), es.map (·.k) = fs.map (·.k) → (zs.foldl (add c) es).map (·.k) = ((zs.map (·.2.1)).foldl (Bf.add d) fs).map (·.k)
  | [], _, _, h => h
  | z :: zs, es, fs, h => by
    rw [List.foldl_cons, List.map_cons, List.foldl_cons]
    refine fold_keys c d zs _ _ ?_
    unfold add Bf.add
    rw [← h]
    by_cases m : z.2.1 ∈ es.map (·.k)
    · rw [if_pos m, if_pos m]; exact h
    · rw [if_neg m, if_neg m, List.map_append, List.map_append, h]
      rfl
theorem run_keys (N : Stp → List Tr3) (s : Stp) : ∀ n, (run N s n).map (·.k) = (Bf.run (nbs N) s n).map (·.k)
  | 0 => rfl
  | n + 1 => by
    have ih := run_keys N s n
    show (turn N (run N s n) n).map (·.k) = (Bf.turn (nbs N) (Bf.run (nbs N) s n) n).map (·.k)
    unfold turn Bf.turn
    have e : (run N s n)[n]?.map (·.k) = (Bf.run (nbs N) s n)[n]?.map (·.k) := by rw [← List.getElem?_map, ← List.getElem?_map, ih]
    cases q : (run N s n)[n]? with
    | none =>
      rw [q] at e
      cases q2 : (Bf.run (nbs N) s n)[n]? with
      | none => exact ih
      | some d => rw [q2] at e; cases e
    | some c =>
      rw [q] at e
      cases q2 : (Bf.run (nbs N) s n)[n]? with
      | none => rw [q2] at e; cases e
      | some d =>
        rw [q2] at e
        have ek : c.k = d.k := Option.some.inj e
        dsimp only
        rw [ek]
        exact fold_keys c d _ _ _ ih
theorem run_len (N : Stp → List Tr3) (s : Stp) (n : Nat) : (run N s n).length = (Bf.run (nbs N) s n).length := by
  have := congrArg List.length (run_keys N s n)
  rwa [List.length_map, List.length_map] at this
inductive Pth (N : Stp → List Tr3) (s : Stp) : List Int → Int → Stp → Prop
  | nil : Pth N s [] 0 s
  | snoc {rs : List Int} {w wt n : Int} {b c : Stp} : Pth N s rs w b → (n, c, wt) ∈ N b → Pth N s (rs ++ [n]) ((w + wt) % 2) c
theorem run_path (N : Stp → List Tr3) (s : Stp) : ∀ n, ∀ e ∈ run N s n, Pth N s e.rs e.w e.k
  | 0 => fun e he => by
    rw [List.mem_singleton.mp he]
    exact .nil
  | n + 1 => by
    have ih := run_path N s n
    show ∀ e ∈ turn N (run N s n) n, _
    unfold turn
    cases q : (run N s n)[n]? with
    | none => exact ih
    | some c =>
      have hc := ih c (List.mem_of_getElem? q)
      have key : ∀ (zs : List Tr3) (es : List E), (∀ z ∈ zs, z ∈ N c.k) → (∀ e ∈ es, Pth N s e.rs e.w e.k) → ∀ e ∈ zs.foldl (add c) es, Pth N s e.rs e.w e.k := by
        intro zs
        induction zs with
        | nil => intro es _ h; exact h
        | cons z zs ih2 =>
          intro es hz h
          rw [List.foldl_cons]
          refine ih2 _ (fun y hy => hz y (List.mem_cons_of_mem _ hy)) ?_
          unfold add
          split
          · exact h
          · intro e he
            rcases List.mem_append.mp he with he | he
            · exact h e he
            · rw [List.mem_singleton.mp he]
              exact .snoc hc (hz z List.mem_cons_self)
      exact key _ _ (fun _ h => h) ih
def Pot (fs : Nfs) (p : Stp → Int) : Prop := ∀ z ∈ fs, (p (one z.2) + p (two z.2) + wt z.2) % 2 = 0
/-- the strips that the facts tie -/
def ends (fs : Nfs) : List Stp := fs.flatMap fun z => [one z.2, two z.2]
theorem ends_len (fs : Nfs) : (ends fs).length = 2 * fs.length := by
  induction fs with
  | nil => rfl
  | cons z fs ih =>
    show ([one z.2, two z.2] ++ ends fs).length = _
    rw [List.length_append, ih]
    simp
    omega
theorem ties_end {fs : Nfs} {a : Stp} {t : Tr3} (h : t ∈ ties fs a) : t.2.1 ∈ ends fs := by
  obtain ⟨z, hz, _, _, h3⟩ := mem_ties.mp h
  refine List.mem_flatMap.mpr ⟨z, hz, ?_⟩
  rcases h3 with ⟨_, e2⟩ | ⟨_, e2⟩ <;> simp [e2]
theorem reach_len (fs : Nfs) (s : Stp) (n : Nat) : (run (ties fs) s n).length ≤ 2 * fs.length + 1 := by
  rw [run_len]
  have := Bf.run_ends (N := nbs (ties fs)) (s := s) (S := fun a => a ∈ s :: ends fs) (L := s :: ends fs) List.mem_cons_self (fun a _ b hb => by
    obtain ⟨t, ht, rfl⟩ := List.mem_map.mp hb
    exact List.mem_cons_of_mem _ (ties_end ht)) (fun _ h => h) n
  rw [List.length_cons, ends_len] at this
  exact this
/-- what is reached from a strip -/
def reach (fs : Nfs) (s : Stp) : List E := run (ties fs) s (2 * fs.length + 1)
theorem reach_path {fs : Nfs} {s : Stp} {e : E} (h : e ∈ reach fs s) : Pth (ties fs) s e.rs e.w e.k := run_path _ _ _ e h
/-- the reached strips are closed -/
theorem reach_cl {fs : Nfs} {s a b : Stp} (ha : a ∈ (reach fs s).map (·.k)) {n w : Int} (h : (n, b, w) ∈ ties fs a) : b ∈ (reach fs s).map (·.k) := by
  have I := Bf.run_inv (nbs (ties fs)) s (2 * fs.length + 1)
  have hl : (Bf.run (nbs (ties fs)) s (2 * fs.length + 1)).length ≤ 2 * fs.length + 1 := by rw [← run_len]; exact reach_len fs s _
  have e : (reach fs s).map (·.k) = (Bf.run (nbs (ties fs)) s (2 * fs.length + 1)).map (·.k) := run_keys _ _ _
  rw [e] at ha ⊢
  obtain ⟨d, hd, rfl⟩ := List.mem_map.mp ha
  obtain ⟨j, hj⟩ := List.getElem?_of_mem hd
  obtain ⟨f, hf, hk, _⟩ := I.cl j d (by have := (List.getElem?_eq_some_iff.mp hj).1; omega) hj b (List.mem_map.mpr ⟨_, h, rfl⟩)
  exact List.mem_map.mpr ⟨f, hf, hk⟩
theorem reach_self (fs : Nfs) (s : Stp) : s ∈ (reach fs s).map (·.k) := by
  have I := Bf.run_inv (nbs (ties fs)) s (2 * fs.length + 1)
  have e : (reach fs s).map (·.k) = (Bf.run (nbs (ties fs)) s (2 * fs.length + 1)).map (·.k) := run_keys _ _ _
  rw [e]
  exact List.mem_map.mpr ⟨_, List.mem_of_getElem? I.h0, rfl⟩
end Fd
namespace Sm
variable {α : Type} [DecidableEq α]
/-- the neighbours but one -/
def ah (N : α → List α) (last here : α) : List α := (N here).filter fun z => decide (z ≠ last)
/-- the walk from b by way of s: two points behind one another -/
def wk (N : α → List α) (b s : α) : Nat → α × α
  | 0 => (b, s)
  | k + 1 => ((wk N b s k).2, (ah N (wk N b s k).1 (wk N b s k).2).headD b)
def at_ (N : α → List α) (b s : α) (k : Nat) : α := (wk N b s k).1
/-- the walk goes no further behind its place k + 1 -/
def En (N : α → List α) (b s : α) (k : Nat) : Prop := (ah N (at_ N b s k) (at_ N b s (k + 1))).headD b = b
structure Gr (N : α → List α) (S : α → Prop) (L : List α) : Prop where
  sym : ∀ a, S a → ∀ b ∈ N a, S b ∧ a ∈ N b
  irr : ∀ a, S a → a ∉ N a
  two : ∀ a, (N a).length ≤ 2
  nd : ∀ a, S a → (N a).Nodup
  fin : ∀ a, S a → a ∈ L
theorem ah_mem {N : α → List α} {last here z : α} : z ∈ ah N last here ↔ z ∈ N here ∧ z ≠ last := by
  unfold ah
  rw [List.mem_filter, decide_eq_true_iff]
/-- two at most: who is beside two unlike ones is one of them -/
theorem one_of {l : List α} (h2 : l.length ≤ 2) {a b z : α} (ha : a ∈ l) (hb : b ∈ l) (ne : a ≠ b) (hz : z ∈ l) : z = a ∨ z = b := by
  match l, h2 with
  | [], _ => cases ha
  | [x], _ =>
    rw [List.mem_singleton] at ha hb
    exact absurd (ha.trans hb.symm) ne
  | [x, y], _ =>
    simp only [List.mem_cons, List.not_mem_nil, or_false] at ha hb hz
    rcases ha with rfl | rfl <;> rcases hb with rfl | rfl <;> rcases hz with rfl | rfl <;> simp_all
section
variable {N : α → List α} {S : α → Prop} {L : List α} {b s : α}
theorem head_of {l : List α} {b : α} (h : l.headD b ≠ b) : l.headD b ∈ l := by
  cases l with
  | nil => exact absurd rfl h
  | cons x l => exact List.mem_cons_self
/-- what holds as long as the walk has gone on -/
structure Go (N : α → List α) (S : α → Prop) (b s : α) (m : Nat) : Prop where
  ins : ∀ k, k ≤ m + 1 → S (at_ N b s k)
  adj : ∀ k, k ≤ m → at_ N b s (k + 1) ∈ N (at_ N b s k)
  ne2 : ∀ k, k < m → at_ N b s (k + 2) ≠ at_ N b s k
  neb : ∀ k, k < m → at_ N b s (k + 2) ≠ b
theorem go_of (G : Gr N S L) (hb : S b) (hs : s ∈ N b) : ∀ {m : Nat}, (∀ k, k < m → ¬ En N b s k) → Go N S b s m
  | 0, _ => by
    refine ⟨fun k hk => ?_, fun k hk => ?_, fun k hk => ?_, fun k hk => ?_⟩
    · rcases (by omega : k = 0 ∨ k = 1) with rfl | rfl
      · exact hb
      · exact (G.sym b hb s hs).1
    · obtain rfl : k = 0 := by omega
      exact hs
    · omega
    · omega
  | m + 1, h => by
    have ih := go_of G hb hs (m := m) fun k hk => h k (by omega)
    have e := h m (by omega)
    have hm := head_of e
    rw [ah_mem] at hm
    have e2 : at_ N b s (m + 2) = (ah N (at_ N b s m) (at_ N b s (m + 1))).headD b := rfl
    rw [← e2] at hm
    refine ⟨fun k hk => ?_, fun k hk => ?_, fun k hk => ?_, fun k hk => ?_⟩
    · rcases (by omega : k ≤ m + 1 ∨ k = m + 2) with q | rfl
      · exact ih.ins k q
      · exact (G.sym _ (ih.ins (m + 1) (by omega)) _ hm.1).1
    · rcases (by omega : k ≤ m ∨ k = m + 1) with q | rfl
      · exact ih.adj k q
      · exact hm.1
    · rcases (by omega : k < m ∨ k = m) with q | rfl
      · exact ih.ne2 k q
      · exact hm.2
    · rcases (by omega : k < m ∨ k = m) with q | rfl
      · exact ih.neb k q
      · exact e
theorem Go.back {m : Nat} (g : Go N S b s m) (G : Gr N S L) {k : Nat} (h : k ≤ m) : at_ N b s k ∈ N (at_ N b s (k + 1)) := (G.sym _ (g.ins k (by omega)) _ (g.adj k h)).2
/-- within the walk the neighbours are the points ahead and behind -/
theorem Go.inn {m : Nat} (g : Go N S b s m) (G : Gr N S L) {k : Nat} (h : k < m) {z : α} (hz : z ∈ N (at_ N b s (k + 1))) : z = at_ N b s k ∨ z = at_ N b s (k + 2) :=
  one_of (G.two _) (g.back G (by omega)) (g.adj (k + 1) (by omega)) (fun e => g.ne2 k h e.symm) hz
theorem Go.inj {m : Nat} (g : Go N S b s m) (G : Gr N S L) : ∀ {j : Nat}, j ≤ m + 1 → ∀ i, i < j → at_ N b s i ≠ at_ N b s j
  | 0, _, i, h => by omega
  | j + 1, hj, i, h => by
    intro e
    have ih : ∀ {a c : Nat}, a ≤ j → c ≤ j → at_ N b s a = at_ N b s c → a = c := by
      have low : ∀ {c : Nat}, c ≤ j → ∀ i, i < c → at_ N b s i ≠ at_ N b s c := fun {c} hc => by
        have : c ≤ m + 1 := by omega
        exact Go.inj g G this
      intro a c ha hc e
      rcases Nat.lt_trichotomy a c with q | q | q
      · exact absurd e (low hc a q)
      · exact q
      · exact absurd e.symm (low ha c q)
    have aj := g.adj j (by omega)
    by_cases ij : i = j
    · subst ij
      rw [← e] at aj
      exact G.irr _ (g.ins i (by omega)) aj
    by_cases i0 : i = 0
    · subst i0
      cases j with
      | zero => exact ij rfl
      | succ j => exact g.neb j (by omega) e.symm
    · obtain ⟨i, rfl⟩ : ∃ i', i = i' + 1 := ⟨i - 1, by omega⟩
      have bj := g.back G (k := j) (by omega)
      rw [← e] at bj
      rcases g.inn G (k := i) (by omega) bj with z | z
      · have := ih (by omega) (by omega) z
        omega
      · have := ih (by omega) (by omega) z
        have : j = i + 2 := this
        subst this
        exact g.ne2 (i + 1) (by omega) e.symm
theorem Go.nodup {m : Nat} (g : Go N S b s m) (G : Gr N S L) : ((List.range (m + 2)).map (at_ N b s)).Nodup := by
  refine List.pairwise_map.mpr (List.Pairwise.imp_of_mem (R := fun i j => i < j) (fun {i j} hi hj lt e => ?_) List.pairwise_lt_range)
  exact g.inj G (by have := List.mem_range.mp hj; omega) i lt e
/-- the walk ends -/
theorem ends (G : Gr N S L) (hb : S b) (hs : s ∈ N b) : ∃ n, n < L.length ∧ En N b s n ∧ ∀ k, k < n → ¬ En N b s k := by
  have ex : ∃ n, En N b s n := by
    by_cases q : ∃ n, En N b s n
    · exact q
    · exfalso
      have g := go_of G hb hs (m := L.length) fun k _ e => q ⟨k, e⟩
      have := Orb.nodup_le (g.nodup G) (L := L) fun x hx => by
        obtain ⟨i, hi, rfl⟩ := List.mem_map.mp hx
        exact G.fin _ (g.ins i (by have := List.mem_range.mp hi; omega))
      simp at this
      omega
  obtain ⟨n, h1, h2⟩ := Orb.least ex
  refine ⟨n, ?_, h1, h2⟩
  have g := go_of G hb hs (m := n) h2
  have := Orb.nodup_le (g.nodup G) (L := L) fun x hx => by
    obtain ⟨i, hi, rfl⟩ := List.mem_map.mp hx
    exact G.fin _ (g.ins i (by have := List.mem_range.mp hi; omega))
  simp at this
  omega
open Classical in
/-- the place at which it ends -/
noncomputable def end_ (N : α → List α) (b s : α) : Nat := if h : ∃ n, En N b s n ∧ ∀ k, k < n → ¬ En N b s k then Classical.choose h else 0
theorem end_ok (G : Gr N S L) (hb : S b) (hs : s ∈ N b) : En N b s (end_ N b s) ∧ (∀ k, k < end_ N b s → ¬ En N b s k) ∧ end_ N b s < L.length := by
  obtain ⟨n, h0, h1, h2⟩ := ends G hb hs
  have e : ∃ n, En N b s n ∧ ∀ k, k < n → ¬ En N b s k := ⟨n, h1, h2⟩
  have c := Classical.choose_spec e
  have eq : end_ N b s = Classical.choose e := by unfold end_; rw [dif_pos e]
  rw [eq]
  refine ⟨c.1, c.2, ?_⟩
  rcases Nat.lt_trichotomy (Classical.choose e) n with q | q | q
  · omega
  · omega
  · exact absurd h1 (c.2 n q)
/-- the line from b by way of s -/
def line (N : α → List α) (b s : α) (n : Nat) : List α := (List.range (n + 2)).map (at_ N b s)
/-- whether it comes back -/
def back (N : α → List α) (b s : α) (n : Nat) : Bool := decide (ah N (at_ N b s n) (at_ N b s (n + 1)) ≠ [])
theorem not_back {n : Nat} (h : back N b s n = false) {z : α} (hz : z ∈ N (at_ N b s (n + 1))) : z = at_ N b s n := by
  unfold back at h
  have h : ah N (at_ N b s n) (at_ N b s (n + 1)) = [] := by
    by_cases q : ah N (at_ N b s n) (at_ N b s (n + 1)) = []
    · exact q
    · rw [decide_eq_true q] at h; cases h
  by_cases e : z = at_ N b s n
  · exact e
  · have : z ∈ ah N (at_ N b s n) (at_ N b s (n + 1)) := ah_mem.mpr ⟨hz, e⟩
    rw [h] at this
    cases this
end
structure Seam (N : α → List α) (c : Bool) (l : List α) : Prop where
  nd : l.Nodup
  two : 2 ≤ l.length
  step : ∀ i a b, l[i]? = some a → l[i + 1]? = some b → b ∈ N a ∧ a ∈ N b
  cl : ∀ a ∈ l, ∀ b ∈ N a, b ∈ l
  shut : c = true → 3 ≤ l.length ∧ ∀ a b, l[0]? = some a → l[l.length - 1]? = some b → b ∈ N a ∧ a ∈ N b
  deg : ∀ i a, l[i]? = some a → (N a).length = if c = true ∨ (0 < i ∧ i + 1 < l.length) then 2 else 1
end Sm
namespace Sm
variable {α : Type} [DecidableEq α]
section
variable {N : α → List α} {S : α → Prop} {L : List α} {b s t : α}
theorem go_end (G : Gr N S L) (hb : S b) (hs : s ∈ N b) : Go N S b s (end_ N b s) := go_of G hb hs (end_ok G hb hs).2.1
/-- two walks from a point apart but for it, where the first one does not come back -/
theorem apart (G : Gr N S L) (hb : S b) (hs : s ∈ N b) (ht : t ∈ N b) (ne : s ≠ t) (h : back N b s (end_ N b s) = false) :
    ∀ j, 1 ≤ j → j ≤ end_ N b t + 1 → ∀ i, 1 ≤ i → i ≤ end_ N b s + 1 → at_ N b t j ≠ at_ N b s i := by
  have g := go_end G hb hs
  have g' := go_end G hb ht
  have nb := fun z => not_back (N := N) (b := b) (s := s) h (z := z)
  generalize end_ N b s = n at *
  generalize end_ N b t = m at *
  intro j
  induction j with
  | zero => intro h1; omega
  | succ j ih =>
    intro _ hj i hi hi2 e
    have aj := g'.back G (k := j) (by omega)
    rw [e] at aj
    -- the point behind is one of the first walk's
    have pre : at_ N b t j = at_ N b s (i - 1) ∨ (i ≤ n ∧ at_ N b t j = at_ N b s (i + 1)) := by
      by_cases q : i = n + 1
      · subst q
        exact .inl (nb _ aj)
      · have := g.inn G (k := i - 1) (by omega) (z := at_ N b t j) (by rw [show i - 1 + 1 = i by omega]; exact aj)
        rw [show i - 1 + 2 = i + 1 by omega] at this
        exact this.elim .inl fun z => .inr ⟨by omega, z⟩
    by_cases j0 : j = 0
    · subst j0
      rcases pre with z | ⟨q, z⟩
      · by_cases i1 : i = 1
        · subst i1
          exact ne e.symm
        · exact g.inj G (j := i - 1) (by omega) 0 (by omega) z
      · exact g.inj G (j := i + 1) (by omega) 0 (by omega) z
    · rcases pre with z | ⟨q, z⟩
      · by_cases i1 : i = 1
        · subst i1
          exact g'.inj G (j := j) (by omega) 0 (by omega) z.symm
        · exact ih (by omega) (by omega) (i - 1) (by omega) (by omega) z
      · exact ih (by omega) (by omega) (i + 1) (by omega) (by omega) z
end
end Sm
namespace GD
open PySem L2 G PySem.W
section
variable {s : Int} {us ls : List Int}
abbrev nb (us ls : List Int) : Pt → List Pt := fun p => joinL us ls p.1 p.2
def InC (us ls : List Int) (p : Pt) : Prop := 0 ≤ p.1 ∧ p.1 ≤ us.length + 1 ∧ 0 ≤ p.2 ∧ p.2 ≤ ls.length + 1
abbrev pre (us ls : List Int) (b z : Pt) (k : Nat) : List Pt := (List.range (k + 1)).map (Sm.at_ (nb us ls) b z)
end
end GD
namespace GD
open PySem L2 G PySem.W
end GD
namespace GD
open PySem L2 G PySem.W
end GD
namespace Sums
end Sums
namespace GD
open PySem L2 G PySem.W Sums
section
variable {s : Int} {us ls : List Int}
def stI (us : List Int) (k y : Nat) : Int := if ((y : Int) + gt us k) % 2 = 1 then 1 else 0
/-- all stitches -/
def many (us ls : List Int) : Int := ((List.range us.length).map fun k => ((List.range (ls.length + 1)).map (stI us k)).sum).sum + ((List.range ls.length).map fun k => ((List.range (us.length + 1)).map (stI ls k)).sum).sum
end
end GD
namespace GD
open PySem L2 G PySem.W
end GD
namespace GD
open PySem L2 G
def U (a b : Pt) : Prop := (b.1 = a.1 ∧ (b.2 = a.2 + 1 ∨ b.2 = a.2 - 1)) ∨ (b.2 = a.2 ∧ (b.1 = a.1 + 1 ∨ b.1 = a.1 - 1))
end GD
namespace Sm
variable {α : Type} [DecidableEq α]
theorem Seam.local {N N' : α → List α} {c : Bool} {l : List α} (q : Seam N c l) (ag : ∀ a ∈ l, N' a = N a) : Seam N' c l := by
  have mem : ∀ {i : Nat} {a : α}, l[i]? = some a → a ∈ l := fun h => List.mem_of_getElem? h
  refine ⟨q.nd, q.two, fun i a b ha hb => ?_, fun a ha b hb => ?_, fun h => ⟨(q.shut h).1, fun a b ha hb => ?_⟩, fun i a ha => ?_⟩
  · rw [ag a (mem ha), ag b (mem hb)]; exact q.step i a b ha hb
  · rw [ag a ha] at hb; exact q.cl a ha b hb
  · rw [ag a (mem ha), ag b (mem hb)]; exact (q.shut h).2 a b ha hb
  · rw [ag a (mem ha)]; exact q.deg i a ha
end Sm
namespace GD
open PySem L2 G PySem.W
end GD
namespace GD
open PySem L2 G
end GD
namespace GD
open PySem L2 G
end GD
namespace GD
open PySem L2 G
end GD
namespace GD
open PySem L2 G
end GD
namespace GD
open PySem L2 G
end GD
namespace GD
open PySem L2 G
abbrev As := List (Int × List Int)
def addA (y x : Int) : As → As
  | [] => [(y, [x])]
  | a :: A => if a.1 = y then (a.1, a.2 ++ [x]) :: A else a :: addA y x A
/-- the places at a row -/
def lookA (y : Int) : As → List Int
  | [] => []
  | a :: A => if a.1 = y then a.2 else lookA y A
theorem look_add (y x z : Int) : ∀ A : As, lookA z (addA y x A) = if y = z then lookA z A ++ [x] else lookA z A
  | [] => by
    unfold addA lookA lookA
    by_cases c : y = z
    · rw [if_pos c, if_pos c]
      try rfl
    · rw [if_neg c, if_neg c]
      try (unfold lookA; rfl)
  | a :: A => by
    have ih := look_add y x z A
    unfold addA
    by_cases c : a.1 = y
    · rw [if_pos c]
      unfold lookA
      dsimp only
      by_cases d : y = z
      · rw [if_pos (c.trans d), if_pos d, if_pos (c.trans d)]
      · rw [if_neg (fun e => d (c.symm.trans e)), if_neg d, if_neg (fun e => d (c.symm.trans e))]
    · rw [if_neg c]
      unfold lookA
      by_cases d : a.1 = z
      · rw [if_pos d, if_pos d, if_neg (fun e => c (d.trans e.symm))]
      · rw [if_neg d, if_neg d, ih]
theorem add_keys {y x z : Int} : ∀ {A : As}, z ∈ (addA y x A).map (·.1) ↔ z = y ∨ z ∈ A.map (·.1)
  | [] => by simp [addA]
  | a :: A => by
    have ih := add_keys (y := y) (x := x) (z := z) (A := A)
    unfold addA
    by_cases c : a.1 = y
    · rw [if_pos c]
      simp only [List.map_cons, List.mem_cons]
      constructor
      · rintro (h | h)
        · exact .inl (h.trans c)
        · exact .inr (.inr h)
      · rintro (h | h | h)
        · exact .inl (h.trans c.symm)
        · exact .inl h
        · exact .inr h
    · rw [if_neg c]
      simp only [List.map_cons, List.mem_cons, ih]
      constructor
      · rintro (h | h | h)
        · exact .inr (.inl h)
        · exact .inl h
        · exact .inr (.inr h)
      · rintro (h | h | h)
        · exact .inr (.inl h)
        · exact .inl h
        · exact .inr (.inr h)
theorem add_nodup {y x : Int} : ∀ {A : As}, (A.map (·.1)).Nodup → ((addA y x A).map (·.1)).Nodup
  | [], _ => by simp [addA]
  | a :: A, nd => by
    obtain ⟨n1, n2⟩ := List.nodup_cons.mp nd
    unfold addA
    by_cases c : a.1 = y
    · rw [if_pos c]
      exact nd
    · rw [if_neg c]
      refine List.nodup_cons.mpr ⟨fun h => ?_, add_nodup n2⟩
      rcases add_keys.mp h with h | h
      · exact c h
      · exact n1 h
def stpA (A : As) (e : Pt) : As := addA e.2 e.1 A
structure AInv (E : List Pt) (A : As) : Prop where
  nd : (A.map (·.1)).Nodup
  look : ∀ y, lookA y A = (E.filter fun e => decide (e.2 = y)).map (·.1)
  keys : ∀ y, y ∈ A.map (·.1) ↔ ∃ e ∈ E, e.2 = y
theorem AInv.step {E : List Pt} {A : As} (I : AInv E A) (e : Pt) : AInv (E ++ [e]) (stpA A e) := by
  refine ⟨add_nodup I.nd, fun y => ?_, fun y => ?_⟩
  · unfold stpA
    rw [look_add, I.look, List.filter_append, List.map_append]
    by_cases c : e.2 = y
    · rw [if_pos c, List.filter_cons_of_pos (by simpa using c)]
      rfl
    · rw [if_neg c, List.filter_cons_of_neg (by simpa using c)]
      simp
  · unfold stpA
    rw [add_keys, I.keys]
    constructor
    · rintro (h | ⟨z, hz, h⟩)
      · exact ⟨e, by simp, h.symm⟩
      · exact ⟨z, List.mem_append_left _ hz, h⟩
    · rintro ⟨z, hz, h⟩
      rcases List.mem_append.mp hz with hz | hz
      · exact .inr ⟨z, hz, h⟩
      · rw [List.mem_singleton.mp hz] at h
        exact .inl h.symm
end GD
namespace GD
open PySem L2 G
open Fd (Stp Fc Nfs Tr3)
def spW (b : Bool) : Str := if b then "y" else "x"
def spK (a : Stp) : List Key := [.inr (spW a.1), .inl a.2]
def spD (a : Stp) : D := .tup [.str (spW a.1), .int a.2]
def lnW (b : Bool) : Str := if b then "row" else "col"
def fcD : Fc → D
  | .cell x y c => .tup [.str "cell", .int x, .int y, .int c]
  | .line r k s b => .tup [.str (lnW r), .int k, .int s, .bl b]
def fsD (fs : Nfs) : D := .dK (fs.map fun z => .inl z.1) (fs.map fun z => fcD z.2)
abbrev An := List (Stp × List Tr3)
def addN (b : Stp) (t : Tr3) : An → An
  | [] => [(b, [t])]
  | a :: A => if a.1 = b then (a.1, a.2 ++ [t]) :: A else a :: addN b t A
end GD
namespace Fd
end Fd
namespace GD
open PySem L2 G
open Fd (Stp Fc Nfs Tr3)
end GD
namespace Fd
/-- b is reached from a -/
def Cn (fs : Nfs) (a b : Stp) : Prop := b ∈ (reach fs a).map (·.k)
instance (fs : Nfs) (a b : Stp) : Decidable (Cn fs a b) := inferInstanceAs (Decidable (b ∈ (reach fs a).map (·.k)))
theorem Cn.refl (fs : Nfs) (a : Stp) : Cn fs a a := reach_self fs a
theorem Pth.cn {fs : Nfs} {a b : Stp} (h : Cn fs a b) : ∀ {rs : List Int} {w : Int} {c : Stp}, Pth (ties fs) b rs w c → Cn fs a c
  | _, _, _, .nil => h
  | _, _, _, .snoc h1 h2 => reach_cl (Pth.cn h h1) h2
theorem Cn.path {fs : Nfs} {a b : Stp} (h : Cn fs a b) : ∃ rs w, Pth (ties fs) a rs w b := by
  obtain ⟨e, he, rfl⟩ := List.mem_map.mp h
  exact ⟨_, _, reach_path he⟩
theorem Cn.trans {fs : Nfs} {a b c : Stp} (h : Cn fs a b) (g : Cn fs b c) : Cn fs a c := by
  obtain ⟨rs, w, p⟩ := g.path
  exact p.cn h
theorem Cn.tie {fs : Nfs} {a b : Stp} {n w : Int} (h : (n, b, w) ∈ ties fs a) : Cn fs a b := reach_cl (reach_self fs a) h
theorem Pth.back {fs : Nfs} {a : Stp} : ∀ {rs : List Int} {w : Int} {c : Stp}, Pth (ties fs) a rs w c → Cn fs c a
  | _, _, _, .nil => .refl _ _
  | _, _, _, .snoc h1 h2 => (Cn.tie (ties_sym h2)).trans (Pth.back h1)
theorem Cn.symm {fs : Nfs} {a b : Stp} (h : Cn fs a b) : Cn fs b a := by
  obtain ⟨rs, w, p⟩ := h.path
  exact p.back
theorem Cn.fact {fs : Nfs} {z : Int × Fc} (h : z ∈ fs) : Cn fs (one z.2) (two z.2) := Cn.tie (n := z.1) (w := wt z.2) (mem_ties.mpr ⟨z, h, rfl, rfl, .inl ⟨rfl, rfl⟩⟩)
/-- one more fact -/
theorem Cn.mono {fs gs : Nfs} (hs : ∀ z ∈ fs, z ∈ gs) {a b : Stp} (h : Cn fs a b) : Cn gs a b := by
  obtain ⟨rs, w, p⟩ := h.path
  clear h
  induction p with
  | nil => exact .refl _ _
  | snoc h1 h2 ih =>
    refine ih.trans ?_
    obtain ⟨z, hz, q⟩ := mem_ties.mp h2
    exact Cn.tie (mem_ties.mpr ⟨z, hs z hz, q⟩)
theorem Cn.snoc {fs : Nfs} {n : Int} {f : Fc} {a b : Stp} : Cn (fs ++ [(n, f)]) a b ↔ Cn fs a b ∨ (Cn fs a (one f) ∧ Cn fs (two f) b) ∨ (Cn fs a (two f) ∧ Cn fs (one f) b) := by
  have m : ∀ z ∈ fs, z ∈ fs ++ [(n, f)] := fun z hz => List.mem_append_left _ hz
  have e : Cn (fs ++ [(n, f)]) (one f) (two f) := Cn.fact (z := (n, f)) (by simp)
  constructor
  · intro h
    obtain ⟨rs, w, p⟩ := h.path
    clear h
    induction p with
    | nil => exact .inl (.refl _ _)
    | snoc h1 h2 ih =>
      obtain ⟨z, hz, q1, q2, q3⟩ := mem_ties.mp h2
      rcases List.mem_append.mp hz with hz | hz
      · have t : Cn fs _ _ := Cn.tie (mem_ties.mpr ⟨z, hz, q1, q2, q3⟩)
        rcases ih with ih | ⟨i1, i2⟩ | ⟨i1, i2⟩
        · exact .inl (ih.trans t)
        · exact .inr (.inl ⟨i1, i2.trans t⟩)
        · exact .inr (.inr ⟨i1, i2.trans t⟩)
      · rw [List.mem_singleton.mp hz] at q3
        dsimp only at q3
        rcases q3 with ⟨e1, e2⟩ | ⟨e1, e2⟩
        · rw [← e1] at ih
          rw [← e2]
          rcases ih with ih | ⟨i1, i2⟩ | ⟨i1, i2⟩
          · exact .inr (.inl ⟨ih, .refl _ _⟩)
          · exact .inl (i1.trans i2.symm)
          · exact .inl i1
        · rw [← e1] at ih
          rw [← e2]
          rcases ih with ih | ⟨i1, i2⟩ | ⟨i1, i2⟩
          · exact .inr (.inr ⟨ih, .refl _ _⟩)
          · exact .inl i1
          · exact .inl (i1.trans i2.symm)
  · rintro (h | ⟨h1, h2⟩ | ⟨h1, h2⟩)
    · exact h.mono m
    · exact (h1.mono m).trans (e.trans (h2.mono m))
    · exact (h1.mono m).trans (e.symm.trans (h2.mono m))
theorem Pot.snoc {fs : Nfs} {p : Stp → Int} (hp : Pot fs p) {n : Int} {f : Fc} (hc : ¬ Cn fs (one f) (two f)) : ∃ q, Pot (fs ++ [(n, f)]) q := by
  refine ⟨fun a => if Cn fs (one f) a then p a + (p (one f) + p (two f) + wt f) else p a, fun z hz => ?_⟩
  rcases List.mem_append.mp hz with hz | hz
  · have h := hp z hz
    have c := Cn.fact hz
    by_cases d : Cn fs (one f) (one z.2)
    · have d2 := d.trans c
      dsimp only
      rw [if_pos d, if_pos d2]
      omega
    · have d2 : ¬ Cn fs (one f) (two z.2) := fun e => d (e.trans c.symm)
      dsimp only
      rw [if_neg d, if_neg d2]
      exact h
  · rw [List.mem_singleton.mp hz]
    dsimp only
    rw [if_pos (Cn.refl _ _), if_neg hc]
    omega
theorem Pot.mono {fs gs : Nfs} {p : Stp → Int} (h : Pot gs p) (hs : ∀ z ∈ fs, z ∈ gs) : Pot fs p := fun z hz => h z (hs z hz)
/-- how many classes of like h-values a list has -/
def cls (h : Stp → Stp) : List Stp → Nat
  | [] => 0
  | a :: L => (if L.any (fun b => decide (h a = h b)) = true then 0 else 1) + cls h L
/-- the class of v joins the class of u -/
def mg (h : Stp → Stp) (u v : Stp) : Stp → Stp := fun a => if h a = v then u else h a
theorem cls_mg {h : Stp → Stp} {u v : Stp} (ne : u ≠ v) : ∀ L : List Stp, cls (mg h u v) L + (if (L.any (fun b => decide (h b = u)) && L.any (fun b => decide (h b = v))) = true then 1 else 0) = cls h L
  | [] => rfl
  | a :: L => by
    have ih := cls_mg (h := h) ne L
    unfold cls
    rw [List.any_cons, List.any_cons]
    by_cases c1 : h a = u
    · have c2 : ¬ h a = v := fun e => ne (c1.symm.trans e)
      have m1 : mg h u v a = u := by unfold mg; rw [if_neg c2, c1]
      rw [m1, decide_eq_true c1, decide_eq_false c2, c1]
      have e1 : L.any (fun b => decide (u = h b)) = L.any (fun b => decide (h b = u)) := by
        congr 1; funext b; rw [decide_eq_decide]; exact eq_comm
      have e2 : L.any (fun b => decide (u = mg h u v b)) = (L.any (fun b => decide (h b = u)) || L.any (fun b => decide (h b = v))) := by
        rw [Bool.eq_iff_iff, Bool.or_eq_true, List.any_eq_true, List.any_eq_true, List.any_eq_true]
        unfold mg
        constructor
        · rintro ⟨b, hb, t⟩
          have t := of_decide_eq_true t
          by_cases d : h b = v
          · exact .inr ⟨b, hb, decide_eq_true d⟩
          · rw [if_neg d] at t
            exact .inl ⟨b, hb, decide_eq_true t.symm⟩
        · rintro (⟨b, hb, t⟩ | ⟨b, hb, t⟩)
          · have t := of_decide_eq_true t
            have d : ¬ h b = v := fun e => ne (t.symm.trans e)
            exact ⟨b, hb, decide_eq_true (by rw [if_neg d, t])⟩
          · exact ⟨b, hb, decide_eq_true (by rw [if_pos (of_decide_eq_true t)])⟩
      rw [e1, e2]
      cases q1 : L.any (fun b => decide (h b = u)) <;> cases q2 : L.any (fun b => decide (h b = v)) <;> simp [q1, q2] at ih ⊢ <;> omega
    · by_cases c2 : h a = v
      · have m1 : mg h u v a = u := by unfold mg; rw [if_pos c2]
        rw [m1, decide_eq_false c1, decide_eq_true c2, c2]
        have e1 : L.any (fun b => decide (v = h b)) = L.any (fun b => decide (h b = v)) := by
          congr 1; funext b; rw [decide_eq_decide]; exact eq_comm
        have e2 : L.any (fun b => decide (u = mg h u v b)) = (L.any (fun b => decide (h b = u)) || L.any (fun b => decide (h b = v))) := by
          rw [Bool.eq_iff_iff, Bool.or_eq_true, List.any_eq_true, List.any_eq_true, List.any_eq_true]
          unfold mg
          constructor
          · rintro ⟨b, hb, t⟩
            have t := of_decide_eq_true t
            by_cases d : h b = v
            · exact .inr ⟨b, hb, decide_eq_true d⟩
            · rw [if_neg d] at t
              exact .inl ⟨b, hb, decide_eq_true t.symm⟩
          · rintro (⟨b, hb, t⟩ | ⟨b, hb, t⟩)
            · have t := of_decide_eq_true t
              have d : ¬ h b = v := fun e => ne (t.symm.trans e)
              exact ⟨b, hb, decide_eq_true (by rw [if_neg d, t])⟩
            · exact ⟨b, hb, decide_eq_true (by rw [if_pos (of_decide_eq_true t)])⟩
        rw [e1, e2]
        cases q1 : L.any (fun b => decide (h b = u)) <;> cases q2 : L.any (fun b => decide (h b = v)) <;> simp [q1, q2] at ih ⊢ <;> omega
      · have m1 : mg h u v a = h a := by unfold mg; rw [if_neg c2]
        rw [m1, decide_eq_false c1, decide_eq_false c2]
        have e2 : L.any (fun b => decide (h a = mg h u v b)) = L.any (fun b => decide (h a = h b)) := by
          congr 1
          funext b
          rw [decide_eq_decide]
          unfold mg
          by_cases d : h b = v
          · rw [if_pos d, d]
            exact ⟨fun e => absurd e c1, fun e => absurd e c2⟩
          · rw [if_neg d]
        rw [e2]
        simp only [Bool.false_or]
        omega
theorem cls_one {h : Stp → Stp} {u : Stp} : ∀ {L : List Stp}, L ≠ [] → (∀ a ∈ L, h a = u) → cls h L = 1
  | [], h, _ => absurd rfl h
  | [a], _, _ => rfl
  | a :: b :: L, _, e => by
    have ih := cls_one (L := b :: L) (by simp) fun x hx => e x (List.mem_cons_of_mem _ hx)
    unfold cls
    rw [ih, if_pos]
    rw [List.any_cons, decide_eq_true (by rw [e a List.mem_cons_self, e b (by simp)])]
    rfl
end Fd
namespace GD
open PySem L2 G
open Fd (Stp Fc Nfs Tr3)
/-- a fact of a cloth of w columns and t rows -/
def FcV (w t : Int) : Fc → Prop
  | .cell x y c => 0 ≤ x ∧ x < w ∧ 0 ≤ y ∧ y < t ∧ (c = 0 ∨ c = 1)
  | .line false k s _ => 0 ≤ k ∧ k < w - 1 ∧ 0 ≤ s ∧ s < t
  | .line true k s _ => 0 ≤ k ∧ k < t - 1 ∧ 0 ≤ s ∧ s < w
abbrev fnL (w t : Int) (fs : Nfs) (n : Int) : List D := [.int w, .int t, fsD fs, .int n]
end GD
namespace GD
open PySem L2 G
end GD
namespace GD
open PySem L2 G
open Fd (Stp Fc Nfs Tr3 Cn)
/-- a dict from strips to strips -/
def hD (K : List Stp) (h : Stp → Stp) : D := .dT (K.map spK) (K.map fun a => spD (h a))
/-- the first strip of a list that is tied to one -/
def fst1 (fs : Nfs) (L : List Stp) (a : Stp) : Stp := (L.find? fun s => decide (Cn fs s a)).getD a
theorem fst1_cn {fs : Nfs} {L : List Stp} {a : Stp} (ha : a ∈ L) : fst1 fs L a ∈ L ∧ Cn fs (fst1 fs L a) a := by
  unfold fst1
  cases q : L.find? (fun s => decide (Cn fs s a)) with
  | none =>
    have := List.find?_eq_none.mp q a ha
    exact absurd (Cn.refl fs a) (by simpa using this)
  | some z =>
    exact ⟨List.mem_of_find?_eq_some q, by simpa using List.find?_some q⟩
theorem fst1_iff {fs : Nfs} {L : List Stp} {a b : Stp} (ha : a ∈ L) (hb : b ∈ L) : fst1 fs L a = fst1 fs L b ↔ Cn fs a b := by
  constructor
  · intro h
    have h1 := (fst1_cn (fs := fs) ha).2
    have h2 := (fst1_cn (fs := fs) hb).2
    rw [h] at h1
    exact h1.symm.trans h2
  · intro h
    unfold fst1
    have e : (fun s => decide (Cn fs s a)) = fun s => decide (Cn fs s b) := by
      funext s
      rw [decide_eq_decide]
      exact ⟨fun g => g.trans h, fun g => g.trans h.symm⟩
    rw [e]
    cases q : L.find? (fun s => decide (Cn fs s b)) with
    | none =>
      have := List.find?_eq_none.mp q b hb
      exact absurd (Cn.refl fs b) (by simpa using this)
    | some z => rfl
def strips (w t : Nat) : List Stp := (List.range w).map (fun x => (false, ((x : Nat) : Int))) ++ (List.range t).map fun y => (true, ((y : Nat) : Int))
abbrev hS (O : D) (S : D) (K : List Stp) (h : Stp → Stp) (s3 s4 : Slot) : Sl := [.va O, .va S, .ow (hD K h), s3, s4, .un, .un]
end GD
namespace GD
open PySem L2 G
open Fd (Stp Fc Nfs Tr3 Cn)
end GD
namespace Fd
theorem mg_iff {h : Stp → Stp} {u v a b : Stp} : mg h u v a = mg h u v b ↔ h a = h b ∨ (h a = u ∧ h b = v) ∨ (h a = v ∧ h b = u) := by
  unfold mg
  by_cases c : h a = v <;> by_cases d : h b = v
  · rw [if_pos c, if_pos d]
    exact ⟨fun _ => .inl (c.trans d.symm), fun _ => rfl⟩
  · rw [if_pos c, if_neg d]
    constructor
    · intro e; exact .inr (.inr ⟨c, e.symm⟩)
    · rintro (e | ⟨_, e⟩ | ⟨_, e⟩)
      · exact absurd (e.symm.trans c) d
      · exact absurd e d
      · exact e.symm
  · rw [if_neg c, if_pos d]
    constructor
    · intro e; exact .inr (.inl ⟨e, d⟩)
    · rintro (e | ⟨e, _⟩ | ⟨e, _⟩)
      · exact absurd (e.trans d) c
      · exact e
      · exact absurd e c
  · rw [if_neg c, if_neg d]
    constructor
    · intro e; exact .inl e
    · rintro (e | ⟨_, e⟩ | ⟨e, _⟩)
      · exact e
      · exact absurd e d
      · exact absurd e c
end Fd
namespace GD
open PySem L2 G
open Fd (Stp Fc Nfs Tr3 Cn)
/-- like by h: tied by the facts -/
def Ties (L : List Stp) (h : Stp → Stp) (gs : Nfs) : Prop := ∀ a ∈ L, ∀ b ∈ L, (h a = h b ↔ Cn gs a b)
theorem Ties.mg {L : List Stp} {h : Stp → Stp} {gs : Nfs} (t : Ties L h gs) {f : Fc} {n : Int} (h1 : Fd.one f ∈ L) (h2 : Fd.two f ∈ L) : Ties L (Fd.mg h (h (Fd.one f)) (h (Fd.two f))) (gs ++ [(n, f)]) := fun a ha b hb => by
  rw [Fd.mg_iff, Cn.snoc, t a ha b hb, t a ha _ h1, t b hb _ h2, t a ha _ h2, t b hb _ h1]
  constructor
  · rintro (h | ⟨h, g⟩ | ⟨h, g⟩)
    · exact .inl h
    · exact .inr (.inl ⟨h, g.symm⟩)
    · exact .inr (.inr ⟨h, g.symm⟩)
  · rintro (h | ⟨h, g⟩ | ⟨h, g⟩)
    · exact .inl h
    · exact .inr (.inl ⟨h, g.symm⟩)
    · exact .inr (.inr ⟨h, g.symm⟩)
/-- the looks, one by one -/
def scn (h : Stp → Stp) : List Pt → List Pt × (Stp → Stp)
  | [] => ([], h)
  | c :: cs => if h (false, c.1) = h (true, c.2) then scn h cs else (c :: (scn (Fd.mg h (h (false, c.1)) (h (true, c.2))) cs).1, (scn (Fd.mg h (h (false, c.1)) (h (true, c.2))) cs).2)
theorem scn_keep {h : Stp → Stp} {a b : Stp} : ∀ {cs : List Pt} {h : Stp → Stp}, h a = h b → (scn h cs).2 a = (scn h cs).2 b
  | [], h, e => e
  | c :: cs, h, e => by
    unfold scn
    by_cases q : h (false, c.1) = h (true, c.2)
    · rw [if_pos q]
      exact scn_keep (h := h) e
    · rw [if_neg q]
      exact scn_keep (h := h) (Fd.mg_iff.mpr (.inl e))
theorem scn_done : ∀ {cs : List Pt} {h : Stp → Stp}, ∀ c ∈ cs, (scn h cs).2 (false, c.1) = (scn h cs).2 (true, c.2)
  | [], _, c, hc => by cases hc
  | d :: cs, h, c, hc => by
    unfold scn
    by_cases q : h (false, d.1) = h (true, d.2)
    · rw [if_pos q]
      rcases List.mem_cons.mp hc with rfl | hc
      · exact scn_keep (h := h) q
      · exact scn_done c hc
    · rw [if_neg q]
      rcases List.mem_cons.mp hc with rfl | hc
      · refine scn_keep (h := h) (Fd.mg_iff.mpr (.inr (.inl ⟨rfl, rfl⟩)))
      · exact scn_done c hc
theorem scn_cls {L : List Stp} : ∀ {cs : List Pt} {h : Stp → Stp}, (∀ c ∈ cs, (false, c.1) ∈ L ∧ (true, c.2) ∈ L) → Fd.cls (scn h cs).2 L + (scn h cs).1.length = Fd.cls h L
  | [], h, _ => rfl
  | c :: cs, h, hl => by
    have ih := fun h => scn_cls (L := L) (cs := cs) (h := h) fun d hd => hl d (List.mem_cons_of_mem _ hd)
    obtain ⟨m1, m2⟩ := hl c List.mem_cons_self
    unfold scn
    by_cases q : h (false, c.1) = h (true, c.2)
    · rw [if_pos q]
      exact ih h
    · rw [if_neg q]
      have m := Fd.cls_mg (h := h) q L
      rw [if_pos (by
        rw [Bool.and_eq_true, List.any_eq_true, List.any_eq_true]
        exact ⟨⟨_, m1, decide_eq_true rfl⟩, ⟨_, m2, decide_eq_true rfl⟩⟩)] at m
      have := ih (Fd.mg h (h (false, c.1)) (h (true, c.2)))
      dsimp only
      rw [List.length_cons]
      omega
def rowCs (T : Nat) (x : Nat) : List Pt := (List.range T).map fun y => (((x : Nat) : Int), ((y : Nat) : Int))
def cellsN (W T : Nat) : List Pt := (List.range W).flatMap (rowCs T)
/-- the looks of some facts -/
def looksL (fs : Nfs) (W T : Nat) : List Pt := (scn (fst1 fs (strips W T)) (cellsN W T)).1
theorem cellsN_mem {W T : Nat} {c : Pt} : c ∈ cellsN W T ↔ ∃ x < W, ∃ y < T, c = (((x : Nat) : Int), ((y : Nat) : Int)) := by
  unfold cellsN rowCs
  simp only [List.mem_flatMap, List.mem_range, List.mem_map]
  constructor
  · rintro ⟨x, hx, y, hy, rfl⟩; exact ⟨x, hx, y, hy, rfl⟩
  · rintro ⟨x, hx, y, hy, rfl⟩; exact ⟨x, hx, y, hy, rfl⟩
theorem strips_x {W T x : Nat} (h : x < W) : ((false, ((x : Nat) : Int)) : Stp) ∈ strips W T := List.mem_append_left _ (List.mem_map.mpr ⟨x, List.mem_range.mpr h, rfl⟩)
theorem strips_y {W T y : Nat} (h : y < T) : ((true, ((y : Nat) : Int)) : Stp) ∈ strips W T := List.mem_append_right _ (List.mem_map.mpr ⟨y, List.mem_range.mpr h, rfl⟩)
theorem strips_inv {W T : Nat} {a : Stp} (h : a ∈ strips W T) : (∃ x < W, a = (false, ((x : Nat) : Int))) ∨ ∃ y < T, a = (true, ((y : Nat) : Int)) := by
  rcases List.mem_append.mp h with h | h
  · obtain ⟨x, hx, rfl⟩ := List.mem_map.mp h
    exact .inl ⟨x, List.mem_range.mp hx, rfl⟩
  · obtain ⟨y, hy, rfl⟩ := List.mem_map.mp h
    exact .inr ⟨y, List.mem_range.mp hy, rfl⟩
theorem cells_L {W T : Nat} : ∀ c ∈ cellsN W T, ((false, c.1) : Stp) ∈ strips W T ∧ ((true, c.2) : Stp) ∈ strips W T := fun c hc => by
  obtain ⟨x, hx, y, hy, rfl⟩ := cellsN_mem.mp hc
  exact ⟨strips_x hx, strips_y hy⟩
/-- one look less than there are classes -/
theorem looks_cls (fs : Nfs) {W T : Nat} (hW : 1 ≤ W) (hT : 1 ≤ T) : (looksL fs W T).length + 1 = Fd.cls (fst1 fs (strips W T)) (strips W T) := by
  have h := scn_cls (L := strips W T) (cs := cellsN W T) (h := fst1 fs (strips W T)) cells_L
  have d : ∀ x < W, ∀ y < T, (scn (fst1 fs (strips W T)) (cellsN W T)).2 (false, ((x : Nat) : Int)) = (scn (fst1 fs (strips W T)) (cellsN W T)).2 (true, ((y : Nat) : Int)) := fun x hx y hy => scn_done _ (cellsN_mem.mpr ⟨x, hx, y, hy, rfl⟩)
  have o := Fd.cls_one (h := (scn (fst1 fs (strips W T)) (cellsN W T)).2) (u := (scn (fst1 fs (strips W T)) (cellsN W T)).2 (true, ((0 : Nat) : Int))) (L := strips W T) (List.ne_nil_of_mem (strips_x (x := 0) (by omega))) (fun a ha => by
    rcases strips_inv ha with ⟨x, hx, rfl⟩ | ⟨y, hy, rfl⟩
    · exact d x hx 0 (by omega)
    · exact (d 0 (by omega) y hy).symm.trans (d 0 (by omega) 0 (by omega)))
  unfold looksL
  omega
end GD
namespace GD
open PySem L2 G
open Fd (Stp Fc Nfs Tr3 Cn)
end GD
namespace GD
open PySem L2 G
open Fd (Stp Fc Nfs Tr3 Cn)
/-- facts that may be kept together; n is the next number -/
structure Gd (w t : Int) (fs : Nfs) (n : Int) : Prop where
  v : ∀ z ∈ fs, FcV w t z.2
  k : ∀ z ∈ fs, z.1 < n
  p : ∃ p, Fd.Pot fs p
theorem Gd.snoc {w t n : Int} {fs : Nfs} (g : Gd w t fs n) {f : Fc} (v : FcV w t f) (hc : ¬ Cn fs (Fd.one f) (Fd.two f)) : Gd w t (fs ++ [(n, f)]) (n + 1) := by
  obtain ⟨p, hp⟩ := g.p
  refine ⟨fun z hz => ?_, fun z hz => ?_, hp.snoc hc⟩
  · rcases List.mem_append.mp hz with hz | hz
    · exact g.v z hz
    · rw [List.mem_singleton.mp hz]; exact v
  · rcases List.mem_append.mp hz with hz | hz
    · have := g.k z hz; omega
    · rw [List.mem_singleton.mp hz]; dsimp only; omega
end GD
namespace GD
open PySem L2 G
open Fd (Stp Fc Nfs Tr3 Cn)
abbrev Ak := Option (Bool × Nat)
def akA : Ak → Stp
  | none => (false, 0)
  | some (r, k) => (r, (k : Nat))
def akB : Ak → Stp
  | none => (true, 0)
  | some (r, k) => (r, ((k : Nat) : Int) + 1)
def akF (i : Int) : Ak → Fc
  | none => .cell 0 0 i
  | some (r, k) => .line r (k : Nat) 0 (decide (i = 1))
end GD
namespace GD
open PySem L2 G
open Fd (Stp Fc Nfs Tr3 Cn)
/-- what the bit of an asked pair tells -/
def Tld (gs : Nfs) (a : Ak) (b : Int) : Prop := (b = 0 ∨ b = 1) ∧ Cn gs (akA a) (akB a) ∧ ∀ p, Fd.Pot gs p → (p (akA a) + p (akB a) + b) % 2 = 0
theorem Tld.mono {gs hs : Nfs} {a : Ak} {b : Int} (h : Tld gs a b) (hm : ∀ z ∈ gs, z ∈ hs) : Tld hs a b := ⟨h.1, h.2.1.mono hm, fun p hp => h.2.2 p (hp.mono hm)⟩
section
variable {W T : Nat}
/-- what is asked, in order -/
def asks (W T : Nat) : List Ak := none :: ((List.range (W - 1)).map (fun k => some (false, k)) ++ (List.range (T - 1)).map fun k => some (true, k))
theorem asks_len (h1W : 1 ≤ W) (h1T : 1 ≤ T) : (asks W T).length = W + T - 1 := by
  unfold asks
  simp
  omega
end
end GD
namespace G
open PySem L2
@[simp] theorem oBk0_l (xs : List D) : oBk0 (.lst xs) = .ok (.lst xs.tail.reverse, .fr) := rfl
end G
namespace GD
open PySem L2 G
end GD
namespace GD
open PySem L2 G
end GD
namespace GD
open PySem L2 G
open Fd (Stp Fc Nfs Tr3)
section
variable {s : Int} {us ls : List Int}
/-- what a fact says of a plan -/
def hB (s : Int) (us ls : List Int) : Fc → Bool
  | .cell x y c => decide (colour s us ls x y = c)
  | .line false k t b => decide (decide ((t + gt us k.toNat) % 2 = 1) = b)
  | .line true k t b => decide (decide ((t + gt ls k.toNat) % 2 = 1) = b)
abbrev FcP (us ls : List Int) (f : Fc) : Prop := FcV ((us.length : Int) + 1) ((ls.length : Int) + 1) f
end
end GD
namespace GD
open PySem L2 G
open Fd (Stp Fc Nfs Tr3)
section
variable {s : Int} {us ls : List Int}
/-- facts that law_filled gives -/
structure FsOk (s : Int) (us ls : List Int) (fs : Nfs) : Prop where
  key : ∀ (i : Nat) (z : Int × Fc), fs[i]? = some z → z.1 = (i : Int)
  ok : ∀ z ∈ fs, FcP us ls z.2 ∧ hB s us ls z.2 = true
theorem FsOk.fresh {fs : Nfs} (h : FsOk s us ls fs) : (fs.length : Int) ∉ fs.map (·.1) := fun m => by
  obtain ⟨z, hz, e⟩ := List.mem_map.mp m
  obtain ⟨i, hi⟩ := List.getElem?_of_mem hz
  have := h.key i z hi
  have lt := (List.getElem?_eq_some_iff.mp hi).1
  omega
theorem FsOk.snoc {fs : Nfs} (h : FsOk s us ls fs) {f : Fc} (v : FcP us ls f) (t : hB s us ls f = true) : FsOk s us ls (fs ++ [((fs.length : Int), f)]) := by
  refine ⟨fun i z hz => ?_, fun z hz => ?_⟩
  · by_cases c : i < fs.length
    · rw [List.getElem?_append_left c] at hz
      exact h.key i z hz
    · rw [List.getElem?_append_right (by omega)] at hz
      cases q : i - fs.length with
      | zero =>
        rw [q] at hz
        cases hz
        show (fs.length : Int) = i
        omega
      | succ k => rw [q] at hz; cases hz
  · rcases List.mem_append.mp hz with hz | hz
    · exact h.ok z hz
    · rw [List.mem_singleton.mp hz]
      exact ⟨v, t⟩
end
end GD
namespace GD
open PySem L2 G
open Fd (Stp Fc Nfs Tr3)
end GD
namespace GD
open PySem L2 G
open Fd (Stp Fc Nfs Tr3 Cn)
end GD
namespace GD
open PySem L2 G
open Fd (Stp Fc Nfs Tr3 Cn)
/-- the keys are the places -/
def Keyed (fs : Nfs) : Prop := ∀ (i : Nat) (z : Int × Fc), fs[i]? = some z → z.1 = (i : Int)
theorem Keyed.keys {fs : Nfs} (h : Keyed fs) : fs.map (·.1) = (List.range fs.length).map fun i => ((i : Nat) : Int) := by
  refine List.ext_getElem? fun i => ?_
  rw [List.getElem?_map, List.getElem?_map]
  by_cases c : i < fs.length
  · rw [List.getElem?_eq_getElem c, List.getElem?_range c]
    have := h i _ (List.getElem?_eq_getElem c)
    exact congrArg some this
  · rw [List.getElem?_eq_none (by omega), List.getElem?_eq_none (by simp; omega)]
    rfl
end GD
namespace GD
open PySem L2 G
open Fd (Stp Fc Nfs Tr3 Cn)
/-- the state behind an asked pair -/
def nxG (W T : Nat) (gs : Nfs) (n m : Int) (a : Ak) : Nfs := if Cn gs (akA a) (akB a) then gs else gs ++ [(n, akF (m / 2 ^ ((looksL gs W T).length - 1)) a)]
def nxN (gs : Nfs) (n : Int) (a : Ak) : Int := if Cn gs (akA a) (akB a) then n else n + 1
def nxM (W T : Nat) (gs : Nfs) (m : Int) (a : Ak) : Int := if Cn gs (akA a) (akB a) then m else m % 2 ^ ((looksL gs W T).length - 1)
/-- the facts at the end of a number's run -/
def fin (W T : Nat) : List Ak → Nfs → Int → Int → Nfs
  | [], gs, _, _ => gs
  | a :: as, gs, n, m => fin W T as (nxG W T gs n m a) (nxN gs n a) (nxM W T gs m a)
end GD
namespace GD
open PySem L2 G
open Fd (Stp Fc Nfs Tr3 Cn)
end GD
namespace GD
open PySem L2 G
open Fd (Stp Fc Nfs Tr3 Cn)
section
variable {W T : Nat}
theorem asks_mem_l {r : Bool} {k : Nat} (h : k + 1 < (if r then T else W)) : (some (r, k) : Ak) ∈ asks W T := by
  unfold asks
  refine List.mem_cons_of_mem _ (List.mem_append.mpr ?_)
  cases r with
  | false =>
    have h : k + 1 < W := h
    exact .inl (List.mem_map.mpr ⟨k, List.mem_range.mpr (by omega), rfl⟩)
  | true =>
    have h : k + 1 < T := h
    exact .inr (List.mem_map.mpr ⟨k, List.mem_range.mpr (by omega), rfl⟩)
theorem chain {gs : Nfs} {r : Bool} {N : Nat} (h : ∀ k, k + 1 < N → Cn gs (r, (k : Nat)) (r, ((k : Nat) : Int) + 1)) : ∀ x, x < N → Cn gs (r, 0) (r, ((x : Nat) : Int))
  | 0, _ => Cn.refl _ _
  | x + 1, hx => (chain h x (by omega)).trans (h x hx)
theorem all_tied (hW : 1 ≤ W) (hT : 1 ≤ T) {gs : Nfs} (h : ∀ a ∈ asks W T, Cn gs (akA a) (akB a)) : (looksL gs W T).length = 0 := by
  have hx := chain (gs := gs) (r := false) (N := W) fun k hk => h (some (false, k)) (asks_mem_l (T := T) (W := W) (r := false) hk)
  have hy := chain (gs := gs) (r := true) (N := T) fun k hk => h (some (true, k)) (asks_mem_l (T := T) (W := W) (r := true) hk)
  have h0 : Cn gs (false, 0) (true, 0) := h none List.mem_cons_self
  have all : ∀ a ∈ strips W T, Cn gs (false, 0) a := fun a ha => by
    rcases strips_inv ha with ⟨x, hx', rfl⟩ | ⟨y, hy', rfl⟩
    · exact hx x hx'
    · exact h0.trans (hy y hy')
  have m0 := strips_x (W := W) (T := T) (x := 0) (by omega)
  have c := Fd.cls_one (h := fst1 gs (strips W T)) (u := fst1 gs (strips W T) (false, ((0 : Nat) : Int))) (L := strips W T) (List.ne_nil_of_mem m0) (fun a ha => (fst1_iff ha m0).mpr (all a ha).symm)
  have l := looks_cls gs hW hT
  omega
end
end GD
namespace GD
open PySem L2 G
open Fd (Stp Fc Nfs Tr3)
theorem FsOk.keys {s : Int} {us ls : List Int} {fs : Nfs} (h : FsOk s us ls fs) : (fs.map (·.1)).Nodup := by
  show List.Pairwise (· ≠ ·) _
  rw [List.pairwise_iff_getElem]
  intro i j hi hj hij e
  rw [List.length_map] at hi hj
  rw [List.getElem_map, List.getElem_map] at e
  have a := h.key i _ (List.getElem?_eq_getElem hi)
  have b := h.key j _ (List.getElem?_eq_getElem hj)
  omega
end GD
namespace GD
open PySem L2 G
open Fd (Stp Fc Nfs Tr3 Cn)
end GD
namespace GD
open PySem L2 G
open Fd (Stp Fc Nfs Tr3 Cn)
end GD
namespace GD
open PySem L2 G
open Fd (Stp Fc Nfs Tr3 Cn)
/-- the bits of a number's cloth -/
structure ClN (W T : Nat) (fs : Nfs) (n m : Int) (bs : List Int) : Prop where
  pl : Plan (gt bs 0) ((bs.drop 1).take (W - 1)) (bs.drop W)
  lu : ((bs.drop 1).take (W - 1)).length = W - 1
  ll : (bs.drop W).length = T - 1
  len : bs.length = W + T - 1
  gd : ∃ n', Gd (W : Int) (T : Int) (fin W T (asks W T) fs n m) n'
  tl : ∀ (j : Nat) (a : Ak) (b : Int), (asks W T)[j]? = some a → bs[j]? = some b → Tld (fin W T (asks W T) fs n m) a b
section
variable {W T : Nat} {fs : Nfs} {n : Int}
theorem ClN.none (hW : 1 ≤ W) (hT : 1 ≤ T) {m : Int} {bs : List Int} (c : ClN W T fs n m bs) : (looksL (fin W T (asks W T) fs n m) W T).length = 0 := all_tied hW hT fun a ha => by
  obtain ⟨j, hj⟩ := List.getElem?_of_mem ha
  have lt := (List.getElem?_eq_some_iff.mp hj).1
  have al := asks_len hW hT
  have lb := c.len
  have lt' : j < bs.length := by omega
  exact (c.tl j a _ hj (List.getElem?_eq_getElem lt')).2.1
end
end GD
namespace GD
open PySem L2 G PySem.W
end GD
namespace GD
open PySem L2 G PySem.W PyProof.Rows
section
variable {us ls us' ls' : List Int} {φ ψ : Pt → Pt}
/-- φ takes one cloth's points to the other's, with their neighbours -/
structure Img (us ls us' ls' : List Int) (φ ψ : Pt → Pt) : Prop where
  go : ∀ z, InC us ls z → InC us' ls' (φ z)
  bk : ∀ z, InC us' ls' z → InC us ls (ψ z)
  pf : ∀ z, ψ (φ z) = z
  fp : ∀ z, φ (ψ z) = z
  nbs : ∀ z, InC us ls z → (nb us' ls' (φ z)).Perm ((nb us ls z).map φ)
theorem Img.mem (I : Img us ls us' ls' φ ψ) {z w : Pt} (h : InC us ls z) : w ∈ nb us' ls' (φ z) ↔ ∃ v ∈ nb us ls z, φ v = w := by
  rw [(I.nbs z h).mem_iff, List.mem_map]
theorem Img.inj (I : Img us ls us' ls' φ ψ) {a b : Pt} (h : φ a = φ b) : a = b := by rw [← I.pf a, ← I.pf b, h]
end
end GD
namespace GD
open PySem L2 G PySem.W PyProof.Rows
end GD
namespace GD
open PySem L2 G
open Fd (Stp Fc Nfs Tr3 Cn)
abbrev k5 (D0 A P : D) (W T : Nat) (fs : Nfs) (n : Int) (F Q : D) (s8 s9 s10 s11 : Slot) (rs ts : List D) (s14 s15 s16 s17 s18 s19 s20 : Slot) : Sl := [.va D0, .va A, .va P, .va (.int (W : Nat)), .va (.int (T : Nat)), ownW false 22 (fnL (W : Int) (T : Int) fs n), .va F, .va Q, s8, s9, s10, s11, .ow (.lst rs), .ow (.lst ts), s14, s15, s16, s17, s18, s19, s20]
end GD
namespace GD
open PySem L2 G
open Fd (Stp Fc Nfs Tr3 Cn)
end GD
namespace GD
open PySem L2 G
open Fd (Stp Fc Nfs Tr3 Cn)
end GD
namespace GD
open PySem L2 G
open Fd (Stp Fc Nfs Tr3 Cn)
end GD
namespace GD
open PySem L2 G
open Fd (Stp Fc Nfs Tr3 Cn)
end GD
namespace GD
open PySem L2 G
open Fd (Stp Fc Nfs Tr3 Cn)
abbrev q6 (D0 A P : D) (W T : Nat) (fs : Nfs) (n : Int) (s6 s7 s8 s9 s10 s11 s12 : Slot) : Sl := [.va D0, .va A, .va P, .va (.int (W : Nat)), .va (.int (T : Nat)), ownW false 22 (fnL (W : Int) (T : Int) fs n), s6, s7, s8, s9, s10, s11, s12]
end GD
namespace GD
open PySem L2 G
open Fd (Stp Fc Nfs Tr3 Cn)
end GD
namespace GD
open PySem L2 G
open Fd (Stp Fc Nfs Tr3 Cn)
end GD
namespace GD
open PySem L2 G
open Fd (Stp Fc Nfs Tr3 Cn)
section
variable {W T : Nat} {fs : Nfs} {n : Int}
theorem gt_dr (us : List Int) (a k : Nat) : gt (us.drop a) k = gt us (a + k) := by
  unfold gt
  rw [List.getD_eq_getElem?_getD, List.getD_eq_getElem?_getD, List.getElem?_drop]
theorem gt_tk {us : List Int} {a k : Nat} (h : k < a) : gt (us.take a) k = gt us k := by
  unfold gt
  rw [List.getD_eq_getElem?_getD, List.getD_eq_getElem?_getD, List.getElem?_take, if_pos h]
theorem ClN.bits (hW : 1 ≤ W) (hT : 1 ≤ T) {m : Int} {bs : List Int} (c : ClN W T fs n m bs) : Bits bs := fun b hb => by
  obtain ⟨j, hj⟩ := List.getElem?_of_mem hb
  obtain ⟨lt, e⟩ := List.getElem?_eq_some_iff.mp hj
  have e2 := gt_eq lt
  rw [e] at e2
  have l := c.len
  rw [← e2]
  by_cases j0 : j = 0
  · subst j0
    exact c.pl.bs
  · by_cases jw : j < W
    · have := c.pl.bu.get (j - 1)
      rwa [gt_tk (by omega), gt_dr, show 1 + (j - 1) = j by omega] at this
    · have := c.pl.bl.get (j - W)
      rwa [gt_dr, show W + (j - W) = j by omega] at this
end
end GD
namespace GD
open PySem L2 G
open Fd (Stp Fc Nfs Tr3 Cn)
theorem lc_fil {α : Type} (g h : α → D) (P : α → Bool) {tg : Tg} {t : TSm} {e : ES} {ρ : Sl} : ∀ (l : List α) (acc : List D), acc.length + l.length < SZ → (∀ a ∈ l, ∃ ρ1 kd, tgSet tg (g a) ρ = some ρ1 ∧ t ρ1 = .ok (P a) ∧ e ρ1 = .ok (h a, kd) ∧ kd.solid = true) → lcA tg t e ρ acc (l.map g) = .ok (acc ++ (l.filter P).map h)
  | [], acc, _, _ => by simp [lcA]
  | d :: ds, acc, hl, hh => by
    obtain ⟨ρ1, kd, h1, h2, h3, h4⟩ := hh d List.mem_cons_self
    have i1 := lc_fil g h P (tg := tg) (t := t) (e := e) (ρ := ρ) ds (acc ++ [h d]) (by simp at hl ⊢; omega) fun a ha => hh a (List.mem_cons_of_mem _ ha)
    have i2 := lc_fil g h P (tg := tg) (t := t) (e := e) (ρ := ρ) ds acc (by simp at hl ⊢; omega) fun a ha => hh a (List.mem_cons_of_mem _ ha)
    have hl' : acc.length < SZ := by simp at hl; omega
    rw [List.map_cons, List.filter_cons]
    unfold lcA
    rw [h1]
    dsimp only
    rw [h2]
    cases q : P d with
    | true =>
      dsimp only
      rw [h3]
      dsimp only
      rw [h4, decide_eq_true hl']
      show lcA tg t e ρ (acc ++ [h d]) (ds.map g) = _
      rw [i1, if_pos rfl, List.map_cons]
      simp
    | false =>
      show lcA tg t e ρ acc (ds.map g) = _
      rw [i2, if_neg (by decide)]
end GD
namespace GD
open PySem L2 G Turn
def muC (ρ : Sl) : Nat := match ρ[1]? with
  | some (Slot.va (D.int y)) => y.toNat
  | _ => 0
theorem common_turn {a b : Int} (hb : 0 < b) : S__law_common_b1 [.va (.int a), .va (.int b)] = .nx [.va (.int b), .va (.int (a % b))] := by
  simp [S__law_common_b1, hb]
theorem common_ok {a b : Int} (big : b.natAbs < 1000000) : R__law_common [.int a, .int b] = .ok (.int (Int.gcd a b : Nat), false) := by
  obtain ⟨ρ', g1, ⟨x, y, rfl, hx, hy, hg⟩, t1⟩ := sWhile_nx (t := T__law_common_b2) (a := S__law_common_b1) (I := fun ρ => ∃ x y : Int, ρ = [.va (.int x), .va (.int y)] ∧ 0 ≤ x ∧ 0 ≤ y ∧ Int.gcd x y = Int.gcd a b)
    (ρ := [.va (.int (if a < 0 then -a else a)), .va (.int (if b < 0 then -b else b))]) muC (fun ρ ⟨x, y, e, hx, hy, hg⟩ => by
      subst e
      by_cases c : 0 < y
      · right
        have l1 := Int.emod_nonneg x (show y ≠ 0 by omega)
        have l2 := Int.emod_lt_of_pos x c
        refine ⟨by simp [T__law_common_b2, c], _, .inl (common_turn c), ⟨y, x % y, rfl, hy, l1, ?_⟩, ?_⟩
        · rw [← hg]
          show Nat.gcd y.natAbs (x % y).natAbs = Nat.gcd x.natAbs y.natAbs
          have e : (x % y).natAbs = x.natAbs % y.natAbs := by
            obtain ⟨n, rfl⟩ := Int.eq_ofNat_of_zero_le hx
            obtain ⟨m, rfl⟩ := Int.eq_ofNat_of_zero_le hy
            rfl
          rw [e]
          exact (Nat.gcd_comm _ _).trans ((Nat.gcd_rec _ _).symm.trans (Nat.gcd_comm _ _))
        · show (x % y).toNat < y.toNat
          omega
      · left
        simp [T__law_common_b2, c]) ⟨_, _, rfl, by split <;> omega, by split <;> omega, by
      show Nat.gcd _ _ = Nat.gcd a.natAbs b.natAbs
      congr 1 <;> split <;> omega⟩ (by
      show (if b < 0 then -b else b).toNat < 1000000000
      split <;> omega)
  have y0 : y = 0 := by
    by_cases c : 0 < y
    · simp [T__law_common_b2, c] at t1
    · omega
  subst y0
  have hx2 : x = (Int.gcd a b : Nat) := by
    rw [← hg]
    show x = (Nat.gcd x.natAbs 0 : Nat)
    rw [Nat.gcd_zero_right]
    omega
  subst hx2
  simp [R__law_common, denF, slots, S__law_common, sSeq_ap, g1]
section
variable {us ls : List Int}
theorem firsts_len36 (p : Loop us ls) : (firsts us ls).length ≤ 1600 := by
  obtain ⟨f1, f2, f3⟩ := rr_flat p
  obtain ⟨I, _⟩ := rr_all p
  have nd : (firsts us ls).Nodup := I.apart.imp_of_mem fun {a b} ha hb h e => h a (rnd_self p (I.ev a ha).1) (e ▸ rnd_self p (I.ev a ha).1)
  have := Orb.nodup_le nd (L := ptsR us ls) fun x hx => ptsR_mem (I.ev x hx).1
  rw [ptsR_len] at this
  have : us.length * ls.length ≤ 40 * 40 := Nat.mul_le_mul p.u40 p.l40
  omega
noncomputable def wayP (us ls : List Int) (q : Pt) : Pt := (rW us ls q, uW us ls q)
noncomputable def goes (us ls : List Int) : List Pt := (firsts us ls).filter fun q => !decide (wayP us ls q = (0, 0))
theorem ways_lc (p : Loop us ls) (N : D) : eLc (itE false (eFn R_ring_rounds [eVar 1])) (.tup [.one 5, .one 3, .one 4]) (tBl (eBin oNe (eTup [eVar 3, eVar 4]) (eTup [eC (.int 0), eC (.int 0)]))) (eTup [eVar 3, eVar 4]) [5, 3, 4] [.va N, .va (rg us ls), .un, .un, .un, .un] = .ok (.lst ((goes us ls).map fun q => ptD (wayP us ls q)), .fr) := by
  have ro : R_ring_rounds [rg us ls] = .ok (.lst ((firsts us ls).map (oneD us ls)), true) := rounds_ok p
  have fl : (firsts us ls).length < SZ := by
    have := firsts_len36 p
    unfold SZ
    omega
  have lc := lc_fil (oneD us ls) (fun q => ptD (wayP us ls q)) (fun q => !decide (wayP us ls q = (0, 0))) (tg := .tup [.one 5, .one 3, .one 4]) (t := tBl (eBin oNe (eTup [eVar 3, eVar 4]) (eTup [eC (.int 0), eC (.int 0)]))) (e := eTup [eVar 3, eVar 4]) (ρ := [.va N, .va (rg us ls), .un, .un, .un, .un]) (firsts us ls) [] (by show 0 + _ < SZ; omega) fun q hq => by
    have n1 := ne_pt (wayP us ls q) (0, 0)
    have n1 : oNe (.tup [.int (rW us ls q), .int (uW us ls q)]) (.tup [.int 0, .int 0]) = .ok (.bl (!decide (wayP us ls q = (0, 0))), .sh) := n1
    refine ⟨[.va N, .va (rg us ls), .un, .va (.int (rW us ls q)), .va (.int (uW us ls q)), .va (.lst ((rnd us ls q).map ptD))], .sh, rfl, ?_, ?_, rfl⟩
    · have sz : 2 ≤ SZ := by decide
      generalize (rnd us ls q).map ptD = X
      generalize rg us ls = C
      simp [n1, sz]
    · have sz : 2 ≤ SZ := by decide
      show _ = Out.ok (D.tup [.int (rW us ls q), .int (uW us ls q)], Kd.sh)
      generalize (rnd us ls q).map ptD = X
      generalize rg us ls = C
      simp [sz]
  rw [List.nil_append] at lc
  have it : itE false (eFn R_ring_rounds [eVar 1]) [.va N, .va (rg us ls), .un, .un, .un, .un] = .ok ((firsts us ls).map (oneD us ls)) := by
    generalize (firsts us ls).map (oneD us ls) = F at *
    generalize rg us ls = C at *
    simp [ro, itemsOf]
  unfold eLc
  rw [it]
  show (lcA (.tup [.one 5, .one 3, .one 4]) (tBl (eBin oNe (eTup [eVar 3, eVar 4]) (eTup [eC (.int 0), eC (.int 0)]))) (eTup [eVar 3, eVar 4]) [.va N, .va (rg us ls), .un, .un, .un, .un] [] ((firsts us ls).map (oneD us ls))).bind _ = _
  rw [lc]
  rfl
theorem b1_36 {N C : D} {L : List D} {r u : Int} {w0 : Pt} {s5 : Slot} (ix : oIx (.lst L) (.int 0) = .ok (ptD w0, .sh)) (hw : (r, u) = w0 ∨ (-r, -u) = w0) (cm : R__law_common [.int r, .int u] = .ok (.int 1, false)) :
    S_law_k36_b1 [.va N, .va C, .va (.lst L), .va (.int r), .va (.int u), s5] = .nx [.va N, .va C, .va (.lst L), .va (.int r), .va (.int u), s5] := by
  have n1 : oNe (.tup [.int r, .int u]) (ptD w0) = .ok (.bl (!decide ((r, u) = w0)), .sh) := ne_pt (r, u) w0
  have n2 : oNe (.tup [.int (-r), .int (-u)]) (ptD w0) = .ok (.bl (!decide ((-r, -u) = w0)), .sh) := ne_pt (-r, -u) w0
  have sz : 2 ≤ SZ := by decide
  generalize ptD w0 = P0 at *
  rcases hw with e | e
  · rw [decide_eq_true e] at n1
    simp [S_law_k36_b1, sSeq_ap, ix, n1, cm, sz]
  · rw [decide_eq_true e] at n2
    generalize decide ((r, u) = w0) = b at *
    cases b <;> simp [S_law_k36_b1, sSeq_ap, ix, n1, n2, cm, sz]
theorem goes_ok (p : Loop us ls) {fr : D} : ∃ s3 s4, forL (.tup [.one 3, .one 4]) S_law_k36_b1 ((goes us ls).map fun q => ptD (wayP us ls q)) [.va fr, .va (rg us ls), .va (.lst ((goes us ls).map fun q => ptD (wayP us ls q))), .un, .un, .un] = .nx [.va fr, .va (rg us ls), .va (.lst ((goes us ls).map fun q => ptD (wayP us ls q))), s3, s4, .un] := by
  obtain ⟨I, _⟩ := rr_all p
  have gm : ∀ q ∈ goes us ls, InR us ls q ∧ (q.1 + q.2) % 2 = 0 ∧ ¬ (rW us ls q = 0 ∧ uW us ls q = 0) := fun q hq => by
    obtain ⟨m, ne⟩ := List.mem_filter.mp hq
    obtain ⟨hi, ev⟩ := I.ev q m
    refine ⟨hi, ev, fun z => ?_⟩
    have : wayP us ls q = (0, 0) := Prod.ext z.1 z.2
    rw [decide_eq_true this] at ne
    cases ne
  obtain ⟨ρ', g1, s3, s4, rfl⟩ := forL_nx (tg := .tup [.one 3, .one 4]) (a := S_law_k36_b1) (I := fun k ρ => ∃ s3 s4, ρ = [.va fr, .va (rg us ls), .va (.lst ((goes us ls).map fun q => ptD (wayP us ls q))), s3, s4, .un])
    (ds := (goes us ls).map fun q => ptD (wayP us ls q)) (k := 0) (ρ := [.va fr, .va (rg us ls), .va (.lst ((goes us ls).map fun q => ptD (wayP us ls q))), .un, .un, .un]) ⟨.un, .un, rfl⟩ (fun j d ρ hd ⟨s3, s4, e⟩ => by
    subst e
    obtain ⟨q, hq, rfl⟩ := map_get hd
    have qm := List.mem_of_getElem? hq
    obtain ⟨hi, ev, ne⟩ := gm q qm
    obtain ⟨q0, h0⟩ : ∃ q0, (goes us ls)[0]? = some q0 := by
      have := (List.getElem?_eq_some_iff.mp hq).1
      exact ⟨_, List.getElem?_eq_getElem (by omega)⟩
    obtain ⟨hi0, ev0, ne0⟩ := gm q0 (List.mem_of_getElem? h0)
    have al := way_alike p hi0 ev0 hi ev ne0 ne
    have g1 := way_one p hi ev ne
    have ub : (uW us ls q).natAbs < 1000000 := by
      have sb := (sum_bound p hi ev (per us ls q)).1
      have pl := (per_ok p hi).2.1
      have ud : uW us ls q * ls.length = usum us ls q (per us ls q) := usum_div p hi
      have l2 := p.l2
      have e : (uW us ls q).natAbs * (ls.length : Int).natAbs = (usum us ls q (per us ls q)).natAbs := by rw [← Int.natAbs_mul, ud]
      have le : (uW us ls q).natAbs ≤ (uW us ls q).natAbs * (ls.length : Int).natAbs := Nat.le_mul_of_pos_right _ (by omega)
      omega
    have cm := common_ok (a := rW us ls q) ub
    rw [g1] at cm
    have ix : oIx (.lst ((goes us ls).map fun q => ptD (wayP us ls q))) (.int 0) = .ok (ptD (wayP us ls q0), .sh) := oIx_n (n := 0) (by rw [List.getElem?_map, h0]; rfl)
    have b := b1_36 (N := fr) (C := rg us ls) (s5 := .un) ix (r := rW us ls q) (u := uW us ls q) (by
      unfold wayP
      rcases al with ⟨a1, a2⟩ | ⟨a1, a2⟩
      · exact .inl (by rw [a1, a2])
      · exact .inr (by rw [a1, a2, Int.neg_neg, Int.neg_neg])) cm
    exact ⟨_, _, rfl, .inl b, _, _, rfl⟩)
  exact ⟨s3, s4, g1⟩
end
theorem k36_all {N ZS LP C : D} {L : List D} {s3 s4 : Slot} (d1 : R__law_draws [N, .int 11] = .ok (ZS, true)) (lo : R__law_loop [ZS] = .ok (LP, false)) (rl : R__law_ring [LP] = .ok (C, true))
    (lc : eLc (itE false (eFn R_ring_rounds [eVar 1])) (.tup [.one 5, .one 3, .one 4]) (tBl (eBin oNe (eTup [eVar 3, eVar 4]) (eTup [eC (.int 0), eC (.int 0)]))) (eTup [eVar 3, eVar 4]) [5, 3, 4] [.va N, .va C, .un, .un, .un, .un] = .ok (.lst L, .fr))
    (g : forL (.tup [.one 3, .one 4]) S_law_k36_b1 L [.va N, .va C, .va (.lst L), .un, .un, .un] = .nx [.va N, .va C, .va (.lst L), s3, s4, .un]) : R_law_k36 [N] = .ok (.bl true, false) := by
  generalize hE : eLc (itE false (eFn R_ring_rounds [eVar 1])) (.tup [.one 5, .one 3, .one 4]) (tBl (eBin oNe (eTup [eVar 3, eVar 4]) (eTup [eC (.int 0), eC (.int 0)]))) (eTup [eVar 3, eVar 4]) [5, 3, 4] = E at *
  have un : S_law_k36 = sSeq (G.sAsg false 1 (eFn R__law_ring [eFn R__law_loop [eFn R__law_draws [eVar 0, eC (.int 11)]]])) (sSeq (G.sAsg false 2 E) (sSeq (G.sFor (itE true (eVar 2)) (.tup [.one 3, .one 4]) S_law_k36_b1) (sRet (eC (.bl true))))) := by rw [← hE]; rfl
  simp [R_law_k36, denF, slots, un, sSeq_ap, sFor_ap, d1, lo, rl, lc, itemsOf, g]
theorem law_k36 {ns : List Int} (hns : ns.length ≤ 63) : R_law_k36 [.frl ns] = .ok (.bl true, false) := by
  obtain ⟨zs, d1, d2, d3⟩ := draws (n := 11) hns (by omega) (by omega)
  obtain ⟨us, ls, hL, p⟩ := loop_ok (zs := zs) (by omega)
  obtain ⟨s3, s4, g⟩ := goes_ok p (fr := .frl ns)
  exact k36_all d1 hL (ring_law p) (ways_lc p _) g
end GD
namespace K36
open PySem L2 G
theorem main (ns : List Int) (h : ns.length ≤ 63) : GD.R_law_k36 [.frl ns] = .ok (.bl true, false) := GD.law_k36 h
end K36
open PySem PySem.W PySem.Calls PyProof.Rows
theorem PySem.Challenge.cw_sashiko_k36_whole_rounds_go_alike_holds : PySem.Challenge.rw_sashiko_k36_whole_rounds_go_alike.Holds := by
  w_on; o_law
  refine HandSHeadRun.head_any (r := OpenLaw.row PySem.Challenge.rw_sashiko_k36_whole_rounds_go_alike) (q := view (OpenLaw.row PySem.Challenge.rw_sashiko_k36_whole_rounds_go_alike).prog [21]) (H := K36.hk) (ob := K36.ob) (M := 6000) (loose := K36.loose) (d := HandSHeadRun.topDef (OpenLaw.row PySem.Challenge.rw_sashiko_k36_whole_rounds_go_alike).prog 21) (kwd := []) K36.ob_eq
    (by kernel_rfl) (fun s => by kernel_rfl) K36.run (by kernel_rfl) (by kernel_rfl) (by kernel_rfl) (by rfl) (by first | assumption | decide +kernel) (by decide +kernel) ⟨rfl, rfl, rfl, rfl, rfl, by decide +kernel⟩ ?hw ?hc
  case hw => w_witness2
  case hc =>
    refine L2.walk_ofE (l := PySem.Challenge.rw_sashiko_k36_whole_rounds_go_alike) (n := 63) (k := 6) (x := "_law_script") (CX := G.CXW (PySem.Challenge.rw_sashiko_k36_whole_rounds_go_alike).prog) rfl (by decide) (by kernel_rfl) ⟨rfl, by decide, by decide⟩ ?F G.cxw_never
    intro w mg fa h Y G hmg0
    obtain ⟨K, KX, c⟩ := Y
    have hmg : mg ("law" : PySem.Str) = some (.ref fa) := by
      have e : (HandSHeadRun.topDef (OpenLaw.row PySem.Challenge.rw_sashiko_k36_whole_rounds_go_alike).prog 21).name = ("law" : PySem.Str) := by kernel_rfl
      rw [← e]
      exact hmg0
    obtain ⟨fd, sp, hb, h1, hF⟩ := K36.pre K36.main w mg fa h K KX G c hmg
    exact ⟨K, fd, sp, KX, hb, h1, hF⟩
