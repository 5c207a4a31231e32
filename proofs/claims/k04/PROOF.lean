import PyProof.Rows.All
import Wide.All
import OpenK.AllK
import Wide.FinOn
import HandS.Text
import HandS.ForMost
import HandS.ForExc
import HandS.ExcInit
import HandS.ExcIs
import HandS.IsInst
import HandS.ExcField
import HandS.Flow
import HandS.Wide
import HandS.Iter
import HandS.Zip
import HandS.TupAny
import KE.KExcIs
import HandS.RaiseMore
import HandS.Small
import HandS.SortInts
import PyProof.ReprRoads
import HandS.TryOnly
import HandS.FStr
import HandS.HeadHook1
import HandS.Ends
import HandS.HeadHook2
import HandS.Head0
import HandS.Head1
import HandS.Head2
import HandS.HeadEnd
import KE.KIntText
import PySem.Challenge.RW_planless_k04_numbers_written_and_read
set_option Elab.async false
set_option linter.all false
set_option maxRecDepth 1000000
set_option maxHeartbeats 0
/-! The evaluator: programs of a small part of Python over plain data. No model here. -/
namespace G
open PySem (Str)

/-- plain data: what never changes -/
inductive D where
  | non | bl (b : Bool) | int (i : Int) | str (s : Str)
  | tup (xs : List D) | lst (xs : List D)
  | dct (ks vs : List D)
  | obj (c : Nat) (ns : List Nat) (vs : List D)
  | exc (c : Nat) (ns : List Nat) (vs : List D)
  deriving Inhabited
mutual
def D.beq : D → D → Bool
  | .non, .non => true
  | .bl a, .bl b => a == b
  | .int a, .int b => decide (a = b)
  | .str a, .str b => decide (a = b)
  | .tup a, .tup b => D.beqs a b
  | .lst a, .lst b => D.beqs a b
  | .dct k v, .dct k' v' => D.beqs k k' && D.beqs v v'
  | .obj c n v, .obj c' n' v' => decide (c = c') && decide (n = n') && D.beqs v v'
  | .exc c n v, .exc c' n' v' => decide (c = c') && decide (n = n') && D.beqs v v'
  | _, _ => false
def D.beqs : List D → List D → Bool
  | [], [] => true
  | a :: as, b :: bs => D.beq a b && D.beqs as bs
  | _, _ => false
end
mutual
theorem D.beq_iff : ∀ a b : D, D.beq a b = true ↔ a = b
  | .non, b => by cases b <;> simp [D.beq]
  | .bl a, b => by cases b <;> simp [D.beq]
  | .int a, b => by cases b <;> simp [D.beq]
  | .str a, b => by cases b <;> simp [D.beq]
  | .tup a, b => by cases b <;> simp [D.beq, D.beqs_iff a]
  | .lst a, b => by cases b <;> simp [D.beq, D.beqs_iff a]
  | .dct k v, b => by cases b <;> simp [D.beq, D.beqs_iff k, D.beqs_iff v]
  | .obj c n v, b => by cases b <;> simp [D.beq, D.beqs_iff v, and_assoc]
  | .exc c n v, b => by cases b <;> simp [D.beq, D.beqs_iff v, and_assoc]
theorem D.beqs_iff : ∀ a b : List D, D.beqs a b = true ↔ a = b
  | [], b => by cases b <;> simp [D.beqs]
  | a :: as, b => by cases b <;> simp [D.beqs, D.beq_iff a, D.beqs_iff as]
end
instance : DecidableEq D := fun a b => if h : D.beq a b = true then isTrue ((D.beq_iff a b).mp h) else isFalse fun e => h ((D.beq_iff a b).mpr e)
/-- a value: plain, a place of the memory, a tuple of such -/
inductive W where
  | p (d : D) | loc (l : Nat) | tp (ws : List W)
  deriving Inhabited
mutual
def W.beq : W → W → Bool
  | .p a, .p b => decide (a = b)
  | .loc a, .loc b => decide (a = b)
  | .tp a, .tp b => W.beqs a b
  | _, _ => false
def W.beqs : List W → List W → Bool
  | [], [] => true
  | a :: as, b :: bs => W.beq a b && W.beqs as bs
  | _, _ => false
end
mutual
theorem W.beq_iff : ∀ a b : W, W.beq a b = true ↔ a = b
  | .p a, b => by cases b <;> simp [W.beq]
  | .loc a, b => by cases b <;> simp [W.beq]
  | .tp a, b => by cases b <;> simp [W.beq, W.beqs_iff a]
theorem W.beqs_iff : ∀ a b : List W, W.beqs a b = true ↔ a = b
  | [], b => by cases b <;> simp [W.beqs]
  | a :: as, b => by cases b <;> simp [W.beqs, W.beq_iff a, W.beqs_iff as]
end
instance : DecidableEq W := fun a b => if h : W.beq a b = true then isTrue ((W.beq_iff a b).mp h) else isFalse fun e => h ((W.beq_iff a b).mpr e)
inductive Cell where
  | lst (ws : List W) | ins (c : Nat) (ns : List Nat) (ws : List W) | dic (ks : List D) (ws : List W) | fz (d : D)
  deriving Inhabited, DecidableEq
abbrev Mem := List Cell
abbrev Env := List (Option W)
inductive Res (α : Type) where
  | ok (a : α) (M : Mem) | exc (c : Nat) (ns : List Nat) (vs : List D) (M : Mem) | bad
inductive SR where
  | nx (env : Env) (M : Mem) | rt (w : W) (M : Mem) | bk (env : Env) (M : Mem) | ct (env : Env) (M : Mem)
  | exc (c : Nat) (ns : List Nat) (vs : List D) (env : Env) (M : Mem) | bad

def Res.bind {α β : Type} : Res α → (α → Mem → Res β) → Res β
  | .ok a M, f => f a M
  | .exc c ns vs M, _ => .exc c ns vs M
  | .bad, _ => .bad
@[simp] theorem Res.bind_ok {α β : Type} (a : α) (M : Mem) (f : α → Mem → Res β) : (Res.ok a M).bind f = f a M := rfl
@[simp] theorem Res.bind_exc {α β : Type} (c ns vs) (M : Mem) (f : α → Mem → Res β) : (Res.exc c ns vs M : Res α).bind f = .exc c ns vs M := rfl
@[simp] theorem Res.bind_bad {α β : Type} (f : α → Mem → Res β) : (Res.bad : Res α).bind f = .bad := rfl
def Res.of {α : Type} (o : Option α) (M : Mem) : Res α := match o with
  | some a => .ok a M
  | none => .bad
@[simp] theorem Res.of_some {α : Type} (a : α) (M : Mem) : Res.of (some a) M = .ok a M := rfl
@[simp] theorem Res.of_none {α : Type} (M : Mem) : (Res.of none M : Res α) = .bad := rfl

inductive Bop where
  | add | sub | mul | fdiv | mod | pow
  deriving DecidableEq
inductive Cop where
  | eq | ne | lt | le | gt | ge | is | isn | inn | nin
  deriving DecidableEq
inductive Blt where
  | len | int | abs | tuple | list | bool | repr | all | any | sum | max | min | sorted | str
  deriving DecidableEq
inductive Mth where
  | partition | find | split | join
  deriving DecidableEq
inductive TyC where
  | own (c : Nat) | int | bool | str | list | tuple | dict | verr | oerr (n : String)
  deriving DecidableEq

/-- a target: a name, or targets in brackets -/
inductive Tg where
  | nm (i : Nat) | tp (ts : List Tg)
mutual
def Tg.vars : Tg → List Nat
  | .nm i => [i]
  | .tp ts => Tg.varsL ts
def Tg.varsL : List Tg → List Nat
  | [] => []
  | t :: ts => Tg.vars t ++ Tg.varsL ts
end
inductive Ex where
  | var (i : Nat) | frz (i : Nat)
  | int (i : Int) | str (s : Str) | bl (b : Bool) | non
  | glob (g : Nat)
  | tup (es : List Ex) | lst (es : List Ex) | lstL (es : List Ex)
  | dct (ks vs : List Ex)
  | bin (o : Bop) (a b : Ex) | neg (a : Ex) | not (a : Ex)
  | cmp (o : Cop) (a b : Ex)
  | and (a b : Ex) | or (a b : Ex) | ite (c a b : Ex)
  | idx (a i : Ex) | slc (a : Ex) (lo hi : List Ex)
  | att (a : Ex) (f : Nat)
  | mth (m : Mth) (o a : Ex)
  | fstr (es : List Ex) | fmt (a : Ex)
  | call (f : Nat) (args : List Ex) (kws : List Ex) (perm : List Nat)
  | blt (b : Blt) (args : List Ex)
  | isi (a : Ex) (cs : List TyC)
  | comp (elt : Ex) (own : List Nat) (t : Tg) (it : Ex) (ifs : List Ex)
  | it (a : Ex) | rng1 (a : Ex) | rng2 (a b : Ex) | enum (a : Ex) | zip (a b : Ex)
inductive St where
  | asg (i : Nat) (e : Ex)
  | asgT (t : Tg) (e : Ex)
  | par (i j : Nat) (a b : Ex)
  | setIdx (o i e : Ex)
  | ifs (c : Ex) (a b : List St)
  | for_ (t : Tg) (it : Ex) (body : List St)
  | while_ (c : Ex) (body : List St)
  | ret (e : Ex) | retN
  | expr (e : Ex)
  | app (o e : Ex)
  | raise (c : Nat) (args kws : List Ex) (perm : List Nat)
  | try_ (body : List St) (hcs : List (Nat × Option Nat)) (suites : List (List St))
  | pass | brk | cnt

structure FnDef where
  par : Nat
  slots : Nat
  pop : Bool
  body : List St
/-- a class of the text: those above it (and it), its instances' attributes, whether it is an exception's -/
structure ClsDef where
  anc : List Nat
  flds : List Nat
  isX : Bool
structure Prog where
  fn : Nat → Option FnDef
  clsL : List (Nat × ClsDef)
  glob : Nat → Option D
  isis : List TyC
  fuel : Nat
def Prog.cls (P : Prog) (c : Nat) : Option ClsDef := P.clsL.lookup c
abbrev Calls := Nat → List W → Mem → Res W

/-! ### values -/
def W.pures : List W → Option (List D)
  | [] => some []
  | .p d :: r => match W.pures r with
    | some ds => some (d :: ds)
    | none => none
  | _ :: _ => none
def W.items (M : Mem) : W → Option (List W)
  | .p (.tup ds) => some (ds.map .p)
  | .p (.lst ds) => some (ds.map .p)
  | .p _ => none
  | .tp ws => some ws
  | .loc l => match M[l]? with
    | some (.lst ws) => some ws
    | some (.fz (.lst ds)) => some (ds.map .p)
    | _ => none
/-- a value as plain data, read now -/
def W.view (M : Mem) : W → Option D
  | .p d => some d
  | .tp _ => none
  | .loc l => match M[l]? with
    | some (.lst ws) => (W.pures ws).map .lst
    | some (.fz d) => some d
    | _ => none
def mkTup (ws : List W) : W := match W.pures ws with
  | some ds => .p (.tup ds)
  | none => .tp ws
def mkLst (ws : List W) : Option W := (W.pures ws).map fun ds => .p (.lst ds)
def D.ints : List D → Option (List Int)
  | [] => some []
  | .int i :: r => (D.ints r).map (i :: ·)
  | _ :: _ => none
def D.bls : List D → Option (List Bool)
  | [] => some []
  | .bl i :: r => (D.bls r).map (i :: ·)
  | _ :: _ => none
def W.bls : List W → Option (List Bool)
  | [] => some []
  | .p (.bl b) :: r => (W.bls r).map (b :: ·)
  | _ :: _ => none
def truD : D → Option Bool
  | .non => some false
  | .bl b => some b
  | .int i => some (i != 0)
  | .str s => if s.length ≤ 100000 then some (s.length != 0) else none
  | .tup xs => some !xs.isEmpty
  | .lst xs => some !xs.isEmpty
  | _ => none
def tru (M : Mem) (w : W) : Option Bool := match w with
  | .p d => truD d
  | .tp ws => some !ws.isEmpty
  | .loc l => match M[l]? with
    | some (.lst ws) => some !ws.isEmpty
    | some (.fz (.lst ds)) => some !ds.isEmpty
    | _ => none
/-! Python's == of plain data: True is 1 -/
mutual
def nrm : D → D
  | .bl b => .int (if b then 1 else 0)
  | .tup xs => .tup (nrms xs)
  | .lst xs => .lst (nrms xs)
  | d => d
def nrms : List D → List D
  | [] => []
  | d :: r => nrm d :: nrms r
end
mutual
def plain : Nat → D → Bool
  | _, .non => true
  | _, .bl _ => true
  | _, .int _ => true
  | _, .str s => PySem.PyData.strOk s
  | n, .tup xs => match n with
    | 0 => false
    | n + 1 => plains n xs
  | n, .lst xs => match n with
    | 0 => false
    | n + 1 => plains n xs
  | _, _ => false
def plains : Nat → List D → Bool
  | _, [] => true
  | n, d :: r => plain n d && plains n r
end
def eqP (a b : D) : Option Bool := if plain 60 a && plain 60 b then some (decide (nrm a = nrm b)) else none
def eqD (a b : D) : Option Bool := match a, b with
  | .str x, .str y => some (decide (x = y))
  | a, b => eqP a b
def flat : D → Bool
  | .non | .bl _ | .int _ | .str _ => true
  | _ => false
def isNon : W → Bool
  | .p .non => true
  | _ => false
def memD (d : D) (ds : List D) : Option Bool := if flat d && ds.all flat then some (decide (nrm d ∈ nrms ds)) else none
def cmpD (o : Cop) (a b : D) : Option Bool := match o, a, b with
  | .eq, a, b => eqD a b
  | .ne, a, b => (eqD a b).map (!·)
  | .lt, .int i, .int j => some (decide (i < j))
  | .le, .int i, .int j => some (decide (i ≤ j))
  | .gt, .int i, .int j => some (decide (j < i))
  | .ge, .int i, .int j => some (decide (j ≤ i))
  | .inn, .str x, .str z => (match x.cps.toList with
    | [c] => if decide (x = ⟨#[c]⟩) then some (decide (c ∈ z.cps.toList)) else none
    | _ => none)
  | .inn, d, .tup ds => memD d ds
  | .inn, d, .lst ds => memD d ds
  | .nin, d, .tup ds => (memD d ds).map (!·)
  | .nin, d, .lst ds => (memD d ds).map (!·)
  | _, _, _ => none
def cmpW (M : Mem) (o : Cop) (a b : W) : Option Bool := match o with
  | .is => if isNon b then some (isNon a) else none
  | .isn => if isNon b then some (!isNon a) else none
  | o => match a.view M, b.view M with
    | some x, some y => cmpD o x y
    | _, _ => none
def small64 (i : Int) : Bool := decide (-(2 ^ 64) < i) && decide (i < 2 ^ 64)
def mulOk (i j : Int) : Bool := small64 i || small64 j || decide (i.natAbs.log2 + j.natAbs.log2 < 1000000)
def szOk (n : Nat) : Bool := decide (n ≤ 100000)
def binD (o : Bop) (a b : D) : Option D := match o, a, b with
  | .add, .int i, .int j => some (.int (i + j))
  | .add, .str x, .str y => if szOk (x.length + y.length) then some (.str (x ++ y)) else none
  | .add, .tup x, .tup y => if szOk (x.length + y.length) then some (.tup (x ++ y)) else none
  | .add, .lst x, .lst y => if szOk (x.length + y.length) then some (.lst (x ++ y)) else none
  | .sub, .int i, .int j => some (.int (i - j))
  | .mul, .int i, .int j => if mulOk i j then some (.int (i * j)) else none
  | .fdiv, .int i, .int j => if decide (0 < j) && decide (j.natAbs.log2 < 9000) then some (.int (i / j)) else none
  | .mod, .int i, .int j => if decide (0 < j) then some (.int (i % j)) else none
  | .pow, .int i, .int j => if decide (0 ≤ j) && decide (j ≤ 1000000) && decide (i.natAbs < 2 ^ 64) then some (.int (i ^ j.toNat)) else none
  | _, _, _ => none
def binW (M : Mem) (o : Bop) (a b : W) : Option W := match a.view M, b.view M with
  | some x, some y => (binD o x y).map .p
  | _, _ => none
def ixI (n : Nat) (i : Int) : Option Nat := if 0 ≤ i then (if i < n then some i.toNat else none) else if -(n : Int) ≤ i then some (i + n).toNat else none
def at? {α : Type} (xs : List α) (i : Int) : Option α := (ixI xs.length i).bind fun j => xs[j]?
def idxW (M : Mem) (a i : W) : Option W := match i with
  | .p (.int k) => match a with
    | .p (.str z) => if szOk z.length then (at? z.cps.toList k).map fun c => .p (.str ⟨#[c]⟩) else none
    | a => match a.items M with
      | some ws => at? ws k
      | none => none
  | _ => none
def cutPt (n d : Nat) : Option Int → Nat
  | none => d
  | some v => if v < 0 then (v + (n : Int)).toNat else min v.toNat n
def cutL {α : Type} (xs : List α) (lo hi : Option Int) : List α := (xs.drop (cutPt xs.length 0 lo)).take (cutPt xs.length xs.length hi - cutPt xs.length 0 lo)
def oneInt : List W → Option (Option Int)
  | [] => some none
  | [.p (.int i)] => some (some i)
  | _ => none
def slcW (M : Mem) (a : W) (l h : Option Int) : Option W := match a.view M with
  | some (.str z) => if szOk z.length then some (.p (.str (L2.cutS z l h))) else none
  | some (.lst ds) => some (.p (.lst (cutL ds l h)))
  | some (.tup ds) => some (.p (.tup (cutL ds l h)))
  | _ => none
def lookF {α : Type} (f : Nat) : List Nat → List α → Option α
  | n :: ns, v :: vs => if n = f then some v else lookF f ns vs
  | _, _ => none
/-- an attribute of the class's instances -/
def fldOk (P : Prog) (c f : Nat) (isX : Bool) : Bool := match P.cls c with
  | some k => k.flds.contains f && (k.isX == isX)
  | none => false
def attW (P : Prog) (M : Mem) (a : W) (f : Nat) : Option W := match a with
  | .p (.obj c ns vs) => if fldOk P c f false then (lookF f ns vs).map .p else none
  | .p (.exc c ns vs) => if fldOk P c f true then (lookF f ns vs).map .p else none
  | .loc l => match M[l]? with
    | some (.ins c ns ws) => if fldOk P c f false then lookF f ns ws else none
    | some (.fz (.obj c ns vs)) => if fldOk P c f false then (lookF f ns vs).map .p else none
    | _ => none
  | _ => none
inductive Ty where
  | non | bool | int | str | tup | lst | dct | own (c : Nat)
def ownTy (P : Prog) (c : Nat) (isX : Bool) : Option Ty := match P.cls c with
  | some k => if k.isX == isX then some (.own c) else none
  | none => none
def tyD (P : Prog) : D → Option Ty
  | .non => some .non
  | .bl _ => some .bool
  | .int _ => some .int
  | .str _ => some .str
  | .tup _ => some .tup
  | .lst _ => some .lst
  | .dct _ _ => some .dct
  | .obj c _ _ => ownTy P c false
  | .exc c _ _ => ownTy P c true
def tyW (P : Prog) (M : Mem) : W → Option Ty
  | .p d => tyD P d
  | .tp _ => some .tup
  | .loc l => match M[l]? with
    | some (.lst _) => some .lst
    | some (.fz d) => tyD P d
    | some (.ins c _ _) => ownTy P c false
    | some (.dic _ _) => some .dct
    | none => none
def isT (P : Prog) : Ty → TyC → Bool
  | .int, .int => true
  | .bool, .int => true
  | .bool, .bool => true
  | .str, .str => true
  | .lst, .list => true
  | .tup, .tuple => true
  | .dct, .dict => true
  | .own c, .own c' => match P.cls c with
    | some k => k.anc.contains c'
    | none => false
  | .own c, .verr => match P.cls c with
    | some k => k.isX
    | none => false
  | _, _ => false
def isiW (P : Prog) (M : Mem) (a : W) (cs : List TyC) : Option Bool := (tyW P M a).map fun t => cs.any (isT P t)
def enumW : Nat → List W → List W
  | _, [] => []
  | k, w :: r => mkTup [.p (.int k), w] :: enumW (k + 1) r
def zipW : List W → List W → List W
  | a :: r, b :: s => mkTup [a, b] :: zipW r s
  | _, _ => []
def rngW (lo hi : Int) : List W := (List.range (hi - lo).toNat).map fun (k : Nat) => .p (.int (lo + k))
/- the text of plain data -/
mutual
def toPy : D → PySem.PyData
  | .bl b => .bool b
  | .int i => .int i
  | .str s => .str s
  | .tup xs => .tuple (toPys xs)
  | .lst xs => .list (toPys xs)
  | .dct ks vs => .dict ((toPys ks).zip (toPys vs))
  | _ => .none
def toPys : List D → List PySem.PyData
  | [] => []
  | d :: r => toPy d :: toPys r
end
mutual
def showOk : Nat → D → Bool
  | _, .non => true
  | _, .bl _ => true
  | _, .int i => decide (i.natAbs.log2 < 1920)
  | _, .str _ => true
  | n, .tup xs => match n with
    | 0 => false
    | n + 1 => showOks n xs
  | n, .lst xs => match n with
    | 0 => false
    | n + 1 => showOks n xs
  | n, .dct ks vs => match n with
    | 0 => false
    | n + 1 => showOks n ks && showOks n vs && decide (ks.length = vs.length)
  | _, _ => false
def showOks : Nat → List D → Bool
  | _, [] => true
  | n, d :: r => showOk n d && showOks n r
end
def reprD (d : D) : Str := (toPy d).shown
def ins (x : Int) : List Int → List Int
  | [] => [x]
  | y :: r => if x ≤ y then x :: y :: r else y :: ins x r
def isort : List Int → List Int
  | [] => []
  | x :: r => ins x (isort r)
def bltW (M : Mem) (b : Blt) (as : List W) : Option W := match b, as with
  | .len, [a] => match a with
    | .p (.str s) => if s.length ≤ 100000 then some (.p (.int s.length)) else none
    | a => (a.items M).map fun ws => .p (.int ws.length)
  | .int, [.p (.int i)] => some (.p (.int i))
  | .int, [.p (.bl b)] => some (.p (.int (if b then 1 else 0)))
  | .abs, [.p (.int i)] => some (.p (.int (if i < 0 then -i else i)))
  | .tuple, [a] => (a.items M).map mkTup
  | .list, [a] => (a.items M).bind mkLst
  | .int, [.p (.str s)] => if decide (s.length ≤ 640) then (PySem.intText? s).map fun i => .p (.int i) else none
  | .str, [.p (.int i)] => if decide (i.natAbs.log2 < 1920) then some (.p (.str (toString i))) else none
  | .str, [.p (.str s)] => some (.p (.str s))
  | .bool, [.p (.bl b)] => some (.p (.bl b))
  | .bool, [.p (.int i)] => some (.p (.bl (i != 0)))
  | .repr, [a] => match a.view M with
    | some d => if showOk 60 d && szOk (reprD d).length then some (.p (.str (reprD d))) else none
    | none => none
  | .all, [a] => match a.view M with
    | some (.lst ds) => (D.bls ds).map fun bs => .p (.bl (bs.all id))
    | _ => none
  | .any, [a] => match a.view M with
    | some (.lst ds) => (D.bls ds).map fun bs => .p (.bl (bs.any id))
    | _ => none
  | .sum, [a] => match a.view M with
    | some (.lst ds) => (D.ints ds).map fun is => .p (.int is.sum)
    | _ => none
  | .sorted, [a] => match a.view M with
    | some (.lst ds) => (D.ints ds).map fun is => .p (.lst ((isort is).map D.int))
    | _ => none
  | .max, [.p (.int i), .p (.int j)] => some (.p (.int (if j > i then j else i)))
  | .min, [.p (.int i), .p (.int j)] => some (.p (.int (if j < i then j else i)))
  | _, _ => none
def D.strs : List D → Option (List Str)
  | [] => some []
  | .str i :: r => (D.strs r).map (i :: ·)
  | _ :: _ => none
/-- a text's methods -/
def mthW (m : Mth) (s : Str) (y : W) : Option W := match m, y with
  | .partition, .p (.str b) => if !(b.length == 0) && szOk s.length then some (.p (.tup [.str (PySem.Txt.partition s b).1, .str (PySem.Txt.partition s b).2.1, .str (PySem.Txt.partition s b).2.2])) else none
  | .find, .p (.str b) => some (.p (.int (PySem.Txt.find s b)))
  | .split, .p (.str b) => if !(b.length == 0) && szOk s.length then some (.p (.lst ((PySem.Txt.split s b).map D.str))) else none
  | .join, .p (.lst ds) => match D.strs ds with
    | some ys => if szOk ((ys.map (·.length)).sum + ys.length * s.length) then some (.p (.str (PySem.Txt.join s ys))) else none
    | none => none
  | .join, .p (.tup ds) => match D.strs ds with
    | some ys => if szOk ((ys.map (·.length)).sum + ys.length * s.length) then some (.p (.str (PySem.Txt.join s ys))) else none
    | none => none
  | _, _ => none
def fmtW : W → Option W
  | .p (.int i) => if decide (i.natAbs.log2 < 1920) then some (.p (.str (toString i))) else none
  | .p (.str s) => if szOk s.length then some (.p (.str s)) else none
  | _ => none
/-- what is walked through must not change meanwhile -/
def fixW : W → Option (List W)
  | .p (.tup ds) => some (ds.map .p)
  | .p (.lst ds) => some (ds.map .p)
  | .tp ws => some ws
  | _ => none
/-- what is walked through: texts, too -/
def iterW : W → Option (List W)
  | .p (.str z) => if szOk z.length then some (z.cps.toList.map fun c => .p (.str ⟨#[c]⟩)) else none
  | w => fixW w
def lstW : W → Option (List W)
  | .p (.lst ds) => some (ds.map .p)
  | _ => none
def tupW : W → Option (List W)
  | .p (.tup ds) => some (ds.map .p)
  | .tp ws => some ws
  | _ => none
def zipItems (a b : W) : Option (List W × List W) := match lstW a, lstW b with
  | some x, some y => some (x, y)
  | _, _ => match tupW a, tupW b with
    | some x, some y => some (x, y)
    | _, _ => none
def Res.noX {α : Type} : Res α → Res α
  | .exc _ _ _ _ => .bad
  | r => r
@[simp] theorem Res.noX_ok {α : Type} (a : α) (M : Mem) : (Res.ok a M).noX = .ok a M := rfl
@[simp] theorem Res.noX_bad {α : Type} : (Res.bad : Res α).noX = .bad := rfl
@[simp] theorem Res.noX_exc {α : Type} (c ns vs) (M : Mem) : (Res.exc c ns vs M : Res α).noX = .bad := rfl
def getV (env : Env) (i : Nat) : Option W := match env[i]? with
  | some (some w) => some w
  | _ => none
def rd (M : Mem) (w : W) : W := match w with
  | .loc l => match M[l]? with
    | some (.fz d) => .p d
    | _ => w
  | w => w
/- what stands at a place, from now on fixed -/
mutual
def frzW : Nat → Mem → W → Option (D × Mem)
  | _, M, .p d => some (d, M)
  | 0, _, _ => none
  | n + 1, M, .tp ws => (frzWs n M ws).map fun r => (.tup r.1, r.2)
  | n + 1, M, .loc l => match M[l]? with
    | some (.fz d) => some (d, M)
    | some (.lst ws) => match frzWs n M ws with
      | some (ds, M') => if M'[l]? = some (.lst ws) then some (.lst ds, M'.set l (.fz (.lst ds))) else none
      | none => none
    | _ => none
def frzWs : Nat → Mem → List W → Option (List D × Mem)
  | _, M, [] => some ([], M)
  | 0, _, _ => none
  | n + 1, M, w :: r => match frzW n M w with
    | some (d, M') => (frzWs n M' r).map fun r => (d :: r.1, r.2)
    | none => none
end
def wipeE (env : Env) : List Nat → Env
  | [] => env
  | i :: is => (wipeE env is).set i none
/- a name, or names, are given an item -/
mutual
def give : Tg → W → Env → Option Env
  | .nm i, w, env => some (env.set i (some w))
  | .tp ts, w, env => match fixW w with
    | some ws => if ws.length = ts.length then gives ts ws env else none
    | none => none
def gives : List Tg → List W → Env → Option Env
  | [], [], env => some env
  | t :: ts, w :: ws, env => match give t w env with
    | some e => gives ts ws e
    | none => none
  | _, _, _ => none
end
def compL (step : W → Mem → Res (Option W)) : List W → List W → Mem → Res (List W)
  | [], acc, M => .ok acc.reverse M
  | w :: r, acc, M => (step w M).bind fun o M' => match o with
    | some v => compL step r (v :: acc) M'
    | none => compL step r acc M'
/-- a clause's test, where there is one -/
def truA (M : Mem) : List W → Option Bool
  | [] => some true
  | [w] => tru M w
  | _ => none
def permW (ws : List W) : List Nat → List W
  | [] => ws
  | is => is.map fun i => ws.getD i default

section
variable (P : Prog) (C : Calls)
mutual
def ev : Ex → Env → Mem → Res W
  | .var i, env, M => Res.of ((getV env i).map (rd M)) M
  | .frz i, env, M => match getV env i with
    | some w => match frzW 1000 M w with
      | some (d, M') => .ok (.p d) M'
      | none => .bad
    | none => .bad
  | .int i, _, M => .ok (.p (.int i)) M
  | .str s, _, M => .ok (.p (.str s)) M
  | .bl b, _, M => .ok (.p (.bl b)) M
  | .non, _, M => .ok (.p .non) M
  | .glob g, _, M => Res.of ((P.glob g).map .p) M
  | .tup es, env, M => (evs es env M).bind fun ws M => .ok (mkTup ws) M
  | .lst es, env, M => (evs es env M).bind fun ws M => Res.of (mkLst ws) M
  | .lstL es, env, M => (evs es env M).bind fun ws M => .ok (.loc M.length) (M ++ [.lst ws])
  | .dct ks vs, env, M => (evs ks env M).bind fun ws M => (evs vs env M).bind fun us M => match W.pures ws, W.pures us with
    | some a, some b => .ok (.p (.dct a b)) M
    | _, _ => .bad
  | .bin o a b, env, M => (ev a env M).bind fun x M => (ev b env M).bind fun y M => Res.of (binW M o x y) M
  | .neg a, env, M => (ev a env M).bind fun x M => match x with
    | .p (.int i) => .ok (.p (.int (-i))) M
    | _ => .bad
  | .not a, env, M => (ev a env M).bind fun x M => Res.of ((tru M x).map fun b => .p (.bl !b)) M
  | .cmp o a b, env, M => (ev a env M).bind fun x M => (ev b env M).bind fun y M => Res.of ((cmpW M o x y).map fun b => .p (.bl b)) M
  | .and a b, env, M => (ev a env M).bind fun x M => match tru M x with
    | some true => ev b env M
    | some false => .ok x M
    | none => .bad
  | .or a b, env, M => (ev a env M).bind fun x M => match tru M x with
    | some true => .ok x M
    | some false => ev b env M
    | none => .bad
  | .ite c a b, env, M => (ev c env M).bind fun x M => match tru M x with
    | some true => ev a env M
    | some false => ev b env M
    | none => .bad
  | .idx a i, env, M => (ev a env M).bind fun x M => (ev i env M).bind fun y M => Res.of ((idxW M x y).map (rd M)) M
  | .slc a lo hi, env, M => (ev a env M).bind fun x M => (evs lo env M).bind fun l M => (Res.of (oneInt l) M).bind fun l M => (evs hi env M).bind fun h M => (Res.of (oneInt h) M).bind fun h M => Res.of (slcW M x l h) M
  | .att a f, env, M => (ev a env M).bind fun x M => Res.of ((attW P M x f).map (rd M)) M
  | .mth m o a, env, M => (ev o env M).bind fun x M => match x with
    | .p (.str s) => (ev a env M).bind fun y M => Res.of (mthW m s y) M
    | _ => .bad
  | .fstr es, env, M => evJ es PySem.Str.empty env M
  | .fmt a, env, M => (ev a env M).bind fun x M => Res.of (fmtW x) M
  | .call f as ks perm, env, M => (evs as env M).bind fun ws M => (evs ks env M).bind fun us M => C f (permW (ws ++ us) perm) M
  | .blt b as, env, M => (evs as env M).bind fun ws M => Res.of (bltW M b ws) M
  | .isi a cs, env, M => (ev a env M).bind fun x M => Res.of ((isiW P M x cs).map fun b => .p (.bl b)) M
  | .comp elt own t it ifs, env, M => (ev it env M).bind fun x M => match iterW x with
    | some ws => (compL (fun w M => match give t w (wipeE env own) with
        | some e => (evs ifs e M).bind fun bs M => match truA M bs with
          | some true => (ev elt e M).bind fun v M => .ok (some v) M
          | some false => .ok none M
          | none => .bad
        | none => .bad) ws [] M).noX.bind fun vs M => Res.of (mkLst vs) M
    | none => .bad
  | .it a, env, M => ev a env M
  | .rng1 a, env, M => (ev a env M).bind fun x M => match x with
    | .p (.int n) => if szOk n.natAbs then .ok (.tp (rngW 0 n)) M else .bad
    | _ => .bad
  | .rng2 a b, env, M => (ev a env M).bind fun x M => (ev b env M).bind fun y M => match x, y with
    | .p (.int l), .p (.int n) => if szOk l.natAbs && szOk n.natAbs then .ok (.tp (rngW l n)) M else .bad
    | _, _ => .bad
  | .enum a, env, M => (ev a env M).bind fun x M => match lstW x with
    | some ws => .ok (.tp (enumW 0 ws)) M
    | none => .bad
  | .zip a b, env, M => (ev a env M).bind fun x M => (ev b env M).bind fun y M => match zipItems x y with
    | some r => .ok (.tp (zipW r.1 r.2)) M
    | none => .bad
def evs : List Ex → Env → Mem → Res (List W)
  | [], _, M => .ok [] M
  | e :: r, env, M => (ev e env M).bind fun w M => (evs r env M).bind fun ws M => .ok (w :: ws) M
def evJ : List Ex → Str → Env → Mem → Res W
  | [], acc, _, M => .ok (.p (.str acc)) M
  | e :: r, acc, env, M => (ev e env M).bind fun w M => match w with
    | .p (.str s) => if szOk (acc ++ s).length then evJ r (acc ++ s) env M else .bad
    | _ => .bad
end

def forL (step : W → Env → Mem → SR) : List W → Env → Mem → SR
  | [], env, M => .nx env M
  | w :: r, env, M => match step w env M with
    | .nx env' M' => forL step r env' M'
    | .ct env' M' => forL step r env' M'
    | .bk env' M' => .nx env' M'
    | z => z
def whileL (test : Env → Mem → Res W) (body : Env → Mem → SR) : Nat → Env → Mem → SR
  | 0, _, _ => .bad
  | n + 1, env, M => match test env M with
    | .ok x M' => match tru M' x with
      | some true => match body env M' with
        | .nx env' M'' => whileL test body n env' M''
        | .ct env' M'' => whileL test body n env' M''
        | .bk env' M'' => .nx env' M''
        | z => z
      | some false => .nx env M'
      | none => .bad
    | .exc c ns vs M' => .exc c ns vs env M'
    | .bad => .bad
def Res.st {α : Type} (env : Env) (r : Res α) (f : α → Mem → SR) : SR := match r with
  | .ok a M => f a M
  | .exc c ns vs M => .exc c ns vs env M
  | .bad => .bad
def setCell (M : Mem) (o i v : W) : Option Mem := match o, i with
  | .loc l, .p (.int k) => match M[l]? with
    | some (.lst ws) => if 0 ≤ k ∧ k.toNat < ws.length then some (M.set l (.lst (ws.set k.toNat v))) else none
    | _ => none
  | _, _ => none
def appCell (M : Mem) (o v : W) : Option Mem := match o with
  | .loc l => match M[l]? with
    | some (.lst ws) => if szOk (ws.length + 1) then some (M.set l (.lst (ws ++ [v]))) else none
    | _ => none
  | _ => none
def setO (env : Env) (s : Option Nat) (w : Option W) : Env := match s with
  | some i => env.set i w
  | none => env
mutual
def ex : St → Env → Mem → SR
  | .asg i e, env, M => (ev P C e env M).st env fun w M => .nx (env.set i (some w)) M
  | .asgT is e, env, M => (ev P C e env M).st env fun w M => match give is w env with
    | some env' => .nx env' M
    | none => .bad
  | .par i j a b, env, M => (ev P C a env M).st env fun x M => (ev P C b env M).st env fun y M => .nx ((env.set i (some x)).set j (some y)) M
  | .setIdx o i e, env, M => (ev P C e env M).st env fun v M => (ev P C o env M).st env fun a M => (ev P C i env M).st env fun k M => match setCell M a k v with
    | some M' => .nx env M'
    | none => .bad
  | .ifs c a b, env, M => (ev P C c env M).st env fun x M => match tru M x with
    | some true => exs a env M
    | some false => exs b env M
    | none => .bad
  | .for_ t it body, env, M => (ev P C it env M).st env fun x M => match iterW x with
    | some ws => forL (fun w env M => match give t w env with
      | some env' => exs body env' M
      | none => .bad) ws env M
    | none => .bad
  | .while_ c body, env, M => whileL (ev P C c) (exs body) P.fuel env M
  | .ret e, env, M => (ev P C e env M).st env fun w M => .rt w M
  | .retN, _, M => .rt (.p .non) M
  | .expr e, env, M => (ev P C e env M).st env fun _ M => .nx env M
  | .app o e, env, M => (ev P C o env M).st env fun a M => (ev P C e env M).st env fun v M => match appCell M a v with
    | some M' => .nx env M'
    | none => .bad
  | .raise c as ks perm, env, M => (evs P C as env M).st env fun ws M => (evs P C ks env M).st env fun us M =>
    match P.cls c, W.pures (permW (ws ++ us) perm) with
    | some k, some vs => if k.flds.length = vs.length ∧ k.isX = true then .exc c k.flds vs env M else .bad
    | _, _ => .bad
  | .try_ body hcs suites, env, M => match exs body env M with
    | .exc c ns vs env' M' => exh hcs suites c ns vs env' M'
    | z => z
  | .pass, env, M => .nx env M
  | .brk, env, M => .bk env M
  | .cnt, env, M => .ct env M
def exs : List St → Env → Mem → SR
  | [], env, M => .nx env M
  | s :: r, env, M => match ex s env M with
    | .nx env' M' => exs r env' M'
    | z => z
def exh (hcs : List (Nat × Option Nat)) : List (List St) → Nat → List Nat → List D → Env → Mem → SR
  | s :: r, c, ns, vs, env, M => match hcs with
    | (t, slot) :: hr => match P.cls c with
      | some k => if k.isX = false then .bad else if k.anc.contains t then match exs s (setO env slot (some (.p (.exc c ns vs)))) M with
          | .nx e M => .nx (setO e slot none) M
          | .bk e M => .bk (setO e slot none) M
          | .ct e M => .ct (setO e slot none) M
          | .rt w M => .rt w M
          | _ => .bad
        else exh hr r c ns vs env M
      | none => .bad
    | [] => .bad
  | [], c, ns, vs, env, M => .exc c ns vs env M
end
end
/-! ### calls -/
mutual
def belowW (n : Nat) : W → Bool
  | .p _ => true
  | .loc l => decide (l < n)
  | .tp ws => belowWs n ws
def belowWs (n : Nat) : List W → Bool
  | [] => true
  | w :: r => belowW n w && belowWs n r
end
def belowC (n : Nat) : Cell → Bool
  | .lst ws => belowWs n ws
  | .ins _ _ ws => belowWs n ws
  | .dic _ ws => belowWs n ws
  | .fz _ => true
/-- the places that a call has made go with it -/
def popR (M : Mem) (w : W) (M' : Mem) : Res W :=
  if M'.length = M.length then .ok w M'
  else if belowW M.length w && (M'.take M.length).all (belowC M.length) then .ok w (M'.take M.length) else .bad
def fnR (pop : Bool) (M : Mem) : SR → Res W
  | .nx _ M' => if pop then popR M (.p .non) M' else .ok (.p .non) M'
  | .rt w M' => if pop then popR M w M' else .ok w M'
  | .exc c ns vs _ M' => if pop && decide (M.length < M'.length) then (if (M'.take M.length).all (belowC M.length) then .exc c ns vs (M'.take M.length) else .bad) else .exc c ns vs M'
  | _ => .bad
def callF (P : Prog) : Nat → Calls
  | 0 => fun _ _ _ => .bad
  | n + 1 => fun f ws M => match P.fn f with
    | some d => if ws.length = d.par then fnR d.pop M (exs P (callF P n) d.body (ws.map some ++ List.replicate (d.slots - d.par) none) M) else .bad
    | none => .bad
end G

set_option maxHeartbeats 4000000
/-! What stands for what: plain data, places, the frame's names. -/
namespace G
open PySem PySem.Spec PyProof.Rows L2

/-- where the text's classes stand, how attributes are called -/
structure Nam where
  cA : Nat → Addr
  at_ : Nat → Str
def keyD : Key → D
  | .inl i => .int i
  | .inr s => .str s
/-- an exception that was caught, at a: its class, its dict -/
def excHO (C : Addr) (d : Option Addr) (a : Addr) : HO := .ext fun h => ∃ oe vs, h.get? a = some oe ∧ Zc (.ref C) d oe ∧ oe.data = .fields vs

section
variable (N : Nam) (K : PySem.W.Frag) (F : Hp)
mutual
def Rep : D → V → Prop
  | .non, v => v = .non
  | .bl b, v => v = .bl b
  | .int i, v => v = .int i
  | .str s, v => v = .str s
  | .tup xs, v => ∃ a ys, v = .ref a ∧ SqT K F a ys ∧ Reps xs ys
  | .lst xs, v => ∃ a ys, v = .ref a ∧ Rd F a (.lst ys) ∧ Reps xs ys
  | .dct ks vs, v => ∃ a kvs, v = .ref a ∧ F a = some (.dK kvs) ∧ ks = kvs.map (fun q => keyD q.1) ∧ Reps vs (kvs.map (·.2))
  | .obj c ns vs, v => ∃ a dx fs, v = .ref a ∧ F a = some (.ins (N.cA c) dx fs) ∧ RepF ns vs (fun f => fs.lookup f)
  | .exc c ns vs, v => ∃ a d fs, v = .ref a ∧ F a = some (excHO (N.cA c) (some d) a) ∧ F d = some (.xd fs) ∧ RepF ns vs (fun f => fs.lookup f)
def Reps : List D → List V → Prop
  | [], [] => True
  | d :: ds, v :: vs => Rep d v ∧ Reps ds vs
  | _, _ => False
def RepF : List Nat → List D → (Str → Option V) → Prop
  | [], [], _ => True
  | n :: ns, d :: ds, L => (∃ v, L (N.at_ n) = some v ∧ Rep d v) ∧ RepF ns ds L
  | _, _, _ => False
end
mutual
def RepW (m : List Addr) : W → V → Prop
  | .p d, v => Rep N K F d v
  | .loc l, v => ∃ a, m[l]? = some a ∧ v = .ref a
  | .tp ws, v => ∃ a ys, v = .ref a ∧ SqT K F a ys ∧ RepWs m ws ys
def RepWs (m : List Addr) : List W → List V → Prop
  | [], [] => True
  | w :: ws, v :: vs => RepW m w v ∧ RepWs m ws vs
  | _, _ => False
end
def RepWF (m : List Addr) : List Nat → List W → (Str → Option V) → Prop
  | [], [], _ => True
  | n :: ns, w :: ws, L => (∃ v, L (N.at_ n) = some v ∧ RepW N K F m w v) ∧ RepWF m ns ws L
  | _, _, _ => False
def CellOk (m : List Addr) (H : Hp) (a : Addr) : Cell → Prop
  | .lst ws => F a = none ∧ ∃ ys, H a = some (.lst ys) ∧ RepWs N K F m ws ys
  | .ins c ns ws => F a = none ∧ ∃ dx fs, H a = some (.ins (N.cA c) dx fs) ∧ RepWF N K F m ns ws (fun f => fs.lookup f)
  | .dic ks ws => F a = none ∧ ∃ kvs, H a = some (.dK kvs) ∧ ks = kvs.map (fun q => keyD q.1) ∧ RepWs N K F m ws (kvs.map (·.2))
  | .fz d => Rep N K F d (.ref a)
end
def Xt (F F' : Hp) : Prop := ∀ a o, F a = some o → F' a = some o
theorem Xt.refl (F : Hp) : Xt F F := fun _ _ h => h
theorem Xt.trans {F F1 F2 : Hp} (a : Xt F F1) (b : Xt F1 F2) : Xt F F2 := fun x o h => b x o (a x o h)
theorem Xt.new {F : Hp} {p : Addr} {o : HO} (h : F p = none) : Xt F (upd F p o) := fun a u e => by
  rw [upd_ne (ne_of_none e h)]; exact e
theorem Xt.rd {F F' : Hp} {a : Addr} {u : HO} (e : Xt F F') (h : Rd F a u) : Rd F' a u := by
  rcases h with h | ⟨o, h⟩
  · exact .inl (e _ _ h)
  · exact .inr ⟨o, e _ _ h⟩
theorem Xt.sqL {K : PySem.W.Frag} {F F' : Hp} {a : Addr} {xs : List V} (e : Xt F F') (h : SqL K F a xs) : SqL K F' a xs := h.imp e.rd id
theorem Xt.sqT {K : PySem.W.Frag} {F F' : Hp} {a : Addr} {xs : List V} (e : Xt F F') (h : SqT K F a xs) : SqT K F' a xs := h.imp e.rd id

/-- what is fixed from now on; what is held apart -/
structure Fx where
  f : Hp
  g : Hp
instance : Coe Fx Hp := ⟨Fx.f⟩
abbrev Fx.put (F : Fx) (p : Addr) (o : HO) : Fx := ⟨upd F.f p o, F.g⟩
structure SimM (N : Nam) (K : PySem.W.Frag) (m : List Addr) (M : Mem) (F : Fx) (H : Hp) : Prop where
  sub : Xt F.f H
  len : m.length = M.length
  cell : ∀ (l : Nat) (a : Addr) (c : Cell), m[l]? = some a → M[l]? = some c → CellOk N K F m H a c
  nd : m.Nodup
  live : ∀ a ∈ m, H a ≠ none
  apart : ∀ a o, F.g a = some o → H a = some o ∧ a ∉ m ∧ F.f a = none
def Gr (m : List Addr) (F : Fx) (m' : List Addr) (F' : Fx) : Prop := (∃ r, m' = m ++ r) ∧ Xt F.f F'.f ∧ F'.g = F.g
theorem Gr.refl (m : List Addr) (F : Fx) : Gr m F m F := ⟨⟨[], by simp⟩, Xt.refl F, rfl⟩
theorem Gr.trans {m m1 m2 : List Addr} {F F1 F2 : Fx} (a : Gr m F m1 F1) (b : Gr m1 F1 m2 F2) : Gr m F m2 F2 := by
  obtain ⟨⟨r, rfl⟩, e, q⟩ := a
  obtain ⟨⟨r', rfl⟩, e', q'⟩ := b
  exact ⟨⟨r ++ r', by simp⟩, e.trans e', q'.trans q⟩
/-- the same, whatever is held apart -/
def Gx (m : List Addr) (F : Fx) (m' : List Addr) (F' : Fx) : Prop := (∃ r, m' = m ++ r) ∧ Xt F.f F'.f
theorem Gr.x {m m' : List Addr} {F F' : Fx} (g : Gr m F m' F') : Gx m F m' F' := ⟨g.1, g.2.1⟩
instance {m m' : List Addr} {F F' : Fx} : Coe (Gr m F m' F') (Gx m F m' F') := ⟨Gr.x⟩
theorem Gx.refl (m : List Addr) (F : Fx) : Gx m F m F := (Gr.refl m F).x
theorem Gx.trans {m m1 m2 : List Addr} {F F1 F2 : Fx} (a : Gx m F m1 F1) (b : Gx m1 F1 m2 F2) : Gx m F m2 F2 := by
  obtain ⟨⟨r, rfl⟩, e⟩ := a
  obtain ⟨⟨r', rfl⟩, e'⟩ := b
  exact ⟨⟨r ++ r', by simp⟩, e.trans e'⟩
theorem Gx.ex {m m' : List Addr} {F F' : Fx} (g : Gx m F m' F') : Xt F.f F'.f := g.2
theorem Gr.ex {m m' : List Addr} {F F' : Fx} (g : Gr m F m' F') : Xt F.f F'.f := g.2.1
theorem Gx.at {m m' : List Addr} {F F' : Fx} (g : Gx m F m' F') {l : Nat} {a : Addr} (h : m[l]? = some a) : m'[l]? = some a := by
  obtain ⟨⟨r, rfl⟩, _⟩ := g
  have hl : l < m.length := (List.getElem?_eq_some_iff.mp h).1
  rw [List.getElem?_append_left hl]; exact h

section
variable {N : Nam} {K : PySem.W.Frag} {F F' : Hp}
mutual
theorem Rep.mono (e : Xt F F') : ∀ (d : D) (v : V), Rep N K F d v → Rep N K F' d v
  | .non, v, h => h
  | .bl b, v, h => h
  | .int i, v, h => h
  | .str s, v, h => h
  | .tup xs, v, h => by
    obtain ⟨a, ys, h1, h2, h3⟩ := h
    exact ⟨a, ys, h1, e.sqT h2, Reps.mono e xs ys h3⟩
  | .lst xs, v, h => by
    obtain ⟨a, ys, h1, h2, h3⟩ := h
    exact ⟨a, ys, h1, e.rd h2, Reps.mono e xs ys h3⟩
  | .dct ks vs, v, h => by
    obtain ⟨a, kvs, h1, h2, h3, h4⟩ := h
    exact ⟨a, kvs, h1, e _ _ h2, h3, Reps.mono e vs _ h4⟩
  | .obj c ns vs, v, h => by
    obtain ⟨a, dx, fs, h1, h2, h3⟩ := h
    exact ⟨a, dx, fs, h1, e _ _ h2, RepF.mono e ns vs _ h3⟩
  | .exc c ns vs, v, h => by
    obtain ⟨a, d, fs, h1, h2, h3, h4⟩ := h
    exact ⟨a, d, fs, h1, e _ _ h2, e _ _ h3, RepF.mono e ns vs _ h4⟩
theorem Reps.mono (e : Xt F F') : ∀ (ds : List D) (vs : List V), Reps N K F ds vs → Reps N K F' ds vs
  | [], [], _ => trivial
  | d :: ds, v :: vs, h => ⟨Rep.mono e d v h.1, Reps.mono e ds vs h.2⟩
  | [], _ :: _, h => h
  | _ :: _, [], h => h
theorem RepF.mono (e : Xt F F') : ∀ (ns : List Nat) (ds : List D) (L : Str → Option V), RepF N K F ns ds L → RepF N K F' ns ds L
  | [], [], _, _ => trivial
  | n :: ns, d :: ds, L, h => by
    obtain ⟨⟨v, h1, h2⟩, h3⟩ := h
    exact ⟨⟨v, h1, Rep.mono e d v h2⟩, RepF.mono e ns ds L h3⟩
  | [], _ :: _, _, h => h
  | _ :: _, [], _, h => h
end
section
variable {m m' : List Addr} {F F' : Fx}
mutual
theorem RepW.mono (g : Gx m F m' F') : ∀ (w : W) (v : V), RepW N K F m w v → RepW N K F' m' w v
  | .p d, v, h => Rep.mono g.ex d v h
  | .loc l, v, h => by
    obtain ⟨a, h1, h2⟩ := h
    exact ⟨a, g.at h1, h2⟩
  | .tp ws, v, h => by
    obtain ⟨a, ys, h1, h2, h3⟩ := h
    exact ⟨a, ys, h1, g.ex.sqT h2, RepWs.mono g ws ys h3⟩
theorem RepWs.mono (g : Gx m F m' F') : ∀ (ws : List W) (vs : List V), RepWs N K F m ws vs → RepWs N K F' m' ws vs
  | [], [], _ => trivial
  | w :: ws, v :: vs, h => ⟨RepW.mono g w v h.1, RepWs.mono g ws vs h.2⟩
  | [], _ :: _, h => h
  | _ :: _, [], h => h
end
theorem RepWF.mono (g : Gx m F m' F') : ∀ (ns : List Nat) (ws : List W) (L : Str → Option V), RepWF N K F m ns ws L → RepWF N K F' m' ns ws L
  | [], [], _, _ => trivial
  | n :: ns, d :: ds, L, h => by
    obtain ⟨⟨v, h1, h2⟩, h3⟩ := h
    exact ⟨⟨v, h1, RepW.mono g d v h2⟩, RepWF.mono g ns ds L h3⟩
  | [], _ :: _, _, h => h
  | _ :: _, [], _, h => h
end
variable {m m' : List Addr}
theorem Reps.length : ∀ {ds : List D} {vs : List V}, Reps N K F ds vs → ds.length = vs.length
  | [], [], _ => rfl
  | _ :: _, _ :: _, h => by simp [Reps.length h.2]
  | [], _ :: _, h => h.elim
  | _ :: _, [], h => h.elim
theorem RepWs.length : ∀ {ds : List W} {vs : List V}, RepWs N K F m ds vs → ds.length = vs.length
  | [], [], _ => rfl
  | _ :: _, _ :: _, h => by simp [RepWs.length h.2]
  | [], _ :: _, h => h.elim
  | _ :: _, [], h => h.elim
theorem RepWs.p : ∀ {ds : List D} {vs : List V}, Reps N K F ds vs → RepWs N K F m (ds.map .p) vs
  | [], [], _ => trivial
  | _ :: _, _ :: _, h => ⟨h.1, RepWs.p h.2⟩
  | [], _ :: _, h => h.elim
  | _ :: _, [], h => h.elim
theorem RepWs.pures : ∀ {ws : List W} {ds : List D} {vs : List V}, RepWs N K F m ws vs → W.pures ws = some ds → Reps N K F ds vs
  | [], ds, [], _, e => by cases e; trivial
  | w :: ws, ds, v :: vs, h, e => by
    cases w with
    | p d =>
      have e1 : (match W.pures ws with | some ds => some (d :: ds) | none => none) = some ds := e
      cases q : W.pures ws with
      | none => rw [q] at e1; cases e1
      | some es => rw [q] at e1; cases e1; exact ⟨h.1, RepWs.pures h.2 q⟩
    | loc l => cases e
    | tp us => cases e
  | [], _, _ :: _, h, _ => h.elim
  | _ :: _, _, [], h, _ => h.elim
theorem RepWs.get : ∀ {ws : List W} {vs : List V} {i : Nat} {w : W}, RepWs N K F m ws vs → ws[i]? = some w → ∃ v, vs[i]? = some v ∧ RepW N K F m w v
  | w :: ws, v :: vs, 0, x, h, e => by simp at e; subst e; exact ⟨v, rfl, h.1⟩
  | w :: ws, v :: vs, i + 1, x, h, e => by
    obtain ⟨u, h1, h2⟩ := RepWs.get (i := i) h.2 (by simpa using e)
    exact ⟨u, by simpa using h1, h2⟩
  | [], [], _, _, _, e => by simp at e
  | [], _ :: _, _, _, h, _ => h.elim
  | _ :: _, [], _, _, h, _ => h.elim
theorem RepWs.append : ∀ {ws us : List W} {vs xs : List V}, RepWs N K F m ws vs → RepWs N K F m us xs → RepWs N K F m (ws ++ us) (vs ++ xs)
  | [], _, [], _, _, h => h
  | _ :: _, _, _ :: _, _, h, h' => ⟨h.1, RepWs.append h.2 h'⟩
  | [], _, _ :: _, _, h, _ => h.elim
  | _ :: _, _, [], _, h, _ => h.elim
theorem Reps.append : ∀ {ws us : List D} {vs xs : List V}, Reps N K F ws vs → Reps N K F us xs → Reps N K F (ws ++ us) (vs ++ xs)
  | [], _, [], _, _, h => h
  | _ :: _, _, _ :: _, _, h, h' => ⟨h.1, Reps.append h.2 h'⟩
  | [], _, _ :: _, _, h, _ => h.elim
  | _ :: _, _, [], _, h, _ => h.elim
theorem Reps.drop : ∀ {ws : List D} {vs : List V} (n : Nat), Reps N K F ws vs → Reps N K F (ws.drop n) (vs.drop n)
  | [], [], n, _ => by simp [Reps]
  | _ :: _, _ :: _, 0, h => h
  | _ :: _, _ :: _, n + 1, h => by simpa using Reps.drop n h.2
  | [], _ :: _, _, h => h.elim
  | _ :: _, [], _, h => h.elim
theorem Reps.take : ∀ {ws : List D} {vs : List V} (n : Nat), Reps N K F ws vs → Reps N K F (ws.take n) (vs.take n)
  | [], [], n, _ => by simp [Reps]
  | _ :: _, _ :: _, 0, h => trivial
  | _ :: _, _ :: _, n + 1, h => ⟨h.1, Reps.take n h.2⟩
  | [], _ :: _, _, h => h.elim
  | _ :: _, [], _, h => h.elim
theorem RepWs.set : ∀ {ws : List W} {vs : List V} {w : W} {v : V} (i : Nat), RepWs N K F m ws vs → RepW N K F m w v → RepWs N K F m (ws.set i w) (vs.set i v)
  | [], [], _, _, _, _, _ => trivial
  | _ :: _, _ :: _, _, _, 0, h, h' => ⟨h', h.2⟩
  | _ :: _, _ :: _, _, _, i + 1, h, h' => ⟨h.1, RepWs.set i h.2 h'⟩
  | [], _ :: _, _, _, _, h, _ => h.elim
  | _ :: _, [], _, _, _, h, _ => h.elim
theorem RepWs.tup {ws : List W} {vs : List V} {a : Addr} (h : RepWs N K F m ws vs) (q : SqT K F a vs) : RepW N K F m (mkTup ws) (.ref a) := by
  unfold mkTup
  cases e : W.pures ws with
  | some ds => exact ⟨a, vs, rfl, q, h.pures e⟩
  | none => exact ⟨a, vs, rfl, q, h⟩
/-- an attribute -/
theorem RepWF.look : ∀ {ns : List Nat} {ws : List W} {L : Str → Option V} {f : Nat} {w : W}, RepWF N K F m ns ws L → lookF f ns ws = some w → ∃ v, L (N.at_ f) = some v ∧ RepW N K F m w v
  | n :: ns, u :: us, L, f, w, h, e => by
    have e1 : (if n = f then some u else lookF f ns us) = some w := e
    by_cases q : n = f
    · rw [if_pos q] at e1; cases e1; subst q; exact h.1
    · rw [if_neg q] at e1; exact RepWF.look h.2 e1
  | [], [], _, _, _, _, e => by cases e
  | [], _ :: _, _, _, _, h, _ => h.elim
  | _ :: _, [], _, _, _, h, _ => h.elim
theorem RepF.look : ∀ {ns : List Nat} {ws : List D} {L : Str → Option V} {f : Nat} {w : D}, RepF N K F ns ws L → lookF f ns ws = some w → ∃ v, L (N.at_ f) = some v ∧ Rep N K F w v
  | n :: ns, u :: us, L, f, w, h, e => by
    have e1 : (if n = f then some u else lookF f ns us) = some w := e
    by_cases q : n = f
    · rw [if_pos q] at e1; cases e1; subst q; exact h.1
    · rw [if_neg q] at e1; exact RepF.look h.2 e1
  | [], [], _, _, _, _, e => by cases e
  | [], _ :: _, _, _, _, h, _ => h.elim
  | _ :: _, [], _, _, _, h, _ => h.elim
end

/-! ### the memory and the heap -/
section
variable {N : Nam} {K : PySem.W.Frag} {F F' : Fx} {H H' : Hp} {m m' : List Addr} {M : Mem}
theorem CellOk.mono (g : Gx m F m' F') {a : Addr} (hF : F.f a = none → F'.f a = none) (hH : H a = H' a) : ∀ {c : Cell}, CellOk N K F m H a c → CellOk N K F' m' H' a c
  | .lst ws, h => by
    obtain ⟨h0, ys, h1, h2⟩ := h
    exact ⟨hF h0, ys, hH ▸ h1, RepWs.mono g _ _ h2⟩
  | .ins c ns ws, h => by
    obtain ⟨h0, dx, fs, h1, h2⟩ := h
    exact ⟨hF h0, dx, fs, hH ▸ h1, RepWF.mono g _ _ _ h2⟩
  | .dic ks ws, h => by
    obtain ⟨h0, kvs, h1, h2, h3⟩ := h
    exact ⟨hF h0, kvs, hH ▸ h1, h2, RepWs.mono g _ _ h3⟩
  | .fz d, h => Rep.mono g.ex _ _ h
/-- a new fixed object -/
theorem SimM.new {p : Addr} {o : HO} (s : SimM N K m M F H) (hp : H p = none) : SimM N K m M (F.put p o) (upd H p o) ∧ Gr m F m (F.put p o) := by
  have fp : F.f p = none := by
    cases e : F.f p with
    | none => rfl
    | some u => rw [s.sub _ _ e] at hp; cases hp
  have g : Gr m F m (F.put p o) := ⟨⟨[], by simp⟩, Xt.new fp, rfl⟩
  refine ⟨⟨fun a u e => ?_, s.len, fun l a c h1 h2 => ?_, s.nd, fun a ha => ?_, fun a u e => ?_⟩, g⟩
  · have e : upd F.f p o a = some u := e
    by_cases q : a = p
    · subst q; rw [upd_same] at e ⊢; exact e
    · rw [upd_ne q] at e ⊢; exact s.sub _ _ e
  · have na : a ≠ p := fun q => s.live a (List.mem_of_getElem? h1) (q ▸ hp)
    exact (s.cell l a c h1 h2).mono g (fun z => by show upd F.f p o a = none; rw [upd_ne na]; exact z) (by rw [upd_ne na])
  · have na : a ≠ p := fun q => s.live a ha (q ▸ hp)
    rw [upd_ne na]; exact s.live a ha
  · obtain ⟨h1, h2, h3⟩ := s.apart a u e
    have na : a ≠ p := fun q => by rw [q, hp] at h1; cases h1
    exact ⟨by rw [upd_ne na]; exact h1, h2, by show upd F.f p o a = none; rw [upd_ne na]; exact h3⟩
/-- an object held apart; let go -/
theorem SimM.hold {p : Addr} {o : HO} (s : SimM N K m M F H) (hp : H p = none) : SimM N K m M ⟨F.f, upd F.g p o⟩ (upd H p o) := by
  have fp : F.f p = none := by
    cases e : F.f p with
    | none => rfl
    | some u => rw [s.sub _ _ e] at hp; cases hp
  refine ⟨fun a u e => ?_, s.len, fun l a c h1 h2 => ?_, s.nd, fun a ha => ?_, fun a u e => ?_⟩
  · have q : a ≠ p := fun q => by rw [q, fp] at e; cases e
    rw [upd_ne q]; exact s.sub _ _ e
  · have na : a ≠ p := fun q => s.live a (List.mem_of_getElem? h1) (q ▸ hp)
    exact (s.cell l a c h1 h2).mono (F' := ⟨F.f, upd F.g p o⟩) ⟨⟨[], by simp⟩, Xt.refl _⟩ (fun z => z) (by rw [upd_ne na])
  · have na : a ≠ p := fun q => s.live a ha (q ▸ hp)
    rw [upd_ne na]; exact s.live a ha
  · by_cases q : a = p
    · subst q
      have e : upd F.g a o a = some u := e
      rw [upd_same] at e ⊢
      cases e
      exact ⟨rfl, fun ha => s.live a ha hp, fp⟩
    · have e : upd F.g p o a = some u := e
      rw [upd_ne q] at e ⊢
      exact s.apart a u e
theorem SimM.less {g : Hp} (s : SimM N K m M F H) (h : ∀ a o, g a = some o → F.g a = some o) : SimM N K m M ⟨F.f, g⟩ H :=
  ⟨s.sub, s.len, fun l a c h1 h2 => (s.cell l a c h1 h2).mono (F' := ⟨F.f, g⟩) ⟨⟨[], by simp⟩, Xt.refl _⟩ (fun z => z) rfl, s.nd, s.live, fun a o e => s.apart a o (h a o e)⟩
/-- what is held apart changes -/
theorem SimM.held {p : Addr} {o o' : HO} (s : SimM N K m M F H) (hp : F.g p = some o) : SimM N K m M ⟨F.f, upd F.g p o'⟩ (upd H p o') := by
  obtain ⟨h1, h2, h3⟩ := s.apart p o hp
  refine ⟨fun a u e => ?_, s.len, fun l a c h1 h2' => ?_, s.nd, fun a ha => ?_, fun a u e => ?_⟩
  · have q : a ≠ p := fun q => by rw [q, h3] at e; cases e
    rw [upd_ne q]; exact s.sub _ _ e
  · have na : a ≠ p := fun q => h2 (q ▸ List.mem_of_getElem? h1)
    exact (s.cell l a c h1 h2').mono (F' := ⟨F.f, upd F.g p o'⟩) ⟨⟨[], by simp⟩, Xt.refl _⟩ (fun z => z) (by rw [upd_ne na])
  · have na : a ≠ p := fun q => h2 (q ▸ ha)
    rw [upd_ne na]; exact s.live a ha
  · by_cases q : a = p
    · subst q
      have e : upd F.g a o' a = some u := e
      rw [upd_same] at e ⊢
      cases e
      exact ⟨rfl, h2, h3⟩
    · have e : upd F.g p o' a = some u := e
      rw [upd_ne q] at e ⊢
      exact s.apart a u e
/-- .. is fixed -/
theorem SimM.fix {p : Addr} {o : HO} {g : Hp} (s : SimM N K m M F H) (hp : F.g p = some o) (hg : ∀ a u, g a = some u → F.g a = some u ∧ a ≠ p) : SimM N K m M ⟨upd F.f p o, g⟩ H ∧ Gx m F m ⟨upd F.f p o, g⟩ := by
  obtain ⟨h1, h2, h3⟩ := s.apart p o hp
  have gx : Gx m F m ⟨upd F.f p o, g⟩ := ⟨⟨[], by simp⟩, Xt.new h3⟩
  refine ⟨⟨fun a u e => ?_, s.len, fun l a c h1 h2' => ?_, s.nd, s.live, fun a u e => ?_⟩, gx⟩
  · have e : upd F.f p o a = some u := e
    by_cases q : a = p
    · subst q; rw [upd_same] at e; cases e; exact h1
    · rw [upd_ne q] at e; exact s.sub _ _ e
  · have na : a ≠ p := fun q => h2 (q ▸ List.mem_of_getElem? h1)
    exact (s.cell l a c h1 h2').mono gx (fun z => by show upd F.f p o a = none; rw [upd_ne na]; exact z) rfl
  · obtain ⟨q1, q2⟩ := hg a u e
    obtain ⟨r1, r2, r3⟩ := s.apart a u q1
    exact ⟨r1, r2, by show upd F.f p o a = none; rw [upd_ne q2]; exact r3⟩
/-- a new place -/
theorem SimM.alloc {p : Addr} {o : HO} {c : Cell} (s : SimM N K m M F H) (hp : H p = none) (hc : CellOk N K F (m ++ [p]) (upd H p o) p c) :
    SimM N K (m ++ [p]) (M ++ [c]) F (upd H p o) ∧ Gr m F (m ++ [p]) F := by
  have g : Gr m F (m ++ [p]) F := ⟨⟨[p], rfl⟩, Xt.refl F, rfl⟩
  have np : p ∉ m := fun h => s.live p h hp
  refine ⟨⟨fun a u e => ?_, by simp [s.len], fun l a c' h1 h2 => ?_, ?_, fun a ha => ?_, fun a u e => ?_⟩, g⟩
  · have q : a ≠ p := fun q => by rw [q] at e; rw [s.sub _ _ e] at hp; cases hp
    rw [upd_ne q]; exact s.sub _ _ e
  · by_cases hl : l < m.length
    · rw [List.getElem?_append_left hl] at h1
      rw [List.getElem?_append_left (by rw [← s.len]; exact hl)] at h2
      have na : a ≠ p := fun q => np (q ▸ List.mem_of_getElem? h1)
      exact (s.cell l a c' h1 h2).mono g (fun z => z) (by rw [upd_ne na])
    · have e0 : l = m.length := by
        have h3 := (List.getElem?_eq_some_iff.mp h1).1
        rw [List.length_append, List.length_singleton] at h3
        omega
      subst e0
      rw [List.getElem?_append_right (Nat.le_refl _), Nat.sub_self] at h1
      rw [List.getElem?_append_right (by rw [s.len]; exact Nat.le_refl _), s.len, Nat.sub_self] at h2
      simp at h1 h2
      subst h1 h2
      exact hc
  · rw [List.nodup_append]
    refine ⟨s.nd, by simp, fun a ha b hb => ?_⟩
    simp at hb
    subst hb
    exact fun q => np (q ▸ ha)
  · rcases List.mem_append.mp ha with h | h
    · have na : a ≠ p := fun q => np (q ▸ h)
      rw [upd_ne na]; exact s.live a h
    · simp at h; subst h; rw [upd_same]; simp
  · obtain ⟨h1, h2, h3⟩ := s.apart a u e
    have na : a ≠ p := fun q => by rw [q, hp] at h1; cases h1
    exact ⟨by rw [upd_ne na]; exact h1, by simp only [List.mem_append, List.mem_singleton, not_or]; exact ⟨h2, na⟩, h3⟩
theorem nd_inj : ∀ {m : List Addr}, m.Nodup → ∀ {l l' : Nat} {a : Addr}, m[l]? = some a → m[l']? = some a → l = l' := fun {m} nd {l l' a} h h' => by
  obtain ⟨h1, e1⟩ := List.getElem?_eq_some_iff.mp h
  obtain ⟨h2, e2⟩ := List.getElem?_eq_some_iff.mp h'
  exact (List.getElem_inj nd).mp (e1.trans e2.symm)
/-- a place's content is exchanged -/
theorem SimM.write {l : Nat} {p : Addr} {o : HO} {c c' : Cell} (s : SimM N K m M F H) (hl : m[l]? = some p) (hM : M[l]? = some c) (hF : F.f p = none) (hc : CellOk N K F m (upd H p o) p c') : SimM N K m (M.set l c') F (upd H p o) := by
  refine ⟨fun a u e => ?_, by simp [s.len], fun j a d h1 h2 => ?_, s.nd, fun a ha => ?_, fun a u e => ?_⟩
  · have q : a ≠ p := fun q => by rw [q, hF] at e; cases e
    rw [upd_ne q]; exact s.sub _ _ e
  · by_cases q : j = l
    · subst q
      rw [hl] at h1; cases h1
      rw [List.getElem?_set_self (List.getElem?_eq_some_iff.mp hM).1] at h2; cases h2
      exact hc
    · rw [List.getElem?_set_ne (Ne.symm q)] at h2
      have na : a ≠ p := fun z => q (nd_inj s.nd h1 (z ▸ hl))
      exact (s.cell j a d h1 h2).mono (Gr.refl m F) (fun z => z) (by rw [upd_ne na])
  · by_cases q : a = p
    · subst q; rw [upd_same]; simp
    · rw [upd_ne q]; exact s.live a ha
  · obtain ⟨h1, h2, h3⟩ := s.apart a u e
    have na : a ≠ p := fun q => h2 (q ▸ List.mem_of_getElem? hl)
    exact ⟨by rw [upd_ne na]; exact h1, h2, h3⟩
theorem SimM.addr {l : Nat} {c : Cell} (s : SimM N K m M F H) (hM : M[l]? = some c) : ∃ a, m[l]? = some a ∧ CellOk N K F m H a c := by
  have h := (List.getElem?_eq_some_iff.mp hM).1
  rw [← s.len] at h
  exact ⟨m[l], List.getElem?_eq_getElem h, s.cell l _ c (List.getElem?_eq_getElem h) hM⟩
/-- the items of a value are read: a list's or a tuple's -/
theorem SimM.itemsF {w : W} {ws : List W} {v : V} (s : SimM N K m M F H) (r : RepW N K F m w v) (e : w.items M = some ws) : ∃ a ys, v = .ref a ∧ (SqL K H a ys ∨ SqT K F a ys) ∧ RepWs N K F m ws ys := by
  cases w with
  | p d =>
    cases d with
    | tup ds =>
      obtain ⟨a, ys, h1, h2, h3⟩ := r
      cases e
      exact ⟨a, ys, h1, .inr h2, RepWs.p h3⟩
    | lst ds =>
      obtain ⟨a, ys, h1, h2, h3⟩ := r
      cases e
      exact ⟨a, ys, h1, .inl (.inl (s.sub.rd h2)), RepWs.p h3⟩
    | _ => cases e
  | tp us =>
    obtain ⟨a, ys, h1, h2, h3⟩ := r
    cases e
    exact ⟨a, ys, h1, .inr h2, h3⟩
  | loc l =>
    obtain ⟨a, h1, h2⟩ := r
    unfold W.items at e
    dsimp only at e
    cases q : M[l]? with
    | none => rw [q] at e; cases e
    | some c =>
      rw [q] at e
      have co := s.cell l a c h1 q
      cases c with
      | lst us =>
        cases e
        obtain ⟨_, ys, h3, h4⟩ := co
        exact ⟨a, ys, h2, .inl (SqL.of h3), h4⟩
      | fz d =>
        cases d with
        | lst ds =>
          cases e
          obtain ⟨a', ys, h3, h4, h5⟩ := co
          cases h3
          exact ⟨a, ys, h2, .inl (.inl (s.sub.rd h4)), RepWs.p h5⟩
        | _ => cases e
      | _ => cases e
theorem SimM.items {w : W} {ws : List W} {v : V} (s : SimM N K m M F H) (r : RepW N K F m w v) (e : w.items M = some ws) : ∃ a ys, v = .ref a ∧ (SqL K H a ys ∨ SqT K H a ys) ∧ RepWs N K F m ws ys := by
  obtain ⟨a, ys, h1, h2, h3⟩ := s.itemsF r e
  exact ⟨a, ys, h1, h2.imp id s.sub.sqT, h3⟩
theorem RepWs.of_pures {ws : List W} : ∀ {ds : List D}, W.pures ws = some ds → ws = ds.map .p := by
  induction ws with
  | nil => intro ds e; cases e; rfl
  | cons w r ih =>
    intro ds e
    cases w with
    | p d =>
      have e1 : (match W.pures r with | some ds => some (d :: ds) | none => none) = some ds := e
      cases q : W.pures r with
      | none => rw [q] at e1; cases e1
      | some es => rw [q] at e1; cases e1; rw [ih q]; rfl
    | loc l => cases e
    | tp us => cases e
/-- a value read as plain data. What is a list may change later: so only now -/
inductive Now (N : Nam) (K : PySem.W.Frag) (F H : Hp) : D → V → Prop
  | p {d v} : Rep N K F d v → Now N K F H d v
  | lst {ds a ys} : H a = some (.lst ys) → Reps N K F ds ys → Now N K F H (.lst ds) (.ref a)
theorem SimM.view {w : W} {d : D} {v : V} (s : SimM N K m M F H) (r : RepW N K F m w v) (e : w.view M = some d) : Now N K F H d v := by
  cases w with
  | p x => cases e; exact .p r
  | tp us => cases e
  | loc l =>
    obtain ⟨a, h1, rfl⟩ := r
    unfold W.view at e
    dsimp only at e
    cases q : M[l]? with
    | none => rw [q] at e; cases e
    | some c =>
      rw [q] at e
      have co := s.cell l a c h1 q
      cases c with
      | lst us =>
        obtain ⟨_, ys, h3, h4⟩ := co
        have e' : (W.pures us).map D.lst = some d := e
        cases z : W.pures us with
        | none => rw [z] at e'; cases e'
        | some ds =>
          rw [z] at e'
          cases e'
          exact .lst h3 (h4.pures z)
      | fz x => cases e; exact .p co
      | _ => cases e
/-- a list read now: its object -/
theorem Now.lst_at {ds : List D} {v : V} (s : SimM N K m M F H) (h : Now N K F H (.lst ds) v) : ∃ a ys, v = .ref a ∧ Rd H a (.lst ys) ∧ Reps N K F ds ys := by
  cases h with
  | p r =>
    obtain ⟨a, ys, h1, h2, h3⟩ := r
    exact ⟨a, ys, h1, s.sub.rd h2, h3⟩
  | lst h r => exact ⟨_, _, rfl, .inl h, r⟩
theorem SimM.rd {w : W} {v : V} (s : SimM N K m M F H) (r : RepW N K F m w v) : RepW N K F m (rd M w) v := by
  cases w with
  | p x => exact r
  | tp us => exact r
  | loc l =>
    unfold G.rd
    dsimp only
    cases q : M[l]? with
    | none => exact r
    | some c =>
      cases c with
      | fz d =>
        obtain ⟨a, h1, rfl⟩ := r
        exact s.cell l a _ h1 q
      | _ => exact r
end
end G

set_option maxHeartbeats 4000000
/-! Results, and operations by values. -/
namespace G
open PySem PySem.Spec PyProof.Rows L2

/-! ### plain data of the library -/
mutual
theorem canLay_of : ∀ (d : D) (n : Nat), plain n d = true → PyData.canLay0 (toPy d) = true
  | .non, n, h => rfl
  | .bl b, n, h => rfl
  | .int i, n, h => rfl
  | .str s, n, h => by
    have h1 : PyData.strOk s = true := by cases n <;> exact h
    exact h1
  | .tup xs, n, h => by
    cases n with
    | zero => cases h
    | succ n => exact canLays_of xs n h
  | .lst xs, n, h => by
    cases n with
    | zero => cases h
    | succ n => exact canLays_of xs n h
  | .dct ks vs, n, h => by cases n <;> cases h
  | .obj _ _ _, n, h => by cases n <;> cases h
  | .exc _ _ _, n, h => by cases n <;> cases h
theorem canLays_of : ∀ (ds : List D) (n : Nat), plains n ds = true → PyData.canLayAll0 (toPys ds) = true
  | [], n, h => rfl
  | d :: ds, n, h => by
    obtain ⟨h1, h2⟩ := Bool.and_eq_true_iff.mp (show (plain n d && plains n ds) = true by cases n <;> exact h)
    show (PyData.canLay0 (toPy d) && PyData.canLayAll0 (toPys ds)) = true
    rw [canLay_of d n h1, canLays_of ds n h2]; rfl
end
mutual
theorem dep_of : ∀ (d : D) (n : Nat), plain n d = true → (toPy d).depth ≤ n
  | .non, n, h => Nat.zero_le _
  | .bl b, n, h => Nat.zero_le _
  | .int i, n, h => Nat.zero_le _
  | .str s, n, h => Nat.zero_le _
  | .tup xs, n, h => by
    cases n with
    | zero => cases h
    | succ n => exact Nat.succ_le_succ (deps_of xs n h)
  | .lst xs, n, h => by
    cases n with
    | zero => cases h
    | succ n => exact Nat.succ_le_succ (deps_of xs n h)
  | .dct ks vs, n, h => by cases n <;> cases h
  | .obj _ _ _, n, h => by cases n <;> cases h
  | .exc _ _ _, n, h => by cases n <;> cases h
theorem deps_of : ∀ (ds : List D) (n : Nat), plains n ds = true → PyData.depthAll (toPys ds) ≤ n
  | [], n, h => Nat.zero_le _
  | d :: ds, n, h => by
    obtain ⟨h1, h2⟩ := Bool.and_eq_true_iff.mp (show (plain n d && plains n ds) = true by cases n <;> exact h)
    exact Nat.max_le.mpr ⟨dep_of d n h1, deps_of ds n h2⟩
end
theorem shaped_of {d : D} (h : plain 60 d = true) : SeqAt.shaped (toPy d) = true := by
  unfold SeqAt.shaped
  rw [canLay_of d 60 h, decide_eq_true (Nat.le_trans (dep_of d 60 h) (by decide))]; rfl
mutual
theorem eqv_nrm : ∀ (a : D) (n : Nat) (b : D) (k : Nat), plain n a = true → plain k b = true → PyData.eqv (toPy a) (toPy b) = decide (nrm a = nrm b)
  | .non, n, b, k, ha, hb => by cases b <;> (try (cases k <;> cases hb)) <;> simp [toPy, nrm, PyData.eqv]
  | .bl x, n, b, k, ha, hb => by
    cases b with
    | bl y => cases x <;> cases y <;> simp [toPy, nrm, PyData.eqv]
    | int j =>
      have e : ((if x = true then 1 else 0) == j) = decide ((if x = true then (1 : Int) else 0) = j) := rfl
      simp [toPy, nrm, PyData.eqv, e]
    | _ => first | (simp [toPy, nrm, PyData.eqv]; done) | (cases k <;> cases hb)
  | .int x, n, b, k, ha, hb => by
    cases b with
    | bl y =>
      have e : (x == if y = true then 1 else 0) = decide (x = if y = true then (1 : Int) else 0) := rfl
      simp [toPy, nrm, PyData.eqv, e]
    | int j =>
      have e : (x == j) = decide (x = j) := rfl
      simp [toPy, nrm, PyData.eqv, e]
    | _ => first | (simp [toPy, nrm, PyData.eqv]; done) | (cases k <;> cases hb)
  | .str x, n, b, k, ha, hb => by
    cases b with
    | str y =>
      have e : (x == y) = decide (x = y) := rfl
      simp [toPy, nrm, PyData.eqv, e]
    | _ => first | (simp [toPy, nrm, PyData.eqv]; done) | (cases k <;> cases hb)
  | .tup x, n, b, k, ha, hb => by
    cases b with
    | tup y =>
      cases n with
      | zero => cases ha
      | succ n =>
        cases k with
        | zero => cases hb
        | succ k =>
          have e := eqvs_nrm x n y k ha hb
          simp [toPy, nrm, PyData.eqv, e]
    | _ => first | (simp [toPy, nrm, PyData.eqv]; done) | (cases k <;> cases hb)
  | .lst x, n, b, k, ha, hb => by
    cases b with
    | lst y =>
      cases n with
      | zero => cases ha
      | succ n =>
        cases k with
        | zero => cases hb
        | succ k =>
          have e := eqvs_nrm x n y k ha hb
          simp [toPy, nrm, PyData.eqv, e]
    | _ => first | (simp [toPy, nrm, PyData.eqv]; done) | (cases k <;> cases hb)
  | .dct _ _, n, b, k, ha, hb => by cases n <;> cases ha
  | .obj _ _ _, n, b, k, ha, hb => by cases n <;> cases ha
  | .exc _ _ _, n, b, k, ha, hb => by cases n <;> cases ha
theorem eqvs_nrm : ∀ (a : List D) (n : Nat) (b : List D) (k : Nat), plains n a = true → plains k b = true → PyData.eqvAll (toPys a) (toPys b) = decide (nrms a = nrms b)
  | [], n, b, k, ha, hb => by cases b <;> simp [toPys, nrms, PyData.eqvAll]
  | x :: xs, n, [], k, ha, hb => by simp [toPys, nrms, PyData.eqvAll]
  | x :: xs, n, y :: ys, k, ha, hb => by
    obtain ⟨a1, a2⟩ := Bool.and_eq_true_iff.mp (show (plain n x && plains n xs) = true by cases n <;> exact ha)
    obtain ⟨b1, b2⟩ := Bool.and_eq_true_iff.mp (show (plain k y && plains k ys) = true by cases k <;> exact hb)
    have e1 := eqv_nrm x n y k a1 b1
    have e2 := eqvs_nrm xs n ys k a2 b2
    simp [toPys, nrms, PyData.eqvAll, e1, e2]
end

/-! ### results -/
def RepE (N : Nam) (K : PySem.W.Frag) (F : Hp) (m : List Addr) (env : Env) (σ : L2.St) : Prop :=
  σ.length = env.length ∧ ∀ (i : Nat) (w : W), env[i]? = some (some w) → ∃ v, σ[i]? = some (some v) ∧ RepW N K F m w v
structure Sim (N : Nam) (K : PySem.W.Frag) (σ : L2.St) (env : Env) (m : List Addr) (M : Mem) (F : Fx) (H : Hp) : Prop where
  mem : SimM N K m M F H
  env : RepE N K F m env σ
/-- an exception in flight: its class, its own dict, which is fixed -/
def ExcV (N : Nam) (K : PySem.W.Frag) (F : Hp) (cls : Value) (d : Option Addr) (c : Nat) (ns : List Nat) (vs : List D) : Prop :=
  cls = .ref (N.cA c) ∧ ∃ dd fs, d = some dd ∧ F dd = some (.xd fs) ∧ RepF N K F ns vs (fun f => fs.lookup f)
abbrev Rl (α β : Type) := List Addr → Fx → α → β → Prop
def ERes {α β : Type} (N : Nam) (K : PySem.W.Frag) (R : Rl α β) (Wx : WX) (Q : β → Hp → Prop) (σ : L2.St) (env : Env) (m : List Addr) (F : Fx) : Res α → Prop
  | .ok a M' => ∀ b H' m' F', Sim N K σ env m' M' F' H' → R m' F' a b → Gr m F m' F' → Q b H'
  | .exc c ns vs M' => ∀ cls d H' m' F', Sim N K σ env m' M' F' H' → Gr m F m' F' → ExcV N K F' cls d c ns vs → Wx cls d σ H'
  | .bad => False
section
variable {N : Nam} {K : PySem.W.Frag} {α β γ δ : Type} {R : Rl α β} {S : Rl γ δ} {Wx : WX} {Q : β → Hp → Prop} {σ : L2.St} {env : Env} {m m' : List Addr} {M : Mem} {F F' : Fx} {H H' : Hp}
theorem RepE.mono (g : Gx m F m' F') (h : RepE N K F m env σ) : RepE N K F' m' env σ := ⟨h.1, fun i w e => by
  obtain ⟨v, h1, h2⟩ := h.2 i w e
  exact ⟨v, h1, RepW.mono g w v h2⟩⟩
theorem Sim.to (s : Sim N K σ env m M F H) {M' : Mem} {H' : Hp} (s' : SimM N K m' M' F' H') (g : Gx m F m' F') : Sim N K σ env m' M' F' H' := ⟨s', s.env.mono g⟩
theorem ERes.rebase (g : Gr m F m' F') : ∀ {r : Res α}, ERes N K R Wx Q σ env m F r → ERes N K R Wx Q σ env m' F' r
  | .ok a M, h => fun b H' m2 F2 s r g2 => h b H' m2 F2 s r (g.trans g2)
  | .exc c ns vs M, h => fun cls d H' m2 F2 s g2 e => h cls d H' m2 F2 s (g.trans g2) e
  | .bad, h => h
theorem ERes.imp {Q' : β → Hp → Prop} (k : ∀ b H, Q b H → Q' b H) : ∀ {r : Res α}, ERes N K R Wx Q σ env m F r → ERes N K R Wx Q' σ env m F r
  | .ok a M, h => fun b H' m2 F2 s r g2 => k _ _ (h b H' m2 F2 s r g2)
  | .exc c ns vs M, h => h
  | .bad, h => h
/-- what comes behind -/
theorem ERes.andThen {Q' : δ → Hp → Prop} {f : γ → Mem → Res α} : ∀ {r : Res γ}, ERes N K R Wx Q σ env m F (r.bind f) →
    (∀ b H' m' F' c M', Sim N K σ env m' M' F' H' → S m' F' c b → Gr m F m' F' → ERes N K R Wx Q σ env m' F' (f c M') → Q' b H') → ERes N K S Wx Q' σ env m F r
  | .ok c M', h, k => fun b H' m' F' s r g => k b H' m' F' c M' s r g (h.rebase g)
  | .exc c ns vs M', h, k => h
  | .bad, h, k => h
/-- a value reckoned by values: what is wanted of it -/
def VRes (N : Nam) (K : PySem.W.Frag) (Q : VK) (m : List Addr) (M : Mem) (F : Fx) : Option W → Prop
  | some w => ∀ v H' m' F', SimM N K m' M F' H' → RepW N K F' m' w v → Gr m F m' F' → Q v H'
  | none => False
abbrev RW (N : Nam) (K : PySem.W.Frag) : Rl W V := fun m F w v => RepW N K F m w v
abbrev RWs (N : Nam) (K : PySem.W.Frag) : Rl (List W) (List V) := fun m F w v => RepWs N K F m w v
theorem VRes.of {Q : VK} {o : Option W} (s : Sim N K σ env m M F H) (h : ERes N K (RW N K) Wx Q σ env m F (Res.of o M)) : VRes N K Q m M F o := by
  cases o with
  | none => exact h
  | some w => exact fun v H' m' F' s' r g => h v H' m' F' (s.to s' g) r g
theorem VRes.same {Q : VK} {w : W} {v : V} (s : SimM N K m M F H) (h : VRes N K Q m M F (some w)) (r : RepW N K F m w v) : Q v H := h v H m F s r (Gr.refl m F)
/-- a new tuple, a new list -/
theorem VRes.tup {Q : VK} {ws : List W} {vs : List V} (s : SimM N K m M F H) (r : RepWs N K F m ws vs) (h : VRes N K Q m M F (some (mkTup ws))) : ∀ p, H p = none → Q (.ref p) (upd H p (.tup vs)) := fun p hp => by
  obtain ⟨s', g⟩ := s.new (o := .tup vs) hp
  exact h _ _ _ _ s' ((RepWs.mono g _ _ r).tup (SqT.of upd_same)) g
theorem VRes.lst {Q : VK} {ds : List D} {vs : List V} (s : SimM N K m M F H) (r : Reps N K F ds vs) (h : VRes N K Q m M F (some (.p (.lst ds)))) : ∀ p, H p = none → Q (.ref p) (upd H p (.lst vs)) := fun p hp => by
  obtain ⟨s', g⟩ := s.new (o := .lst vs) hp
  exact h _ _ _ _ s' ⟨p, vs, rfl, .inl upd_same, Reps.mono g.ex _ _ r⟩ g
theorem VRes.tupD {Q : VK} {ds : List D} {vs : List V} (s : SimM N K m M F H) (r : Reps N K F ds vs) (h : VRes N K Q m M F (some (.p (.tup ds)))) : ∀ p, H p = none → Q (.ref p) (upd H p (.tup vs)) := fun p hp => by
  obtain ⟨s', g⟩ := s.new (o := .tup vs) hp
  exact h _ _ _ _ s' ⟨p, vs, rfl, SqT.of upd_same, Reps.mono g.ex _ _ r⟩ g
end
theorem szOk_le {n : Nat} (h : szOk n = true) : n ≤ sizeLine := Nat.le_trans (of_decide_eq_true h) (by rw [sizeLine_eq]; decide)
theorem le_line {n : Nat} (h : n ≤ 100000) : n ≤ sizeLine := Nat.le_trans h (by rw [sizeLine_eq]; decide)

/-! ### + - * // % ** -/
def aop : Bop → Operator
  | .add => .Add | .sub => .Sub | .mul => .Mult | .fdiv => .FloorDiv | .mod => .Mod | .pow => .Pow
section
variable {X : Cx} {N : Nam}
theorem small_ok {i : Int} (h : small64 i = true) : -(2 ^ 64) < i ∧ i < 2 ^ 64 := by
  obtain ⟨h1, h2⟩ := Bool.and_eq_true_iff.mp h
  exact ⟨of_decide_eq_true h1, of_decide_eq_true h2⟩
theorem mulOk_ok {i j : Int} (h : mulOk i j = true) : IntMulOk i j := by
  unfold mulOk at h
  rcases Bool.or_eq_true_iff.mp h with h | h
  · rcases Bool.or_eq_true_iff.mp h with h | h
    · exact CMul.ok (.inl (small_ok h))
    · exact CMul.ok (.inr (small_ok h))
  · exact CMulW.ok (show i.natAbs.log2 + j.natAbs.log2 < 1000000 from of_decide_eq_true h)
theorem rd_list {pins : List (Addr × Obj)} {s : Shared} {σ : L2.St} {H : Hp} {a : Addr} {xs : List V} (I : L2.Inv X pins σ H s) (h : Rd H a (.lst xs)) :
    ∃ (its : List Value) (n : Nat), Vals xs its ∧ xs.length = its.length ∧ s.heap.get? a = some { cls := .type "list", data := .seq its.toArray n } ∧ xs.length ≤ sizeLine := by
  obtain ⟨z, its, n, r, e⟩ := h.ok I.hok
  exact ⟨its, n, r, r.length, e, z⟩
theorem op_catL : OpR X (binaryOp .Add) (fun x y H Q => ∃ a b xs ys, x = .ref a ∧ y = .ref b ∧ Rd H a (.lst xs) ∧ Rd H b (.lst ys) ∧ xs.length + ys.length ≤ sizeLine ∧ ∀ p, H p = none → Q (.ref p) (upd H p (.lst (xs ++ ys)))) := by
  intro pins s σ H x y v u Q I rx ry h
  obtain ⟨a, b, xs, ys, rfl, rfl, h1, h2, hz, q⟩ := h
  cases rx
  cases ry
  obtain ⟨its, n, r, l1, e, _⟩ := rd_list I h1
  obtain ⟨its2, n2, r2, l2, e2, _⟩ := rd_list I h2
  have z : its.toArray.size + its2.toArray.size ≤ sizeLine := by simp only [List.size_toArray]; omega
  refine PySem.P.add_list e e2 (Eq.mp ?_ (show EP X pins σ Q (.ref s.heap.objs.size) { s with heap := s.heap.push { cls := .type "list", data := .seq (its ++ its2).toArray } } from ?_)) z
  · simp
  · exact ⟨.ref _, _, I.lnew (t' := s.toks) (r.append r2) (by rw [List.length_append]; exact hz), rfl, q _ I.fresh⟩
/-- read as data now: an int .. -/
theorem Now.int_at {K : PySem.W.Frag} {F H : Hp} {i : Int} {v : V} (h : Now N K F H (.int i) v) : v = .int i := by cases h with | p r => exact r
theorem Now.str_at {K : PySem.W.Frag} {F H : Hp} {i : Str} {v : V} (h : Now N K F H (.str i) v) : v = .str i := by cases h with | p r => exact r
theorem Now.tup_at {K : PySem.W.Frag} {F H : Hp} {ds : List D} {v : V} (h : Now N K F H (.tup ds) v) : ∃ a ys, v = .ref a ∧ SqT K F a ys ∧ Reps N K F ds ys := by cases h with | p r => exact r
def rDD (N : Nam) (K : PySem.W.Frag) (f : D → D → Option D) : R2 := fun x y H Q => ∃ m M F a b, SimM N K m M F H ∧ Now N K F H a x ∧ Now N K F H b y ∧ VRes N K Q m M F ((f a b).map .p)
theorem OpR.use {f : Value → Value → Sem Value} {r : R2} (o : OpR X f r) {pins : List (Addr × Obj)} {s : Shared} {σ : L2.St} {H : Hp} {x y : V} {v u : Value} {Q : VK} (I : L2.Inv X pins σ H s) (rx : RelV x v) (ry : RelV y u) (h : r x y H Q) :
    wpAny (model X.prog X.w) X.A (f v u) (EP X pins σ Q) X.xe s := o pins s σ H x y v u Q I rx ry h
theorem bif_some {Q : VK} {K : PySem.W.Frag} {m : List Addr} {M : Mem} {F : Fx} {c : Bool} {w : D} (h : VRes N K Q m M F ((if c = true then some w else none).map .p)) : c = true ∧ VRes N K Q m M F (some (.p w)) := by
  cases c with
  | true => exact ⟨rfl, h⟩
  | false => exact h.elim
theorem op_bin (o : Bop) : OpR X (binaryOp (aop o)) (rDD N X.K (binD o)) := by
  intro pins s σ H x y v u Q I rx ry h
  obtain ⟨m, M, F, a, b, sm, na, nb, h⟩ := h
  cases o with
  | add =>
    cases a <;> cases b <;> first | exact h.elim | skip
    · cases na.int_at; cases nb.int_at
      exact OpR.use op_add I rx ry ⟨_, _, rfl, rfl, VRes.same sm h rfl⟩
    · cases na.str_at; cases nb.str_at
      obtain ⟨z, h⟩ := bif_some h
      exact OpR.use op_add_str I rx ry ⟨_, _, rfl, rfl, szOk_le z, VRes.same sm h rfl⟩
    · obtain ⟨p, us, rfl, e1, r1⟩ := na.tup_at
      obtain ⟨q, ws, rfl, e2, r2⟩ := nb.tup_at
      obtain ⟨z, h⟩ := bif_some h
      refine OpR.use op_catA I rx ry ⟨p, q, us, ws, rfl, rfl, sm.sub.sqT e1, sm.sub.sqT e2, by rw [← r1.length, ← r2.length]; exact szOk_le z, fun e => ?_, fun _ e => ?_, fun _ _ => VRes.tupD sm (r1.append r2) h⟩
      · subst e
        have l := r1.length
        rw [List.length_nil, List.length_eq_zero_iff] at l
        subst l
        exact VRes.same sm h ⟨q, ws, rfl, e2, r2⟩
      · subst e
        have l := r2.length
        rw [List.length_nil, List.length_eq_zero_iff] at l
        subst l
        rw [List.append_nil] at h
        exact VRes.same sm h ⟨p, us, rfl, e1, r1⟩
    · obtain ⟨p, us, rfl, e1, r1⟩ := na.lst_at sm
      obtain ⟨q, ws, rfl, e2, r2⟩ := nb.lst_at sm
      obtain ⟨z, h⟩ := bif_some h
      exact OpR.use op_catL I rx ry ⟨p, q, us, ws, rfl, rfl, e1, e2, by rw [← r1.length, ← r2.length]; exact szOk_le z, VRes.lst sm (r1.append r2) h⟩
  | sub =>
    cases a <;> cases b <;> first | exact h.elim | skip
    cases na.int_at; cases nb.int_at
    exact OpR.use op_sub I rx ry ⟨_, _, rfl, rfl, VRes.same sm h rfl⟩
  | mul =>
    cases a <;> cases b <;> first | exact h.elim | skip
    cases na.int_at; cases nb.int_at
    obtain ⟨z, h⟩ := bif_some h
    have o : OpR X (binaryOp .Mult) (rI (fun i j => IntMulOk i j) fun i j => .int (i * j)) := opI fun _ _ _ _ _ _ _ hc q => mul_int q hc
    exact OpR.use o I rx ry ⟨_, _, rfl, rfl, mulOk_ok z, VRes.same sm h rfl⟩
  | fdiv =>
    cases a <;> cases b <;> first | exact h.elim | skip
    cases na.int_at; cases nb.int_at
    obtain ⟨z, h⟩ := bif_some h
    obtain ⟨z1, z2⟩ := Bool.and_eq_true_iff.mp z
    exact OpR.use op_fdivW I rx ry ⟨_, _, rfl, rfl, ⟨of_decide_eq_true z1, of_decide_eq_true z2⟩, VRes.same sm h rfl⟩
  | mod =>
    cases a <;> cases b <;> first | exact h.elim | skip
    cases na.int_at; cases nb.int_at
    obtain ⟨z, h⟩ := bif_some h
    exact OpR.use op_mod I rx ry ⟨_, _, rfl, rfl, of_decide_eq_true z, VRes.same sm h rfl⟩
  | pow =>
    cases a <;> cases b <;> first | exact h.elim | skip
    cases na.int_at; cases nb.int_at
    obtain ⟨z, h⟩ := bif_some h
    obtain ⟨z, z3⟩ := Bool.and_eq_true_iff.mp z
    obtain ⟨z1, z2⟩ := Bool.and_eq_true_iff.mp z
    exact OpR.use op_pow I rx ry ⟨_, _, rfl, rfl, ⟨of_decide_eq_true z1, of_decide_eq_true z2, of_decide_eq_true z3⟩, VRes.same sm h rfl⟩
end
end G

set_option maxHeartbeats 4000000
/-! Comparisons, subscripts, truth, built-in calls, by values. -/
namespace G
open PySem PySem.Spec PyProof.Rows L2
section
variable {X : Cx} {N : Nam}
def cop : Cop → CmpOp
  | .eq => .Eq | .ne => .NotEq | .lt => .Lt | .le => .LtE | .gt => .Gt | .ge => .GtE | .is => .Is | .isn => .IsNot | .inn => .In | .nin => .NotIn
/-! ### data as the library's == reads it -/
mutual
theorem dp_of {K : PySem.W.Frag} {F : Hp} : ∀ (d : D) (n : Nat) (v : V), plain n d = true → Rep N K F d v → Dp K F v (toPy d)
  | .non, n, v, h, r => by cases r; exact .non
  | .bl b, n, v, h, r => by cases r; exact .bl b
  | .int i, n, v, h, r => by cases r; exact .int i
  | .str s, n, v, h, r => by cases r; exact .str s
  | .tup xs, n, v, h, r => by
    cases n with
    | zero => cases h
    | succ n =>
      obtain ⟨a, ys, rfl, e, r⟩ := r
      exact .tup e (dps_of xs n ys h r)
  | .lst xs, n, v, h, r => by
    cases n with
    | zero => cases h
    | succ n =>
      obtain ⟨a, ys, rfl, e, r⟩ := r
      exact .lst (.inl e) (dps_of xs n ys h r)
  | .dct _ _, n, v, h, r => by cases n <;> cases h
  | .obj _ _ _, n, v, h, r => by cases n <;> cases h
  | .exc _ _ _, n, v, h, r => by cases n <;> cases h
theorem dps_of {K : PySem.W.Frag} {F : Hp} : ∀ (ds : List D) (n : Nat) (vs : List V), plains n ds = true → Reps N K F ds vs → DpAll K F vs (toPys ds)
  | [], n, [], h, r => .nil
  | d :: ds, n, v :: vs, h, r => by
    obtain ⟨h1, h2⟩ := Bool.and_eq_true_iff.mp (show (plain n d && plains n ds) = true by cases n <;> exact h)
    exact .cons (dp_of d n v h1 r.1) (dps_of ds n vs h2 r.2)
  | [], _, _ :: _, _, r => r.elim
  | _ :: _, _, [], _, r => r.elim
end
mutual
theorem Dp.up {K : PySem.W.Frag} {F H : Hp} (e : Xt F H) : ∀ {d : PyData} {v : V}, Dp K F v d → Dp K H v d
  | _, _, .non => .non
  | _, _, .bl b => .bl b
  | _, _, .int i => .int i
  | _, _, .str s => .str s
  | _, _, .lst h r => .lst (e.sqL h) (DpAll.up e r)
  | _, _, .tup h r => .tup (e.sqT h) (DpAll.up e r)
theorem DpAll.up {K : PySem.W.Frag} {F H : Hp} (e : Xt F H) : ∀ {ds : List PyData} {vs : List V}, DpAll K F vs ds → DpAll K H vs ds
  | _, _, .nil => .nil
  | _, _, .cons h r => .cons (Dp.up e h) (DpAll.up e r)
end
theorem Now.dp {K : PySem.W.Frag} {m : List Addr} {M : Mem} {F : Fx} {H : Hp} {d : D} {v : V} (s : SimM N K m M F H) (h : Now N K F H d v) (p : plain 60 d = true) : Dp K H v (toPy d) := by
  cases h with
  | p r => exact Dp.up s.sub (dp_of d 60 v p r)
  | lst h r => exact .lst (SqL.of h) (DpAll.up s.sub (dps_of _ 59 _ p r))
theorem eqD_ok {a b : D} {k : Bool} (h : eqD a b = some k) : (∃ x y : Str, a = .str x ∧ b = .str y ∧ k = decide (x = y)) ∨ eqP a b = some k := by
  unfold eqD at h
  split at h
  · cases h; exact .inl ⟨_, _, rfl, rfl, rfl⟩
  · exact .inr h
theorem eqP_ok {a b : D} {k : Bool} (h : eqP a b = some k) : plain 60 a = true ∧ plain 60 b = true ∧ PyData.eqv (toPy a) (toPy b) = k := by
  unfold eqP at h
  split at h
  · rename_i z
    obtain ⟨z1, z2⟩ := Bool.and_eq_true_iff.mp z
    cases h
    exact ⟨z1, z2, eqv_nrm a 60 b 60 z1 z2⟩
  · cases h
/-! ### in -/
theorem flat_rep {K : PySem.W.Frag} {F : Hp} {d : D} {v : V} (h : flat d = true) (r : Rep N K F d v) : flatV v = true := by
  cases d <;> first | (cases r; rfl) | cases h
theorem eqV_nrm {K : PySem.W.Frag} {F : Hp} {a b : D} {x y : V} (ha : flat a = true) (hb : flat b = true) (ra : Rep N K F a x) (rb : Rep N K F b y) : eqV y x = decide (nrm a = nrm b) := by
  have ei : ∀ p q : Int, (q == p) = decide (D.int p = D.int q) := fun p q => by
    rw [Bool.beq_eq_decide_eq]
    by_cases h : q = p
    · subst h; simp
    · have h' : ¬ D.int p = D.int q := fun e => h (D.int.inj e).symm
      simp [h, h']
  have es : ∀ p q : Str, (q == p) = decide (D.str p = D.str q) := fun p q => by
    by_cases h : q = p
    · subst h; simp
    · have h' : ¬ D.str p = D.str q := fun e => h (D.str.inj e).symm
      have h2 : (q == p) = false := by simpa using h
      simp [h2, h']
  cases a <;> first | (cases ha; done) | skip
  all_goals cases ra
  all_goals (cases b <;> first | (cases hb; done) | skip)
  all_goals cases rb
  case int.refl.int.refl => exact ei _ _
  case str.refl.str.refl => exact es _ _
  case bl.refl.bl.refl p q => cases p <;> cases q <;> rfl
  case bl.refl.int.refl p q => exact ei _ _
  case int.refl.bl.refl p q => exact ei _ _
  all_goals rfl
theorem inV_mem {K : PySem.W.Frag} {F : Hp} {a : D} {x : V} (ha : flat a = true) (ra : Rep N K F a x) : ∀ {ds : List D} {vs : List V}, ds.all flat = true → Reps N K F ds vs → inV x vs = decide (nrm a ∈ nrms ds) ∧ vs.all flatV = true
  | [], [], _, _ => ⟨by simp [inV, nrms], rfl⟩
  | d :: ds, v :: vs, h, r => by
    rw [List.all_cons, Bool.and_eq_true] at h
    obtain ⟨h1, h2⟩ := inV_mem ha ra h.2 r.2
    refine ⟨?_, ?_⟩
    · show (eqV v x || inV x vs) = _
      rw [h1, eqV_nrm ha h.1 ra r.1]
      simp [nrms]
    · rw [List.all_cons, flat_rep h.1 r.1, h2]; rfl
  | [], _ :: _, _, r => r.elim
  | _ :: _, [], _, r => r.elim
/-! ### comparisons -/
def rCmp (N : Nam) (K : PySem.W.Frag) (o : Cop) : R2 := fun x y H Q => ∃ m M F a b, SimM N K m M F H ∧ RepW N K F m a x ∧ RepW N K F m b y ∧ ∃ k, cmpW M o a b = some k ∧ Q (.bl k) H
theorem isNon_rep {K : PySem.W.Frag} {F : Hp} {m : List Addr} {w : W} {v : V} (r : RepW N K F m w v) : decide (v = .non) = isNon w := by
  cases w with
  | p d =>
    cases d with
    | non => cases r; rfl
    | bl _ => cases r; rfl
    | int _ => cases r; rfl
    | str _ => cases r; rfl
    | tup _ => obtain ⟨a, ys, rfl, _⟩ := r; rfl
    | lst _ => obtain ⟨a, ys, rfl, _⟩ := r; rfl
    | dct _ _ => obtain ⟨a, ys, rfl, _⟩ := r; rfl
    | obj _ _ _ => obtain ⟨a, d, fs, rfl, _⟩ := r; rfl
    | exc _ _ _ => obtain ⟨a, d, fs, rfl, _⟩ := r; rfl
  | loc l => obtain ⟨a, _, rfl⟩ := r; rfl
  | tp ws => obtain ⟨a, ys, rfl, _⟩ := r; rfl
theorem non_rep {K : PySem.W.Frag} {F : Hp} {m : List Addr} {w : W} {v : V} (r : RepW N K F m w v) (h : isNon w = true) : v = .non := by
  have e := isNon_rep r
  rw [h] at e
  exact of_decide_eq_true e
theorem OpR.or {f : Value → Value → Sem Value} {r1 r2 : R2} (h1 : OpR X f r1) (h2 : OpR X f r2) : OpR X f (fun x y H Q => r1 x y H Q ∨ r2 x y H Q) :=
  fun pins s σ H x y v u Q I rx ry h => h.elim (fun h => h1 pins s σ H x y v u Q I rx ry h) (fun h => h2 pins s σ H x y v u Q I rx ry h)
theorem inn_cases {d e : D} {k : Bool} (h : cmpD .inn d e = some k) : (∃ (c : Nat) (z : Str), d = .str ⟨#[c]⟩ ∧ e = .str z ∧ k = decide (c ∈ z.cps.toList)) ∨ (∃ ds, (e = .tup ds ∨ e = .lst ds) ∧ memD d ds = some k) := by
  cases e with
  | tup ds => exact .inr ⟨ds, .inl rfl, by cases d <;> exact h⟩
  | lst ds => exact .inr ⟨ds, .inr rfl, by cases d <;> exact h⟩
  | str z =>
    cases d with
    | str x =>
      have h : (match x.cps.toList with
        | [c] => if decide (x = ⟨#[c]⟩) then some (decide (c ∈ z.cps.toList)) else none
        | _ => none) = some k := h
      split at h
      · rename_i c _
        split at h
        · rename_i w
          cases h
          rw [of_decide_eq_true w]
          exact .inl ⟨c, z, rfl, rfl, rfl⟩
        · cases h
      · cases h
    | _ => cases h
  | _ => cases d <;> cases h
theorem op_cmp (o : Cop) (hu : X.A.units + 64 < cLine) : OpR X (compareOp (cop o)) (rCmp N X.K o) := by
  intro pins s σ H x y v u Q I rx ry h
  obtain ⟨m, M, F, a, b, sm, ra, rb, k, h, q⟩ := h
  have data : ∀ {r : R2}, OpR X (compareOp (cop o)) r → (∀ (d e : D), Now N X.K F H d x → Now N X.K F H e y → cmpD o d e = some k → r x y H Q) → o ≠ .is → o ≠ .isn → wpAny (model X.prog X.w) X.A (compareOp (cop o) v u) (EP X pins σ Q) X.xe s := fun {r} ho hr h1 h2 => by
    have e : cmpW M o a b = match a.view M, b.view M with
      | some x, some y => cmpD o x y
      | _, _ => none := by cases o <;> first | rfl | exact absurd rfl h1 | exact absurd rfl h2
    rw [e] at h
    cases ea : a.view M with
    | none => rw [ea] at h; cases h
    | some d =>
      cases eb : b.view M with
      | none => rw [ea, eb] at h; cases h
      | some f =>
        rw [ea, eb] at h
        exact OpR.use ho I rx ry (hr d f (sm.view ra ea) (sm.view rb eb) h)
  cases o with
  | is =>
    have h' : (if isNon b then some (isNon a) else none) = some k := h
    split at h'
    · rename_i z
      cases h'
      exact OpR.use op_isN I rx ry ⟨non_rep rb z, by rw [isNon_rep ra]; exact q⟩
    · cases h'
  | isn =>
    have h' : (if isNon b then some (!isNon a) else none) = some k := h
    split at h'
    · rename_i z
      cases h'
      exact OpR.use op_notN I rx ry ⟨non_rep rb z, by rw [isNon_rep ra]; exact q⟩
    · cases h'
  | eq =>
    refine data (r := fun x y H Q => rEq x y H Q ∨ rEqD X.K x y H Q) (fun pins s σ H x y v u Q I rx ry h => h.elim (fun h => op_eq pins s σ H x y v u Q I rx ry h) (fun h => op_eqD hu pins s σ H x y v u Q I rx ry h)) (fun d e n1 n2 h => ?_) (by decide) (by decide)
    rcases eqD_ok h with ⟨x, y, rfl, rfl, rfl⟩ | h
    · cases n1.str_at; cases n2.str_at
      exact .inl ⟨rfl, by rw [show decide (V.str x = V.str y) = decide (x = y) from decide_eq_decide.mpr ⟨fun h => V.str.inj h, fun h => by rw [h]⟩]; exact q⟩
    · obtain ⟨p1, p2, e1⟩ := eqP_ok h
      exact .inr ⟨_, _, n1.dp sm p1, n2.dp sm p2, shaped_of p1, shaped_of p2, by rw [e1]; exact q⟩
  | ne =>
    refine data (r := fun x y H Q => rNe x y H Q ∨ rNeD X.K x y H Q) (fun pins s σ H x y v u Q I rx ry h => h.elim (fun h => op_ne pins s σ H x y v u Q I rx ry h) (fun h => op_neD hu pins s σ H x y v u Q I rx ry h)) (fun d e n1 n2 h => ?_) (by decide) (by decide)
    have h' : (eqD d e).map (!·) = some k := h
    cases z : eqD d e with
    | none => rw [z] at h'; cases h'
    | some k' =>
      rw [z] at h'
      cases h'
      rcases eqD_ok z with ⟨x, y, rfl, rfl, rfl⟩ | z
      · cases n1.str_at; cases n2.str_at
        exact .inl ⟨rfl, by rw [show decide (V.str x = V.str y) = decide (x = y) from decide_eq_decide.mpr ⟨fun h => V.str.inj h, fun h => by rw [h]⟩]; exact q⟩
      · obtain ⟨p1, p2, e1⟩ := eqP_ok z
        exact .inr ⟨_, _, n1.dp sm p1, n2.dp sm p2, shaped_of p1, shaped_of p2, by rw [e1]; exact q⟩
  | lt =>
    refine data op_lt (fun d e n1 n2 h => ?_) (by decide) (by decide)
    cases d <;> cases e <;> first | (cases h; done) | skip
    cases n1.int_at; cases n2.int_at; cases h
    exact ⟨_, _, rfl, rfl, q⟩
  | le =>
    refine data op_le (fun d e n1 n2 h => ?_) (by decide) (by decide)
    cases d <;> cases e <;> first | (cases h; done) | skip
    cases n1.int_at; cases n2.int_at; cases h
    exact ⟨_, _, rfl, rfl, q⟩
  | gt =>
    refine data op_gt (fun d e n1 n2 h => ?_) (by decide) (by decide)
    cases d <;> cases e <;> first | (cases h; done) | skip
    cases n1.int_at; cases n2.int_at; cases h
    exact ⟨_, _, rfl, rfl, q⟩
  | ge =>
    refine data op_ge (fun d e n1 n2 h => ?_) (by decide) (by decide)
    cases d <;> cases e <;> first | (cases h; done) | skip
    cases n1.int_at; cases n2.int_at; cases h
    exact ⟨_, _, rfl, rfl, q⟩
  | inn =>
    refine data (OpR.or op_in_sign op_in_seq) (fun d e n1 n2 h => ?_) (by decide) (by decide)
    have key : ∀ {ds : List D} {ys : List V}, memD d ds = some k → Reps N X.K F ds ys → flatV x = true ∧ ys.all flatV = true ∧ k = inV x ys := fun {ds ys} h r => by
      unfold memD at h
      split at h
      · rename_i z
        obtain ⟨z1, z2⟩ := Bool.and_eq_true_iff.mp z
        cases h
        have rd : Rep N X.K F d x := by
          cases n1 with
          | p r => exact r
          | lst _ _ => cases z1
        obtain ⟨e1, e2⟩ := inV_mem z1 rd z2 r
        exact ⟨flat_rep z1 rd, e2, e1.symm⟩
      · cases h
    rcases inn_cases h with ⟨c, z, rfl, rfl, rfl⟩ | ⟨ds, (rfl | rfl), hm⟩
    · cases n1.str_at; cases n2.str_at
      exact .inl ⟨c, z, rfl, rfl, q⟩
    · obtain ⟨p, ys, rfl, e1, r⟩ := n2.tup_at
      obtain ⟨k1, k2, k3⟩ := key hm r
      exact .inr ⟨p, ys, rfl, .inr (sm.sub.sqT e1), k1, k2, by rw [← k3]; exact q⟩
    · obtain ⟨p, ys, rfl, e1, r⟩ := n2.lst_at sm
      obtain ⟨k1, k2, k3⟩ := key hm r
      exact .inr ⟨p, ys, rfl, .inl (.inl e1), k1, k2, by rw [← k3]; exact q⟩
  | nin =>
    refine data op_notIn_seq (fun d e n1 n2 h => ?_) (by decide) (by decide)
    have key : ∀ {ds : List D} {ys : List V}, (memD d ds).map (!·) = some k → Reps N X.K F ds ys → flatV x = true ∧ ys.all flatV = true ∧ k = !inV x ys := fun {ds ys} h r => by
      cases zz : memD d ds with
      | none => rw [zz] at h; cases h
      | some k' =>
        rw [zz] at h
        cases h
        unfold memD at zz
        split at zz
        · rename_i z
          obtain ⟨z1, z2⟩ := Bool.and_eq_true_iff.mp z
          cases zz
          have rd : Rep N X.K F d x := by
            cases n1 with
            | p r => exact r
            | lst _ _ => cases z1
          obtain ⟨e1, e2⟩ := inV_mem z1 rd z2 r
          exact ⟨flat_rep z1 rd, e2, by rw [e1]⟩
        · cases zz
    cases e <;> first | (cases d <;> cases h; done) | skip
    · obtain ⟨p, ys, rfl, e1, r⟩ := n2.tup_at
      obtain ⟨k1, k2, k3⟩ := key (by cases d <;> exact h) r
      exact ⟨p, ys, rfl, .inr (sm.sub.sqT e1), k1, k2, by rw [if_pos rfl, ← k3]; exact q⟩
    · obtain ⟨p, ys, rfl, e1, r⟩ := n2.lst_at sm
      obtain ⟨k1, k2, k3⟩ := key (by cases d <;> exact h) r
      exact ⟨p, ys, rfl, .inl (.inl e1), k1, k2, by rw [if_pos rfl, ← k3]; exact q⟩
/-! ### truth -/
theorem tru_of {K : PySem.W.Frag} {m : List Addr} {M : Mem} {F : Fx} {H : Hp} {w : W} {v : V} {k : Bool} (s : SimM N K m M F H) (r : RepW N K F m w v) (h : tru M w = some k) : TruV K v H k := by
  have e0 : ∀ {ds : List D} {ys : List V}, Reps N K F ds ys → (!ds.isEmpty) = !ys.isEmpty := fun {ds ys} r => by
    cases ds <;> cases ys <;> first | rfl | exact r.elim
  have e1 : ∀ {ds : List W} {ys : List V}, RepWs N K F m ds ys → (!ds.isEmpty) = !ys.isEmpty := fun {ds ys} r => by
    cases ds <;> cases ys <;> first | rfl | exact r.elim
  cases w with
  | p d =>
    cases d with
    | non => cases r; cases h; exact rfl
    | bl b => cases r; cases h; exact rfl
    | int i => cases r; cases h; exact rfl
    | str z =>
      cases r
      have h' : (if z.length ≤ 100000 then some (z.length != 0) else none) = some k := h
      split at h'
      · rename_i q
        cases h'
        refine ⟨le_line q, ?_⟩
        generalize z.length = n
        cases n with
        | zero => rfl
        | succ n =>
          have e : (((n + 1 : Nat) : Int) != 0) = true := bne_iff_ne.mpr (by omega)
          rw [e]
          rfl
      · cases h'
    | tup xs =>
      obtain ⟨a, ys, rfl, e, r⟩ := r
      cases h
      exact .inr (.inl ⟨ys, s.sub.sqT e, e0 r⟩)
    | lst xs =>
      obtain ⟨a, ys, rfl, e, r⟩ := r
      cases h
      exact .inl ⟨ys, .inl (s.sub.rd e), e0 r⟩
    | _ => cases h
  | tp ws =>
    obtain ⟨a, ys, rfl, e, r⟩ := r
    cases h
    exact .inr (.inl ⟨ys, s.sub.sqT e, e1 r⟩)
  | loc l =>
    obtain ⟨a, h1, rfl⟩ := r
    unfold tru at h
    dsimp only at h
    cases q : M[l]? with
    | none => rw [q] at h; cases h
    | some c =>
      rw [q] at h
      have co := s.cell l a c h1 q
      cases c with
      | lst us =>
        cases h
        obtain ⟨_, ys, h3, h4⟩ := co
        exact .inl ⟨ys, SqL.of h3, e1 h4⟩
      | fz d =>
        cases d with
        | lst ds =>
          cases h
          obtain ⟨a', ys, h3, h4, h5⟩ := co
          cases h3
          exact .inl ⟨ys, .inl (s.sub.rd h4), e0 h5⟩
        | _ => cases h
      | _ => cases h
/-! ### subscripts, slices -/
theorem RepWs.at {K : PySem.W.Frag} {F : Hp} {m : List Addr} {ws : List W} {vs : List V} {i : Int} {w : W} (r : RepWs N K F m ws vs) (h : at? ws i = some w) : ∃ v, atI vs i = some v ∧ RepW N K F m w v := by
  unfold at? at h
  have e : ixI ws.length i = ixN vs.length i := by rw [r.length]; rfl
  rw [e] at h
  unfold atI
  cases q : ixN vs.length i with
  | none => rw [q] at h; cases h
  | some j =>
    rw [q] at h
    exact r.get h
def rIdx (N : Nam) (K : PySem.W.Frag) : R2 := fun x y H Q => ∃ m M F a b w, SimM N K m M F H ∧ RepW N K F m a x ∧ RepW N K F m b y ∧ idxW M a b = some w ∧ ∀ v, RepW N K F m w v → Q v H
theorem ix_W : IxR X (rIdx N X.K) := by
  intro value slice pins s σ H x y v u Q I rx ry h hs
  refine ix_seq value slice pins s σ H x y v u Q I rx ry ?_ hs
  obtain ⟨m, M, F, a, b, w, sm, ra, rb, h, q⟩ := h
  cases b with
  | p d =>
    cases d with
    | int k =>
      cases rb
      by_cases sa : ∃ z, a = .p (.str z)
      · obtain ⟨z, rfl⟩ := sa
        cases (show x = .str z from ra)
        have h' : (if szOk z.length then (at? z.cps.toList k).map fun c => W.p (.str ⟨#[c]⟩) else none) = some w := h
        split at h'
        · rename_i z2
          obtain ⟨c, hc, rfl⟩ := Option.map_eq_some_iff.mp h'
          exact .inr (.inr ⟨z, k, c, rfl, rfl, szOk_le z2, hc, q _ rfl⟩)
        · cases h'
      have h' : (match a.items M with | some ws => at? ws k | none => none) = some w := by
        cases a with
        | p d => cases d <;> first | exact h | exact absurd ⟨_, rfl⟩ sa
        | _ => exact h
      cases e : a.items M with
      | none => rw [e] at h'; cases h'
      | some ws =>
        rw [e] at h'
        obtain ⟨p, ys, rfl, hq, r⟩ := sm.items ra e
        obtain ⟨v, h1, h2⟩ := r.at h'
        rcases hq with hq | hq
        · exact .inl ⟨p, ys, k, v, rfl, rfl, hq, h1, q v h2⟩
        · exact .inr (.inl ⟨p, ys, k, v, rfl, rfl, hq, h1, q v h2⟩)
    | _ => cases h
  | _ => cases h
theorem cutPt_eq (n d : Nat) (o : Option Int) : cutPt n d o = HT.sIx n d o := by cases o <;> rfl
theorem Reps.cut {K : PySem.W.Frag} {F : Hp} {ds : List D} {vs : List V} (r : Reps N K F ds vs) (lo hi : Option Int) : Reps N K F (cutL ds lo hi) (cutV vs lo hi) := by
  unfold cutL cutV
  rw [cutPt_eq, cutPt_eq, r.length]
  exact (r.drop _).take _

def rSlc (N : Nam) (K : PySem.W.Frag) : V → Option Int → Option Int → Hp → VK → Prop := fun x lo hi H Q => ∃ m M F a ds, SimM N K m M F H ∧ RepW N K F m a x ∧
  ((∃ z, a.view M = some (.str z) ∧ szOk z.length = true ∧ VRes N K Q m M F (some (.p (.str (cutS z lo hi))))) ∨ (a.view M = some (.lst ds) ∧ VRes N K Q m M F (some (.p (.lst (cutL ds lo hi))))) ∨ (a.view M = some (.tup ds) ∧ VRes N K Q m M F (some (.p (.tup (cutL ds lo hi))))))
theorem cutL_whole {α : Type} {xs : List α} {lo hi : Option Int} (h1 : cutPt xs.length 0 lo = 0) (h2 : cutPt xs.length xs.length hi = xs.length) : cutL xs lo hi = xs := by
  unfold cutL
  rw [h1, h2]
  simp
theorem sl_W : SlR X (rSlc N X.K) := by
  intro pins s σ H x v vl vu lo hi sl Q I rx hs pl pu h
  obtain ⟨m, M, F, a, ds, sm, ra, h⟩ := h
  rcases h with ⟨z, e, z2, h⟩ | ⟨e, h⟩ | ⟨e, h⟩
  · cases (sm.view ra e).str_at
    exact sl_str pins s σ H _ v vl vu lo hi sl Q I rx hs pl pu ⟨z, rfl, szOk_le z2, VRes.same sm h rfl⟩
  · obtain ⟨p, ys, rfl, e1, r⟩ := (sm.view ra e).lst_at sm
    exact sl_list pins s σ H _ v vl vu lo hi sl Q I rx hs pl pu ⟨p, ys, rfl, .inl e1, VRes.lst sm (r.cut lo hi) h⟩
  · obtain ⟨p, ys, rfl, e1, r⟩ := (sm.view ra e).tup_at
    refine sl_tupA pins s σ H _ v vl vu lo hi sl Q I rx hs pl pu ⟨p, ys, rfl, sm.sub.sqT e1, fun z => ?_, fun _ => VRes.tupD sm (r.cut lo hi) h⟩
    have z1 : cutPt ds.length 0 lo = 0 := by rw [cutPt_eq, r.length]; exact z.1
    have z2 : cutPt ds.length ds.length hi = ds.length := by rw [cutPt_eq, r.length]; exact z.2
    rw [cutL_whole z1 z2] at h
    exact VRes.same sm h ⟨p, ys, rfl, e1, r⟩
end
end G

set_option maxHeartbeats 4000000
/-! What the top has written of the classes; attributes, isinstance, built-in calls, by values. -/
namespace G
open PySem PySem.Spec PyProof.Rows L2

def tyV (N : Nam) : Ty → Value
  | .non => .type "NoneType" | .bool => .type "bool" | .int => .type "int" | .str => .type "str" | .tup => .type "tuple" | .lst => .type "list" | .dct => .type "dict" | .own c => .ref (N.cA c)
def tycV (N : Nam) : TyC → Value
  | .own c => .ref (N.cA c) | .int => .type "int" | .bool => .type "bool" | .str => .type "str" | .list => .type "list" | .tuple => .type "tuple" | .dict => .type "dict" | .verr => .type "ValueError"
  | .oerr n => .type n
def tycX (N : Nam) : TyC → V
  | .own c => .ref (N.cA c) | .int => .ty "int" | .bool => .ty "bool" | .str => .ty "str" | .list => .ty "list" | .tuple => .ty "tuple" | .dict => .ty "dict" | .verr => .ty "ValueError"
  | .oerr n => .ty n
/-- what is known of the classes -/
structure TieC (P : Prog) (N : Nam) (K : PySem.W.Frag) : Prop where
  sysm : (K.lookup sysModules).isSome = true
  own : ∀ c k, P.cls c = some k → k.isX = false → Cls K (N.cA c) ∧ PySem.W.findIn K (.ref (N.cA c)) "__class__" = some (some (.builtin "object.__class__")) ∧ PySem.W.mroIn K (N.cA c) (.type "object") = some true
  exc : ∀ c k, P.cls c = some k → k.isX = true → XfC K (N.cA c) ∧ PySem.W.findIn K (.ref (N.cA c)) "__class__" = some (some (.builtin "object.__class__")) ∧ PySem.W.mroIn K (N.cA c) (.type "object") = some true
  dsc : PySem.W.specialIn K (.builtin "object.__class__") "__get__" = some (some (.builtin "getset_descriptor.__get__")) ∧ PySem.W.takesIn K (.builtin "object.__class__") = some true
  kit : ∀ tc, P.isis.contains tc = true → ∀ t, (∀ c, t = .own c → ∃ k, P.cls c = some k) → PySem.W.kitOne K (tyV N t) (tycV N tc) = some (isT P t tc)
  noat : ∀ c k f, P.cls c = some k → k.flds.contains f = true → PySem.W.findIn K (.ref (N.cA c)) (N.at_ f) = some none

/-! ### a caught exception's class -/
theorem kit_exc {K : PySem.W.Frag} {x C : Addr} {ox : Obj} {od : Option Obj} (T : XfC K C) (ha : PySem.W.findIn K (.ref C) "__class__" = some (some (.builtin "object.__class__")))
    (hn : PySem.W.specialIn K (.builtin "object.__class__") "__get__" = some (some (.builtin "getset_descriptor.__get__"))) (htk : PySem.W.takesIn K (.builtin "object.__class__") = some true) (hm : PySem.W.mroIn K C (.type "object") = some true) :
    PySem.W.KitX K (.ref x) (.ref C) (fun h => PySem.W.InstAt h x ox C od) :=
  PySem.W.kitx_exc (by obtain ⟨cd, hc, _⟩ := PySem.W.any_some T.hdC; rw [hc]; rfl) T.ga T.gg T.exC ha hn htk hm
section
variable {X : Cx} {N : Nam} {P : Prog} {pins : List (Addr × Obj)} {s : Shared} {σ : L2.St}
/-- a caught exception's object, its dict -/
theorem exc_inst {F H : Hp} {a C d : Addr} {fs : List (Str × V)} (I : L2.Inv X pins σ H s) (h1 : H a = some (excHO C (some d) a)) (h2 : H d = some (.xd fs)) :
    ∃ ox od mA, PySem.W.InstAt s.heap a ox C (some od) ∧ s.heap.Ns1 d mA ∧ (∀ f, RelO (fs.lookup f) (mA f)) ∧ s.heap.get? d = some od := by
  obtain ⟨⟨oe, vs, e, z, hd⟩, _⟩ := (show ObjOk X.prog X.w H s.heap a (excHO C (some d) a) from I.hok a _ h1)
  obtain ⟨mA, hn, hr⟩ := (show ObjOk X.prog X.w H s.heap d (.xd fs) from I.hok d _ h2)
  obtain ⟨od, es, ep, ho, hx⟩ := id hn
  exact ⟨oe, od, mA, ⟨e, z.1, by unfold PySem.W.notCls; rw [hd] <;> rfl, by rw [z.2]; exact ho⟩, hn, hr, ho⟩
theorem own_kit {c : Nat} {b : Bool} {t : Ty} (h : ownTy P c b = some t) : t = .own c ∧ ∃ k, P.cls c = some k ∧ k.isX = b := by
  unfold ownTy at h
  split at h
  · rename_i k hk
    split at h
    · rename_i z
      cases h
      exact ⟨rfl, k, hk, beq_iff_eq.mp z⟩
    · cases h
  · cases h
theorem kit_D {F H : Hp} (T : TieC P N X.K) (sub : Xt F H) (I : L2.Inv X pins σ H s) {d : D} {v : V} {u : Value} {t : Ty} (r : Rep N X.K F d v) (ru : RelV v u) (h : tyD P d = some t) :
    (∃ Z : Heap → Prop, PySem.W.KitX X.K u (tyV N t) Z ∧ Z s.heap ∧ u ≠ .builtin "__main__.__loader__#opaque") ∧ ∀ c, t = .own c → ∃ k, P.cls c = some k := by
  have base : ∀ {ty : Value}, TyX X.K H v ty → tyV N t = ty → (∀ c, t ≠ .own c) → (∃ Z : Heap → Prop, PySem.W.KitX X.K u (tyV N t) Z ∧ Z s.heap ∧ u ≠ .builtin "__main__.__loader__#opaque") ∧ ∀ c, t = .own c → ∃ k, P.cls c = some k := fun {ty} b e n => by
    subst e
    exact ⟨kit_of I ru b, fun c e => absurd e (n c)⟩
  cases d with
  | non => cases r; cases h; exact base (.base .non) rfl (fun _ e => nomatch e)
  | bl b => cases r; cases h; exact base (.base (.bl b)) rfl (fun _ e => nomatch e)
  | int b => cases r; cases h; exact base (.base (.int b)) rfl (fun _ e => nomatch e)
  | str b => cases r; cases h; exact base (.base (.str b)) rfl (fun _ e => nomatch e)
  | tup xs =>
    obtain ⟨a, ys, rfl, e, _⟩ := r
    cases h
    refine base ?_ rfl (fun _ e => nomatch e)
    rcases e with (e | ⟨o, e⟩) | ⟨o, its, n, e, c, _⟩
    · exact .base (.tup (sub _ _ e))
    · exact .fTuple (sub _ _ e)
    · exact .kTuple e c
  | lst xs =>
    obtain ⟨a, ys, rfl, e, _⟩ := r
    cases h
    refine base ?_ rfl (fun _ e => nomatch e)
    rcases e with e | ⟨o, e⟩
    · exact .base (.lst (sub _ _ e))
    · exact .base (.frz (sub _ _ e))
  | dct ks vs =>
    obtain ⟨a, kvs, rfl, e, _⟩ := r
    cases h
    exact base (.base (.dK (sub _ _ e))) rfl (fun _ e => nomatch e)
  | obj c ns vs =>
    obtain ⟨a, dx, fs, rfl, e, _⟩ := r
    obtain ⟨rfl, k, hk, hx⟩ := own_kit h
    obtain ⟨t1, t2, t3⟩ := T.own c k hk hx
    exact ⟨kit_of I ru (.base (.ins (sub _ _ e) t1 t2 T.dsc.1 T.dsc.2 t3)), fun c' e => by cases e; exact ⟨k, hk⟩⟩
  | exc c ns vs =>
    obtain ⟨a, d, fs, rfl, e1, e2, _⟩ := r
    obtain ⟨rfl, k, hk, hx⟩ := own_kit h
    obtain ⟨t1, t2, t3⟩ := T.exc c k hk hx
    obtain ⟨ox, od, mA, J, _⟩ := exc_inst (F := F) I (sub _ _ e1) (sub _ _ e2)
    cases ru
    exact ⟨⟨_, kit_exc t1 t2 T.dsc.1 T.dsc.2 t3, J, fun z => nomatch z⟩, fun c' e => by cases e; exact ⟨k, hk⟩⟩
theorem kit_W {m : List Addr} {M : Mem} {F : Fx} {H : Hp} (T : TieC P N X.K) (sm : SimM N X.K m M F H) (I : L2.Inv X pins σ H s) {w : W} {v : V} {u : Value} {t : Ty} (r : RepW N X.K F m w v) (ru : RelV v u) (h : tyW P M w = some t) :
    (∃ Z : Heap → Prop, PySem.W.KitX X.K u (tyV N t) Z ∧ Z s.heap ∧ u ≠ .builtin "__main__.__loader__#opaque") ∧ ∀ c, t = .own c → ∃ k, P.cls c = some k := by
  cases w with
  | p d => exact kit_D T sm.sub I r ru h
  | tp ws =>
    obtain ⟨a, ys, rfl, e, _⟩ := r
    cases h
    refine ⟨kit_of I ru ?_, fun _ e => nomatch e⟩
    rcases e with (e | ⟨o, e⟩) | ⟨o, its, n, e, c, _⟩
    · exact .base (.tup (sm.sub _ _ e))
    · exact .fTuple (sm.sub _ _ e)
    · exact .kTuple e c
  | loc l =>
    obtain ⟨a, h1, rfl⟩ := r
    unfold tyW at h
    dsimp only at h
    cases q : M[l]? with
    | none => rw [q] at h; cases h
    | some c =>
      rw [q] at h
      have co := sm.cell l a c h1 q
      cases c with
      | lst us =>
        cases h
        obtain ⟨_, ys, h3, h4⟩ := co
        exact ⟨kit_of I ru (.base (.lst h3)), fun _ e => nomatch e⟩
      | fz d => exact kit_D T sm.sub I co ru h
      | ins c ns ws =>
        obtain ⟨_, dx, fs, h3, h4⟩ := co
        obtain ⟨rfl, k, hk, hx⟩ := own_kit h
        obtain ⟨t1, t2, t3⟩ := T.own c k hk hx
        exact ⟨kit_of I ru (.base (.ins h3 t1 t2 T.dsc.1 T.dsc.2 t3)), fun c' e => by cases e; exact ⟨k, hk⟩⟩
      | dic ks ws =>
        cases h
        obtain ⟨_, kvs, h3, h4⟩ := co
        exact ⟨kit_of I ru (.base (.dK h3)), fun _ e => nomatch e⟩
theorem kit_any {K : PySem.W.Frag} (T : TieC P N K) {t : Ty} (ht : ∀ c, t = .own c → ∃ k, P.cls c = some k) : ∀ {cs : List TyC}, cs.all P.isis.contains = true → PySem.W.kitAny K (tyV N t) (cs.map (tycV N)) = some (cs.any (isT P t))
  | [], _ => rfl
  | c :: r, h => by
    rw [List.all_cons, Bool.and_eq_true] at h
    have e := T.kit c h.1 t ht
    have ih := kit_any T ht h.2
    show (match PySem.W.kitOne K (tyV N t) (tycV N c) with
      | some true => some true
      | some false => PySem.W.kitAny K (tyV N t) (r.map (tycV N))
      | none => none) = _
    rw [e, List.any_cons, ih]
    cases isT P t c <;> rfl
/-- isinstance(x, c); isinstance(x, (c1, ..)), the tuple just laid -/
def rIsi1 (P : Prog) (N : Nam) (K : PySem.W.Frag) (c : TyC) : List V → Hp → VK → Prop := fun vs H Q => ∃ x m M F w t, vs = [x, tycX N c] ∧ SimM N K m M F H ∧ RepW N K F m w x ∧ tyW P M w = some t ∧ Q (.bl (isT P t c)) H
def rIsiN (P : Prog) (N : Nam) (K : PySem.W.Frag) (cs : List TyC) : List V → Hp → VK → Prop := fun vs H Q => ∃ x tp m M F w t, vs = [x, .ref tp] ∧ H tp = some (.tup (cs.map (tycX N))) ∧ SimM N K m M F H ∧ RepW N K F m w x ∧ tyW P M w = some t ∧ Q (.bl (cs.any (isT P t))) H
theorem tyc_rel {c : TyC} {u : Value} (r : RelV (tycX N c) u) : u = tycV N c := by cases c <;> exact r
theorem tycs_rel : ∀ {cs : List TyC} {us : List Value}, Vals (cs.map (tycX N)) us → us = cs.map (tycV N)
  | [], _, r => by cases r; rfl
  | c :: cs, _, r => by
    cases r with
    | cons r1 r2 => rw [tyc_rel r1, tycs_rel r2]; rfl
theorem call_isi1 {c : TyC} (T : TieC P N X.K) (hc : P.isis.contains c = true) : CallR X (.builtin "isinstance") (rIsi1 P N X.K c) := by
  intro pins s σ H xs us Q I r h
  obtain ⟨x, m, M, F, w, t, rfl, sm, rw', ht, q⟩ := h
  obtain ⟨u1, u2, rfl, r1, r2⟩ := vals2 r
  obtain ⟨⟨Z, kx, hz, ne⟩, hk⟩ := kit_W T sm I rw' r1 ht
  rw [tyc_rel r2]
  exact PySem.W.kia_one kx I.kIn hz (T.kit c hc t hk) ne fun tk => ⟨.bl _, H, I.tok tk, rfl, q⟩
theorem call_isiN {cs : List TyC} (T : TieC P N X.K) (hc : cs.all P.isis.contains = true) : CallR X (.builtin "isinstance") (rIsiN P N X.K cs) := by
  intro pins s σ H xs us Q I r h
  obtain ⟨x, tp, m, M, F, w, t, rfl, hT, sm, rw', ht, q⟩ := h
  obtain ⟨u1, u2, rfl, r1, r2⟩ := vals2 r
  cases (show u2 = Value.ref tp from r2)
  obtain ⟨⟨Z, kx, hz, ne⟩, hk⟩ := kit_W T sm I rw' r1 ht
  obtain ⟨_, its, rv, o, h1, h2, n, h3⟩ := (show ObjOk X.prog X.w H s.heap tp (.tup (cs.map (tycX N))) from I.hok tp _ hT)
  have e3 := tycs_rel rv
  subst e3
  obtain ⟨oc, od, dt, sl⟩ := o
  simp only at h2 h3
  subst h2 h3
  exact PySem.W.kia_tup kx I.kIn hz h1 (kit_any T hk hc) ne fun tk => ⟨.bl _, H, I.tok tk, rfl, q⟩
/-! ### attributes -/
theorem fld_tie {K : PySem.W.Frag} (T : TieC P N K) {c f : Nat} {b : Bool} (h : fldOk P c f b = true) : ∃ k, P.cls c = some k ∧ k.isX = b ∧ PySem.W.findIn K (.ref (N.cA c)) (N.at_ f) = some none := by
  unfold fldOk at h
  split at h
  · rename_i k hk
    obtain ⟨h1, h2⟩ := Bool.and_eq_true_iff.mp h
    exact ⟨k, hk, beq_iff_eq.mp h2, T.noat c k f hk h1⟩
  · cases h
theorem att_obj (T : TieC P N X.K) (I : L2.Inv X pins σ H s) {a dx : Addr} {c f : Nat} {fs : List (Str × V)} {v : V} (hf : fldOk P c f false = true) (e : H a = some (.ins (N.cA c) dx fs)) (l : fs.lookup (N.at_ f) = some v)
    {Q : Value → Shared → Prop} {E : Value → Shared → Prop} {A : Around} (h : ∀ u s', L2.Inv X pins σ H s' → RelV v u → Q u s') : wpAny (model X.prog X.w) A (getAttr (.ref a) (N.at_ f) true) Q E s := by
  obtain ⟨k, hk, hx, hn⟩ := fld_tie T hf
  exact getattr_ok I e (T.own c k hk hx).1 hn l h
theorem att_exc {H : Hp} (T : TieC P N X.K) (I : L2.Inv X pins σ H s) {a d : Addr} {c f : Nat} {fs : List (Str × V)} {v : V} (hf : fldOk P c f true = true) (e1 : H a = some (excHO (N.cA c) (some d) a)) (e2 : H d = some (.xd fs)) (l : fs.lookup (N.at_ f) = some v)
    {Q : Value → Shared → Prop} {E : Value → Shared → Prop} {A : Around} (h : ∀ u s', L2.Inv X pins σ H s' → RelV v u → Q u s') : wpAny (model X.prog X.w) A (getAttr (.ref a) (N.at_ f) true) Q E s := by
  obtain ⟨k, hk, hx, hn⟩ := fld_tie T hf
  obtain ⟨ox, od, mA, J, hns, hr, ho⟩ := exc_inst (F := H) I e1 e2
  have T' := (T.exc c k hk hx).1
  obtain ⟨od', ho', hl⟩ := lookIn_ns hns
  rw [ho] at ho'
  cases ho'
  obtain ⟨u, hu, ru⟩ := RelO.some_of (v := v) (o := mA (N.at_ f)) (by rw [← l]; exact hr _)
  exact HandSPX.exc_get I.kIn J T'.ga T'.gg T'.exC (PySem.W.findObj_own T'.hdC hn rfl (by rw [hl, hu])) (handed_of ru) (h u _ (I.tok _) ru)
def rAtt (P : Prog) (N : Nam) (K : PySem.W.Frag) (f : Nat) : V → Hp → VK → Prop := fun x H Q => ∃ m M F a w, SimM N K m M F H ∧ RepW N K F m a x ∧ attW P M a f = some w ∧ ∀ v, RepW N K F m w v → Q v H
theorem att_W {f : Nat} {H : Hp} {x : V} {v : Value} {Q : VK} (T : TieC P N X.K) (I : L2.Inv X pins σ H s) (rx : RelV x v) (h : rAtt P N X.K f x H Q) : wpAny (model X.prog X.w) X.A (getAttr v (N.at_ f) true) (EP X pins σ Q) X.xe s := by
  obtain ⟨m, M, F, a, w, sm, ra, h, q⟩ := h
  have fin : ∀ {y : V} {s' : Shared} {u : Value}, RepW N X.K F m w y → L2.Inv X pins σ H s' → RelV y u → EP X pins σ Q u s' := fun r I' ru => ⟨_, H, I', ru, q _ r⟩
  have obj : ∀ {c : Nat} {ns : List Nat} {vs : List D} {b : Addr}, Rep N X.K F (.obj c ns vs) (.ref b) → (if fldOk P c f false then (lookF f ns vs).map W.p else none) = some w → wpAny (model X.prog X.w) X.A (getAttr (.ref b) (N.at_ f) true) (EP X pins σ Q) X.xe s := fun {c ns vs b} r h => by
    split at h
    · rename_i z
      obtain ⟨a', dx, fs, e0, e, rf⟩ := r
      cases e0
      cases l : lookF f ns vs with
      | none => rw [l] at h; cases h
      | some d =>
        rw [l] at h
        cases h
        obtain ⟨y, l1, r1⟩ := rf.look l
        exact att_obj T I z (sm.sub _ _ e) l1 fun u s' I' ru => fin r1 I' ru
    · cases h
  cases a with
  | p d =>
    cases d with
    | obj c ns vs =>
      obtain ⟨b, _, _, rfl, _⟩ := id ra
      cases rx
      exact obj ra h
    | exc c ns vs =>
      have h' : (if fldOk P c f true then (lookF f ns vs).map W.p else none) = some w := h
      split at h'
      · rename_i z
        obtain ⟨a', d, fs, rfl, e1, e2, rf⟩ := ra
        cases rx
        cases l : lookF f ns vs with
        | none => rw [l] at h'; cases h'
        | some d =>
          rw [l] at h'
          cases h'
          obtain ⟨y, l1, r1⟩ := rf.look l
          exact att_exc T I z (sm.sub _ _ e1) (sm.sub _ _ e2) l1 fun u s' I' ru => fin r1 I' ru
      · cases h'
    | _ => cases h
  | tp ws => cases h
  | loc l =>
    obtain ⟨b, h1, rfl⟩ := ra
    cases rx
    unfold attW at h
    dsimp only at h
    cases q' : M[l]? with
    | none => rw [q'] at h; cases h
    | some c =>
      rw [q'] at h
      have co := sm.cell l b c h1 q'
      cases c with
      | ins c ns ws =>
        have h' : (if fldOk P c f false then lookF f ns ws else none) = some w := h
        split at h'
        · rename_i z
          obtain ⟨_, dx, fs, e, rf⟩ := co
          obtain ⟨y, l1, r1⟩ := rf.look h'
          exact att_obj T I z e l1 fun u s' I' ru => fin r1 I' ru
        · cases h'
      | fz d =>
        cases d with
        | obj c ns vs => exact obj co h
        | _ => cases h
      | _ => cases h
end
end G

set_option maxHeartbeats 4000000
/-! The built-in functions, by values. -/
namespace G
open PySem PySem.Spec PyProof.Rows L2

theorem ins_perm (x : Int) : ∀ r : List Int, (ins x r).Perm (x :: r)
  | [] => .refl _
  | y :: r => by
    unfold ins
    split
    · exact .refl _
    · exact ((ins_perm x r).cons y).trans (.swap x y r)
theorem isort_perm : ∀ r : List Int, (isort r).Perm r
  | [] => .refl _
  | x :: r => (ins_perm x (isort r)).trans ((isort_perm r).cons x)
theorem ins_up (x : Int) : ∀ r : List Int, r.Pairwise (· ≤ ·) → (ins x r).Pairwise (· ≤ ·)
  | [], _ => by simp [ins]
  | y :: r, h => by
    obtain ⟨h1, h2⟩ := List.pairwise_cons.mp h
    unfold ins
    split
    · rename_i g
      refine List.pairwise_cons.mpr ⟨fun z hz => ?_, h⟩
      rcases List.mem_cons.mp hz with rfl | hz
      · exact g
      · exact Int.le_trans g (h1 z hz)
    · rename_i g
      refine List.pairwise_cons.mpr ⟨fun z hz => ?_, ins_up x r h2⟩
      rcases List.mem_cons.mp ((ins_perm x r).subset hz) with rfl | hz
      · omega
      · exact h1 z hz
theorem isort_up : ∀ r : List Int, (isort r).Pairwise (· ≤ ·)
  | [] => .nil
  | x :: r => ins_up x _ (isort_up r)
theorem up_one : ∀ {a b : List Int}, a.Perm b → a.Pairwise (· ≤ ·) → b.Pairwise (· ≤ ·) → a = b
  | [], b, p, _, _ => (List.Perm.nil_eq p)
  | x :: a, [], p, _, _ => absurd p.length_eq (by simp)
  | x :: a, y :: b, p, h, g => by
    obtain ⟨h1, h2⟩ := List.pairwise_cons.mp h
    obtain ⟨g1, g2⟩ := List.pairwise_cons.mp g
    have e : x = y := by
      have u : x ≤ y := by
        rcases List.mem_cons.mp (p.symm.subset (List.mem_cons_self (a := y) (l := b))) with z | z
        · omega
        · exact h1 y z
      have v : y ≤ x := by
        rcases List.mem_cons.mp (p.subset (List.mem_cons_self (a := x) (l := a))) with z | z
        · omega
        · exact g1 x z
      omega
    subst e
    rw [up_one (List.perm_cons x |>.mp p) h2 g2]
def bval : Blt → Value
  | .len => .builtin "len" | .int => .type "int" | .abs => .builtin "abs" | .tuple => .type "tuple" | .list => .type "list" | .bool => .type "bool"
  | .repr => .builtin "repr" | .all => .builtin "all" | .any => .builtin "any" | .sum => .builtin "sum" | .max => .builtin "max" | .min => .builtin "min" | .sorted => .builtin "sorted" | .str => .type "str"
def rBlt (N : Nam) (K : PySem.W.Frag) (b : Blt) : List V → Hp → VK → Prop := fun xs H Q => ∃ m M F ws, SimM N K m M F H ∧ RepWs N K F m ws xs ∧ VRes N K Q m M F (bltW M b ws)
section
variable {X : Cx} {N : Nam}
theorem CallR.use {f : Value} {r : List V → Hp → VK → Prop} (o : CallR X f r) {pins : List (Addr × Obj)} {s : Shared} {σ : L2.St} {H : Hp} {xs : List V} {us : List Value} {Q : VK} (I : L2.Inv X pins σ H s) (r1 : Vals xs us) (h : r xs H Q) :
    wpAny (model X.prog X.w) X.A (call f us) (EP X pins σ Q) X.xe s := o pins s σ H xs us Q I r1 h
theorem RepWs.one {K : PySem.W.Frag} {F : Hp} {m : List Addr} {w : W} {xs : List V} (r : RepWs N K F m [w] xs) : ∃ x, xs = [x] ∧ RepW N K F m w x := by
  cases xs with
  | nil => exact r.elim
  | cons x xs =>
    cases xs with
    | nil => exact ⟨x, rfl, r.1⟩
    | cons y xs => exact r.2.elim
theorem RepWs.two {K : PySem.W.Frag} {F : Hp} {m : List Addr} {w u : W} {xs : List V} (r : RepWs N K F m [w, u] xs) : ∃ x y, xs = [x, y] ∧ RepW N K F m w x ∧ RepW N K F m u y := by
  cases xs with
  | nil => exact r.elim
  | cons x xs =>
    obtain ⟨y, rfl, h⟩ := RepWs.one r.2
    exact ⟨x, y, rfl, r.1, h⟩
theorem map_some {α β : Type} {o : Option α} {f : α → β} {Q : VK} {K : PySem.W.Frag} {m : List Addr} {M : Mem} {F : Fx} (g : β → W) (h : VRes N K Q m M F ((o.map f).map g)) : ∃ a, o = some a ∧ VRes N K Q m M F (some (g (f a))) := by
  cases o with
  | none => exact h.elim
  | some a => exact ⟨a, rfl, h⟩
theorem map_some' {α : Type} {o : Option α} {Q : VK} {K : PySem.W.Frag} {m : List Addr} {M : Mem} {F : Fx} {g : α → W} (h : VRes N K Q m M F (o.map g)) : ∃ a, o = some a ∧ VRes N K Q m M F (some (g a)) := by
  cases o with
  | none => exact h.elim
  | some a => exact ⟨a, rfl, h⟩
theorem D.bls_eq : ∀ {ds : List D} {bs : List Bool}, D.bls ds = some bs → ds = bs.map D.bl
  | [], _, h => by cases h; rfl
  | d :: r, bs, h => by
    cases d with
    | bl b =>
      have h' : (D.bls r).map (b :: ·) = some bs := h
      cases q : D.bls r with
      | none => rw [q] at h'; cases h'
      | some es => rw [q] at h'; cases h'; rw [D.bls_eq q]; rfl
    | _ => cases h
theorem D.ints_eq : ∀ {ds : List D} {bs : List Int}, D.ints ds = some bs → ds = bs.map D.int
  | [], _, h => by cases h; rfl
  | d :: r, bs, h => by
    cases d with
    | int b =>
      have h' : (D.ints r).map (b :: ·) = some bs := h
      cases q : D.ints r with
      | none => rw [q] at h'; cases h'
      | some es => rw [q] at h'; cases h'; rw [D.ints_eq q]; rfl
    | _ => cases h
theorem Reps.bls {K : PySem.W.Frag} {F : Hp} : ∀ {bs : List Bool} {vs : List V}, Reps N K F (bs.map D.bl) vs → vs = bs.map V.bl
  | [], [], _ => rfl
  | b :: bs, v :: vs, h => by
    obtain ⟨h1, h2⟩ := h
    rw [Reps.bls h2, show v = .bl b from h1]; rfl
  | [], _ :: _, h => h.elim
  | _ :: _, [], h => h.elim
theorem Reps.ints {K : PySem.W.Frag} {F : Hp} : ∀ {bs : List Int} {vs : List V}, Reps N K F (bs.map D.int) vs → vs = bs.map V.int
  | [], [], _ => rfl
  | b :: bs, v :: vs, h => by
    obtain ⟨h1, h2⟩ := h
    rw [Reps.ints h2, show v = .int b from h1]; rfl
  | [], _ :: _, h => h.elim
  | _ :: _, [], h => h.elim
theorem blt_len : CallR X (bval .len) (rBlt N X.K .len) := by
  intro pins s σ H xs us Q I r h
  obtain ⟨m, M, F, ws, sm, rw', h⟩ := h
  match ws, h with
  | [a], h =>
    obtain ⟨x, rfl, rx⟩ := RepWs.one rw'
    have seq : ∀ {w : W}, RepW N X.K F m w x → VRes N X.K Q m M F ((w.items M).map fun us => .p (.int us.length)) → wpAny (model X.prog X.w) X.A (call (bval .len) us) (EP X pins σ Q) X.xe s := fun {w} rx h => by
      obtain ⟨us, e, h⟩ := map_some' h
      obtain ⟨p, ys, rfl, sq, ry⟩ := sm.items rx e
      exact CallR.use call_len_seq I r ⟨p, ys, rfl, sq, by rw [← ry.length]; exact VRes.same sm h rfl⟩
    cases a with
    | p d =>
      cases d with
      | str z =>
        have h' : VRes N X.K Q m M F (if z.length ≤ 100000 then some (.p (.int z.length)) else none) := h
        split at h'
        · rename_i hz
          cases (show x = .str z from rx)
          exact CallR.use call_len_str I r ⟨z, rfl, le_line hz, VRes.same sm h' rfl⟩
        · exact h'.elim
      | _ => exact seq rx h
    | _ => exact seq rx h
  | [], h => exact h.elim
  | _ :: _ :: _, h => exact h.elim
theorem blt_int : CallR X (bval .int) (rBlt N X.K .int) := by
  intro pins s σ H xs us Q I r h
  obtain ⟨m, M, F, ws, sm, rw', h⟩ := h
  match ws, h with
  | [.p (.int i)], h =>
    obtain ⟨x, rfl, rx⟩ := RepWs.one rw'
    cases (show x = .int i from rx)
    exact CallR.use call_int1 I r (.inl ⟨i, rfl, VRes.same sm h rfl⟩)
  | [.p (.bl i)], h =>
    obtain ⟨x, rfl, rx⟩ := RepWs.one rw'
    cases (show x = .bl i from rx)
    exact CallR.use call_int1 I r (.inr ⟨i, rfl, VRes.same sm h rfl⟩)
  | [.p (.str z)], h =>
    obtain ⟨x, rfl, rx⟩ := RepWs.one rw'
    cases (show x = .str z from rx)
    have h : VRes N X.K Q m M F (if decide (z.length ≤ 640) then (PySem.intText? z).map fun i => W.p (.int i) else none) := h
    split at h
    · rename_i hz
      obtain ⟨i, hi, h⟩ := map_some' h
      exact CallR.use call_int_str I r ⟨z, i, rfl, hi, of_decide_eq_true hz, VRes.same sm h rfl⟩
    · exact h.elim
theorem blt_str : CallR X (bval .str) (rBlt N X.K .str) := by
  intro pins s σ H xs us Q I r h
  obtain ⟨m, M, F, ws, sm, rw', h⟩ := h
  match ws, h with
  | [.p (.int i)], h =>
    obtain ⟨x, rfl, rx⟩ := RepWs.one rw'
    cases (show x = .int i from rx)
    have h : VRes N X.K Q m M F (if decide (i.natAbs.log2 < 1920) then some (W.p (.str (toString i))) else none) := h
    split at h
    · rename_i hz
      exact CallR.use call_str_int I r ⟨i, rfl, of_decide_eq_true hz, VRes.same sm h rfl⟩
    · exact h.elim
  | [.p (.str z)], h =>
    obtain ⟨x, rfl, rx⟩ := RepWs.one rw'
    cases (show x = .str z from rx)
    exact CallR.use SkE.call_str_str I r ⟨z, rfl, VRes.same sm h rfl⟩
theorem blt_abs : CallR X (bval .abs) (rBlt N X.K .abs) := by
  intro pins s σ H xs us Q I r h
  obtain ⟨m, M, F, ws, sm, rw', h⟩ := h
  match ws, h with
  | [.p (.int i)], h =>
    obtain ⟨x, rfl, rx⟩ := RepWs.one rw'
    cases (show x = .int i from rx)
    exact CallR.use call_abs I r ⟨i, rfl, VRes.same sm h rfl⟩
theorem blt_bool : CallR X (bval .bool) (rBlt N X.K .bool) := by
  intro pins s σ H xs us Q I r h
  obtain ⟨m, M, F, ws, sm, rw', h⟩ := h
  match ws, h with
  | [.p (.int i)], h =>
    obtain ⟨x, rfl, rx⟩ := RepWs.one rw'
    cases (show x = .int i from rx)
    exact CallR.use call_bool1 I r (.inl ⟨i, rfl, VRes.same sm h rfl⟩)
  | [.p (.bl i)], h =>
    obtain ⟨x, rfl, rx⟩ := RepWs.one rw'
    cases (show x = .bl i from rx)
    exact CallR.use call_bool1 I r (.inr ⟨i, rfl, VRes.same sm h rfl⟩)
theorem blt_max (hc : X.calm = true) : CallR X (bval .max) (rBlt N X.K .max) := by
  intro pins s σ H xs us Q I r h
  obtain ⟨m, M, F, ws, sm, rw', h⟩ := h
  match ws, h with
  | [.p (.int i), .p (.int j)], h =>
    obtain ⟨x, y, rfl, rx, ry⟩ := RepWs.two rw'
    cases (show x = .int i from rx)
    cases (show y = .int j from ry)
    exact CallR.use (call_max2 hc) I r ⟨i, j, rfl, VRes.same sm h rfl⟩
theorem blt_min (hc : X.calm = true) : CallR X (bval .min) (rBlt N X.K .min) := by
  intro pins s σ H xs us Q I r h
  obtain ⟨m, M, F, ws, sm, rw', h⟩ := h
  match ws, h with
  | [.p (.int i), .p (.int j)], h =>
    obtain ⟨x, y, rfl, rx, ry⟩ := RepWs.two rw'
    cases (show x = .int i from rx)
    cases (show y = .int j from ry)
    exact CallR.use (call_min2 hc) I r ⟨i, j, rfl, VRes.same sm h rfl⟩
theorem blt_list : CallR X (bval .list) (rBlt N X.K .list) := by
  intro pins s σ H xs us Q I r h
  obtain ⟨m, M, F, ws, sm, rw', h⟩ := h
  match ws, h with
  | [a], h =>
    obtain ⟨x, rfl, rx⟩ := RepWs.one rw'
    have h' : VRes N X.K Q m M F ((a.items M).bind mkLst) := h
    cases e : a.items M with
    | none => rw [e] at h'; exact h'.elim
    | some ws =>
      rw [e] at h'
      obtain ⟨ds, e2, h'⟩ := map_some' (o := W.pures ws) h'
      obtain ⟨p, ys, rfl, sq, ry⟩ := sm.items rx e
      exact CallR.use call_list_of I r ⟨p, ys, rfl, sq, VRes.lst sm (ry.pures e2) h'⟩
  | [], h => exact h.elim
  | _ :: _ :: _, h => exact h.elim
theorem blt_tuple : CallR X (bval .tuple) (rBlt N X.K .tuple) := by
  intro pins s σ H xs us Q I r h
  obtain ⟨m, M, F, ws, sm, rw', h⟩ := h
  match ws, h with
  | [a], h =>
    obtain ⟨x, rfl, rx⟩ := RepWs.one rw'
    obtain ⟨ws, e, h'⟩ := map_some' (o := a.items M) h
    obtain ⟨p, ys, rfl, sq, ry⟩ := sm.itemsF rx e
    refine CallR.use call_tuple_of I r ⟨p, ys, rfl, ?_⟩
    rcases sq with sq | sq
    · exact .inl ⟨sq, VRes.tup sm ry h'⟩
    · exact .inr ⟨sm.sub.sqT sq, VRes.same sm h' (RepWs.tup ry sq)⟩
  | [], h => exact h.elim
  | _ :: _ :: _, h => exact h.elim
theorem view_lst {K : PySem.W.Frag} {m : List Addr} {M : Mem} {F : Fx} {H : Hp} {w : W} {v : V} {ds : List D} (sm : SimM N K m M F H) (r : RepW N K F m w v) (e : w.view M = some (.lst ds)) : ∃ a ys, v = .ref a ∧ SqL K H a ys ∧ Reps N K F ds ys := by
  obtain ⟨a, ys, h1, h2, h3⟩ := Now.lst_at sm (sm.view r e)
  exact ⟨a, ys, h1, .inl h2, h3⟩
theorem blt_all (hc : X.calm = true) : CallR X (bval .all) (rBlt N X.K .all) := by
  intro pins s σ H xs us Q I r h
  obtain ⟨m, M, F, ws, sm, rw', h⟩ := h
  match ws, h with
  | [a], h =>
    obtain ⟨x, rfl, rx⟩ := RepWs.one rw'
    unfold bltW at h
    dsimp only at h
    split at h
    · rename_i ds e
      obtain ⟨bs, e2, h⟩ := map_some' h
      obtain ⟨p, ys, rfl, sq, ry⟩ := view_lst sm rx e
      rw [D.bls_eq e2] at ry
      cases ry.bls
      exact CallR.use (cr_all hc) I r ⟨p, bs, rfl, sq, VRes.same sm h rfl⟩
    · exact h.elim
  | [], h => exact h.elim
  | _ :: _ :: _, h => exact h.elim
theorem blt_any (hc : X.calm = true) : CallR X (bval .any) (rBlt N X.K .any) := by
  intro pins s σ H xs us Q I r h
  obtain ⟨m, M, F, ws, sm, rw', h⟩ := h
  match ws, h with
  | [a], h =>
    obtain ⟨x, rfl, rx⟩ := RepWs.one rw'
    unfold bltW at h
    dsimp only at h
    split at h
    · rename_i ds e
      obtain ⟨bs, e2, h⟩ := map_some' h
      obtain ⟨p, ys, rfl, sq, ry⟩ := view_lst sm rx e
      rw [D.bls_eq e2] at ry
      cases ry.bls
      exact CallR.use (cr_any hc) I r ⟨p, bs, rfl, sq, VRes.same sm h rfl⟩
    · exact h.elim
  | [], h => exact h.elim
  | _ :: _ :: _, h => exact h.elim
theorem Reps.of_ints {K : PySem.W.Frag} {F : Hp} : ∀ ns : List Int, Reps N K F (ns.map D.int) (ns.map V.int)
  | [] => trivial
  | n :: ns => ⟨rfl, Reps.of_ints ns⟩
theorem blt_sorted : CallR X (bval .sorted) (rBlt N X.K .sorted) := by
  intro pins s σ H xs us Q I r h
  obtain ⟨m, M, F, ws, sm, rw', h⟩ := h
  match ws, h with
  | [a], h =>
    obtain ⟨x, rfl, rx⟩ := RepWs.one rw'
    unfold bltW at h
    dsimp only at h
    split at h
    · rename_i ds e
      obtain ⟨ks, e2, h⟩ := map_some' h
      obtain ⟨p, ys, rfl, sq, ry⟩ := view_lst sm rx e
      rw [D.ints_eq e2] at ry
      cases ry.ints
      refine CallR.use cr_sortedI I r ⟨p, ks, rfl, sq, fun ns q pm up new => ?_⟩
      have e3 : ns = isort ks := up_one (pm.trans (isort_perm ks).symm) up (isort_up ks)
      subst e3
      exact VRes.lst sm (Reps.of_ints _) h q new
    · exact h.elim
  | [], h => exact h.elim
  | _ :: _ :: _, h => exact h.elim
theorem blt_sum (hc : X.calm = true) : CallR X (bval .sum) (rBlt N X.K .sum) := by
  intro pins s σ H xs us Q I r h
  obtain ⟨m, M, F, ws, sm, rw', h⟩ := h
  match ws, h with
  | [a], h =>
    obtain ⟨x, rfl, rx⟩ := RepWs.one rw'
    unfold bltW at h
    dsimp only at h
    split at h
    · rename_i ds e
      obtain ⟨bs, e2, h⟩ := map_some' h
      obtain ⟨p, ys, rfl, sq, ry⟩ := view_lst sm rx e
      rw [D.ints_eq e2] at ry
      cases ry.ints
      exact CallR.use (cr_sum hc) I r ⟨p, bs, rfl, sq, VRes.same sm h rfl⟩
    · exact h.elim
  | [], h => exact h.elim
  | _ :: _ :: _, h => exact h.elim
end
end G

set_option maxHeartbeats 4000000
/-! repr, by values. -/
namespace G
open PySem PySem.Spec PyProof.Rows L2
theorem showOks_iff (n : Nat) (d : D) (r : List D) (h : showOks n (d :: r) = true) : showOk n d = true ∧ showOks n r = true := Bool.and_eq_true_iff.mp (by cases n <;> exact h)
theorem toPys_len : ∀ ds : List D, (toPys ds).length = ds.length
  | [] => rfl
  | _ :: r => congrArg (· + 1) (toPys_len r)
theorem showKv_zip : ∀ (ks vs : List PyData), PyData.showableAll ks = true → PyData.showableAll vs = true → PyData.showableKv (ks.zip vs) = true
  | [], _, _, _ => by simp [PyData.showableKv]
  | _ :: _, [], _, _ => by simp [PyData.showableKv]
  | k :: ks, v :: vs, h1, h2 => by
    obtain ⟨a, b⟩ := Bool.and_eq_true_iff.mp (show (PyData.showable k && PyData.showableAll ks) = true from h1)
    obtain ⟨c, d⟩ := Bool.and_eq_true_iff.mp (show (PyData.showable v && PyData.showableAll vs) = true from h2)
    show (PyData.showable k && PyData.showable v && PyData.showableKv (ks.zip vs)) = true
    rw [a, c, showKv_zip ks vs b d]; rfl
theorem depKv_zip {n : Nat} : ∀ (ks vs : List PyData), PyData.depthAll ks ≤ n → PyData.depthAll vs ≤ n → PyData.depthKv (ks.zip vs) ≤ n
  | [], _, _, _ => by simp [PyData.depthKv]
  | _ :: _, [], _, _ => by simp [PyData.depthKv]
  | k :: ks, v :: vs, h1, h2 => by
    obtain ⟨a, b⟩ := Nat.max_le.mp (show max (PyData.depth k) (PyData.depthAll ks) ≤ n from h1)
    obtain ⟨c, d⟩ := Nat.max_le.mp (show max (PyData.depth v) (PyData.depthAll vs) ≤ n from h2)
    exact Nat.max_le.mpr ⟨Nat.max_le.mpr ⟨a, c⟩, depKv_zip ks vs b d⟩
mutual
theorem show_of : ∀ (d : D) (n : Nat), showOk n d = true → PyData.showable (toPy d) = true ∧ (toPy d).depth ≤ n
  | .non, n, h => ⟨rfl, Nat.zero_le _⟩
  | .bl b, n, h => ⟨rfl, Nat.zero_le _⟩
  | .int i, n, h => ⟨show decide _ = true by cases n <;> exact h, Nat.zero_le _⟩
  | .str s, n, h => ⟨rfl, Nat.zero_le _⟩
  | .tup xs, n, h => by
    cases n with
    | zero => cases h
    | succ n =>
      obtain ⟨a, b⟩ := shows_of xs n h
      exact ⟨a, Nat.succ_le_succ b⟩
  | .lst xs, n, h => by
    cases n with
    | zero => cases h
    | succ n =>
      obtain ⟨a, b⟩ := shows_of xs n h
      exact ⟨a, Nat.succ_le_succ b⟩
  | .dct ks vs, n, h => by
    cases n with
    | zero => cases h
    | succ n =>
      obtain ⟨h, _⟩ := Bool.and_eq_true_iff.mp (show (showOks n ks && showOks n vs && decide (ks.length = vs.length)) = true from h)
      obtain ⟨h1, h2⟩ := Bool.and_eq_true_iff.mp h
      obtain ⟨a, b⟩ := shows_of ks n h1
      obtain ⟨c, d⟩ := shows_of vs n h2
      exact ⟨showKv_zip _ _ a c, Nat.succ_le_succ (depKv_zip _ _ b d)⟩
  | .obj _ _ _, n, h => by cases n <;> cases h
  | .exc _ _ _, n, h => by cases n <;> cases h
theorem shows_of : ∀ (ds : List D) (n : Nat), showOks n ds = true → PyData.showableAll (toPys ds) = true ∧ PyData.depthAll (toPys ds) ≤ n
  | [], n, h => ⟨rfl, Nat.zero_le _⟩
  | d :: ds, n, h => by
    obtain ⟨h1, h2⟩ := showOks_iff n d ds h
    obtain ⟨a, b⟩ := show_of d n h1
    obtain ⟨c, e⟩ := shows_of ds n h2
    exact ⟨by show (PyData.showable (toPy d) && PyData.showableAll (toPys ds)) = true; rw [a, c]; rfl, Nat.max_le.mpr ⟨b, e⟩⟩
end
theorem pairs_reads {prog : Program} {w : World} {h : Heap} : ∀ {es : List DictEntry} {vs : List (Key × Value)} {kvs : List (Key × V)}, Pairs (mixKind prog w) es vs → KV kvs vs →
    ReadsAll h (es.map (·.key)) (toPys (kvs.map fun q => keyD q.1)) [] ∧ Vals (kvs.map (·.2)) (es.map (·.val))
  | _, _, _, .nil, r => by cases r; exact ⟨.nil, .nil⟩
  | _, _, _, .cons (e := e) (kv := kv) h1 h2 t, r => by
    cases r with
    | cons q r =>
      obtain ⟨a, b⟩ := pairs_reads (h := h) t r
      refine ⟨?_, .cons (by show RelV _ e.val; rw [h2]; exact q.2) b⟩
      rename_i p ps
      obtain ⟨k, v⟩ := p
      obtain ⟨q1, q2⟩ := q
      simp only at q1
      subst q1
      have e1 := keyIs_shape h1
      rcases e1 with ⟨i, t, e1, e2⟩ | ⟨i, t, e1, e2⟩
      · show ReadsAll h (e.key :: _) (toPy (keyD kv.1) :: _) ([] ++ [])
        rw [e1, e2]
        exact .cons (.int i t) a
      · show ReadsAll h (e.key :: _) (toPy (keyD kv.1) :: _) ([] ++ [])
        rw [e1, e2]
        exact .cons (.str i t) a
section
variable {X : Cx} {N : Nam} {pins : List (Addr × Obj)} {s : Shared} {σ : L2.St} {H F : Hp}
theorem no_sys (hs : (X.K.lookup sysModules).isSome = true) (I : L2.Inv X pins σ H s) {a : Addr} {o : HO} (h : H a = some o) : sysModules ≠ a := fun e => by
  obtain ⟨q, hq⟩ := Option.isSome_iff_exists.mp hs
  have := (I.bs _ _ (I.ok.mod.kin _ _ hq)).2
  rw [e, h] at this; cases this
mutual
theorem reads_of (hs : (X.K.lookup sysModules).isSome = true) (I : L2.Inv X pins σ H s) (sb : Xt F H) : ∀ (d : D) (n : Nat) (v : V) (u : Value), showOk n d = true → Rep N X.K F d v → RelV v u → ∃ as, Reads s.heap u (toPy d) as ∧ sysModules ∉ as
  | .non, n, v, u, _, r, ru => by
    cases (show v = .non from r)
    cases (show u = .none from ru)
    exact ⟨_, .none, by simp⟩
  | .bl b, n, v, u, _, r, ru => by
    cases (show v = .bl b from r)
    cases (show u = .bool b from ru)
    exact ⟨_, .bool b, by simp⟩
  | .int i, n, v, u, _, r, ru => by
    cases (show v = .int i from r)
    obtain ⟨t, rfl⟩ := ru
    exact ⟨_, .int i t, by simp⟩
  | .str i, n, v, u, _, r, ru => by
    cases (show v = .str i from r)
    obtain ⟨t, rfl⟩ := ru
    exact ⟨_, .str i t, by simp⟩
  | .tup xs, n, v, u, h, r, ru => by
    obtain ⟨a, ys, rfl, e, r⟩ := r
    cases ru
    obtain ⟨its, rv, ⟨o, ho, hc, k, hd⟩, _⟩ := I.tuple (sb.sqT e)
    cases n with
    | zero => cases h
    | succ n =>
      obtain ⟨as, h1, h2⟩ := readss_of hs I sb xs n ys its h r rv
      exact ⟨as, .tuple ho hc hd h1, h2⟩
  | .lst xs, n, v, u, h, r, ru => by
    obtain ⟨a, ys, rfl, e, r⟩ := r
    cases ru
    obtain ⟨its, k, rv, _, ho, _⟩ := rd_list I (sb.rd e)
    cases n with
    | zero => cases h
    | succ n =>
      obtain ⟨as, h1, h2⟩ := readss_of hs I sb xs n ys its h r rv
      refine ⟨a :: as, .list ho rfl rfl h1, fun z => ?_⟩
      rcases List.mem_cons.mp z with z | z
      · rcases sb.rd e with q | ⟨_, q⟩
        · exact no_sys hs I q z
        · exact no_sys hs I q z
      · exact h2 z
  | .dct ks vs, n, v, u, h, r, ru => by
    obtain ⟨a, kvs, rfl, e, rfl, r⟩ := r
    cases ru
    obtain ⟨_, ns, us, kr, o, es, ep, ho, ed, hd, _, ps, _⟩ := (show ObjOk X.prog X.w H s.heap a (.dK kvs) from I.hok a _ (sb _ _ e))
    cases n with
    | zero => cases h
    | succ n =>
      obtain ⟨h, hl⟩ := Bool.and_eq_true_iff.mp (show (showOks n (kvs.map fun q => keyD q.1) && showOks n vs && decide ((kvs.map fun q => keyD q.1).length = vs.length)) = true from h)
      obtain ⟨h1, h2⟩ := Bool.and_eq_true_iff.mp h
      have hl := of_decide_eq_true hl
      obtain ⟨k1, k2⟩ := pairs_reads (h := s.heap) ps kr
      obtain ⟨as, h3, h4⟩ := readss_of hs I sb vs n _ _ h2 r k2
      have e1 : ((toPys (kvs.map fun q => keyD q.1)).zip (toPys vs)).map (·.1) = toPys (kvs.map fun q => keyD q.1) := List.map_fst_zip (by rw [toPys_len, toPys_len, hl]; exact Nat.le_refl _)
      have e2 : ((toPys (kvs.map fun q => keyD q.1)).zip (toPys vs)).map (·.2) = toPys vs := List.map_snd_zip (by rw [toPys_len, toPys_len, hl]; exact Nat.le_refl _)
      refine ⟨a :: [] ++ as, .dict ho ed.1 hd (by rw [e1]; exact k1) (by rw [e2]; exact h3), fun z => ?_⟩
      rcases List.mem_cons.mp (show sysModules ∈ a :: as from z) with z | z
      · exact no_sys hs I (sb _ _ e) z
      · exact h4 z
  | .obj _ _ _, n, v, u, h, r, ru => by cases n <;> cases h
  | .exc _ _ _, n, v, u, h, r, ru => by cases n <;> cases h
theorem readss_of (hs : (X.K.lookup sysModules).isSome = true) (I : L2.Inv X pins σ H s) (sb : Xt F H) : ∀ (ds : List D) (n : Nat) (vs : List V) (us : List Value), showOks n ds = true → Reps N X.K F ds vs → Vals vs us → ∃ as, ReadsAll s.heap us (toPys ds) as ∧ sysModules ∉ as
  | [], n, [], us, _, r, ru => by cases ru; exact ⟨_, .nil, by simp⟩
  | d :: ds, n, v :: vs, us, h, r, ru => by
    cases ru with
    | cons r1 r2 =>
      obtain ⟨h1, h2⟩ := showOks_iff n d ds h
      obtain ⟨as, a1, a2⟩ := reads_of hs I sb d n v _ h1 r.1 r1
      obtain ⟨bs, b1, b2⟩ := readss_of hs I sb ds n vs _ h2 r.2 r2
      exact ⟨as ++ bs, .cons a1 b1, fun z => (List.mem_append.mp z).elim a2 b2⟩
  | [], n, _ :: _, us, _, r, ru => r.elim
  | _ :: _, n, [], us, _, r, ru => r.elim
end
theorem repr_ref {F : Fx} {m : List Addr} {M : Mem} {a : Addr} {d : D} {Q : VK} (hs : (X.K.lookup sysModules).isSome = true) (hg : X.A.guards = some []) (hu : X.A.units + 64 < cLine) (sm : SimM N X.K m M F H) (I : L2.Inv X pins σ H s)
    (h : ∃ as, Reads s.heap (.ref a) (toPy d) as ∧ sysModules ∉ as) (h1 : showOk 60 d = true) (h2 : szOk (reprD d).length = true) (q : VRes N X.K Q m M F (some (.p (.str (reprD d))))) : wpAny (model X.prog X.w) X.A (call (.builtin "repr") [.ref a]) (EP X pins σ Q) X.xe s := by
  obtain ⟨as, r, na⟩ := h
  obtain ⟨h3, h4⟩ := show_of d 60 h1
  exact repr_of_reads' r h3 (fun _ => na) hg (by omega) (fun _ _ e => e) (fun h' u tk hk => ⟨.str _, H, I.kept (t' := tk) hk, ⟨u, rfl⟩, VRes.same sm q rfl⟩) (szOk_le h2)
theorem bif2 {F : Fx} {Q : VK} {K : PySem.W.Frag} {m : List Addr} {M : Mem} {c : Bool} {w : W} (h : VRes N K Q m M F (if c = true then some w else none)) : c = true ∧ VRes N K Q m M F (some w) := by
  cases c with
  | true => exact ⟨rfl, h⟩
  | false => exact h.elim
theorem blt_repr (hs : (X.K.lookup sysModules).isSome = true) (hg : X.A.guards = some []) (hu : X.A.units + 64 < cLine) : CallR X (bval .repr) (rBlt N X.K .repr) := by
  intro pins s σ H xs us Q I r h
  obtain ⟨m, M, F, ws, sm, rw', h⟩ := h
  match ws, h with
  | [w], h =>
    obtain ⟨x, rfl, rx⟩ := RepWs.one rw'
    obtain ⟨u, rfl, ru⟩ := vals1 r
    unfold bltW at h
    dsimp only at h
    split at h
    · rename_i d e
      obtain ⟨z, h⟩ := bif2 h
      obtain ⟨z1, z2⟩ := Bool.and_eq_true_iff.mp z
      have nw := sm.view rx e
      cases nw with
      | @lst ds a ys h1 r1 =>
        cases ru
        refine repr_ref hs hg hu sm I ?_ z1 z2 h
        obtain ⟨its, k, rv, _, ho, _⟩ := rd_list I (.inl h1)
        obtain ⟨as, h3, h4⟩ := readss_of hs I sm.sub ds 59 ys its z1 r1 rv
        refine ⟨a :: as, .list ho rfl rfl h3, fun z => ?_⟩
        rcases List.mem_cons.mp z with z | z
        · exact no_sys hs I h1 z
        · exact h4 z
      | p r1 =>
        have rr := reads_of hs I sm.sub d 60 x u z1 r1 ru
        cases d with
        | non =>
          cases (show x = .non from r1)
          cases (show u = .none from ru)
          exact PySem.P.repr_of_none ⟨.str _, H, I.tok _, ⟨_, rfl⟩, VRes.same sm h rfl⟩
        | bl b =>
          cases (show x = .bl b from r1)
          cases (show u = .bool b from ru)
          exact PySem.P.repr_of_bool ⟨.str _, H, I.tok _, ⟨_, rfl⟩, VRes.same sm h rfl⟩
        | int i =>
          cases (show x = .int i from r1)
          obtain ⟨t, rfl⟩ := ru
          exact PySem.P.repr_of_int (of_decide_eq_true z1) ⟨.str _, H, I.tok _, ⟨_, rfl⟩, VRes.same sm h rfl⟩
        | str i =>
          cases (show x = .str i from r1)
          obtain ⟨t, rfl⟩ := ru
          exact PySem.P.repr_of_str ⟨.str _, H, I.tok _, ⟨_, rfl⟩, VRes.same sm h rfl⟩ (szOk_le z2)
        | tup xs =>
          obtain ⟨a, ys, rfl, _⟩ := r1
          cases ru
          exact repr_ref hs hg hu sm I rr z1 z2 h
        | lst xs =>
          obtain ⟨a, ys, rfl, _⟩ := r1
          cases ru
          exact repr_ref hs hg hu sm I rr z1 z2 h
        | dct xs _ =>
          obtain ⟨a, ys, rfl, _⟩ := r1
          cases ru
          exact repr_ref hs hg hu sm I rr z1 z2 h
        | obj _ _ _ => cases z1
        | exc _ _ _ => cases z1
    · exact h.elim
  | [], h => exact h.elim
  | _ :: _ :: _, h => exact h.elim
/-- what a call of a built-in needs -/
structure BltOk (X : Cx) : Prop where
  sys : (X.K.lookup sysModules).isSome = true
  grd : X.A.guards = some []
  unt : X.A.units + 64 < cLine
/-- not while an exception is handled -/
def calmB : Blt → Bool
  | .all | .any | .sum | .max | .min => true
  | _ => false
theorem call_blt (h : BltOk X) : ∀ b : Blt, (calmB b = true → X.calm = true) → CallR X (bval b) (rBlt N X.K b)
  | .len, _ => blt_len | .int, _ => blt_int | .abs, _ => blt_abs | .tuple, _ => blt_tuple | .list, _ => blt_list | .bool, _ => blt_bool
  | .repr, _ => blt_repr h.sys h.grd h.unt | .all, c => blt_all (c rfl) | .any, c => blt_any (c rfl) | .sum, c => blt_sum (c rfl) | .max, c => blt_max (c rfl) | .min, c => blt_min (c rfl) | .sorted, _ => blt_sorted | .str, _ => blt_str
end
end G

set_option maxHeartbeats 4000000
/-! The checker of expressions; readings. -/
namespace G
open PySem PySem.Spec PyProof.Rows L2

/-- the module's names: functions with their parameters, classes, constants -/
structure Tab where
  fn : List (Str × (Nat × List Str))
  cl : List (Str × Nat)
  gv : List (Str × Nat)
  fa : List (Str × Nat)
  xs : List (Str × (Nat × List Str))
  calm : Bool
def bnm : Blt → Str
  | .len => "len" | .int => "int" | .abs => "abs" | .tuple => "tuple" | .list => "list" | .bool => "bool"
  | .repr => "repr" | .all => "all" | .any => "any" | .sum => "sum" | .max => "max" | .min => "min" | .sorted => "sorted" | .str => "str"
def mnm : Mth → Str
  | .partition => "partition" | .find => "find" | .split => "split" | .join => "join"
def tnm : TyC → Str
  | .own _ => "" | .int => "int" | .bool => "bool" | .str => "str" | .list => "list" | .tuple => "tuple" | .dict => "dict" | .verr => "ValueError" | .oerr n => Str.ofString n
def visB (sc : Scope) (x : Str) : Bool := decide (sc.names.lookup x = some .local) || decide (sc.names.lookup x = some .cell) || decide (sc.names.lookup x = some .free)
def glB (sc : Scope) (x : Str) : Bool := decide (sc.names.lookup x = some .globalImplicit)
def okN (x : Str) : Bool := !(x == ("__debug__" : Str)) && !(x == ("__classdict__" : Str))
def noStar : Expr → Bool
  | .Starred _ _ => false
  | _ => true
def noSup : Expr → Bool
  | .Call _ [] [] _ => false
  | _ => true
def noIf : Expr → Bool
  | .IfExp _ _ _ _ => false
  | _ => true
def noSlc : Expr → Bool
  | .Slice _ _ _ _ => false
  | .Tuple _ _ _ => false
  | _ => true
/-- where each parameter's value stands among the arguments -/
def permOk (ps : List Str) (n : Nat) (ks : List Str) (perm : List Nat) : Bool :=
  if ks.isEmpty then perm.isEmpty && decide (n = ps.length)
  else decide (n ≤ ps.length) && decide (n + ks.length = ps.length) && decide (ks.Nodup) && (ks.all fun k => decide (k ∈ ps.drop n)) && ((ps.drop n).all fun k => decide (k ∈ ks)) && decide (perm = (List.range n) ++ (ps.drop n).map fun p => n + ks.idxOf p)
def tyB (Γ : Tab) (sc : Scope) (c : TyC) : Expr → Bool
  | .Name x _ => match c with
    | .own k => decide (Γ.cl.lookup x = some k) && glB sc x
    | c => decide (x = tnm c) && glB sc x
  | _ => false
def tysB (Γ : Tab) (sc : Scope) : List TyC → List Expr → Bool
  | [], [] => true
  | c :: cs, e :: es => tyB Γ sc c e && noStar e && tysB Γ sc cs es
  | _, _ => false
mutual
def tgtB (L : List Str) (sc : Scope) : Tg → Expr → Bool
  | .nm i, e => match e with
    | .Name x _ => decide (L[i]? = some x) && decide (sc.names.lookup x = some .local)
    | _ => false
  | .tp ts, e => match e with
    | .Tuple es _ _ => decide (2 ≤ ts.length) && tgB L sc ts es
    | _ => false
def tgB (L : List Str) (sc : Scope) : List Tg → List Expr → Bool
  | [], es => es.isEmpty
  | t :: ts, es => match es with
    | e :: es => tgtB L sc t e && tgB L sc ts es
    | [] => false
end
def ownP (L : List Str) (own : List Nat) : List (Str × Nat) := own.map fun i => (L.getD i "", i)
def noSet : Expr → Bool
  | .Set _ _ _ => false
  | _ => true
def isTupT : Expr → Bool
  | .Tuple _ _ _ => true
  | _ => false
section
variable (Γ : Tab) (L : List Str) (isis : List TyC)
mutual
def chk : Ex → Scope → Expr → Bool
  | .var i, sc, e => match e with
    | .Name x _ => decide (L[i]? = some x) && visB sc x && okN x
    | _ => false
  | .int i, _, e => match e with
    | .Constant (.int j) _ _ => decide (i = j)
    | _ => false
  | .str i, _, e => match e with
    | .Constant (.str j) _ _ => decide (i = j)
    | _ => false
  | .bl i, _, e => match e with
    | .Constant (.bool j) _ _ => decide (i = j)
    | _ => false
  | .non, _, e => match e with
    | .Constant .none _ _ => true
    | _ => false
  | .glob g, sc, e => match e with
    | .Name x _ => decide (Γ.gv.lookup x = some g) && glB sc x
    | _ => false
  | .tup xs, sc, e => match e with
    | .Tuple es _ _ => decide (xs.length ≤ 1000) && chks xs sc es
    | _ => false
  | .lst xs, sc, e => match e with
    | .List es _ => decide (xs.length ≤ 1000) && chks xs sc es
    | _ => false
  | .lstL xs, sc, e => match e with
    | .List es _ => decide (xs.length ≤ 1000) && chks xs sc es
    | _ => false
  | .dct ks vs, sc, e => match e with
    | .Dict [some (.Constant (.str k) _ _)] es _ => (match ks with
      | [.str k'] => decide (k = k')
      | _ => false) && chks vs sc es && decide (vs.length = 1)
    | .Dict [] [] _ => (match ks with
      | [] => true
      | _ => false) && (match vs with
      | [] => true
      | _ => false)
    | .Dict [some (.Constant (.int k) _ _), some (.Constant (.int l) _ _)] [.Constant (.int u) _ _, .Constant (.int v) _ _] _ => (match ks, vs with
      | [.int k', .int l'], [.int u', .int v'] => decide (k = k') && decide (l = l') && decide (u = u') && decide (v = v') && decide (k ≠ l)
      | _, _ => false)
    | _ => false
  | .bin o a b, sc, e => match e with
    | .BinOp l op r _ => decide (op = aop o) && chk a sc l && chk b sc r
    | _ => false
  | .neg a, sc, e => match e with
    | .UnaryOp .USub l _ => chk a sc l
    | _ => false
  | .not a, sc, e => match e with
    | .UnaryOp .Not l _ => chk a sc l && noIf l
    | _ => false
  | .cmp o a b, sc, e => match e with
    | .Compare l [op] [r] _ => decide (op = cop o) && chk a sc l && chk b sc r && noSet r
    | _ => false
  | .and a b, sc, e => match e with
    | .BoolOp .And (l :: r :: rest) p => chk a sc l && noIf l && (match rest with
      | [] => chk b sc r && noIf r
      | rest => chk b sc (.BoolOp .And (r :: rest) p))
    | _ => false
  | .or a b, sc, e => match e with
    | .BoolOp .Or (l :: r :: rest) p => chk a sc l && noIf l && (match rest with
      | [] => chk b sc r && noIf r
      | rest => chk b sc (.BoolOp .Or (r :: rest) p))
    | _ => false
  | .ite c a b, sc, e => match e with
    | .IfExp t l r _ => chk c sc t && noIf t && chk a sc l && chk b sc r
    | _ => false
  | .idx a i, sc, e => match e with
    | .Subscript l r _ => chk a sc l && chk i sc r && noSlc r
    | _ => false
  | .slc a lo hi, sc, e => match e with
    | .Subscript l (.Slice x y none _) _ => chk a sc l && chks lo sc x.toList && chks hi sc y.toList
    | _ => false
  | .att a f, sc, e => match e with
    | .Attribute l x _ => chk a sc l && noSup l && decide (Γ.fa.lookup x = some f)
    | _ => false
  | .mth m o a, sc, e => match e with
    | .Call (.Attribute l x ap) [y] [] p => decide (x = mnm m) && chk o sc l && noSup l && chk a sc y && noStar y && (ap.endLine == p.line)
    | _ => false
  | .fstr es, sc, e => match e with
    | .JoinedStr (v1 :: v2 :: rest) _ => chks es sc (v1 :: v2 :: rest)
    | _ => false
  | .fmt a, sc, e => match e with
    | .FormattedValue l (-1) none _ => chk a sc l
    | _ => false
  | .call f as ks perm, sc, e => match e with
    | .Call (.Name x _) es kws _ => Γ.calm && (match Γ.fn.lookup x with
      | some (g, ps) => decide (g = f) && permOk ps as.length (kws.filterMap (·.arg)) perm
      | none => false) && glB sc x && (kws.all (·.arg.isSome)) && chks as sc es && chks ks sc (kws.map (·.value))
    | _ => false
  | .blt b as, sc, e => match e with
    | .Call (.Name x _) es [] _ => decide (x = bnm b) && glB sc x && chks as sc es && !as.isEmpty && (Γ.calm || !calmB b)
    | _ => false
  | .isi a cs, sc, e => match e with
    | .Call (.Name x _) [l, t] [] _ => decide (x = "isinstance") && glB sc x && chk a sc l && noStar l && noStar t && (cs.all isis.contains) && (match t with
      | .Tuple ts _ _ => tysB Γ sc cs ts && decide (cs.length ≤ 100)
      | t => (match cs with
        | [c] => tyB Γ sc c t
        | _ => false))
    | _ => false
  | .comp elt own t it ifs, sc, e => match e with
    | .ListComp l [⟨tg, iter, fs, 0⟩] scope _ => Γ.calm && chkI it sc tg iter && noSet iter && tgtB L (relS scope sc) t tg && blkC L sc scope (ownP L own) && t.vars.all own.contains && chk elt (relS scope sc) l && chks ifs (relS scope sc) fs && decide (fs.length ≤ 1) && fs.all noIf
    | _ => false
  | .frz _, _, _ => false
  | .it _, _, _ => false
  | .rng1 _, _, _ => false
  | .rng2 _ _, _, _ => false
  | .enum _, _, _ => false
  | .zip _ _, _, _ => false
def chkI : Ex → Scope → Expr → Expr → Bool
  | .rng1 a, sc, _, e => match e with
    | .Call (.Name x _) [l] [] _ => decide (x = "range") && glB sc x && chk a sc l && noStar l
    | _ => false
  | .rng2 a b, sc, _, e => match e with
    | .Call (.Name x _) [l, r] [] _ => decide (x = "range") && glB sc x && chk a sc l && noStar l && chk b sc r && noStar r
    | _ => false
  | .enum a, sc, tg, e => match e with
    | .Call (.Name x _) [l] [] _ => decide (x = "enumerate") && glB sc x && chk a sc l && noStar l && isTupT tg
    | _ => false
  | .zip a b, sc, tg, e => match e with
    | .Call (.Name x _) [l, r] [] _ => decide (x = "zip") && glB sc x && chk a sc l && noStar l && chk b sc r && noStar r && isTupT tg
    | _ => false
  | .it a, sc, _, e => chk a sc e && noSet e
  | _, _, _, _ => false
def chks : List Ex → Scope → List Expr → Bool
  | [], _, es => es.isEmpty
  | x :: xs, sc, es => match es with
    | e :: es => chk x sc e && noStar e && chks xs sc es
    | [] => false
end
end
end G

set_option maxHeartbeats 4000000
/-! Expressions: readings and their steps. -/
namespace G
open PySem PySem.Spec PyProof.Rows L2

/-- names that no module may have hidden -/
def freeNs : List Str := ["len", "int", "abs", "tuple", "list", "bool", "repr", "all", "any", "sum", "max", "min", "sorted", "range", "enumerate", "zip", "isinstance", "str", "dict", "ValueError"]
structure TieN (Γ : Tab) (P : Prog) (N : Nam) (K : PySem.W.Frag) (mg : Str → Option Value) : Prop where
  free : ∀ x ∈ freeNs, mg x = none
  oerr : ∀ n, TyC.oerr n ∈ P.isis → mg (Str.ofString n) = none ∧ bootBuiltins (Str.ofString n) = some (.type n) ∧ Str.ofString n ≠ "__name__" ∧ (Str.ofString n == ("__debug__" : Str)) = false
  cls : ∀ x c, Γ.cl.lookup x = some c → mg x = some (.ref (N.cA c)) ∧ (x == ("__debug__" : Str)) = false
  gv : ∀ x g, Γ.gv.lookup x = some g → (x == ("__debug__" : Str)) = false ∧ ∃ u v, mg x = some u ∧ RelV v u ∧ ∀ d, P.glob g = some d → ∀ F : Hp, Rep N K F d v
  fa : ∀ x f, Γ.fa.lookup x = some f → N.at_ f = x

section
variable (P : Prog) (C : Calls) (N : Nam) (K : PySem.W.Frag) (Wx : WX)
def tE (x : Ex) : TE := fun σ H Q => ∃ env m M F, Sim N K σ env m M F H ∧ ERes N K (RW N K) Wx Q σ env m F (ev P C x env M)
def RWn (n : Nat) : Rl (List W) (List V) := fun m F ws vs => RepWs N K F m ws vs ∧ ws.length = n
def tEs (xs : List Ex) : TA := fun σ H Q => ∃ env m M F, Sim N K σ env m M F H ∧ ERes N K (RWn N K xs.length) Wx Q σ env m F (evs P C xs env M)
def evT (x : Ex) (env : Env) (M : Mem) : Res Bool := (ev P C x env M).bind fun w M => Res.of (tru M w) M
def tT (x : Ex) : TT := fun σ H Q => ∃ env m M F, Sim N K σ env m M F H ∧ ERes N K (fun _ _ (a b : Bool) => a = b) Wx Q σ env m F (evT P C x env M)
end
section
variable {P : Prog} {C : Calls} {N : Nam} {K : PySem.W.Frag} {Wx : WX} {α β : Type} {R : Rl α β} {Q : β → Hp → Prop} {σ : L2.St} {env : Env} {m : List Addr} {M : Mem} {F : Fx} {H : Hp}
theorem tE.of {x : Ex} {f : W → Mem → Res α} {Q' : VK} (s : Sim N K σ env m M F H) (h : ERes N K R Wx Q σ env m F ((ev P C x env M).bind f))
    (k : ∀ b H' m' F' c M', Sim N K σ env m' M' F' H' → RepW N K F' m' c b → Gr m F m' F' → ERes N K R Wx Q σ env m' F' (f c M') → Q' b H') : tE P C N K Wx x σ H Q' := ⟨env, m, M, F, s, h.andThen k⟩
theorem tEs.of {x : List Ex} {f : List W → Mem → Res α} {Q' : List V → Hp → Prop} (s : Sim N K σ env m M F H) (h : ERes N K R Wx Q σ env m F ((evs P C x env M).bind f)) (hl : ∀ ws M', evs P C x env M = .ok ws M' → ws.length = x.length)
    (k : ∀ b H' m' F' c M', Sim N K σ env m' M' F' H' → RepWs N K F' m' c b → c.length = x.length → Gr m F m' F' → ERes N K R Wx Q σ env m' F' (f c M') → Q' b H') : tEs P C N K Wx x σ H Q' := by
  refine ⟨env, m, M, F, s, ?_⟩
  cases e : evs P C x env M with
  | ok ws M' =>
    rw [e] at h
    exact fun b H' m' F' s' r g => k b H' m' F' ws M' s' r.1 (hl ws M' e) g (h.rebase g)
  | exc c ns vs M' => rw [e] at h; exact h
  | bad => rw [e] at h; exact h
theorem evs_len {P : Prog} {C : Calls} : ∀ {xs : List Ex} {env : Env} {M : Mem} {ws : List W} {M' : Mem}, evs P C xs env M = .ok ws M' → ws.length = xs.length
  | [], env, M, ws, M', h => by
    have h' : (Res.ok [] M : Res (List W)) = .ok ws M' := h
    cases h'; rfl
  | x :: xs, env, M, ws, M', h => by
    have h' : ((ev P C x env M).bind fun w M => (evs P C xs env M).bind fun ws M => .ok (w :: ws) M) = .ok ws M' := h
    cases e : ev P C x env M with
    | ok w M1 =>
      rw [e, Res.bind_ok] at h'
      cases e2 : evs P C xs env M1 with
      | ok us M2 =>
        rw [e2, Res.bind_ok] at h'
        cases h'
        simp [evs_len e2]
      | exc c ns vs M2 => rw [e2] at h'; cases h'
      | bad => rw [e2] at h'; cases h'
    | exc c ns vs M2 => rw [e] at h'; cases h'
    | bad => rw [e] at h'; cases h'
theorem of_some {o : Option α} (h : ERes N K R Wx Q σ env m F (Res.of o M)) : ∃ a, o = some a ∧ ERes N K R Wx Q σ env m F (.ok a M) := by
  cases o with
  | none => exact h.elim
  | some a => exact ⟨a, rfl, h⟩
theorem of_map {γ : Type} {o : Option γ} {f : γ → α} (h : ERes N K R Wx Q σ env m F (Res.of (o.map f) M)) : ∃ a, o = some a ∧ ERes N K R Wx Q σ env m F (.ok (f a) M) := by
  cases o with
  | none => exact h.elim
  | some a => exact ⟨a, rfl, h⟩
theorem ERes.now {Q : β → Hp → Prop} {a : α} {b : β} (h : ERes N K R Wx Q σ env m F (.ok a M)) (s : Sim N K σ env m M F H) (r : R m F a b) : Q b H := h b H m F s r (Gr.refl m F)
theorem ERes.v {Q : VK} {w : W} (s : Sim N K σ env m M F H) (h : ERes N K (RW N K) Wx Q σ env m F (.ok w M)) : VRes N K Q m M F (some w) := VRes.of (o := some w) s h
/-! the steps -/
theorem s_bin {o : Bop} {a b : Ex} {Q : VK} (h : tE P C N K Wx (.bin o a b) σ H Q) : tOp (rDD N K (binD o)) (tE P C N K Wx a) (tE P C N K Wx b) σ H Q := by
  obtain ⟨env, m, M, F, s, h⟩ := h
  refine tE.of s h fun x H1 m1 F1 w1 M1 s1 r1 g1 h1 => tE.of s1 h1 fun y H2 m2 F2 w2 M2 s2 r2 g2 h2 => ?_
  have h2 : ERes N K (RW N K) Wx Q σ env m2 F2 (Res.of (binW M2 o w1 w2) M2) := h2
  unfold binW at h2
  cases e1 : w1.view M2 with
  | none => rw [e1] at h2; exact h2.elim
  | some d1 =>
    cases e2 : w2.view M2 with
    | none => rw [e1, e2] at h2; exact h2.elim
    | some d2 =>
      rw [e1, e2] at h2
      exact ⟨m2, M2, F2, d1, d2, s2.mem, s2.mem.view (RepW.mono g2.x _ _ r1) e1, s2.mem.view r2 e2, VRes.of s2 h2⟩
theorem s_cmp {o : Cop} {a b : Ex} {Q : VK} (h : tE P C N K Wx (.cmp o a b) σ H Q) : tOp (rCmp N K o) (tE P C N K Wx a) (tE P C N K Wx b) σ H Q := by
  obtain ⟨env, m, M, F, s, h⟩ := h
  refine tE.of s h fun x H1 m1 F1 w1 M1 s1 r1 g1 h1 => tE.of s1 h1 fun y H2 m2 F2 w2 M2 s2 r2 g2 h2 => ?_
  obtain ⟨k, e, h2⟩ := of_map h2
  exact ⟨m2, M2, F2, w1, w2, s2.mem, RepW.mono g2.x _ _ r1, r2, k, e, h2.now s2 rfl⟩
theorem s_cmpT {o : Cop} {a b : Ex} {Q : Bool → Hp → Prop} (h : tT P C N K Wx (.cmp o a b) σ H Q) : tTest (tOp (rCmp N K o) (tE P C N K Wx a) (tE P C N K Wx b)) σ H Q := by
  obtain ⟨env, m, M, F, s, h⟩ := h
  have h : ERes N K (fun _ _ (a b : Bool) => a = b) Wx Q σ env m F (((ev P C a env M).bind fun x M => (ev P C b env M).bind fun y M => Res.of ((cmpW M o x y).map fun b => .p (.bl b)) M).bind fun w M => Res.of (tru M w) M) := h
  have asc : ∀ {α β γ : Type} (r : Res α) (f : α → Mem → Res β) (g : β → Mem → Res γ), (r.bind f).bind g = r.bind fun a M => (f a M).bind g := fun r f g => by cases r <;> rfl
  rw [asc] at h
  refine tE.of s h fun x H1 m1 F1 w1 M1 s1 r1 g1 h1 => ?_
  have h1' := h1
  simp only [asc] at h1'
  refine tE.of s1 h1' fun y H2 m2 F2 w2 M2 s2 r2 g2 h2 => ?_
  cases e : cmpW M2 o w1 w2 with
  | none => rw [e] at h2; exact h2.elim
  | some k =>
    rw [e] at h2
    exact ⟨m2, M2, F2, w1, w2, s2.mem, RepW.mono g2.x _ _ r1, r2, k, e, k, rfl, ERes.now (a := k) h2 s2 rfl⟩
theorem bind_asc {α β γ : Type} (r : Res α) (f : α → Mem → Res β) (g : β → Mem → Res γ) : (r.bind f).bind g = r.bind fun a M => (f a M).bind g := by cases r <;> rfl
theorem s_neg {a : Ex} {Q : VK} (h : tE P C N K Wx (.neg a) σ H Q) : tUn (rU fun i => .int (-i)) (tE P C N K Wx a) σ H Q := by
  obtain ⟨env, m, M, F, s, h⟩ := h
  refine tE.of s h fun x H1 m1 F1 w1 M1 s1 r1 g1 h1 => ?_
  split at h1
  · rename_i i
    exact ⟨i, r1, h1.now s1 rfl⟩
  · exact h1.elim
theorem s_not {a : Ex} {Q : VK} (h : tE P C N K Wx (.not a) σ H Q) : tNotT K (tE P C N K Wx a) σ H Q := by
  obtain ⟨env, m, M, F, s, h⟩ := h
  refine tE.of s h fun x H1 m1 F1 w1 M1 s1 r1 g1 h1 => ?_
  obtain ⟨k, e, h1⟩ := of_map h1
  exact ⟨k, tru_of s1.mem r1 e, h1.now s1 rfl⟩
theorem s_and {a b : Ex} {Q : VK} (h : tE P C N K Wx (.and a b) σ H Q) : tAndT K (tE P C N K Wx a) (tE P C N K Wx b) σ H Q := by
  obtain ⟨env, m, M, F, s, h⟩ := h
  refine tE.of s h fun x H1 m1 F1 w1 M1 s1 r1 g1 h1 => ?_
  cases e : tru M1 w1 with
  | none => rw [e] at h1; exact h1.elim
  | some k =>
    rw [e] at h1
    refine ⟨k, tru_of s1.mem r1 e, ?_⟩
    cases k with
    | true => exact ⟨env, m1, M1, F1, s1, h1⟩
    | false => exact ERes.now (a := w1) h1 s1 r1
theorem s_or {a b : Ex} {Q : VK} (h : tE P C N K Wx (.or a b) σ H Q) : tOrT K (tE P C N K Wx a) (tE P C N K Wx b) σ H Q := by
  obtain ⟨env, m, M, F, s, h⟩ := h
  refine tE.of s h fun x H1 m1 F1 w1 M1 s1 r1 g1 h1 => ?_
  cases e : tru M1 w1 with
  | none => rw [e] at h1; exact h1.elim
  | some k =>
    rw [e] at h1
    refine ⟨k, tru_of s1.mem r1 e, ?_⟩
    cases k with
    | false => exact ⟨env, m1, M1, F1, s1, h1⟩
    | true => exact ERes.now (a := w1) h1 s1 r1
/-- a test: the value, then its truth -/
theorem tT.of {x : Ex} {f : W → Mem → Res α} {Q' : Bool → Hp → Prop} (s : Sim N K σ env m M F H) (h : ERes N K R Wx Q σ env m F ((ev P C x env M).bind f)) (hf : ∀ w M', tru M' w = none → f w M' = .bad)
    (k : ∀ b H' m' F' c M', Sim N K σ env m' M' F' H' → tru M' c = some b → Gr m F m' F' → ERes N K R Wx Q σ env m' F' (f c M') → Q' b H') : tT P C N K Wx x σ H Q' := by
  refine ⟨env, m, M, F, s, ?_⟩
  unfold evT
  cases e : ev P C x env M with
  | ok w M' =>
    rw [e] at h
    rw [Res.bind_ok] at h ⊢
    cases q : tru M' w with
    | none => rw [hf w M' q] at h; exact h.elim
    | some b =>
      intro b' H' m' F' s' r g
      cases (show b = b' from r)
      exact k b H' m' F' w M' s' q g (h.rebase g)
  | exc c ns vs M' => rw [e] at h; exact h
  | bad => rw [e] at h; exact h
theorem s_andT {a b : Ex} {Q : Bool → Hp → Prop} (h : tT P C N K Wx (.and a b) σ H Q) : tAnd (tT P C N K Wx a) (tT P C N K Wx b) σ H Q := by
  obtain ⟨env, m, M, F, s, h⟩ := h
  have h : ERes N K (fun _ _ (a b : Bool) => a = b) Wx Q σ env m F (((ev P C a env M).bind fun x M => match tru M x with | some true => ev P C b env M | some false => .ok x M | none => .bad).bind fun w M => Res.of (tru M w) M) := h
  rw [bind_asc] at h
  refine tT.of s h (fun w M' e => by rw [e]; rfl) fun k H1 m1 F1 w1 M1 s1 e g1 h1 => ?_
  rw [e] at h1
  cases k with
  | true => exact ⟨env, m1, M1, F1, s1, h1⟩
  | false =>
    have h1 : ERes N K (fun _ _ (a b : Bool) => a = b) Wx Q σ env m1 F1 (Res.of (tru M1 w1) M1) := h1
    rw [e] at h1
    exact ERes.now (a := false) h1 s1 rfl
theorem s_orT {a b : Ex} {Q : Bool → Hp → Prop} (h : tT P C N K Wx (.or a b) σ H Q) : tOr (tT P C N K Wx a) (tT P C N K Wx b) σ H Q := by
  obtain ⟨env, m, M, F, s, h⟩ := h
  have h : ERes N K (fun _ _ (a b : Bool) => a = b) Wx Q σ env m F (((ev P C a env M).bind fun x M => match tru M x with | some true => .ok x M | some false => ev P C b env M | none => .bad).bind fun w M => Res.of (tru M w) M) := h
  rw [bind_asc] at h
  refine tT.of s h (fun w M' e => by rw [e]; rfl) fun k H1 m1 F1 w1 M1 s1 e g1 h1 => ?_
  rw [e] at h1
  cases k with
  | false => exact ⟨env, m1, M1, F1, s1, h1⟩
  | true =>
    have h1 : ERes N K (fun _ _ (a b : Bool) => a = b) Wx Q σ env m1 F1 (Res.of (tru M1 w1) M1) := h1
    rw [e] at h1
    exact ERes.now (a := true) h1 s1 rfl
theorem s_notT {a : Ex} {Q : Bool → Hp → Prop} (h : tT P C N K Wx (.not a) σ H Q) : tNot (tT P C N K Wx a) σ H Q := by
  obtain ⟨env, m, M, F, s, h⟩ := h
  have h : ERes N K (fun _ _ (a b : Bool) => a = b) Wx Q σ env m F (((ev P C a env M).bind fun x M => Res.of ((tru M x).map fun b => .p (.bl !b)) M).bind fun w M => Res.of (tru M w) M) := h
  rw [bind_asc] at h
  refine tT.of s h (fun w M' e => by rw [e]; rfl) fun k H1 m1 F1 w1 M1 s1 e g1 h1 => ?_
  rw [e] at h1
  exact ERes.now (a := !k) h1 s1 rfl
/-- any form's test by its value -/
theorem s_truth {a : Ex} {Q : Bool → Hp → Prop} (h : tT P C N K Wx a σ H Q) : tE P C N K Wx a σ H fun x H' => ∃ k, TruV K x H' k ∧ Q k H' := by
  obtain ⟨env, m, M, F, s, h⟩ := h
  refine tE.of s h fun x H1 m1 F1 w1 M1 s1 r1 g1 h1 => ?_
  obtain ⟨k, e, h1⟩ := of_some h1
  exact ⟨k, tru_of s1.mem r1 e, h1.now s1 rfl⟩
theorem s_ite {c a b : Ex} {Q : VK} (h : tE P C N K Wx (.ite c a b) σ H Q) : tIf (tT P C N K Wx c) (tE P C N K Wx a) (tE P C N K Wx b) σ H Q := by
  obtain ⟨env, m, M, F, s, h⟩ := h
  refine tT.of s h (fun w M' e => by rw [e]) fun k H1 m1 F1 w1 M1 s1 e g1 h1 => ?_
  rw [e] at h1
  cases k with
  | true => exact ⟨env, m1, M1, F1, s1, h1⟩
  | false => exact ⟨env, m1, M1, F1, s1, h1⟩
theorem s_idx {a i : Ex} {Q : VK} (h : tE P C N K Wx (.idx a i) σ H Q) : tOp (rIdx N K) (tE P C N K Wx a) (tE P C N K Wx i) σ H Q := by
  obtain ⟨env, m, M, F, s, h⟩ := h
  refine tE.of s h fun x H1 m1 F1 w1 M1 s1 r1 g1 h1 => tE.of s1 h1 fun y H2 m2 F2 w2 M2 s2 r2 g2 h2 => ?_
  obtain ⟨w, e, h2⟩ := of_map h2
  exact ⟨m2, M2, F2, w1, w2, w, s2.mem, RepW.mono g2.x _ _ r1, r2, e, fun v r => h2.now s2 (s2.mem.rd r)⟩
theorem s_att {a : Ex} {f : Nat} {Q : VK} (h : tE P C N K Wx (.att a f) σ H Q) : tE P C N K Wx a σ H fun x H1 => rAtt P N K f x H1 Q := by
  obtain ⟨env, m, M, F, s, h⟩ := h
  refine tE.of s h fun x H1 m1 F1 w1 M1 s1 r1 g1 h1 => ?_
  obtain ⟨w, e, h1⟩ := of_map h1
  exact ⟨m1, M1, F1, w1, w, s1.mem, r1, e, fun v r => h1.now s1 (s1.mem.rd r)⟩
theorem s_blt {b : Blt} {as : List Ex} {Q : VK} (h : tE P C N K Wx (.blt b as) σ H Q) : tCB (rBlt N K b) (tEs P C N K Wx as) σ H Q := by
  obtain ⟨env, m, M, F, s, h⟩ := h
  refine tEs.of s h (fun _ _ => evs_len) fun xs H1 m1 F1 ws M1 s1 r1 l1 g1 h1 => ?_
  exact ⟨m1, M1, F1, ws, s1.mem, r1, VRes.of s1 h1⟩
theorem big_line {n : Nat} (h : n ≤ 1000) : n ≤ sizeLine := le_line (Nat.le_trans h (by decide))
theorem s_tup {xs : List Ex} {Q : VK} (hn : xs.length ≤ 1000) (h : tE P C N K Wx (.tup xs) σ H Q) : tTup (tEs P C N K Wx xs) σ H Q := by
  obtain ⟨env, m, M, F, s, h⟩ := h
  refine tEs.of s h (fun _ _ => evs_len) fun vs H1 m1 F1 ws M1 s1 r1 l1 g1 h1 => ?_
  exact ⟨by rw [← r1.length, l1]; exact big_line hn, VRes.tup s1.mem r1 (ERes.v s1 h1)⟩
theorem s_lst {xs : List Ex} {Q : VK} (hn : xs.length ≤ 1000) (h : tE P C N K Wx (.lst xs) σ H Q) : tLst (tEs P C N K Wx xs) σ H Q := by
  obtain ⟨env, m, M, F, s, h⟩ := h
  refine tEs.of s h (fun _ _ => evs_len) fun vs H1 m1 F1 ws M1 s1 r1 l1 g1 h1 => ?_
  refine ⟨by rw [← r1.length, l1]; exact big_line hn, ?_⟩
  obtain ⟨ds, e, h1⟩ := of_map (o := W.pures ws) h1
  exact VRes.lst s1.mem (r1.pures e) (ERes.v s1 h1)
theorem s_lstL {xs : List Ex} {Q : VK} (hn : xs.length ≤ 1000) (h : tE P C N K Wx (.lstL xs) σ H Q) : tLst (tEs P C N K Wx xs) σ H Q := by
  obtain ⟨env, m, M, F, s, h⟩ := h
  refine tEs.of s h (fun _ _ => evs_len) fun vs H1 m1 F1 ws M1 s1 r1 l1 g1 h1 => ?_
  refine ⟨by rw [← r1.length, l1]; exact big_line hn, fun p hp => ?_⟩
  have fp : F1.f p = none := by
    cases e : F1.f p with
    | none => rfl
    | some u => rw [s1.mem.sub _ _ e] at hp; cases hp
  have g2 : Gx m1 F1 (m1 ++ [p]) F1 := ⟨⟨[p], rfl⟩, Xt.refl _⟩
  obtain ⟨s2, g2⟩ := s1.mem.alloc (p := p) (o := .lst vs) (c := .lst ws) hp ⟨fp, vs, upd_same, RepWs.mono g2 _ _ r1⟩
  exact h1 _ _ _ _ (s1.to s2 g2.x) ⟨p, by rw [← s1.mem.len]; simp, rfl⟩ g2
theorem s_cons {x : Ex} {xs : List Ex} {Q : List V → Hp → Prop} (h : tEs P C N K Wx (x :: xs) σ H Q) : tCons (tE P C N K Wx x) (tEs P C N K Wx xs) σ H Q := by
  obtain ⟨env, m, M, F, s, h⟩ := h
  refine tE.of s h fun y H1 m1 F1 w1 M1 s1 r1 g1 h1 => ?_
  refine tEs.of s1 h1 (fun _ _ => evs_len) fun ys H2 m2 F2 ws M2 s2 r2 l2 g2 h2 => ?_
  exact h2.now s2 ⟨⟨RepW.mono g2.x _ _ r1, r2⟩, by simp [l2]⟩
theorem s_nil {Q : List V → Hp → Prop} (h : tEs P C N K Wx [] σ H Q) : tNil σ H Q := by
  obtain ⟨env, m, M, F, s, h⟩ := h
  exact ERes.now (a := []) h s ⟨trivial, rfl⟩
end
end G

set_option maxHeartbeats 4000000
/-! More readings: slices, isinstance, dicts; walks through collections. -/
namespace G
open PySem PySem.Spec PyProof.Rows L2

section
variable {P : Prog} {C : Calls} {N : Nam} {K : PySem.W.Frag} {Wx : WX} {α β : Type} {R : Rl α β} {Q : β → Hp → Prop} {σ : L2.St} {env : Env} {m m' : List Addr} {M M' : Mem} {F F' : Fx} {H H' : Hp}
/-- a slice's end -/
def tO (P : Prog) (C : Calls) (N : Nam) (K : PySem.W.Frag) (Wx : WX) : List Ex → TO
  | [] => tNoPart
  | x :: _ => tPart (tE P C N K Wx x)
theorem tO.of {xs : List Ex} {f : Option Int → Mem → Res α} {Q' : Option Int → Hp → Prop} (hx : xs.length ≤ 1) (s : Sim N K σ env m M F H) (h : ERes N K R Wx Q σ env m F ((evs P C xs env M).bind fun l M => (Res.of (oneInt l) M).bind f))
    (k : ∀ b H' m' F' M', Sim N K σ env m' M' F' H' → Gr m F m' F' → ERes N K R Wx Q σ env m' F' (f b M') → Q' b H') : tO P C N K Wx xs σ H Q' := by
  match xs, hx, h with
  | [], _, h => exact k none H m F M s (Gr.refl m F) h
  | [x], _, h =>
    have h : ERes N K R Wx Q σ env m F (((ev P C x env M).bind fun w M => Res.ok [w] M).bind fun l M => (Res.of (oneInt l) M).bind f) := h
    rw [bind_asc] at h
    refine tE.of s h fun x H1 m1 F1 w1 M1 s1 r1 g1 h1 => ?_
    have h1 : ERes N K R Wx Q σ env m1 F1 ((Res.of (oneInt [w1]) M1).bind f) := h1
    unfold oneInt at h1
    split at h1
    · rename_i q; cases q
    · rename_i i q
      cases q
      exact ⟨i, r1, k (some i) H1 m1 F1 M1 s1 g1 h1⟩
    · exact h1.elim
theorem s_slc {a : Ex} {lo hi : List Ex} {Q : VK} (hl : lo.length ≤ 1) (hh : hi.length ≤ 1) (h : tE P C N K Wx (.slc a lo hi) σ H Q) : tSl (rSlc N K) (tE P C N K Wx a) (tO P C N K Wx lo) (tO P C N K Wx hi) σ H Q := by
  obtain ⟨env, m, M, F, s, h⟩ := h
  refine tE.of s h fun x H1 m1 F1 w1 M1 s1 r1 g1 h1 => tO.of hl s1 h1 fun l H2 m2 F2 M2 s2 g2 h2 => tO.of hh s2 h2 fun u H3 m3 F3 M3 s3 g3 h3 => ?_
  have rr := RepW.mono (g2.trans g3).x _ _ r1
  unfold slcW at h3
  split at h3
  · rename_i z e
    split at h3
    · rename_i z2
      exact ⟨m3, M3, F3, w1, [], s3.mem, rr, .inl ⟨z, e, z2, VRes.of (o := some _) s3 h3⟩⟩
    · exact h3.elim
  · rename_i ds e
    exact ⟨m3, M3, F3, w1, ds, s3.mem, rr, .inr (.inl ⟨e, VRes.of (o := some _) s3 h3⟩)⟩
  · rename_i ds e
    exact ⟨m3, M3, F3, w1, ds, s3.mem, rr, .inr (.inr ⟨e, VRes.of (o := some _) s3 h3⟩)⟩
  · exact h3.elim
def tTys (N : Nam) (cs : List TyC) : TA := fun _ H Q => Q (cs.map (tycX N)) H
theorem s_isi1 {a : Ex} {c : TyC} {Q : VK} (h : tE P C N K Wx (.isi a [c]) σ H Q) : tCB (rIsi1 P N K c) (tCons (tE P C N K Wx a) (tTys N [c])) σ H Q := by
  obtain ⟨env, m, M, F, s, h⟩ := h
  refine tE.of s h fun x H1 m1 F1 w1 M1 s1 r1 g1 h1 => ?_
  obtain ⟨k, e, h1⟩ := of_map h1
  obtain ⟨t, e2, rfl⟩ := Option.map_eq_some_iff.mp e
  exact ⟨x, m1, M1, F1, w1, t, rfl, s1.mem, r1, e2, ERes.now h1 s1 (by simp [RW, RepW, Rep])⟩
theorem s_isiN {a : Ex} {cs : List TyC} {Q : VK} (hc : cs.length ≤ 100) (h : tE P C N K Wx (.isi a cs) σ H Q) : tCB (rIsiN P N K cs) (tCons (tE P C N K Wx a) (tCons (tTup (tTys N cs)) tNil)) σ H Q := by
  obtain ⟨env, m, M, F, s, h⟩ := h
  refine tE.of s h fun x H1 m1 F1 w1 M1 s1 r1 g1 h1 => ?_
  refine ⟨by rw [List.length_map]; exact big_line (Nat.le_trans hc (by decide)), fun p hp => ?_⟩
  obtain ⟨k, e, h1⟩ := of_map h1
  obtain ⟨t, e2, rfl⟩ := Option.map_eq_some_iff.mp e
  obtain ⟨s2, g2⟩ := s1.mem.new (o := .tup (cs.map (tycX N))) hp
  exact ⟨x, p, m1, M1, _, w1, t, rfl, upd_same, s2, RepW.mono g2.x _ _ r1, e2, h1 _ _ _ _ (s1.to s2 g2.x) rfl g2⟩
/-! ### an object held apart while something is reckoned -/
theorem apart_none (s : SimM N K m M F H) {p : Addr} (hp : H p = none) : F.g p = none := by
  cases e : F.g p with
  | none => rfl
  | some u => rw [(s.apart _ _ e).1] at hp; cases hp
theorem Sim.aside {p : Addr} {o : HO} (s : Sim N K σ env m M F H) (hp : H p = none) : Sim N K σ env m M ⟨F.f, upd F.g p o⟩ (upd H p o) := ⟨s.mem.hold hp, s.env⟩
theorem aside_eq {p : Addr} {o o' : HO} {g : Hp} (e : F'.g = upd F.g p o) (hp : F.g p = none) (a : Addr) (u : HO) (h : F.g a = some u) : a ≠ p ∧ F'.g a = some u := by
  have na : a ≠ p := fun q => by rw [q, hp] at h; cases h
  exact ⟨na, by rw [e, upd_ne na]; exact h⟩
theorem SimM.drop {p : Addr} {o : HO} (s : SimM N K m' M' F' H') (g : Gr m ⟨F.f, upd F.g p o⟩ m' F') (hp : F.g p = none) : SimM N K m' M' ⟨F'.f, F.g⟩ H' ∧ Gr m F m' ⟨F'.f, F.g⟩ :=
  ⟨s.less fun a u h => (aside_eq (o' := o) (g := F.g) g.2.2 hp a u h).2, g.1, g.2.1, rfl⟩
/-- it gets its last content and is fixed -/
theorem SimM.back {p : Addr} {o o' : HO} (s : SimM N K m' M' F' H') (g : Gr m ⟨F.f, upd F.g p o⟩ m' F') (hp : F.g p = none) :
    SimM N K m' M' ⟨upd F'.f p o', F.g⟩ (upd H' p o') ∧ Gr m F m' ⟨upd F'.f p o', F.g⟩ ∧ Gx m' F' m' ⟨upd F'.f p o', F.g⟩ ∧ H' p = some o := by
  have e : F'.g p = some o := by rw [g.2.2]; exact upd_same
  obtain ⟨h1, h2, h3⟩ := s.apart p o e
  have s1 := s.held (o' := o') e
  obtain ⟨s2, g2⟩ := s1.fix (p := p) (o := o') (g := F.g) upd_same fun a u h => by
    obtain ⟨n, q⟩ := aside_eq (o' := o) (g := F.g) g.2.2 hp a u h
    exact ⟨by show upd F'.g p o' a = some u; rw [upd_ne n]; exact q, n⟩
  have gx : Xt F'.f (upd F'.f p o') := Xt.new h3
  exact ⟨s2, ⟨g.1, g.2.1.trans gx, rfl⟩, ⟨⟨[], by simp⟩, gx⟩, h1⟩
theorem s_dct0 {Q : VK} (h : tE P C N K Wx (.dct [] []) σ H Q) : tDNewK σ H Q := by
  obtain ⟨env, m, M, F, s, h⟩ := h
  intro p hp
  obtain ⟨s2, g2⟩ := s.mem.new (o := .dK []) hp
  have h : ERes N K (RW N K) Wx Q σ env m F (.ok (.p (.dct [] [])) M) := h
  exact h _ _ _ _ (s.to s2 g2.x) ⟨p, [], rfl, upd_same, rfl, trivial⟩ g2
theorem s_dct2 {k l u v : Int} {Q : VK} (n : k ≠ l) (h : tE P C N K Wx (.dct [.int k, .int l] [.int u, .int v]) σ H Q) : tDisp [(tC (.int k), tC (.int u)), (tC (.int l), tC (.int v))] σ H Q := by
  obtain ⟨env, m, M, F, s, h⟩ := h
  intro p hp
  refine ⟨upd_same, [((.inl k : Key), V.int u), ((.inl l : Key), V.int v)], rfl, by show 2 ≤ 15; decide, ?_⟩
  have e : mergeK [] [((.inl k : Key), V.int u), (.inl l, .int v)] = [(.inl k, .int u), (.inl l, .int v)] := by
    show putK (putK [] (Sum.inl k : Key) (V.int u)) (Sum.inl l : Key) (V.int v) = _
    unfold putK
    simp [n]
  rw [e]
  have hu : upd (upd H p (.dK [])) p (.dK [(.inl k, .int u), (.inl l, .int v)]) = upd H p (.dK [(.inl k, .int u), (.inl l, .int v)]) := by
    funext b
    by_cases q : b = p
    · subst q
      rw [upd_same, upd_same]
    · rw [upd_ne q, upd_ne q, upd_ne q]
  rw [hu]
  obtain ⟨s2, g2⟩ := s.mem.new (o := .dK [(.inl k, .int u), (.inl l, .int v)]) hp
  have h : ERes N K (RW N K) Wx Q σ env m F (.ok (.p (.dct [.int k, .int l] [.int u, .int v])) M) := h
  exact h _ _ _ _ (s.to s2 g2.x) ⟨p, _, rfl, upd_same, rfl, ⟨rfl, rfl, trivial⟩⟩ g2
theorem s_dct {k : Str} {x : Ex} {Q : VK} (h : tE P C N K Wx (.dct [.str k] [x]) σ H Q) : tDisp [(tC (.str k), tE P C N K Wx x)] σ H Q := by
  obtain ⟨env, m, M, F, s, h⟩ := h
  intro p hp
  have gp := apart_none s.mem hp
  show tE P C N K Wx x σ (upd H p (.dK [])) _
  refine ⟨env, m, M, _, s.aside hp, ?_⟩
  have h : ERes N K (RW N K) Wx Q σ env m F (((ev P C x env M).bind fun w M => Res.ok [w] M).bind fun us M => match W.pures [W.p (.str k)], W.pures us with
    | some a, some b => .ok (.p (.dct a b)) M
    | _, _ => .bad) := h
  rw [bind_asc] at h
  cases e : ev P C x env M with
  | bad => rw [e] at h; exact h
  | exc c ns vs M' =>
    rw [e] at h
    intro cls d H' m' F' s' g ex
    obtain ⟨s2, g2⟩ := s'.mem.drop g gp
    exact h cls d H' m' ⟨F'.f, F.g⟩ ⟨s2, s'.env⟩ g2 ex
  | ok w M' =>
    rw [e] at h
    intro b H' m' F' s' r g
    have h : ERes N K (RW N K) Wx Q σ env m F (match W.pures [W.p (.str k)], W.pures [w] with
      | some a, some b => .ok (.p (.dct a b)) M'
      | _, _ => .bad) := h
    cases w with
    | p d =>
      obtain ⟨s2, g2, g3, hb⟩ := s'.mem.back (o' := .dK [(.inr k, b)]) g gp
      refine ⟨hb, [(.inr k, b)], rfl, by show 1 ≤ 15; decide, ?_⟩
      exact h (.ref p) _ m' _ ⟨s2, s'.env.mono g3⟩ ⟨p, _, rfl, upd_same, rfl, ⟨Rep.mono g3.ex _ _ r, trivial⟩⟩ g2
    | loc l => exact h.elim
    | tp us => exact h.elim
end
end G

set_option maxHeartbeats 4000000
/-! Targets, iterators, comprehensions. -/
namespace G
open PySem PySem.Spec PyProof.Rows L2

mutual
def tTgt (K : PySem.W.Frag) : Tg → TG
  | .nm i => gName i
  | .tp ts => fun v σ H Q => gTup K ts.length (gNames K ts) v σ H Q ∨ gLst K ts.length (gNames K ts) v σ H Q
def gNames (K : PySem.W.Frag) : List Tg → TGs
  | [] => gNil
  | t :: ts => gCons (tTgt K t) (gNames K ts)
end
theorem pg_or {X : Cx} {e : Expr} {a b : TG} (h : PG X e a) (g : PG X e b) : PG X e (fun v σ H Q => a v σ H Q ∨ b v σ H Q) :=
  ⟨fun pins s σ H v u Q I r w => w.elim (fun w => h.run pins s σ H v u Q I r w) (fun w => g.run pins s σ H v u Q I r w)⟩
section
variable {X : Cx} {L : List Str} {sc : Scope}
mutual
theorem pg_ok (hN : X.N = L) (hs : X.env.scope = sc) (nd : L.Nodup) (hc : X.calm = true) : ∀ {t : Tg} {tg : Expr}, tgtB L sc t tg = true → PG X tg (tTgt X.K t)
  | .nm i, tg, h => by
    unfold tgtB at h
    split at h
    · obtain ⟨h1, h2⟩ := Bool.and_eq_true_iff.mp h
      rename_i x p
      have hl : X.env.scope.names.lookup x = some .local := by rw [hs]; exact of_decide_eq_true h2
      exact pg_name (by rw [hN]; exact nd) (by rw [hN]; exact of_decide_eq_true h1) (.inl hl) (.inr hl)
    · cases h
  | .tp ts, tg, h => by
    unfold tgtB at h
    split at h
    · obtain ⟨h1, h2⟩ := Bool.and_eq_true_iff.mp h
      obtain ⟨a, b, c⟩ := pgs_ok hN hs nd hc h2
      exact pg_or (pg_tup hc a b c) (pg_lst hc a b c)
    · cases h
theorem pgs_ok (hN : X.N = L) (hs : X.env.scope = sc) (nd : L.Nodup) (hc : X.calm = true) : ∀ {ts : List Tg} {es : List Expr}, tgB L sc ts es = true → PGs X es (gNames X.K ts) ∧ (assignEach es X.env).length = ts.length ∧ (assignEach es X.env).findIdx? (·.1) = none
  | [], es, h => by
    unfold tgB at h
    cases es with
    | nil => exact ⟨pgs_nil, rfl, rfl⟩
    | cons _ _ => cases h
  | t :: ts, es, h => by
    unfold tgB at h
    split at h
    · rename_i e es
      obtain ⟨h1, h2⟩ := Bool.and_eq_true_iff.mp h
      obtain ⟨a, b, c⟩ := pgs_ok hN hs nd hc h2
      have p := pg_ok hN hs nd hc h1
      have ea : assignEach (e :: es) X.env = (false, assign e X.env) :: assignEach es X.env := by
        cases t <;> unfold tgtB at h1 <;> split at h1 <;> first | rfl | cases h1
      refine ⟨pgs_cons p a (by rw [ea]; rfl), ?_, ?_⟩
      · rw [ea, List.length_cons, b]; rfl
      · rw [ea, List.findIdx?_cons, c]; rfl
    · cases h
end
end
section
variable {N : Nam} {K : PySem.W.Frag} {F : Hp} {m : List Addr} {σ : L2.St} {env : Env}
theorem set_get {α : Type} {l : List α} {i j : Nat} {x y : α} (h : (l.set i x)[j]? = some y) : (i = j ∧ x = y ∧ i < l.length) ∨ (i ≠ j ∧ l[j]? = some y) := by
  by_cases q : i = j
  · subst q
    by_cases hl : i < l.length
    · rw [List.getElem?_set_self hl] at h
      cases h
      exact .inl ⟨rfl, rfl, hl⟩
    · rw [List.getElem?_eq_none (by rw [List.length_set]; omega)] at h
      cases h
  · rw [List.getElem?_set_ne q] at h
    exact .inr ⟨q, h⟩
theorem RepE.set {i : Nat} {w : W} {v : V} (h : RepE N K F m env σ) (r : RepW N K F m w v) : RepE N K F m (env.set i (some w)) (σ.set i (some v)) := by
  refine ⟨by rw [List.length_set, List.length_set]; exact h.1, fun j u e => ?_⟩
  rcases set_get e with ⟨rfl, e, hl⟩ | ⟨n, e⟩
  · cases e
    exact ⟨v, List.getElem?_set_self (by rw [h.1]; exact hl), r⟩
  · obtain ⟨x, h1, h2⟩ := h.2 j u e
    exact ⟨x, by rw [List.getElem?_set_ne n]; exact h1, h2⟩
theorem RepE.unset {i : Nat} (h : RepE N K F m env σ) : RepE N K F m (env.set i none) (σ.set i none) := by
  refine ⟨by rw [List.length_set, List.length_set]; exact h.1, fun j u e => ?_⟩
  rcases set_get e with ⟨rfl, e, hl⟩ | ⟨n, e⟩
  · cases e
  · obtain ⟨x, h1, h2⟩ := h.2 j u e
    exact ⟨x, by rw [List.getElem?_set_ne n]; exact h1, h2⟩
theorem RepE.wipe (h : RepE N K F m env σ) : ∀ vs : List Nat, RepE N K F m (wipeE env vs) (L2.wipe σ vs)
  | [] => h
  | v :: vs => (RepE.wipe h vs).unset
theorem wipe_set1 {x : Option V} {i : Nat} : ∀ vs : List Nat, (L2.wipe (σ.set i x) vs).set i none = (L2.wipe σ vs).set i none
  | [] => by show (σ.set i x).set i none = σ.set i none; rw [List.set_set]
  | v :: vs => by
    show ((L2.wipe (σ.set i x) vs).set v none).set i none = ((L2.wipe σ vs).set v none).set i none
    by_cases q : v = i
    · subst q; rw [List.set_set, List.set_set, wipe_set1 vs]
    · rw [List.set_comm _ _ q, List.set_comm _ _ q, wipe_set1 vs]
theorem wipe_set {x : Option V} {i : Nat} : ∀ {vs : List Nat}, i ∈ vs → L2.wipe (σ.set i x) vs = L2.wipe σ vs
  | v :: vs, h => by
    show (L2.wipe (σ.set i x) vs).set v none = (L2.wipe σ vs).set v none
    rcases List.mem_cons.mp h with rfl | h
    · exact wipe_set1 vs
    · rw [wipe_set h]
theorem tupW_rep {w : W} {ws : List W} {v : V} (e : tupW w = some ws) (r : RepW N K F m w v) : ∃ a ys, v = .ref a ∧ SqT K F a ys ∧ RepWs N K F m ws ys := by
  unfold tupW at e
  split at e
  · cases e
    obtain ⟨a, ys, h1, h2, h3⟩ := r
    exact ⟨a, ys, h1, h2, RepWs.p h3⟩
  · cases e
    exact r
  · cases e
theorem fixW_rep {w : W} {ws : List W} {v : V} (e : fixW w = some ws) (r : RepW N K F m w v) : ∃ a ys, v = .ref a ∧ (SqT K F a ys ∨ Rd F a (.lst ys)) ∧ RepWs N K F m ws ys := by
  unfold fixW at e
  split at e
  · cases e
    obtain ⟨a, ys, h1, h2, h3⟩ := r
    exact ⟨a, ys, h1, .inl h2, RepWs.p h3⟩
  · cases e
    obtain ⟨a, ys, h1, h2, h3⟩ := r
    exact ⟨a, ys, h1, .inr h2, RepWs.p h3⟩
  · cases e
    obtain ⟨a, ys, h1, h2, h3⟩ := r
    exact ⟨a, ys, h1, .inl h2, h3⟩
  · cases e
mutual
theorem give_ok {H : Hp} : ∀ {t : Tg} {w : W} {v : V} {env env' : Env} {σ : L2.St} {Q : L2.St → Hp → Prop}, Xt F H → give t w env = some env' → RepW N K F m w v → RepE N K F m env σ →
    (∀ σ', RepE N K F m env' σ' → (∀ us : List Nat, (∀ i ∈ t.vars, i ∈ us) → L2.wipe σ' us = L2.wipe σ us) → Q σ' H) → tTgt K t v σ H Q
  | .nm i, w, v, env, env', σ, Q, sub, e, r, h, k => by
    unfold give at e
    cases e
    unfold tTgt
    exact k _ (h.set r) fun us hu => wipe_set (hu i (by unfold Tg.vars; simp))
  | .tp ts, w, v, env, env', σ, Q, sub, e, r, h, k => by
    unfold give at e
    unfold tTgt
    cases q : fixW w with
    | none => rw [q] at e; cases e
    | some ws =>
      rw [q] at e
      have e : (if ws.length = ts.length then gives ts ws env else none) = some env' := e
      split at e
      · rename_i hl
        obtain ⟨a, ys, h1, h2, h3⟩ := fixW_rep q r
        have k' : ∀ σ', RepE N K F m env' σ' → (∀ us : List Nat, (∀ i ∈ Tg.varsL ts, i ∈ us) → L2.wipe σ' us = L2.wipe σ us) → Q σ' H := fun σ' h' z => k σ' h' fun us hu => z us fun i hi => hu i (by unfold Tg.vars; exact hi)
        have z := gives_ok sub e h3 h k'
        rcases h2 with h2 | h2
        · exact .inl ⟨a, ys, h1, sub.sqT h2, by rw [← h3.length]; exact hl, z⟩
        · exact .inr ⟨a, ys, h1, .inl (sub.rd h2), by rw [← h3.length]; exact hl, z⟩
      · cases e
theorem gives_ok {H : Hp} : ∀ {ts : List Tg} {ws : List W} {vs : List V} {env env' : Env} {σ : L2.St} {Q : L2.St → Hp → Prop}, Xt F H → gives ts ws env = some env' → RepWs N K F m ws vs → RepE N K F m env σ →
    (∀ σ', RepE N K F m env' σ' → (∀ us : List Nat, (∀ i ∈ Tg.varsL ts, i ∈ us) → L2.wipe σ' us = L2.wipe σ us) → Q σ' H) → gNames K ts vs σ H Q
  | [], [], [], env, env', σ, Q, sub, e, _, h, k => by
    unfold gives at e
    cases e
    unfold gNames
    exact ⟨rfl, k σ h fun _ _ => rfl⟩
  | t :: ts, w :: ws, v :: vs, env, env', σ, Q, sub, e, r, h, k => by
    unfold gives at e
    cases q : give t w env with
    | none => rw [q] at e; cases e
    | some e1 =>
      rw [q] at e
      unfold gNames
      refine ⟨v, vs, rfl, ?_⟩
      refine give_ok sub q r.1 h fun σ1 h1 z1 => ?_
      refine gives_ok sub e r.2 h1 fun σ' h' z => k σ' h' fun us hu => ?_
      rw [z us fun j hj => hu j (by unfold Tg.varsL; exact List.mem_append_right _ hj), z1 us fun j hj => hu j (by unfold Tg.varsL; exact List.mem_append_left _ hj)]
  | [], _ :: _, _, _, _, _, _, _, e, _, _, _ => by unfold gives at e; cases e
  | _ :: _, [], _, _, _, _, _, _, e, _, _, _ => by unfold gives at e; cases e
  | _, _ :: _, [], _, _, _, _, _, _, r, _, _ => r.elim
  | _, [], _ :: _, _, _, _, _, _, _, r, _, _ => r.elim
end
end
end G

set_option maxHeartbeats 4000000
/-! Iterators. -/
namespace G
open PySem PySem.Spec PyProof.Rows L2

/-- the iterator yields these -/
def JOk (N : Nam) (K : PySem.W.Frag) (J : It) (m0 : List Addr) (F0 : Fx) (ws : List W) : Prop :=
  ws.length ≤ sizeLine ∧ ∀ (i : Nat) (H : Hp) (m : List Addr) (M : Mem) (F : Fx), SimM N K m M F H → Gx m0 F0 m F →
    (∀ w, ws[i]? = some w → J.go i H ∧ ∀ x H', J.yld i H x H' → ∃ F', SimM N K m M F' H' ∧ Gr m F m F' ∧ RepW N K F' m w x) ∧ (i = ws.length → J.stop i H)
section
variable {N : Nam} {K : PySem.W.Frag} {F : Fx} {m : List Addr} {H : Hp}
theorem RepWs.at' {F : Hp} {ws : List W} {vs : List V} {i : Nat} {w : W} (r : RepWs N K F m ws vs) (h : ws[i]? = some w) : ∃ v, vs[i]? = some v ∧ RepW N K F m w v := r.get h
theorem jok_list {a : Addr} {ws : List W} {ys : List V} (sq : SqL K F.f a ys) (r : RepWs N K F m ws ys) (hl : ys.length ≤ sizeLine) : JOk N K (Itl K a) m F ws := by
  refine ⟨by rw [r.length]; exact hl, fun i H m' M' F' s g => ⟨fun w hw => ?_, fun e => ?_⟩⟩
  · obtain ⟨v, h1, h2⟩ := (RepWs.mono g _ _ r).get hw
    refine ⟨⟨ys, v, s.sub.sqL (g.2.sqL sq), h1⟩, fun x H' y => ?_⟩
    obtain ⟨rfl, y⟩ := y
    have z := y ys (s.sub.sqL (g.2.sqL sq))
    rw [h1] at z; cases z
    exact ⟨F', s, Gr.refl _ _, h2⟩
  · exact ⟨ys, s.sub.sqL (g.2.sqL sq), by rw [← r.length, e]; exact Nat.le_refl _⟩
theorem jok_tup {a : Addr} {ws : List W} {ys : List V} (sq : SqT K F.f a ys) (r : RepWs N K F m ws ys) (hl : ys.length ≤ sizeLine) : JOk N K (Itt K a) m F ws := by
  refine ⟨by rw [r.length]; exact hl, fun i H m' M' F' s g => ⟨fun w hw => ?_, fun e => ?_⟩⟩
  · obtain ⟨v, h1, h2⟩ := (RepWs.mono g _ _ r).get hw
    refine ⟨⟨ys, v, s.sub.sqT (g.2.sqT sq), h1⟩, fun x H' y => ?_⟩
    obtain ⟨rfl, y⟩ := y
    have z := y ys (s.sub.sqT (g.2.sqT sq))
    rw [h1] at z; cases z
    exact ⟨F', s, Gr.refl _ _, h2⟩
  · exact ⟨ys, s.sub.sqT (g.2.sqT sq), by rw [← r.length, e]; exact Nat.le_refl _⟩
theorem jok_str {z : Str} (hl : z.length ≤ sizeLine) : JOk N K (Its z) m F (z.cps.toList.map fun c => W.p (.str ⟨#[c]⟩)) := by
  have hs : z.cps.toList.length = z.cps.size := by simp
  refine ⟨by rw [List.length_map, hs]; exact hl, fun i H m' M' F' s g => ⟨fun w hw => ?_, fun e => ?_⟩⟩
  · rw [List.getElem?_map] at hw
    obtain ⟨c, hc, rfl⟩ := Option.map_eq_some_iff.mp hw
    have hi : i < z.cps.size := by
      rw [← hs]
      exact (List.getElem?_eq_some_iff.mp hc).1
    refine ⟨hi, fun x H' y => ?_⟩
    obtain ⟨rfl, c', hc', rfl⟩ := y
    rw [Array.getElem?_toList] at hc
    rw [hc] at hc'
    cases hc'
    exact ⟨F', s, Gr.refl _ _, rfl⟩
  · rw [List.length_map, hs] at e
    exact Nat.le_of_eq e.symm
theorem rng_len (lo hi : Int) : (rngW lo hi).length = (hi - lo).toNat := by simp [rngW]
theorem rng_at {lo hi : Int} {i : Nat} {w : W} (h : (rngW lo hi)[i]? = some w) : w = .p (.int (lo + i)) ∧ i < (hi - lo).toNat := by
  unfold rngW at h
  rw [List.getElem?_map] at h
  cases e : (List.range (hi - lo).toNat)[i]? with
  | none => rw [e] at h; cases h
  | some k =>
    rw [e] at h
    cases h
    obtain ⟨h1, h2⟩ := List.getElem?_eq_some_iff.mp e
    rw [List.length_range] at h1
    rw [List.getElem_range] at h2
    subst h2
    exact ⟨rfl, h1⟩
theorem jok_rng {lo hi : Int} (hl : (hi - lo).toNat ≤ sizeLine) : JOk N K (Itr lo (hi - lo).toNat) m F (rngW lo hi) := by
  refine ⟨by rw [rng_len]; exact hl, fun i H m' M' F' s g => ⟨fun w hw => ?_, fun e => ?_⟩⟩
  · obtain ⟨rfl, hi'⟩ := rng_at hw
    refine ⟨hi', fun x H' y => ?_⟩
    obtain ⟨rfl, rfl⟩ := y
    exact ⟨F', s, Gr.refl _ _, rfl⟩
  · rw [rng_len] at e
    exact Nat.le_of_eq e.symm
theorem enum_len : ∀ (k : Nat) (ws : List W), (enumW k ws).length = ws.length
  | _, [] => rfl
  | k, w :: r => congrArg (· + 1) (enum_len (k + 1) r)
theorem enum_at : ∀ {k : Nat} {ws : List W} {i : Nat} {w : W}, (enumW k ws)[i]? = some w → ∃ u, ws[i]? = some u ∧ w = mkTup [.p (.int ((k + i : Nat) : Int)), u]
  | k, w :: r, 0, u, h => by
    have h : some (mkTup [.p (.int k), w]) = some u := h
    cases h
    exact ⟨w, rfl, rfl⟩
  | k, w :: r, i + 1, u, h => by
    obtain ⟨z, h1, h2⟩ := enum_at (k := k + 1) (ws := r) (i := i) (by simpa [enumW] using h)
    exact ⟨z, by simpa using h1, by rw [h2, show k + 1 + i = k + (i + 1) by omega]⟩
  | k, [], i, u, h => by simp [enumW] at h
/-- a fresh tuple -/
theorem SimM.tupN {M : Mem} {T : Addr} {ws : List W} {vs : List V} (s : SimM N K m M F H) (hT : H T = none) (r : RepWs N K F m ws vs) : ∃ F', SimM N K m M F' (upd H T (.tup vs)) ∧ Gr m F m F' ∧ RepW N K F' m (mkTup ws) (.ref T) := by
  obtain ⟨s', g⟩ := s.new (o := .tup vs) hT
  exact ⟨_, s', g, (RepWs.mono g.x _ _ r).tup (SqT.of upd_same)⟩
theorem jok_enum {a : Addr} {ws : List W} {ys : List V} (sq : SqL K F.f a ys) (r : RepWs N K F m ws ys) (hl : ys.length ≤ sizeLine) : JOk N K (Ite K a) m F (enumW 0 ws) := by
  refine ⟨by rw [enum_len, r.length]; exact hl, fun i H m' M' F' s g => ⟨fun w hw => ?_, fun e => ?_⟩⟩
  · obtain ⟨u, h0, rfl⟩ := enum_at hw
    obtain ⟨v, h1, h2⟩ := (RepWs.mono g _ _ r).get h0
    refine ⟨⟨ys, v, s.sub.sqL (g.2.sqL sq), h1⟩, fun x H' y => ?_⟩
    obtain ⟨T, z, rfl, hT, rfl, y⟩ := y
    have z := y ys (s.sub.sqL (g.2.sqL sq))
    rw [h1] at z; cases z
    rw [Nat.zero_add]
    exact s.tupN hT ⟨rfl, h2, trivial⟩
  · rw [enum_len] at e
    exact ⟨ys, s.sub.sqL (g.2.sqL sq), by rw [← r.length, e]; exact Nat.le_refl _⟩
theorem zip_len : ∀ (ws us : List W), (zipW ws us).length = min ws.length us.length
  | [], us => by simp [zipW]
  | _ :: _, [] => by simp [zipW]
  | w :: r, u :: s => by simp [zipW, zip_len r s]
theorem zip_at : ∀ {ws us : List W} {i : Nat} {w : W}, (zipW ws us)[i]? = some w → ∃ a b, ws[i]? = some a ∧ us[i]? = some b ∧ w = mkTup [a, b]
  | x :: r, y :: s, 0, u, h => by
    have h : some (mkTup [x, y]) = some u := h
    cases h
    exact ⟨x, y, rfl, rfl, rfl⟩
  | x :: r, y :: s, i + 1, u, h => by
    obtain ⟨a, b, h1, h2, h3⟩ := zip_at (ws := r) (us := s) (i := i) (by simpa [zipW] using h)
    exact ⟨a, b, by simpa using h1, by simpa using h2, h3⟩
  | [], _, i, u, h => by simp [zipW] at h
  | _ :: _, [], i, u, h => by simp [zipW] at h
theorem jok_zipL {a b : Addr} {ws us : List W} {ys zs : List V} (sq : SqL K F.f a ys) (sq2 : SqL K F.f b zs) (r : RepWs N K F m ws ys) (r2 : RepWs N K F m us zs) (hl : ys.length ≤ sizeLine) : JOk N K (Itz K a b) m F (zipW ws us) := by
  refine ⟨by rw [zip_len, r.length]; exact Nat.le_trans (Nat.min_le_left _ _) hl, fun i H m' M' F' s g => ⟨fun w hw => ?_, fun e => ?_⟩⟩
  · obtain ⟨p, q, h0, h0', rfl⟩ := zip_at hw
    obtain ⟨v, h1, h2⟩ := (RepWs.mono g _ _ r).get h0
    obtain ⟨v', h1', h2'⟩ := (RepWs.mono g _ _ r2).get h0'
    refine ⟨⟨ys, zs, v, v', s.sub.sqL (g.2.sqL sq), s.sub.sqL (g.2.sqL sq2), h1, h1'⟩, fun x H' y => ?_⟩
    obtain ⟨T, z, z', rfl, hT, rfl, y, y'⟩ := y
    have z := y ys (s.sub.sqL (g.2.sqL sq))
    rw [h1] at z; cases z
    have z := y' zs (s.sub.sqL (g.2.sqL sq2))
    rw [h1'] at z; cases z
    exact s.tupN hT ⟨h2, h2', trivial⟩
  · rw [zip_len, r.length, r2.length] at e
    exact ⟨ys, zs, s.sub.sqL (g.2.sqL sq), s.sub.sqL (g.2.sqL sq2), by omega⟩
theorem jok_zipT {a b : Addr} {ws us : List W} {ys zs : List V} (sq : SqT K F.f a ys) (sq2 : SqT K F.f b zs) (r : RepWs N K F m ws ys) (r2 : RepWs N K F m us zs) (hl : ys.length ≤ sizeLine) : JOk N K (RZ.ItzT K a b) m F (zipW ws us) := by
  refine ⟨by rw [zip_len, r.length]; exact Nat.le_trans (Nat.min_le_left _ _) hl, fun i H m' M' F' s g => ⟨fun w hw => ?_, fun e => ?_⟩⟩
  · obtain ⟨p, q, h0, h0', rfl⟩ := zip_at hw
    obtain ⟨v, h1, h2⟩ := (RepWs.mono g _ _ r).get h0
    obtain ⟨v', h1', h2'⟩ := (RepWs.mono g _ _ r2).get h0'
    refine ⟨⟨ys, zs, v, v', s.sub.sqT (g.2.sqT sq), s.sub.sqT (g.2.sqT sq2), h1, h1'⟩, fun x H' y => ?_⟩
    obtain ⟨T, z, z', rfl, hT, rfl, y, y'⟩ := y
    have z := y ys (s.sub.sqT (g.2.sqT sq))
    rw [h1] at z; cases z
    have z := y' zs (s.sub.sqT (g.2.sqT sq2))
    rw [h1'] at z; cases z
    exact s.tupN hT ⟨h2, h2', trivial⟩
  · rw [zip_len, r.length, r2.length] at e
    exact ⟨ys, zs, s.sub.sqT (g.2.sqT sq), s.sub.sqT (g.2.sqT sq2), by omega⟩
end
abbrev RJ (N : Nam) (K : PySem.W.Frag) : Rl (List W) It := fun m F ws J => JOk N K J m F ws
section
variable (P : Prog) (C : Calls) (N : Nam) (K : PySem.W.Frag) (Wx : WX)
def evI (it : Ex) (env : Env) (M : Mem) : Res (List W) := (ev P C it env M).bind fun w M => Res.of (iterW w) M
def tI (it : Ex) : TI := fun σ H R => ∃ env m M F, Sim N K σ env m M F H ∧ ERes N K (RJ N K) Wx R σ env m F (evI P C it env M)
end
section
variable {X : Cx} {P : Prog} {C : Calls} {N : Nam} {Wx : WX} {tg e : Expr}
/-- more is known when the iterator stands -/
theorem pi_run {wi : TI} (h : PI X tg e wi) {pins : List (Addr × Obj)} {s : Shared} {σ : L2.St} {H : Hp} {R R' : It → Hp → Prop} (I : L2.Inv X pins σ H s) (hw : wi σ H R') (k : ∀ J H' s', L2.Inv X pins σ H' s' → R' J H' → R J H') :
    wpAny (model X.prog X.w) X.A (eval e X.env) (fun v s1 => wpAny (model X.prog X.w) X.A (pyIter v) (PIE X pins σ tg R) X.xe s1) X.xe s :=
  thn (h.run pins s σ H R' I hw) fun v s1 h1 => thn h1 fun u s2 ⟨it, fp, tn, J, H', a, I', b, c, d, r⟩ => ⟨it, fp, tn, J, H', a, I', b, c, d, k J H' s2 I' r⟩
theorem pi_it {a : Ex} (he : PE X e (tE P C N X.K Wx a)) : PI X tg e (tI P C N X.K Wx (.it a)) := by
  refine ⟨fun pins s σ H R I h => ?_⟩
  obtain ⟨env, m, M, F, sm, h⟩ := h
  have h : ERes N X.K (RJ N X.K) Wx R σ env m F ((ev P C a env M).bind fun w M => Res.of (iterW w) M) := h
  cases e1 : ev P C a env M with
  | bad => rw [e1] at h; exact h.elim
  | exc c ns vs M' =>
    rw [e1] at h
    exact (pi_list he).run pins s σ H R I ⟨env, m, M, F, sm, by rw [e1]; exact h⟩
  | ok w M' =>
    rw [e1] at h
    have h : ERes N X.K (RJ N X.K) Wx R σ env m F (Res.of (iterW w) M') := h
    have tup : ∀ {ws : List W}, tupW w = some ws → iterW w = some ws → wpAny (model X.prog X.w) X.A (eval e X.env) (fun v s1 => wpAny (model X.prog X.w) X.A (pyIter v) (PIE X pins σ tg R) X.xe s1) X.xe s := fun {ws} e2 e3 => by
      refine pi_run (R' := fun J H' => ∃ a ys, SqT X.K H' a ys ∧ (ys.length ≤ sizeLine → R J H')) (pi_tup he) I ⟨env, m, M, F, sm, ?_⟩ fun J H' s' I' hr => ?_
      · rw [e1]
        intro b H' m' F' s' r g
        obtain ⟨p, ys, rfl, q1, q2⟩ := tupW_rep e2 r
        rw [e3] at h
        exact ⟨p, rfl, ⟨ys, s'.mem.sub.sqT q1⟩, p, ys, s'.mem.sub.sqT q1, fun hl => h _ H' m' F' s' (jok_tup q1 q2 hl) g⟩
      · obtain ⟨p, ys, q1, q2⟩ := hr
        obtain ⟨_, _, _, hz⟩ := I'.tuple q1
        exact q2 hz
    cases w with
    | tp ws => exact tup rfl rfl
    | loc l => exact h.elim
    | p d =>
      cases d with
      | tup ds => exact tup rfl rfl
      | lst ds =>
        refine pi_run (R' := fun J H' => ∃ a ys, SqL X.K H' a ys ∧ (ys.length ≤ sizeLine → R J H')) (pi_list he) I ⟨env, m, M, F, sm, ?_⟩ fun J H' s' I' hr => ?_
        · rw [e1]
          intro b H' m' F' s' r g
          obtain ⟨p, ys, rfl, q1, q2⟩ := r
          have q1 : SqL X.K F'.f p ys := .inl q1
          exact ⟨p, rfl, ⟨ys, s'.mem.sub.sqL q1⟩, p, ys, s'.mem.sub.sqL q1, fun hl => h _ H' m' F' s' (jok_list q1 (RepWs.p q2) hl) g⟩
        · obtain ⟨p, ys, q1, q2⟩ := hr
          obtain ⟨_, _, _, hz⟩ := I'.list q1
          exact q2 hz
      | str z =>
        have h' : ERes N X.K (RJ N X.K) Wx R σ env m F (Res.of (if szOk z.length then some (z.cps.toList.map fun c => W.p (.str ⟨#[c]⟩)) else none) M') := h
        split at h'
        · rename_i hz
          refine (pi_str he).run pins s σ H R I ⟨env, m, M, F, sm, ?_⟩
          rw [e1]
          intro b H' m' F' s' r g
          cases (show b = .str z from r)
          exact ⟨z, rfl, h' _ H' m' F' s' (jok_str (szOk_le hz)) g⟩
        · exact h'.elim
      | _ => exact h.elim
theorem szInt {n : Int} (h : szOk n.natAbs = true) : -(2 ^ 62) ≤ n ∧ n < 2 ^ 62 ∧ n.toNat ≤ 100000 := by
  have := of_decide_eq_true h
  omega
theorem s_rng1 {a : Ex} {σ : L2.St} {H : Hp} {R : It → Hp → Prop} {K : PySem.W.Frag} (h : tI P C N K Wx (.rng1 a) σ H R) : iRng1 (tCons (tE P C N K Wx a) tNil) σ H R := by
  obtain ⟨env, m, M, F, s, h⟩ := h
  have h : ERes N K (RJ N K) Wx R σ env m F (((ev P C a env M).bind fun x M => match x with
    | .p (.int n) => if szOk n.natAbs then .ok (.tp (rngW 0 n)) M else .bad
    | _ => .bad).bind fun w M => Res.of (iterW w) M) := h
  rw [bind_asc] at h
  refine tE.of s h fun x H1 m1 F1 w1 M1 s1 r1 g1 h1 => ?_
  split at h1
  · rename_i n
    split at h1
    · rename_i z
      obtain ⟨z1, z2, z3⟩ := szInt z
      cases (show x = .int n from r1)
      refine ⟨n, rfl, z1, z2, ?_⟩
      have j : JOk N K (Itr 0 (n - 0).toNat) m1 F1 (rngW 0 n) := jok_rng (by rw [Int.sub_zero]; exact le_line z3)
      rw [Int.sub_zero] at j
      exact ERes.now (a := rngW 0 n) h1 s1 j
    · exact h1.elim
  · exact h1.elim
theorem s_rng2 {a b : Ex} {σ : L2.St} {H : Hp} {R : It → Hp → Prop} {K : PySem.W.Frag} (h : tI P C N K Wx (.rng2 a b) σ H R) : iRng2 (tCons (tE P C N K Wx a) (tCons (tE P C N K Wx b) tNil)) σ H R := by
  obtain ⟨env, m, M, F, s, h⟩ := h
  have h : ERes N K (RJ N K) Wx R σ env m F (((ev P C a env M).bind fun x M => (ev P C b env M).bind fun y M => match x, y with
    | .p (.int l), .p (.int n) => if szOk l.natAbs && szOk n.natAbs then .ok (.tp (rngW l n)) M else .bad
    | _, _ => .bad).bind fun w M => Res.of (iterW w) M) := h
  rw [bind_asc] at h
  refine tE.of s h fun x H1 m1 F1 w1 M1 s1 r1 g1 h1 => ?_
  rw [bind_asc] at h1
  refine tE.of s1 h1 fun y H2 m2 F2 w2 M2 s2 r2 g2 h2 => ?_
  split at h2
  · rename_i l n
    split at h2
    · rename_i z
      obtain ⟨za, zb⟩ := Bool.and_eq_true_iff.mp z
      obtain ⟨z1, z2, z3⟩ := szInt za
      obtain ⟨z4, z5, z6⟩ := szInt zb
      cases (show x = .int l from r1)
      cases (show y = .int n from r2)
      exact ⟨l, n, rfl, ⟨z1, z2, z4, z5⟩, ERes.now (a := rngW l n) h2 s2 (jok_rng (by have := of_decide_eq_true za; have := of_decide_eq_true zb; rw [sizeLine_eq]; omega))⟩
    · exact h2.elim
  · exact h2.elim
/-- enumerate, zip: more is known behind the arguments -/
theorem pi_enum' {L : Ex} {l : Expr} {p pos tpos : Pos} {elts : List Expr} {kk : Nat} (hg : Gl X "enumerate") (hm : X.mg "enumerate" = none) (he : PE X l (tE P C N X.K Wx L)) (hs : starEach [l] X.env = [(false, eval l X.env)]) :
    PI X (.Tuple elts kk tpos) (.Call (.Name "enumerate" p) [l] [] pos) (tI P C N X.K Wx (.enum L)) := by
  refine ⟨fun pins s σ H R I h => ?_⟩
  obtain ⟨env, m, M, F, sm, h⟩ := h
  have h : ERes N X.K (RJ N X.K) Wx R σ env m F (((ev P C L env M).bind fun x M => match lstW x with
    | some ws => .ok (.tp (enumW 0 ws)) M
    | none => .bad).bind fun w M => Res.of (iterW w) M) := h
  rw [bind_asc] at h
  have ha : PA X [l] (tCons (tE P C N X.K Wx L) tNil) := pa_cons he pa_nil (by rw [hs]; rfl)
  refine pi_run (R' := fun J H' => ∃ a ys, SqL X.K H' a ys ∧ (ys.length ≤ sizeLine → R J H')) (pi_enum hg hm ha hs) I ?_ fun J H' s' I' hr => ?_
  · refine tE.of sm h fun x H1 m1 F1 w1 M1 s1 r1 g1 h1 => ?_
    cases w1 with
    | p d =>
      cases d with
      | lst ds =>
        obtain ⟨a, ys, rfl, q1, q2⟩ := r1
        have q1 : SqL X.K F1.f a ys := .inl q1
        exact ⟨a, ys, rfl, s1.mem.sub.sqL q1, a, ys, s1.mem.sub.sqL q1, fun hl => ERes.now (a := enumW 0 (ds.map .p)) h1 s1 (jok_enum q1 (RepWs.p q2) hl)⟩
      | _ => exact h1.elim
    | _ => exact h1.elim
  · obtain ⟨a, ys, q1, q2⟩ := hr
    obtain ⟨_, _, _, hz⟩ := I'.list q1
    exact q2 hz
theorem lstW_rep {K : PySem.W.Frag} {F : Hp} {m : List Addr} {w : W} {ws : List W} {v : V} (e : lstW w = some ws) (r : RepW N K F m w v) : ∃ a ys, v = .ref a ∧ SqL K F a ys ∧ RepWs N K F m ws ys := by
  unfold lstW at e
  split at e
  · cases e
    obtain ⟨a, ys, h1, h2, h3⟩ := r
    exact ⟨a, ys, h1, .inl h2, RepWs.p h3⟩
  · cases e
theorem pi_zip' {L L' : Ex} {l l' : Expr} {p pos tpos : Pos} {elts : List Expr} {kk : Nat} (hg : Gl X "zip") (hm : X.mg "zip" = none) (he : PE X l (tE P C N X.K Wx L)) (he' : PE X l' (tE P C N X.K Wx L')) (hs : starEach [l, l'] X.env = (false, eval l X.env) :: starEach [l'] X.env)
    (hs' : starEach [l'] X.env = [(false, eval l' X.env)]) : PI X (.Tuple elts kk tpos) (.Call (.Name "zip" p) [l, l'] [] pos) (tI P C N X.K Wx (.zip L L')) := by
  refine ⟨fun pins s σ H R I h => ?_⟩
  obtain ⟨env, m, M, F, sm, h⟩ := h
  have h : ERes N X.K (RJ N X.K) Wx R σ env m F (((ev P C L env M).bind fun x M => (ev P C L' env M).bind fun y M => match zipItems x y with
    | some r => .ok (.tp (zipW r.1 r.2)) M
    | none => .bad).bind fun w M => Res.of (iterW w) M) := h
  rw [bind_asc] at h
  have ha : PA X [l, l'] (tCons (tE P C N X.K Wx L) (tCons (tE P C N X.K Wx L') tNil)) := pa_cons he (pa_cons he' pa_nil (by rw [hs']; rfl)) hs
  refine pi_run (R' := fun J H' => ∃ a ys, (SqL X.K H' a ys ∨ SqT X.K H' a ys) ∧ (ys.length ≤ sizeLine → R J H')) (RZ.pi_zipA hg hm ha hs (by rw [hs']; rfl)) I ?_ fun J H' s' I' hr => ?_
  · refine tE.of sm h fun x H1 m1 F1 w1 M1 s1 r1 g1 h1 => ?_
    rw [bind_asc] at h1
    refine tE.of s1 h1 fun y H2 m2 F2 w2 M2 s2 r2 g2 h2 => ?_
    have r1 := RepW.mono g2.x _ _ r1
    have h2 : ERes N X.K (RJ N X.K) Wx R σ env m2 F2 ((match zipItems w1 w2 with
      | some r => .ok (.tp (zipW r.1 r.2)) M2
      | none => .bad : Res W).bind fun w M => Res.of (iterW w) M) := h2
    cases e : zipItems w1 w2 with
    | none => rw [e] at h2; exact h2.elim
    | some r =>
      rw [e] at h2
      have h2 : ERes N X.K (RJ N X.K) Wx R σ env m2 F2 (.ok (zipW r.1 r.2) M2) := h2
      unfold zipItems at e
      split at e
      · rename_i xs ys e1 e2
        cases e
        obtain ⟨a, zs, rfl, q1, q2⟩ := lstW_rep e1 r1
        obtain ⟨b, us, rfl, p1, p2⟩ := lstW_rep e2 r2
        exact ⟨a, b, zs, us, rfl, .inl ⟨s2.mem.sub.sqL q1, s2.mem.sub.sqL p1, a, zs, .inl (s2.mem.sub.sqL q1), fun hl => h2.now s2 (jok_zipL q1 p1 q2 p2 hl)⟩⟩
      · split at e
        · rename_i xs ys e1 e2
          cases e
          obtain ⟨a, zs, rfl, q1, q2⟩ := tupW_rep e1 r1
          obtain ⟨b, us, rfl, p1, p2⟩ := tupW_rep e2 r2
          exact ⟨a, b, zs, us, rfl, .inr ⟨s2.mem.sub.sqT q1, s2.mem.sub.sqT p1, a, zs, .inr (s2.mem.sub.sqT q1), fun hl => h2.now s2 (jok_zipT q1 p1 q2 p2 hl)⟩⟩
        · cases e
  · obtain ⟨a, ys, q1, q2⟩ := hr
    rcases q1 with q1 | q1
    · obtain ⟨_, _, _, hz⟩ := I'.list q1
      exact q2 hz
    · obtain ⟨_, _, _, hz⟩ := I'.tuple q1
      exact q2 hz
end
end G

set_option maxHeartbeats 4000000
/-! Comprehensions, read. -/
namespace G
open PySem PySem.Spec PyProof.Rows L2

def cStep (P : Prog) (C : Calls) (elt : Ex) (own : List Nat) (t : Tg) (ifs : List Ex) (env : Env) : W → Mem → Res (Option W) := fun w M => match give t w (wipeE env own) with
  | some e => (evs P C ifs e M).bind fun bs M => match truA M bs with
    | some true => (ev P C elt e M).bind fun v M => .ok (some v) M
    | some false => .ok none M
    | none => .bad
  | none => .bad
theorem ev_comp {P : Prog} {C : Calls} {elt it : Ex} {own : List Nat} {t : Tg} {ifs : List Ex} {env : Env} {M : Mem} : ev P C (.comp elt own t it ifs) env M = (ev P C it env M).bind fun x M => match iterW x with
  | some ws => (compL (cStep P C elt own t ifs env) ws [] M).noX.bind fun vs M => Res.of (mkLst vs) M
  | none => .bad := rfl
def WF : WX := fun _ _ _ _ => False
def tIfs (P : Prog) (C : Calls) (N : Nam) (K : PySem.W.Frag) : List Ex → TT
  | [] => tYes
  | c :: _ => tT P C N K WF c
section
variable {P : Prog} {C : Calls} {N : Nam} {K : PySem.W.Frag} {Wx : WX} {σ : L2.St} {H : Hp}
theorem wipe_get {σ : L2.St} (i : Nat) : ∀ vs : List Nat, (L2.wipe σ vs)[i]? = if i ∈ vs ∧ i < σ.length then some none else σ[i]?
  | [] => by simp [L2.wipe]
  | v :: vs => by
    show ((L2.wipe σ vs).set v none)[i]? = _
    by_cases q : v = i
    · subst q
      by_cases hl : v < σ.length
      · rw [List.getElem?_set_self (by rw [wipe_length]; exact hl), if_pos ⟨List.mem_cons_self, hl⟩]
      · rw [List.getElem?_eq_none (by rw [List.length_set, wipe_length]; omega), if_neg (fun z => hl z.2), List.getElem?_eq_none (by omega)]
    · rw [List.getElem?_set_ne q, wipe_get i vs]
      have e : (i ∈ v :: vs) ↔ i ∈ vs := by simp [Ne.symm q]
      simp only [e]
theorem wipe_wipe {σ : L2.St} {vs : List Nat} : L2.wipe (L2.wipe σ vs) vs = L2.wipe σ vs := by
  refine List.ext_getElem? fun i => ?_
  rw [wipe_get i vs, wipe_length]
  by_cases q : i ∈ vs ∧ i < σ.length
  · rw [if_pos q, wipe_get i vs, if_pos q]
  · rw [if_neg q]
theorem upd_upd {H : Hp} {p : Addr} {o o' : HO} : upd (upd H p o) p o' = upd H p o' := by
  funext a
  by_cases q : a = p
  · subst q; rw [upd_same, upd_same]
  · rw [upd_ne q, upd_ne q, upd_ne q]
theorem s_comp {elt it : Ex} {own : List Nat} {t : Tg} {ifs : List Ex} {Q : VK} (hi : ifs.length ≤ 1) (ht : ∀ i ∈ t.vars, i ∈ own) (h : tE P C N K Wx (.comp elt own t it ifs) σ H Q) :
    tLc (tI P C N K Wx it) (tTgt K t) (tIfs P C N K ifs) (tE P C N K WF elt) own σ H Q := by
  obtain ⟨env, m, M, F, s, h⟩ := h
  rw [ev_comp] at h
  refine ⟨env, m, M, F, s, ?_⟩
  unfold evI
  cases e0 : ev P C it env M with
  | bad => rw [e0] at h; exact h
  | exc c ns vs M' => rw [e0] at h; exact h
  | ok w0 M1 =>
    rw [e0] at h
    show ERes N K (RJ N K) Wx _ σ env m F (Res.of (iterW w0) M1)
    have h : ERes N K (RW N K) Wx Q σ env m F (match iterW w0 with
      | some ws => (compL (cStep P C elt own t ifs env) ws [] M1).noX.bind fun vs M => Res.of (mkLst vs) M
      | none => .bad) := h
    cases e1 : iterW w0 with
    | none => rw [e1] at h; exact h
    | some ws =>
      rw [e1] at h
      intro J H1 m1 F1 s1 j g1 D hD
      have h1 := h.rebase g1
      have h1 : ERes N K (RW N K) Wx Q σ env m1 F1 ((compL (cStep P C elt own t ifs env) ws [] M1).noX.bind fun vs M => Res.of (mkLst vs) M) := h1
      clear h
      have gp := apart_none s1.mem hD
      let WI : Nat → Nat → Hp → Prop := fun i n H => ∃ (m' : List Addr) (M' : Mem) (F' : Fx) (ra : List W) (acc : List V), n = ws.length - i ∧ i ≤ ws.length ∧ SimM N K m' M' F' H ∧ Gr m1 ⟨F1.f, upd F1.g D (.lst acc)⟩ m' F' ∧ RepWs N K F' m' ra.reverse acc ∧ acc.length ≤ i ∧
        ERes N K (RW N K) Wx Q σ env m1 F1 ((compL (cStep P C elt own t ifs env) (ws.drop i) ra M').noX.bind fun vs M => Res.of (mkLst vs) M)
      refine ⟨WI, ⟨ws.length, m1, M1, ⟨F1.f, upd F1.g D (.lst [])⟩, [], [], rfl, Nat.zero_le _, s1.mem.hold hD, Gr.refl _ _, trivial, Nat.le_refl _, h1⟩, ?_⟩
      rintro i n H2 ⟨m', M', F', ra, acc, rfl, hil, sm, g, rr, la, hh⟩
      obtain ⟨jl, jj⟩ := j
      have gx : Gx m1 F1 m' F' := ⟨g.1, g.2.1⟩
      obtain ⟨jg, js⟩ := jj i H2 m' M' F' sm gx
      have eD : F'.g D = some (.lst acc) := by rw [g.2.2]; exact upd_same
      by_cases hlt : i < ws.length
      · have hw : ws[i]? = some ws[i] := List.getElem?_eq_getElem hlt
        obtain ⟨go, yl⟩ := jg _ hw
        refine .inr ⟨go, WI (i + 1) (ws.length - (i + 1)), fun H' h' => ⟨ws.length - (i + 1), by omega, h'⟩, fun x H3 y => ?_⟩
        obtain ⟨F2, sm2, g2, rx⟩ := yl x H3 y
        rw [List.drop_eq_getElem_cons hlt] at hh
        have hh : ERes N K (RW N K) Wx Q σ env m1 F1 (((cStep P C elt own t ifs env ws[i] M').bind fun o M'' => match o with
          | some v => compL (cStep P C elt own t ifs env) (ws.drop (i + 1)) (v :: ra) M''
          | none => compL (cStep P C elt own t ifs env) (ws.drop (i + 1)) ra M'').noX.bind fun vs M => Res.of (mkLst vs) M) := hh
        have ec : cStep P C elt own t ifs env ws[i] M' = (match give t ws[i] (wipeE env own) with
          | some e => (evs P C ifs e M').bind fun bs M => match truA M bs with
            | some true => (ev P C elt e M).bind fun v M => .ok (some v) M
            | some false => .ok none M
            | none => .bad
          | none => .bad) := rfl
        rw [ec] at hh
        cases eg : give t ws[i] (wipeE env own) with
        | none => rw [eg] at hh; exact hh.elim
        | some e2 =>
          rw [eg] at hh
          simp only at hh
          have gx2 : Gx m1 F1 m' F2 := gx.trans g2.x
          refine give_ok sm2.sub eg rx ((s1.env.mono gx2).wipe own) fun σ2 re hw2 => ⟨(hw2 own ht).trans wipe_wipe, ?_⟩
          have sim2 : Sim N K σ2 e2 m' M' F2 H3 := ⟨sm2, re⟩
          have fg2 : F2.g = upd F1.g D (.lst acc) := g2.2.2.trans g.2.2
          have rr2 : RepWs N K F2 m' ra.reverse acc := RepWs.mono g2.x _ _ rr
          -- a turn's end
          have keep : ∀ {m3 : List Addr} {M3 : Mem} {F3 : Fx} {H4 : Hp}, SimM N K m3 M3 F3 H4 → Gr m' F2 m3 F3 → ERes N K (RW N K) Wx Q σ env m1 F1 ((compL (cStep P C elt own t ifs env) (ws.drop (i + 1)) ra M3).noX.bind fun vs M => Res.of (mkLst vs) M) → WI (i + 1) (ws.length - (i + 1)) H4 :=
            fun {m3 M3 F3 H4} s3 g3 h3 => ⟨m3, M3, F3, ra, acc, rfl, hlt, s3, ⟨(gx2.trans g3.x).1, (gx2.trans g3.x).2, g3.2.2.trans fg2⟩, RepWs.mono g3.x _ _ rr2, Nat.le_succ_of_le la, h3⟩
          have more : ∀ {m3 : List Addr} {M3 : Mem} {F3 : Fx} {H4 : Hp} {v : W} {y : V}, SimM N K m3 M3 F3 H4 → Gr m' F2 m3 F3 → RepW N K F3 m3 v y → ERes N K (RW N K) Wx Q σ env m1 F1 ((compL (cStep P C elt own t ifs env) (ws.drop (i + 1)) (v :: ra) M3).noX.bind fun vs M => Res.of (mkLst vs) M) →
              ∃ acc, H4 D = some (.lst acc) ∧ acc.length < sizeLine ∧ WI (i + 1) (ws.length - (i + 1)) (upd H4 D (.lst (acc ++ [y]))) := fun {m3 M3 F3 H4 v y} s3 g3 rv h3 => by
            have e3 : F3.g D = some (.lst acc) := by rw [g3.2.2, fg2]; exact upd_same
            refine ⟨acc, (s3.apart _ _ e3).1, by omega, m3, M3, ⟨F3.f, upd F3.g D (.lst (acc ++ [y]))⟩, v :: ra, acc ++ [y], rfl, hlt, s3.held e3, ⟨(gx2.trans g3.x).1, (gx2.trans g3.x).2, ?_⟩, ?_, by rw [List.length_append, List.length_singleton]; omega, h3⟩
            · show upd F3.g D _ = upd F1.g D _
              rw [g3.2.2, fg2, upd_upd]
            · rw [List.reverse_cons]
              exact RepWs.append (RepWs.mono (F' := F3) g3.x _ _ rr2) ⟨rv, trivial⟩
          have elts : ∀ {m3 : List Addr} {M3 : Mem} {F3 : Fx} {H4 : Hp}, Sim N K σ2 e2 m3 M3 F3 H4 → Gr m' F2 m3 F3 →
              ERes N K (RW N K) Wx Q σ env m1 F1 ((((ev P C elt e2 M3).bind fun v M => Res.ok (some v) M).bind fun o M'' => match o with
                | some v => compL (cStep P C elt own t ifs env) (ws.drop (i + 1)) (v :: ra) M''
                | none => compL (cStep P C elt own t ifs env) (ws.drop (i + 1)) ra M'').noX.bind fun vs M => Res.of (mkLst vs) M) →
              tE P C N K WF elt σ2 H4 fun y H5 => ∃ acc, H5 D = some (.lst acc) ∧ acc.length < sizeLine ∧ WI (i + 1) (ws.length - (i + 1)) (upd H5 D (.lst (acc ++ [y]))) := fun {m3 M3 F3 H4} s3 g3 h3 => by
            refine ⟨e2, m3, M3, F3, s3, ?_⟩
            cases e4 : ev P C elt e2 M3 with
            | bad => rw [e4] at h3; exact h3
            | exc c ns vs M4 => rw [e4] at h3; exact h3.elim
            | ok v M4 =>
              rw [e4] at h3
              exact fun y H5 m4 F4 s4 r4 g4 => more s4.mem (g3.trans g4) r4 h3
          match ifs, hi, hh with
          | [], _, hh => exact elts sim2 (Gr.refl _ _) hh
          | [c], _, hh =>
            refine ⟨e2, m', M', F2, sim2, ?_⟩
            unfold evT
            have hh : ERes N K (RW N K) Wx Q σ env m1 F1 ((((((ev P C c e2 M').bind fun w M => Res.ok [w] M).bind fun bs M => match truA M bs with
              | some true => (ev P C elt e2 M).bind fun v M => .ok (some v) M
              | some false => .ok none M
              | none => .bad).bind fun o M'' => match o with
              | some v => compL (cStep P C elt own t [c] env) (ws.drop (i + 1)) (v :: ra) M''
              | none => compL (cStep P C elt own t [c] env) (ws.drop (i + 1)) ra M'')).noX.bind fun vs M => Res.of (mkLst vs) M) := hh
            cases e3 : ev P C c e2 M' with
            | bad => rw [e3] at hh; exact hh
            | exc c ns vs M4 => rw [e3] at hh; exact hh.elim
            | ok wc M3 =>
              rw [e3] at hh
              simp only [Res.bind_ok] at hh ⊢
              have et : truA M3 [wc] = tru M3 wc := rfl
              rw [et] at hh
              cases e5 : tru M3 wc with
              | none => rw [e5] at hh; exact hh
              | some k =>
                rw [e5] at hh
                intro b H4 m3 F3 s3 r3 g3
                cases (show k = b from r3)
                cases k with
                | true => exact elts s3 g3 hh
                | false => exact keep s3.mem g3 hh
      · have hie : i = ws.length := by omega
        refine .inl ⟨js hie, ?_⟩
        rw [hie, List.drop_length] at hh
        have hh : ERes N K (RW N K) Wx Q σ env m1 F1 (Res.of (mkLst ra.reverse) M') := hh
        obtain ⟨ds, e5, hh⟩ := of_map (o := W.pures ra.reverse) hh
        obtain ⟨s5, g5⟩ := sm.fix (g := F1.g) eD fun a u q => by
          obtain ⟨q1, q2⟩ := aside_eq (F' := F') (o' := .lst acc) (g := F1.g) g.2.2 gp a u q
          exact ⟨q2, q1⟩
        have g6 : Gr m1 F1 m' ⟨upd F'.f D (.lst acc), F1.g⟩ := ⟨(gx.trans g5).1, (gx.trans g5).2, rfl⟩
        exact hh (.ref D) H2 m' _ (s1.to s5 g6.x) ⟨D, acc, rfl, .inl upd_same, Reps.mono g5.2 _ _ (rr.pures e5)⟩ g6
end
end G

set_option maxHeartbeats 4000000
/-! The checker of expressions is sound: parts. -/
namespace G
open PySem PySem.Spec PyProof.Rows L2

def Callable (Γ : Tab) (P : Prog) (C : Calls) (N : Nam) (X : Cx) : Prop := ∀ (Wx : WX), Takes X Wx → ∀ (x : Str) (f : Nat) (ps : List Str) (as ks : List Ex) (perm : List Nat) (es : List Expr) (kws : List Keyword) (p pos : Pos),
  Γ.fn.lookup x = some (f, ps) → Gl X x → permOk ps as.length (kws.filterMap (·.arg)) perm = true → kws.all (·.arg.isSome) = true → es.all noStar = true → es.length = as.length → kws.length = ks.length →
  PA X es (tEs P C N X.K Wx as) → PK X kws (tEs P C N X.K Wx ks) → PE X (.Call (.Name x p) es kws pos) (tE P C N X.K Wx (.call f as ks perm))
structure CxOk (Γ : Tab) (P : Prog) (C : Calls) (N : Nam) (L : List Str) (sc : Scope) (X : Cx) : Prop where
  nm : X.N = L
  sc : X.env.scope = sc
  nd : L.Nodup
  blt : BltOk X
  tc : TieC P N X.K
  tn : TieN Γ P N X.K X.mg
  cal : Γ.calm = true → X.calm = true
  call : Γ.calm = true → ∀ X' : Cx, X'.prog = X.prog → X'.w = X.w → X'.K = X.K → X'.mg = X.mg → X'.base = X.base → X'.A = X.A → X'.stack = X.stack → X'.calm = X.calm → Callable Γ P C N X'
section
variable {Γ : Tab} {P : Prog} {C : Calls} {N : Nam} {L : List Str} {sc : Scope} {X : Cx}
theorem CxOk.blk (h : CxOk Γ P C N L sc X) (s : Shared) (H : Hp) (scope : Scope) (D : Addr) (cl : List (Str × Addr)) (fp : List Addr) : CxOk Γ P C N L (relS scope sc) (X.blk s H scope (compEnvC scope cl D X.env) fp) :=
  ⟨h.nm, by rw [← h.sc]; rfl, h.nd, ⟨h.blt.sys, h.blt.grd, h.blt.unt⟩, h.tc, h.tn, h.cal, fun q X' a b c d e f g i => h.call q X' a b c d e f g i⟩
theorem blk_takes {s : Shared} {H : Hp} {scope : Scope} {cenv : PySem.Env} {fp : List Addr} : Takes (X.blk s H scope cenv fp) WF := fun u s' h => by
  obtain ⟨_, _, _, _, _, _, _, _, _, _, _, _, _, _, _, _, w⟩ := h
  exact w.elim
theorem CxOk.vis (h : CxOk Γ P C N L sc X) {x : Str} (v : visB sc x = true) : Vis X.env.scope x := by
  rw [h.sc]
  rcases Bool.or_eq_true_iff.mp v with v | v
  · rcases Bool.or_eq_true_iff.mp v with v | v
    · exact .inl (of_decide_eq_true v)
    · exact .inr (.inl (of_decide_eq_true v))
  · exact .inr (.inr (of_decide_eq_true v))
theorem CxOk.gl (h : CxOk Γ P C N L sc X) {x : Str} (v : glB sc x = true) : Gl X x := by
  have e := of_decide_eq_true v
  rw [← h.sc] at e
  exact e
theorem okN_ok {x : Str} (h : okN x = true) : (x == ("__debug__" : Str)) = false ∧ (x == ("__classdict__" : Str)) = false := by
  obtain ⟨a, b⟩ := Bool.and_eq_true_iff.mp h
  exact ⟨by simpa using a, by simpa using b⟩
theorem star_of {e : Expr} {es : List Expr} {env : PySem.Env} (h : noStar e = true) : starEach (e :: es) env = (false, eval e env) :: starEach es env := by
  cases e <;> first | rfl | cases h
theorem sup_of {e : Expr} {a : Str} {env : PySem.Env} (h : noSup e = true) : attributeBase e a env (eval e env) = eval e env := by
  unfold attributeBase
  split
  · cases h
  · rfl
theorem ix_of {e : Expr} (h : noSlc e = true) : PlainIx e := by
  cases e <;> first | (intro o i; rfl) | cases h
theorem peI {e : Expr} {t t' : TE} (h : PE X e t) (k : ∀ σ H Q, t' σ H Q → t σ H Q) : PE X e t' := ⟨fun pins s σ H Q I q => h.run pins s σ H Q I (k _ _ _ q)⟩
theorem ptI {e : Expr} {t t' : TT} (h : PT X e t) (k : ∀ σ H Q, t' σ H Q → t σ H Q) : PT X e t' := ⟨fun pins s σ H Q I q => h.run pins s σ H Q I (k _ _ _ q)⟩
theorem pwI {e : Expr} {t t' : TT} (h : PW X e t) (k : ∀ σ H Q, t' σ H Q → t σ H Q) : PW X e t' := ⟨fun wh pins s σ H Q I q => h.run wh pins s σ H Q I (k _ _ _ q)⟩
theorem paI {e : List Expr} {t t' : TA} (h : PA X e t) (k : ∀ σ H Q, t' σ H Q → t σ H Q) : PA X e t' := ⟨fun pos pins s σ H Q I q => h.run pos pins s σ H Q I (k _ _ _ q)⟩
theorem pkI {e : List Keyword} {t t' : TA} (h : PK X e t) (k : ∀ σ H Q, t' σ H Q → t σ H Q) : PK X e t' := ⟨fun pos pins s σ H Q I q => h.run pos pins s σ H Q I (k _ _ _ q)⟩
theorem piI {tg e : Expr} {t t' : TI} (h : PI X tg e t) (k : ∀ σ H Q, t' σ H Q → t σ H Q) : PI X tg e t' := ⟨fun pins s σ H Q I q => h.run pins s σ H Q I (k _ _ _ q)⟩
/-! names of built-in things -/
theorem boot_b (b : Blt) : bootBuiltins (bnm b) = some (bval b) := by cases b <;> rfl
theorem bnm_free (b : Blt) : bnm b ∈ freeNs := by cases b <;> decide
theorem bnm_n (b : Blt) : bnm b ≠ "__name__" ∧ (bnm b == ("__debug__" : Str)) = false := by cases b <;> decide
theorem boot_t (c : TyC) (h : ∀ k, c ≠ .own k) (h2 : ∀ n, c ≠ .oerr n) : bootBuiltins (tnm c) = some (tycV N c) := by
  cases c <;> first | rfl | (exfalso; exact h _ rfl) | (exfalso; exact h2 _ rfl)
theorem tnm_free (c : TyC) (h : ∀ k, c ≠ .own k) (h2 : ∀ n, c ≠ .oerr n) : tnm c ∈ freeNs := by
  cases c <;> first | decide | (exfalso; exact h _ rfl) | (exfalso; exact h2 _ rfl)
theorem tnm_n (c : TyC) (h : ∀ k, c ≠ .own k) (h2 : ∀ n, c ≠ .oerr n) : tnm c ≠ "__name__" ∧ (tnm c == ("__debug__" : Str)) = false := by
  cases c <;> first | decide | (exfalso; exact h _ rfl) | (exfalso; exact h2 _ rfl)
theorem boot_isi : bootBuiltins "isinstance" = some (.builtin "isinstance") := by rfl
theorem isC {c : TyC} {u : Value} (h : u = tycV N c) : RelV (tycX N c) u := by subst h; cases c <;> rfl
/-- a class's name, a type's -/
theorem pe_ty (cx : CxOk Γ P C N L sc X) {c : TyC} {e : Expr} (hc : P.isis.contains c = true) (h : tyB Γ sc c e = true) : PE X e (tC (tycX N c)) := by
  cases e with
  | Name x p =>
    by_cases h1 : ∃ k, c = .own k
    · obtain ⟨k, rfl⟩ := h1
      obtain ⟨a, b⟩ := Bool.and_eq_true_iff.mp (show (decide (Γ.cl.lookup x = some k) && glB sc x) = true from h)
      obtain ⟨q1, q2⟩ := cx.tn.cls x k (of_decide_eq_true a)
      exact pe_glob (cx.gl b) q1 rfl q2
    · have h1 : ∀ k, c ≠ .own k := fun k e => h1 ⟨k, e⟩
      have h' : (decide (x = tnm c) && glB sc x) = true := by
        cases c <;> first | exact h | (exfalso; exact h1 _ rfl)
      obtain ⟨a, b⟩ := Bool.and_eq_true_iff.mp h'
      have a := of_decide_eq_true a
      subst a
      by_cases h2 : ∃ n, c = .oerr n
      · obtain ⟨n, rfl⟩ := h2
        obtain ⟨q1, q2, q3, q4⟩ := cx.tn.oerr n (List.contains_iff_mem.mp hc)
        exact pe_bltn (cx.gl b) q1 q2 rfl q3 q4
      · have h2 : ∀ k, c ≠ .oerr k := fun k e => h2 ⟨k, e⟩
        obtain ⟨n1, n2⟩ := tnm_n c h1 h2
        exact pe_bltn (cx.gl b) (cx.tn.free _ (tnm_free c h1 h2)) (boot_t c h1 h2) (isC rfl) n1 n2
  | _ => cases h
theorem pa_tys (cx : CxOk Γ P C N L sc X) : ∀ {cs : List TyC} {es : List Expr}, cs.all P.isis.contains = true → tysB Γ sc cs es = true → PA X es (tTys N cs)
  | [], [], _, _ => paI pa_nil fun _ _ _ q => q
  | c :: cs, e :: es, hc, h => by
    obtain ⟨h1, h3⟩ := Bool.and_eq_true_iff.mp (show ((tyB Γ sc c e && noStar e) && tysB Γ sc cs es) = true from h)
    obtain ⟨h1, h2⟩ := Bool.and_eq_true_iff.mp h1
    rw [List.all_cons, Bool.and_eq_true] at hc
    exact paI (pa_cons (pe_ty cx hc.1 h1) (pa_tys cx hc.2 h3) (star_of h2)) fun _ _ _ q => q
/-- what is shown of a form -/
def PEg (Γ : Tab) (P : Prog) (C : Calls) (N : Nam) (L : List Str) (x : Ex) : Prop := ∀ (sc : Scope) (e : Expr) (X : Cx) (Wx : WX), CxOk Γ P C N L sc X → Takes X Wx → chk Γ L P.isis x sc e = true → PE X e (tE P C N X.K Wx x)
def PTg (Γ : Tab) (P : Prog) (C : Calls) (N : Nam) (L : List Str) (x : Ex) : Prop := ∀ (sc : Scope) (e : Expr) (X : Cx) (Wx : WX), CxOk Γ P C N L sc X → Takes X Wx → chk Γ L P.isis x sc e = true → noIf e = true →
  PT X e (tT P C N X.K Wx x) ∧ ∀ op es pos, e = .BoolOp op es pos → PW X e (tT P C N X.K Wx x)
def PIg (Γ : Tab) (P : Prog) (C : Calls) (N : Nam) (L : List Str) (x : Ex) : Prop := ∀ (sc : Scope) (tg e : Expr) (X : Cx) (Wx : WX), CxOk Γ P C N L sc X → Takes X Wx → chkI Γ L P.isis x sc tg e = true → PI X tg e (tI P C N X.K Wx x)
def PAg (Γ : Tab) (P : Prog) (C : Calls) (N : Nam) (L : List Str) (xs : List Ex) : Prop := ∀ (sc : Scope) (es : List Expr) (X : Cx) (Wx : WX), CxOk Γ P C N L sc X → Takes X Wx → chks Γ L P.isis xs sc es = true → PA X es (tEs P C N X.K Wx xs)
structure Good (Γ : Tab) (P : Prog) (C : Calls) (N : Nam) (L : List Str) (x : Ex) : Prop where
  pe : PEg Γ P C N L x
  pt : PTg Γ P C N L x
  pi : PIg Γ P C N L x
end
end G

set_option maxHeartbeats 4000000
/-! The checker of expressions is sound. -/
namespace G
open PySem PySem.Spec PyProof.Rows L2
theorem and2 {a b : Bool} (h : (a && b) = true) : a = true ∧ b = true := Bool.and_eq_true_iff.mp h
section
variable {Γ : Tab} {P : Prog} {C : Calls} {N : Nam} {L : List Str}
theorem star_all {isis : List TyC} : ∀ {xs : List Ex} {sc : Scope} {es : List Expr}, chks Γ L isis xs sc es = true → es.all noStar = true ∧ es.length = xs.length
  | [], sc, es, h => by
    have h : es.isEmpty = true := h
    cases es with
    | nil => exact ⟨rfl, rfl⟩
    | cons _ _ => cases h
  | x :: xs, sc, es, h => by
    cases es with
    | nil => cases h
    | cons e es =>
      obtain ⟨h1, h3⟩ := and2 (show ((chk Γ L isis x sc e && noStar e) && chks Γ L isis xs sc es) = true from h)
      obtain ⟨h1, h2⟩ := and2 h1
      obtain ⟨a, b⟩ := star_all h3
      exact ⟨by rw [List.all_cons, h2, a]; rfl, by simp [b]⟩
theorem plain_of {env : PySem.Env} {pos : Pos} : ∀ {es : List Expr}, es.all noStar = true → (backTo pos (starEach es env)).any (·.1) = false
  | [], _ => rfl
  | e :: es, h => by
    obtain ⟨h1, h2⟩ := and2 (show (noStar e && es.all noStar) = true from h)
    rw [star_of h1]
    exact (Bool.false_or _).trans (plain_of h2)
theorem pt_plain {x : Ex} {X : Cx} {e : Expr} {Wx : WX} (h : PE X e (tE P C N X.K Wx x)) (he : ∀ whole, isTrue e X.env whole = (do let v ← whole; standAt e.pos; holding [v] (truthy v))) : PT X e (tT P C N X.K Wx x) :=
  ptI (pt_truth h he) fun _ _ _ q => s_truth q
/-- a form whose test is its value's truth, and that is no iterator -/
theorem good_of {x : Ex} (h : PEg Γ P C N L x) (hp : ∀ sc e, chk Γ L P.isis x sc e = true → ∀ env whole, isTrue e env whole = (do let v ← whole; standAt e.pos; holding [v] (truthy v)))
    (hb : ∀ sc op es pos, chk Γ L P.isis x sc (.BoolOp op es pos) = true → False) (hi : ∀ sc tg e, chkI Γ L P.isis x sc tg e = true → False) : Good Γ P C N L x :=
  ⟨h, fun sc e X Wx cx tk hc hn => ⟨pt_plain (h sc e X Wx cx tk hc) (hp sc e hc X.env), fun op es pos q => by subst q; exact (hb sc op es pos hc).elim⟩, fun sc tg e X Wx cx tk hc => (hi sc tg e hc).elim⟩
theorem gd_var (i : Nat) : Good Γ P C N L (.var i) := by
  refine good_of (fun sc e X Wx cx tk h => ?_) (fun sc e h env whole => ?_) (fun _ _ _ _ h => by cases h) (fun _ _ _ h => by cases h)
  · cases e with
    | Name x p =>
      obtain ⟨h1, h3⟩ := and2 (show ((decide (L[i]? = some x) && visB sc x) && okN x) = true from h)
      obtain ⟨h1, h2⟩ := and2 h1
      obtain ⟨n1, n2⟩ := okN_ok h3
      refine peI (pe_var (by rw [cx.nm]; exact of_decide_eq_true h1) (cx.vis h2) n1 n2) fun σ H Q q => ?_
      obtain ⟨env, m, M, F, s, q⟩ := q
      have q : ERes N X.K (RW N X.K) Wx Q σ env m F (Res.of ((getV env i).map (rd M)) M) := q
      obtain ⟨w, e1, q⟩ := of_map q
      unfold getV at e1
      split at e1
      · rename_i u e2
        cases e1
        obtain ⟨v, h4, h5⟩ := s.env.2 i _ e2
        exact ⟨v, h4, q.now s (s.mem.rd h5)⟩
      · cases e1
    | _ => cases h
  · cases e <;> first | rfl | cases h
theorem gd_const {x : Ex} {w : W} {v : V} (hv : ∀ (K : PySem.W.Frag) (F : Hp) (m : List Addr), RepW N K F m w v) (he : ∀ env M, ev P C x env M = .ok w M) (hc : ∀ sc e (X : Cx), chk Γ L P.isis x sc e = true → PE X e (tC v))
    (hp : ∀ sc e, chk Γ L P.isis x sc e = true → ∀ env whole, isTrue e env whole = (do let v ← whole; standAt e.pos; holding [v] (truthy v))) (hb : ∀ sc op es pos, chk Γ L P.isis x sc (.BoolOp op es pos) = true → False) (hi : ∀ sc tg e, chkI Γ L P.isis x sc tg e = true → False) : Good Γ P C N L x := by
  refine good_of (fun sc e X Wx cx tk h => peI (hc sc e X h) fun σ H Q q => ?_) hp hb hi
  obtain ⟨env, m, M, F, s, q⟩ := q
  rw [he] at q
  exact q.now s (hv _ _ _)
theorem gd_int (i : Int) : Good Γ P C N L (.int i) := by
  refine gd_const (w := .p (.int i)) (v := .int i) (fun _ _ _ => rfl) (fun _ _ => rfl) (fun sc e X h => ?_) (fun sc e h env whole => ?_) (fun _ _ _ _ h => by cases h) (fun _ _ _ h => by cases h)
  · unfold chk at h
    split at h
    · rename_i j _ _
      have e := of_decide_eq_true h
      subst e
      exact pe_int
    · cases h
  · cases e <;> first | rfl | cases h
theorem gd_str (i : Str) : Good Γ P C N L (.str i) := by
  refine gd_const (w := .p (.str i)) (v := .str i) (fun _ _ _ => rfl) (fun _ _ => rfl) (fun sc e X h => ?_) (fun sc e h env whole => ?_) (fun _ _ _ _ h => by cases h) (fun _ _ _ h => by cases h)
  · unfold chk at h
    split at h
    · rename_i j _ _
      have e := of_decide_eq_true h
      subst e
      exact pe_str
    · cases h
  · cases e <;> first | rfl | cases h
theorem gd_bl (i : Bool) : Good Γ P C N L (.bl i) := by
  refine gd_const (w := .p (.bl i)) (v := .bl i) (fun _ _ _ => rfl) (fun _ _ => rfl) (fun sc e X h => ?_) (fun sc e h env whole => ?_) (fun _ _ _ _ h => by cases h) (fun _ _ _ h => by cases h)
  · unfold chk at h
    split at h
    · rename_i j _ _
      have e := of_decide_eq_true h
      subst e
      exact pe_bl
    · cases h
  · cases e <;> first | rfl | cases h
theorem gd_non : Good Γ P C N L .non := by
  refine gd_const (w := .p .non) (v := .non) (fun _ _ _ => rfl) (fun _ _ => rfl) (fun sc e X h => ?_) (fun sc e h env whole => ?_) (fun _ _ _ _ h => by cases h) (fun _ _ _ h => by cases h)
  · unfold chk at h
    split at h
    · exact pe_non
    · cases h
  · cases e <;> first | rfl | cases h
theorem gd_glob (g : Nat) : Good Γ P C N L (.glob g) := by
  refine good_of (fun sc e X Wx cx tk h => ?_) (fun sc e h env whole => ?_) (fun _ _ _ _ h => by cases h) (fun _ _ _ h => by cases h)
  · cases e with
    | Name x p =>
      obtain ⟨h1, h2⟩ := and2 (show (decide (Γ.gv.lookup x = some g) && glB sc x) = true from h)
      obtain ⟨n1, u, v, n2, n3, n4⟩ := cx.tn.gv x g (of_decide_eq_true h1)
      refine peI (pe_glob (cx.gl h2) n2 n3 n1) fun σ H Q q => ?_
      obtain ⟨env, m, M, F, s, q⟩ := q
      have q : ERes N X.K (RW N X.K) Wx Q σ env m F (Res.of ((P.glob g).map .p) M) := q
      obtain ⟨d, e1, q⟩ := of_map q
      exact q.now s (n4 d e1 F.f)
    | _ => cases h
  · cases e <;> first | rfl | cases h
theorem gd_tup {xs : List Ex} (ih : PAg Γ P C N L xs) : Good Γ P C N L (.tup xs) := by
  refine good_of (fun sc e X Wx cx tk h => ?_) (fun sc e h env whole => ?_) (fun _ _ _ _ h => by cases h) (fun _ _ _ h => by cases h)
  · cases e with
    | Tuple es k p =>
      obtain ⟨h1, h2⟩ := and2 (show (decide (xs.length ≤ 1000) && chks Γ L P.isis xs sc es) = true from h)
      exact peI (pe_tup (ih sc es X Wx cx tk h2)) fun σ H Q q => s_tup (of_decide_eq_true h1) q
    | _ => cases h
  · cases e <;> first | rfl | cases h
theorem gd_lst {xs : List Ex} (ih : PAg Γ P C N L xs) : Good Γ P C N L (.lst xs) := by
  refine good_of (fun sc e X Wx cx tk h => ?_) (fun sc e h env whole => ?_) (fun _ _ _ _ h => by cases h) (fun _ _ _ h => by cases h)
  · cases e with
    | List es p =>
      obtain ⟨h1, h2⟩ := and2 (show (decide (xs.length ≤ 1000) && chks Γ L P.isis xs sc es) = true from h)
      exact peI (pe_lst (ih sc es X Wx cx tk h2)) fun σ H Q q => s_lst (of_decide_eq_true h1) q
    | _ => cases h
  · cases e <;> first | rfl | cases h
theorem gd_lstL {xs : List Ex} (ih : PAg Γ P C N L xs) : Good Γ P C N L (.lstL xs) := by
  refine good_of (fun sc e X Wx cx tk h => ?_) (fun sc e h env whole => ?_) (fun _ _ _ _ h => by cases h) (fun _ _ _ h => by cases h)
  · cases e with
    | List es p =>
      obtain ⟨h1, h2⟩ := and2 (show (decide (xs.length ≤ 1000) && chks Γ L P.isis xs sc es) = true from h)
      exact peI (pe_lst (ih sc es X Wx cx tk h2)) fun σ H Q q => s_lstL (of_decide_eq_true h1) q
    | _ => cases h
  · cases e <;> first | rfl | cases h
theorem gd_bin {o : Bop} {a b : Ex} (ga : Good Γ P C N L a) (gb : Good Γ P C N L b) : Good Γ P C N L (.bin o a b) := by
  refine good_of (fun sc e X Wx cx tk h => ?_) (fun sc e h env whole => ?_) (fun _ _ _ _ h => by cases h) (fun _ _ _ h => by cases h)
  · cases e with
    | BinOp l op r p =>
      obtain ⟨h1, h3⟩ := and2 (show ((decide (op = aop o) && chk Γ L P.isis a sc l) && chk Γ L P.isis b sc r) = true from h)
      obtain ⟨h1, h2⟩ := and2 h1
      have e1 := of_decide_eq_true h1
      subst e1
      exact peI (pe_op (op_bin o) (ga.pe sc l X Wx cx tk h2) (gb.pe sc r X Wx cx tk h3)) fun σ H Q q => s_bin q
    | _ => cases h
  · cases e <;> first | rfl | cases h
theorem gd_neg {a : Ex} (ga : Good Γ P C N L a) : Good Γ P C N L (.neg a) := by
  have inv : ∀ {sc e}, chk Γ L P.isis (.neg a) sc e = true → ∃ l p, e = .UnaryOp .USub l p ∧ chk Γ L P.isis a sc l = true := fun {sc e} h => by
    unfold chk at h
    split at h
    · exact ⟨_, _, rfl, h⟩
    · cases h
  refine good_of (fun sc e X Wx cx tk h => ?_) (fun sc e h env whole => ?_) (fun _ _ _ _ h => by cases h) (fun _ _ _ h => by cases h)
  · obtain ⟨l, p, rfl, h⟩ := inv h
    exact peI (pe_un un_neg (ga.pe sc l X Wx cx tk h)) fun σ H Q q => s_neg q
  · obtain ⟨l, p, rfl, h⟩ := inv h
    rfl
theorem gd_not {a : Ex} (ga : Good Γ P C N L a) : Good Γ P C N L (.not a) := by
  have inv : ∀ {sc e}, chk Γ L P.isis (.not a) sc e = true → ∃ l p, e = .UnaryOp .Not l p ∧ chk Γ L P.isis a sc l = true ∧ noIf l = true := fun {sc e} h => by
    unfold chk at h
    split at h
    · exact ⟨_, _, rfl, and2 h⟩
    · cases h
  refine ⟨fun sc e X Wx cx tk h => ?_, fun sc e X Wx cx tk h hn => ?_, fun _ _ _ _ _ _ _ h => by cases h⟩
  · obtain ⟨l, p, rfl, h, _⟩ := inv h
    exact peI (pe_notT (ga.pe sc l X Wx cx tk h)) fun σ H Q q => s_not q
  · obtain ⟨l, p, rfl, h, hn⟩ := inv h
    exact ⟨ptI (pt_not (ga.pt sc l X Wx cx tk h hn).1) fun σ H Q q => s_notT q, fun op es pos q => by cases q⟩
theorem cop_in (o : Cop) (e : Expr) (h : noSet e = true) : behindInMarks (cop o) e = false := by
  cases e <;> first | rfl | cases h
end
end G

set_option maxHeartbeats 4000000
/-! The checker of expressions is sound, on. -/
namespace G
open PySem PySem.Spec PyProof.Rows L2
section
variable {Γ : Tab} {P : Prog} {C : Calls} {N : Nam} {L : List Str}
theorem gd_cmp {o : Cop} {a b : Ex} (ga : Good Γ P C N L a) (gb : Good Γ P C N L b) : Good Γ P C N L (.cmp o a b) := by
  have inv : ∀ {sc e}, chk Γ L P.isis (.cmp o a b) sc e = true → ∃ l r p, e = .Compare l [cop o] [r] p ∧ chk Γ L P.isis a sc l = true ∧ chk Γ L P.isis b sc r = true ∧ noSet r = true := fun {sc e} h => by
    unfold chk at h
    split at h
    · obtain ⟨h, h4⟩ := and2 h
      obtain ⟨h, h3⟩ := and2 h
      obtain ⟨h, h2⟩ := and2 h
      rw [of_decide_eq_true h]
      exact ⟨_, _, _, rfl, h2, h3, h4⟩
    · cases h
  refine ⟨fun sc e X Wx cx tk h => ?_, fun sc e X Wx cx tk h hn => ?_, fun _ _ _ _ _ _ _ h => by cases h⟩
  · obtain ⟨l, r, p, rfl, h1, h2, h3⟩ := inv h
    exact peI (pe_cmpR (op_cmp o cx.blt.unt) (ga.pe sc l X Wx cx tk h1) (gb.pe sc r X Wx cx tk h2) (cop_in o r h3)) fun σ H Q q => s_cmp q
  · obtain ⟨l, r, p, rfl, h1, h2, h3⟩ := inv h
    exact ⟨ptI (pt_cmpR (op_cmp o cx.blt.unt) (ga.pe sc l X Wx cx tk h1) (gb.pe sc r X Wx cx tk h2) (cop_in o r h3)) fun σ H Q q => s_cmpT q, fun op es pos q => by cases q⟩
theorem gd_and {a b : Ex} (ga : Good Γ P C N L a) (gb : Good Γ P C N L b) : Good Γ P C N L (.and a b) := by
  have inv : ∀ {sc e}, chk Γ L P.isis (.and a b) sc e = true → ∃ l r rest p, e = .BoolOp .And (l :: r :: rest) p ∧ chk Γ L P.isis a sc l = true ∧ noIf l = true ∧
      ((rest = [] ∧ chk Γ L P.isis b sc r = true ∧ noIf r = true) ∨ (rest ≠ [] ∧ chk Γ L P.isis b sc (.BoolOp .And (r :: rest) p) = true)) := fun {sc e} h => by
    unfold chk at h
    split at h
    · obtain ⟨h, h3⟩ := and2 h
      obtain ⟨h, h2⟩ := and2 h
      refine ⟨_, _, _, _, rfl, h, h2, ?_⟩
      split at h3
      · exact .inl ⟨rfl, and2 h3⟩
      · rename_i q
        exact .inr ⟨fun e => q e, h3⟩
    · cases h
  have pw : ∀ sc e X Wx, CxOk Γ P C N L sc X → Takes X Wx → chk Γ L P.isis (.and a b) sc e = true → PW X e (tT P C N X.K Wx (.and a b)) := fun sc e X Wx cx tk h => by
    obtain ⟨l, r, rest, p, rfl, h1, h2, h3⟩ := inv h
    refine pwI ?_ fun σ H Q q => s_andT q
    rcases h3 with ⟨rfl, h3, h4⟩ | ⟨h3, h4⟩
    · exact pw_and (ga.pt sc l X Wx cx tk h1 h2).1 (pw_and1 (gb.pt sc r X Wx cx tk h3 h4).1)
    · exact pw_and (ga.pt sc l X Wx cx tk h1 h2).1 ((gb.pt sc _ X Wx cx tk h4 rfl).2 _ _ _ rfl)
  refine ⟨fun sc e X Wx cx tk h => ?_, fun sc e X Wx cx tk h hn => ⟨(pw sc e X Wx cx tk h).pt, fun op es pos q => pw sc e X Wx cx tk h⟩, fun _ _ _ _ _ _ _ h => by cases h⟩
  obtain ⟨l, r, rest, p, rfl, h1, h2, h3⟩ := inv h
  refine peI ?_ fun σ H Q q => s_and q
  rcases h3 with ⟨rfl, h3, h4⟩ | ⟨h3, h4⟩
  · exact pe_andT (ga.pe sc l X Wx cx tk h1) (pe_one (gb.pe sc r X Wx cx tk h3))
  · exact pe_andT (ga.pe sc l X Wx cx tk h1) (gb.pe sc _ X Wx cx tk h4)
theorem gd_or {a b : Ex} (ga : Good Γ P C N L a) (gb : Good Γ P C N L b) : Good Γ P C N L (.or a b) := by
  have inv : ∀ {sc e}, chk Γ L P.isis (.or a b) sc e = true → ∃ l r rest p, e = .BoolOp .Or (l :: r :: rest) p ∧ chk Γ L P.isis a sc l = true ∧ noIf l = true ∧
      ((rest = [] ∧ chk Γ L P.isis b sc r = true ∧ noIf r = true) ∨ (rest ≠ [] ∧ chk Γ L P.isis b sc (.BoolOp .Or (r :: rest) p) = true)) := fun {sc e} h => by
    unfold chk at h
    split at h
    · obtain ⟨h, h3⟩ := and2 h
      obtain ⟨h, h2⟩ := and2 h
      refine ⟨_, _, _, _, rfl, h, h2, ?_⟩
      split at h3
      · exact .inl ⟨rfl, and2 h3⟩
      · rename_i q
        exact .inr ⟨fun e => q e, h3⟩
    · cases h
  have pw : ∀ sc e X Wx, CxOk Γ P C N L sc X → Takes X Wx → chk Γ L P.isis (.or a b) sc e = true → PW X e (tT P C N X.K Wx (.or a b)) := fun sc e X Wx cx tk h => by
    obtain ⟨l, r, rest, p, rfl, h1, h2, h3⟩ := inv h
    refine pwI ?_ fun σ H Q q => s_orT q
    rcases h3 with ⟨rfl, h3, h4⟩ | ⟨h3, h4⟩
    · exact pw_or (ga.pt sc l X Wx cx tk h1 h2).1 (pw_or1 (gb.pt sc r X Wx cx tk h3 h4).1)
    · exact pw_or (ga.pt sc l X Wx cx tk h1 h2).1 ((gb.pt sc _ X Wx cx tk h4 rfl).2 _ _ _ rfl)
  refine ⟨fun sc e X Wx cx tk h => ?_, fun sc e X Wx cx tk h hn => ⟨(pw sc e X Wx cx tk h).pt, fun op es pos q => pw sc e X Wx cx tk h⟩, fun _ _ _ _ _ _ _ h => by cases h⟩
  obtain ⟨l, r, rest, p, rfl, h1, h2, h3⟩ := inv h
  refine peI ?_ fun σ H Q q => s_or q
  rcases h3 with ⟨rfl, h3, h4⟩ | ⟨h3, h4⟩
  · exact pe_orT (ga.pe sc l X Wx cx tk h1) (pe_one (gb.pe sc r X Wx cx tk h3))
  · exact pe_orT (ga.pe sc l X Wx cx tk h1) (gb.pe sc _ X Wx cx tk h4)
theorem gd_ite {c a b : Ex} (gc : Good Γ P C N L c) (ga : Good Γ P C N L a) (gb : Good Γ P C N L b) : Good Γ P C N L (.ite c a b) := by
  have inv : ∀ {sc e}, chk Γ L P.isis (.ite c a b) sc e = true → ∃ t l r p, e = .IfExp t l r p ∧ chk Γ L P.isis c sc t = true ∧ noIf t = true ∧ chk Γ L P.isis a sc l = true ∧ chk Γ L P.isis b sc r = true := fun {sc e} h => by
    unfold chk at h
    split at h
    · obtain ⟨h, h4⟩ := and2 h
      obtain ⟨h, h3⟩ := and2 h
      obtain ⟨h, h2⟩ := and2 h
      exact ⟨_, _, _, _, rfl, h, h2, h3, h4⟩
    · cases h
  refine ⟨fun sc e X Wx cx tk h => ?_, fun sc e X Wx cx tk h hn => ?_, fun _ _ _ _ _ _ _ h => by cases h⟩
  · obtain ⟨t, l, r, p, rfl, h1, h2, h3, h4⟩ := inv h
    exact peI (pe_ifExp (gc.pt sc t X Wx cx tk h1 h2).1 (ga.pe sc l X Wx cx tk h3) (gb.pe sc r X Wx cx tk h4)) fun σ H Q q => s_ite q
  · obtain ⟨t, l, r, p, rfl, _⟩ := inv h
    cases hn
theorem gd_idx {a i : Ex} (ga : Good Γ P C N L a) (gi : Good Γ P C N L i) : Good Γ P C N L (.idx a i) := by
  have inv : ∀ {sc e}, chk Γ L P.isis (.idx a i) sc e = true → ∃ l r p, e = .Subscript l r p ∧ chk Γ L P.isis a sc l = true ∧ chk Γ L P.isis i sc r = true ∧ noSlc r = true := fun {sc e} h => by
    unfold chk at h
    split at h
    · obtain ⟨h, h3⟩ := and2 h
      obtain ⟨h, h2⟩ := and2 h
      exact ⟨_, _, _, rfl, h, h2, h3⟩
    · cases h
  refine good_of (fun sc e X Wx cx tk h => ?_) (fun sc e h env whole => ?_) (fun _ _ _ _ h => by cases h) (fun _ _ _ h => by cases h)
  · obtain ⟨l, r, p, rfl, h1, h2, h3⟩ := inv h
    exact peI (pe_ix ix_W (ga.pe sc l X Wx cx tk h1) (gi.pe sc r X Wx cx tk h2) (ix_of h3)) fun σ H Q q => s_idx q
  · obtain ⟨l, r, p, rfl, _⟩ := inv h
    rfl
theorem po_ok {xs : List Ex} (h : ∀ x ∈ xs, Good Γ P C N L x) {sc : Scope} {e : Option Expr} {X : Cx} {Wx : WX} (cx : CxOk Γ P C N L sc X) (tk : Takes X Wx) (hc : chks Γ L P.isis xs sc e.toList = true) : PO X e (tO P C N X.K Wx xs) ∧ xs.length ≤ 1 := by
  cases e with
  | none =>
    cases xs with
    | nil => exact ⟨po_none, by simp⟩
    | cons x xs => cases hc
  | some e =>
    cases xs with
    | nil => cases hc
    | cons x xs =>
      obtain ⟨h1, h3⟩ := and2 (show ((chk Γ L P.isis x sc e && noStar e) && chks Γ L P.isis xs sc []) = true from hc)
      obtain ⟨h1, h2⟩ := and2 h1
      cases xs with
      | nil => exact ⟨po_some ((h x (by simp)).pe sc e X Wx cx tk h1), by simp⟩
      | cons y ys => cases h3
theorem gd_slc {a : Ex} {lo hi : List Ex} (ga : Good Γ P C N L a) (gl : ∀ x ∈ lo, Good Γ P C N L x) (gh : ∀ x ∈ hi, Good Γ P C N L x) : Good Γ P C N L (.slc a lo hi) := by
  have inv : ∀ {sc e}, chk Γ L P.isis (.slc a lo hi) sc e = true → ∃ l x y p p', e = .Subscript l (.Slice x y none p) p' ∧ chk Γ L P.isis a sc l = true ∧ chks Γ L P.isis lo sc x.toList = true ∧ chks Γ L P.isis hi sc y.toList = true := fun {sc e} h => by
    unfold chk at h
    split at h
    · obtain ⟨h, h3⟩ := and2 h
      obtain ⟨h, h2⟩ := and2 h
      exact ⟨_, _, _, _, _, rfl, h, h2, h3⟩
    · cases h
  refine good_of (fun sc e X Wx cx tk h => ?_) (fun sc e h env whole => ?_) (fun _ _ _ _ h => by cases h) (fun _ _ _ h => by cases h)
  · obtain ⟨l, x, y, p, p', rfl, h1, h2, h3⟩ := inv h
    obtain ⟨q1, l1⟩ := po_ok gl cx tk h2
    obtain ⟨q2, l2⟩ := po_ok gh cx tk h3
    exact peI (pe_slice sl_W (ga.pe sc l X Wx cx tk h1) q1 q2) fun σ H Q q => s_slc l1 l2 q
  · obtain ⟨l, x, y, p, p', rfl, _⟩ := inv h
    rfl
theorem gd_att {a : Ex} {f : Nat} (ga : Good Γ P C N L a) : Good Γ P C N L (.att a f) := by
  have inv : ∀ {sc e}, chk Γ L P.isis (.att a f) sc e = true → ∃ l x p, e = .Attribute l x p ∧ chk Γ L P.isis a sc l = true ∧ noSup l = true ∧ Γ.fa.lookup x = some f := fun {sc e} h => by
    unfold chk at h
    split at h
    · obtain ⟨h, h3⟩ := and2 h
      obtain ⟨h, h2⟩ := and2 h
      exact ⟨_, _, _, rfl, h, h2, of_decide_eq_true h3⟩
    · cases h
  refine good_of (fun sc e X Wx cx tk h => ?_) (fun sc e h env whole => ?_) (fun _ _ _ _ h => by cases h) (fun _ _ _ h => by cases h)
  · obtain ⟨l, x, p, rfl, h1, h2, h3⟩ := inv h
    have ex := cx.tn.fa x f h3
    refine ⟨fun pins s σ H Q I q => attr_of (sup_of h2) (thn ((ga.pe sc l X Wx cx tk h1).run pins s σ H _ I (s_att q)) fun u s1 ⟨y, H1, I1, rx, q1⟩ => ?_)⟩
    rw [← ex]
    exact att_W cx.tc I1 rx q1
  · obtain ⟨l, x, p, rfl, _⟩ := inv h
    rfl
theorem gd_blt {b : Blt} {as : List Ex} (ih : PAg Γ P C N L as) : Good Γ P C N L (.blt b as) := by
  have inv : ∀ {sc e}, chk Γ L P.isis (.blt b as) sc e = true → ∃ es p p', e = .Call (.Name (bnm b) p) es [] p' ∧ glB sc (bnm b) = true ∧ chks Γ L P.isis as sc es = true ∧ as ≠ [] ∧ (calmB b = true → Γ.calm = true) := fun {sc e} h => by
    unfold chk at h
    split at h
    · obtain ⟨h, h5⟩ := and2 h
      obtain ⟨h, h4⟩ := and2 h
      obtain ⟨h, h3⟩ := and2 h
      obtain ⟨h, h2⟩ := and2 h
      have e := of_decide_eq_true h
      subst e
      exact ⟨_, _, _, rfl, h2, h3, (fun e => by subst e; cases h4), fun q => by rw [q] at h5; simpa using h5⟩
    · cases h
  refine good_of (fun sc e X Wx cx tk h => ?_) (fun sc e h env whole => ?_) (fun _ _ _ _ h => by cases h) (fun _ _ _ h => by cases h)
  · obtain ⟨es, p, p', rfl, h1, h2, h3, hq⟩ := inv h
    have pa := ih sc es X Wx cx tk h2
    obtain ⟨st, hl⟩ := star_all h2
    cases es with
    | nil => cases as with
      | nil => exact (h3 rfl).elim
      | cons _ _ => cases hl
    | cons e es =>
      obtain ⟨st1, st2⟩ := and2 (show (noStar e && es.all noStar) = true from st)
      have cb := call_blt cx.blt (N := N) b (fun q => cx.cal (hq q))
      have hm := cx.tn.free _ (bnm_free b)
      have hv := boot_b b
      obtain ⟨n1, n2⟩ := bnm_n b
      refine peI ?_ fun σ H Q q => s_blt q
      revert cb hv
      generalize hbv : bval b = v
      intro cb hv
      cases b <;> cases hbv <;> first
        | exact pe_callB cb (cx.gl h1) hm hv pa n1 n2 (star_of st1) (plain_of st2)
        | exact pe_callTy cb (cx.gl h1) hm hv pa n1 n2 (star_of st1) (plain_of st2)
  · obtain ⟨es, p, p', rfl, _⟩ := inv h
    rfl
theorem gd_call {f : Nat} {as ks : List Ex} {perm : List Nat} (ih : PAg Γ P C N L as) (ik : ∀ x ∈ ks, Good Γ P C N L x) : Good Γ P C N L (.call f as ks perm) := by
  have inv : ∀ {sc e}, chk Γ L P.isis (.call f as ks perm) sc e = true → ∃ x p es kws p' ps, e = .Call (.Name x p) es kws p' ∧ Γ.fn.lookup x = some (f, ps) ∧ permOk ps as.length (kws.filterMap (·.arg)) perm = true ∧ glB sc x = true ∧ kws.all (·.arg.isSome) = true ∧
      chks Γ L P.isis as sc es = true ∧ chks Γ L P.isis ks sc (kws.map (·.value)) = true ∧ Γ.calm = true := fun {sc e} h => by
    unfold chk at h
    split at h
    · obtain ⟨h, h5⟩ := and2 h
      obtain ⟨h, h4⟩ := and2 h
      obtain ⟨h, h3⟩ := and2 h
      obtain ⟨h, h2⟩ := and2 h
      obtain ⟨h0, h⟩ := and2 h
      split at h
      · rename_i g ps eq
        obtain ⟨h, h1⟩ := and2 h
        have e := of_decide_eq_true h
        subst e
        exact ⟨_, _, _, _, _, ps, rfl, eq, h1, h2, h3, h4, h5, h0⟩
      · cases h
    · cases h
  have pk : ∀ {ks : List Ex} {kws : List Keyword} {sc : Scope} {X : Cx} {Wx : WX}, (∀ x ∈ ks, Good Γ P C N L x) → CxOk Γ P C N L sc X → Takes X Wx → chks Γ L P.isis ks sc (kws.map (·.value)) = true → PK X kws (tEs P C N X.K Wx ks) := fun {ks} => by
    induction ks with
    | nil =>
      intro kws sc X Wx hk cx tk h
      cases kws with
      | nil => exact pkI pk_nil fun _ _ _ q => s_nil q
      | cons k kws => cases h
    | cons x ks ih =>
      intro kws sc X Wx hk cx tk h
      cases kws with
      | nil => cases h
      | cons k kws =>
        obtain ⟨h1, h3⟩ := and2 (show ((chk Γ L P.isis x sc k.value && noStar k.value) && chks Γ L P.isis ks sc (kws.map (·.value))) = true from h)
        obtain ⟨h1, h2⟩ := and2 h1
        obtain ⟨ka, kv, kp⟩ := k
        exact pkI (pk_cons ((hk x (by simp)).pe sc kv X Wx cx tk h1) (ih (fun y hy => hk y (List.mem_cons_of_mem _ hy)) cx tk h3)) fun _ _ _ q => s_cons q
  refine good_of (fun sc e X Wx cx tk h => ?_) (fun sc e h env whole => ?_) (fun _ _ _ _ h => by cases h) (fun _ _ _ h => by cases h)
  · obtain ⟨x, p, es, kws, p', ps, rfl, h1, h2, h3, h4, h5, h6, h0⟩ := inv h
    obtain ⟨st, hl⟩ := star_all h5
    obtain ⟨_, hl2⟩ := star_all h6
    exact cx.call h0 X rfl rfl rfl rfl rfl rfl rfl rfl Wx tk x f ps as ks perm es kws p p' h1 (cx.gl h3) h2 h4 st hl (by rw [← hl2, List.length_map]) (ih sc es X Wx cx tk h5) (pk ik cx tk h6)
  · obtain ⟨x, p, es, kws, p', ps, rfl, _⟩ := inv h
    rfl
end
end G

set_option maxHeartbeats 4000000
/-! The checker of expressions is sound: the end. -/
namespace G
open PySem PySem.Spec PyProof.Rows L2
section
variable {Γ : Tab} {P : Prog} {C : Calls} {N : Nam} {L : List Str}
theorem gd_no {x : Ex} (h : ∀ sc e, chk Γ L P.isis x sc e = true → False) (hi : PIg Γ P C N L x) : Good Γ P C N L x :=
  ⟨fun sc e X Wx cx tk hc => (h sc e hc).elim, fun sc e X Wx cx tk hc hn => (h sc e hc).elim, hi⟩
theorem gd_isi {a : Ex} {cs : List TyC} (ga : Good Γ P C N L a) : Good Γ P C N L (.isi a cs) := by
  have inv : ∀ {sc e}, chk Γ L P.isis (.isi a cs) sc e = true → ∃ p l t p', e = .Call (.Name "isinstance" p) [l, t] [] p' ∧ glB sc "isinstance" = true ∧ chk Γ L P.isis a sc l = true ∧ noStar l = true ∧ noStar t = true ∧ cs.all P.isis.contains = true ∧
      ((∃ ts k q, t = .Tuple ts k q ∧ tysB Γ sc cs ts = true ∧ cs.length ≤ 100) ∨ ∃ c, cs = [c] ∧ tyB Γ sc c t = true) := fun {sc e} h => by
    unfold chk at h
    split at h
    · obtain ⟨h, h6⟩ := and2 h
      obtain ⟨h, h5⟩ := and2 h
      obtain ⟨h, h4⟩ := and2 h
      obtain ⟨h, h3⟩ := and2 h
      obtain ⟨h, h2⟩ := and2 h
      obtain ⟨h, h1⟩ := and2 h
      have e := of_decide_eq_true h
      subst e
      refine ⟨_, _, _, _, rfl, h1, h2, h3, h4, h5, ?_⟩
      split at h6
      · obtain ⟨q1, q2⟩ := and2 h6
        exact .inl ⟨_, _, _, rfl, q1, of_decide_eq_true q2⟩
      · split at h6
        · exact .inr ⟨_, rfl, h6⟩
        · cases h6
    · cases h
  refine good_of (fun sc e X Wx cx tk h => ?_) (fun sc e h env whole => ?_) (fun _ _ _ _ h => by cases h) (fun _ _ _ h => by cases h)
  · obtain ⟨p, l, t, p', rfl, h1, h2, h3, h4, h5, h6⟩ := inv h
    have hm := cx.tn.free "isinstance" (by decide)
    have st : ([l, t] : List Expr).all noStar = true := by simp [h3, h4]
    rcases h6 with ⟨ts, k, q, rfl, q1, q2⟩ | ⟨c, rfl, q1⟩
    · have pa : PA X [l, .Tuple ts k q] (tCons (tE P C N X.K Wx a) (tCons (tTup (tTys N cs)) tNil)) := pa_cons (ga.pe sc l X Wx cx tk h2) (pa_cons (pe_tup (pa_tys cx h5 q1)) pa_nil (star_of h4)) (star_of h3)
      exact peI (pe_callB (call_isiN cx.tc h5) (cx.gl h1) hm boot_isi pa (by decide) (by decide) (star_of h3) (plain_of (by simp [h4]))) fun σ H Q q => s_isiN q2 q
    · have hc : P.isis.contains c = true := by simpa using h5
      have pa : PA X [l, t] (tCons (tE P C N X.K Wx a) (tTys N [c])) := pa_cons (ga.pe sc l X Wx cx tk h2) (paI (pa_cons (pe_ty cx hc q1) pa_nil (star_of h4)) fun _ _ _ q => q) (star_of h3)
      exact peI (pe_callB (call_isi1 cx.tc hc) (cx.gl h1) hm boot_isi pa (by decide) (by decide) (star_of h3) (plain_of (by simp [h4]))) fun σ H Q q => s_isi1 q
  · obtain ⟨p, l, t, p', rfl, _⟩ := inv h
    rfl
theorem chks_one {isis : List TyC} {x : Ex} {sc : Scope} {es : List Expr} (h : chks Γ L isis [x] sc es = true) : ∃ v, es = [v] ∧ chk Γ L isis x sc v = true := by
  cases es with
  | nil => cases h
  | cons v es =>
    obtain ⟨q, q3⟩ := and2 (show ((chk Γ L isis x sc v && noStar v) && chks Γ L isis [] sc es) = true from h)
    cases es with
    | nil => exact ⟨v, rfl, (and2 q).1⟩
    | cons _ _ => cases q3
theorem gd_dct {ks vs : List Ex} (gv : ∀ x ∈ vs, Good Γ P C N L x) : Good Γ P C N L (.dct ks vs) := by
  have inv : ∀ {sc e}, chk Γ L P.isis (.dct ks vs) sc e = true → (∃ k j q v x p, e = .Dict [some (.Constant (.str k) j q)] [v] p ∧ ks = [.str k] ∧ vs = [x] ∧ chk Γ L P.isis x sc v = true) ∨
      (∃ p, e = .Dict [] [] p ∧ ks = [] ∧ vs = []) ∨
      (∃ k l u v j1 q1 j2 q2 j3 q3 j4 q4 p, e = .Dict [some (.Constant (.int k) j1 q1), some (.Constant (.int l) j2 q2)] [.Constant (.int u) j3 q3, .Constant (.int v) j4 q4] p ∧ ks = [.int k, .int l] ∧ vs = [.int u, .int v] ∧ k ≠ l) := fun {sc e} h => by
    unfold chk at h
    split at h
    · obtain ⟨h, h3⟩ := and2 h
      obtain ⟨h, h2⟩ := and2 h
      split at h
      · have e := of_decide_eq_true h
        subst e
        obtain ⟨x, rfl⟩ := List.length_eq_one_iff.mp (of_decide_eq_true h3)
        obtain ⟨v, rfl, hv⟩ := chks_one h2
        exact .inl ⟨_, _, _, v, x, _, rfl, rfl, rfl, hv⟩
      · cases h
    · obtain ⟨h, h2⟩ := and2 h
      split at h
      · split at h2
        · exact .inr (.inl ⟨_, rfl, rfl, rfl⟩)
        · cases h2
      · cases h
    · split at h
      · obtain ⟨h, h5⟩ := and2 h
        obtain ⟨h, h4⟩ := and2 h
        obtain ⟨h, h3⟩ := and2 h
        obtain ⟨h1, h2⟩ := and2 h
        have e1 := of_decide_eq_true h1
        have e2 := of_decide_eq_true h2
        have e3 := of_decide_eq_true h3
        have e4 := of_decide_eq_true h4
        subst e1 e2 e3 e4
        exact .inr (.inr ⟨_, _, _, _, _, _, _, _, _, _, _, _, _, rfl, rfl, rfl, of_decide_eq_true h5⟩)
      · cases h
    · cases h
  refine good_of (fun sc e X Wx cx tk h => ?_) (fun sc e h env whole => ?_) (fun _ _ _ _ h => by cases h) (fun _ _ _ h => by cases h)
  · rcases inv h with ⟨k, j, q, v, x, p, rfl, rfl, rfl, hv⟩ | ⟨p, rfl, rfl, rfl⟩ | ⟨k, l, u, v, j1, q1, j2, q2, j3, q3, j4, q4, p, rfl, rfl, rfl, n⟩
    · exact peI (pe_disp (pps_cons pe_str ((gv x (by simp)).pe sc v X Wx cx tk hv) pps_nil) rfl rfl (by simp) (by show 1 ≤ 15; decide)) fun σ H Q q => s_dct q
    · exact peI pe_dnewK fun σ H Q q => s_dct0 q
    · exact peI (pe_disp (pps_cons pe_int pe_int (pps_cons pe_int pe_int pps_nil)) rfl rfl (by simp) (by show 2 ≤ 15; decide)) fun σ H Q q => s_dct2 n q
  · rcases inv h with ⟨k, j, q, v, x, p, rfl, _⟩ | ⟨p, rfl, _⟩ | ⟨k, l, u, v, j1, q1, j2, q2, j3, q3, j4, q4, p, rfl, _⟩ <;> rfl
theorem fold_of {e : Expr} {env : PySem.Env} (h : noSet e = true) : ∀ x, foldedSetIterable e env x = pure x := by
  intro x
  cases e <;> first | rfl | cases h
theorem gd_comp {elt it : Ex} {own : List Nat} {t : Tg} {ifs : List Ex} (ge : Good Γ P C N L elt) (gi : Good Γ P C N L it) (gf : ∀ x ∈ ifs, Good Γ P C N L x) : Good Γ P C N L (.comp elt own t it ifs) := by
  have inv : ∀ {sc e}, chk Γ L P.isis (.comp elt own t it ifs) sc e = true → ∃ l tg iter fs scope p, e = .ListComp l [⟨tg, iter, fs, 0⟩] scope p ∧ chkI Γ L P.isis it sc tg iter = true ∧ noSet iter = true ∧ tgtB L (relS scope sc) t tg = true ∧ blkC L sc scope (ownP L own) = true ∧
      t.vars.all own.contains = true ∧ chk Γ L P.isis elt (relS scope sc) l = true ∧ chks Γ L P.isis ifs (relS scope sc) fs = true ∧ fs.length ≤ 1 ∧ fs.all noIf = true ∧ Γ.calm = true := fun {sc e} h => by
    unfold chk at h
    split at h
    · obtain ⟨h, h9⟩ := and2 h
      obtain ⟨h, h8⟩ := and2 h
      obtain ⟨h, h7⟩ := and2 h
      obtain ⟨h, h6⟩ := and2 h
      obtain ⟨h, h5⟩ := and2 h
      obtain ⟨h, h4⟩ := and2 h
      obtain ⟨h, h3⟩ := and2 h
      obtain ⟨h, h2⟩ := and2 h
      obtain ⟨h0, h⟩ := and2 h
      exact ⟨_, _, _, _, _, _, rfl, h, h2, h3, h4, h5, h6, h7, of_decide_eq_true h8, h9, h0⟩
    · cases h
  refine good_of (fun sc e X Wx cx tk h => ?_) (fun sc e h env whole => ?_) (fun _ _ _ _ h => by cases h) (fun _ _ _ h => by cases h)
  · obtain ⟨l, tg, iter, fs, scope, p, rfl, h1, h2, h3, h4, h5, h6, h7, h8, h9, h0⟩ := inv h
    have hcal := cx.cal h0
    have bk : BlkOk X.N X.env.scope scope (ownP L own) := by rw [cx.nm, cx.sc]; exact blkOk_by h4
    have ho : (ownP L own).map (·.2) = own := by simp [ownP, List.map_map, Function.comp_def]
    have hl : ifs.length ≤ 1 := by rw [← (star_all h7).2]; exact h8
    have ht : ∀ i ∈ t.vars, i ∈ own := fun i hi => by
      have := List.all_eq_true.mp h5 i hi
      simpa using this
    have pe := pe_lc (wi := tI P C N X.K Wx it) (g := tTgt X.K t) (tt := tIfs P C N X.K ifs) (te := tE P C N X.K WF elt) (pos := p) (X := X) (elt := l) (tg := tg) (iter := iter) (ifs := fs) (scope := scope) (own := ownP L own) hcal (by rw [cx.nm]; exact cx.nd) (gi.pi sc tg iter X Wx cx tk h1) bk
      (fun s H D cl fp => pg_ok (sc := relS scope sc) (cx.blk s H scope D cl fp).nm (cx.blk s H scope D cl fp).sc cx.nd hcal h3)
      (fun s H D cl fp => by
        cases fs with
        | nil =>
          cases ifs with
          | nil => exact pts_nil
          | cons _ _ => cases h7
        | cons f fs =>
          cases fs with
          | cons _ _ => simp at h8
          | nil =>
            cases ifs with
            | nil => cases h7
            | cons c cs =>
              obtain ⟨q, q3⟩ := and2 (show ((chk Γ L P.isis c (relS scope sc) f && noStar f) && chks Γ L P.isis cs (relS scope sc) []) = true from h7)
              have hn : noIf f = true := by simpa using h9
              exact pts_one ((gf c (by simp)).pt (relS scope sc) f _ WF (cx.blk s H scope D cl fp) blk_takes (and2 q).1 hn).1)
      (fun s H D cl fp => ge.pe (relS scope sc) l _ WF (cx.blk s H scope D cl fp) blk_takes h6) (fold_of h2)
    rw [ho] at pe
    exact peI pe fun σ H Q q => s_comp hl ht q
  · obtain ⟨l, tg, iter, fs, scope, p, rfl, _⟩ := inv h
    rfl
/-! ### texts -/
def mid : Mth → String
  | .partition => "str.partition" | .find => "str.find" | .split => "str.split" | .join => "str.join"
def rMth (N : Nam) (K : PySem.W.Frag) (mt : Mth) : V → List V → Hp → VK → Prop := fun x xs H Q => ∃ m M F s w y, x = .str s ∧ xs = [y] ∧ SimM N K m M F H ∧ RepW N K F m w y ∧ VRes N K Q m M F (mthW mt s w)
theorem strs_eq : ∀ {ds : List D} {ys : List Str}, D.strs ds = some ys → ds = ys.map D.str
  | [], _, h => by cases h; rfl
  | d :: r, bs, h => by
    cases d with
    | str b =>
      have h' : (D.strs r).map (b :: ·) = some bs := h
      cases q : D.strs r with
      | none => rw [q] at h'; cases h'
      | some es => rw [q] at h'; cases h'; rw [strs_eq q]; rfl
    | _ => cases h
theorem Reps.strs {N : Nam} {K : PySem.W.Frag} {F : Hp} : ∀ {bs : List Str} {vs : List V}, Reps N K F (bs.map D.str) vs → vs = bs.map V.str
  | [], [], _ => rfl
  | b :: bs, v :: vs, h => by
    obtain ⟨h1, h2⟩ := h
    rw [Reps.strs h2, show v = .str b from h1]; rfl
  | [], _ :: _, h => h.elim
  | _ :: _, [], h => h.elim
theorem reps_strs {N : Nam} {K : PySem.W.Frag} {F : Hp} : ∀ bs : List Str, Reps N K F (bs.map D.str) (bs.map V.str)
  | [] => trivial
  | _ :: bs => ⟨rfl, reps_strs bs⟩
theorem mth_ok {X : Cx} (mt : Mth) : MtR X (mid mt) (rMth N X.K mt) := by
  intro pins s σ H x xs v us Q I rx rs h
  obtain ⟨m, M, F, a, w, y, rfl, rfl, sm, rw', h⟩ := h
  cases mt with
  | partition =>
    cases w with
    | p d =>
      cases d with
      | str b =>
        cases (show y = .str b from rw')
        have h : VRes N X.K Q m M F (if !(b.length == 0) && szOk a.length then some (W.p (.tup [.str (Txt.partition a b).1, .str (Txt.partition a b).2.1, .str (Txt.partition a b).2.2])) else none) := h
        split at h
        · rename_i z
          obtain ⟨z1, z2⟩ := Bool.and_eq_true_iff.mp z
          exact mt_partition pins s σ H _ _ v us Q I rx rs ⟨a, b, rfl, rfl, by simpa using z1, szOk_le z2, VRes.tupD sm (ds := [.str _, .str _, .str _]) ⟨rfl, rfl, rfl, trivial⟩ h⟩
        · exact h.elim
      | _ => exact h.elim
    | _ => exact h.elim
  | find =>
    cases w with
    | p d =>
      cases d with
      | str b =>
        cases (show y = .str b from rw')
        exact mt_find pins s σ H _ _ v us Q I rx rs ⟨a, b, rfl, rfl, VRes.same sm h rfl⟩
      | _ => exact h.elim
    | _ => exact h.elim
  | split =>
    cases w with
    | p d =>
      cases d with
      | str b =>
        cases (show y = .str b from rw')
        have h : VRes N X.K Q m M F (if !(b.length == 0) && szOk a.length then some (W.p (.lst ((Txt.split a b).map D.str))) else none) := h
        split at h
        · rename_i z
          obtain ⟨z1, z2⟩ := Bool.and_eq_true_iff.mp z
          have z3 : a.length + 2 ≤ sizeLine := Nat.le_trans (Nat.add_le_add_right (of_decide_eq_true z2) 2) (by rw [sizeLine_eq]; decide)
          exact mt_split pins s σ H _ _ v us Q I rx rs ⟨a, b, rfl, rfl, by simpa using z1, z3, VRes.lst sm (reps_strs _) h⟩
        · exact h.elim
      | _ => exact h.elim
    | _ => exact h.elim
  | join =>
    have key : ∀ {ds : List D}, VRes N X.K Q m M F (match D.strs ds with
      | some ys => if szOk ((ys.map (·.length)).sum + ys.length * a.length) then some (W.p (.str (Txt.join a ys))) else none
      | none => none) → (∀ ys : List Str, ds = ys.map D.str → ∃ p, y = .ref p ∧ (SqL X.K H p (ys.map V.str) ∨ SqT X.K H p (ys.map V.str))) → wpAny (model X.prog X.w) X.A (call (.builtin (mid .join)) (v :: us)) (EP X pins σ Q) X.xe s := fun {ds} h k => by
      cases e : D.strs ds with
      | none => rw [e] at h; exact h.elim
      | some ys =>
        rw [e] at h
        have h : VRes N X.K Q m M F (if szOk ((ys.map (·.length)).sum + ys.length * a.length) then some (W.p (.str (Txt.join a ys))) else none) := h
        split at h
        · rename_i z
          obtain ⟨p, rfl, k2⟩ := k ys (strs_eq e)
          have z1 : (ys.map (·.length)).sum + ys.length * a.length ≤ 16777216 := Nat.le_trans (of_decide_eq_true z) (by decide)
          exact mt_join pins s σ H _ _ v us Q I rx rs ⟨a, p, ys, rfl, rfl, k2, z1, VRes.same sm h rfl⟩
        · exact h.elim
    cases w with
    | p d =>
      cases d with
      | lst ds =>
        refine key h fun ys e => ?_
        subst e
        obtain ⟨p, zs, rfl, h1, h2⟩ := rw'
        rw [Reps.strs h2] at h1
        exact ⟨p, rfl, .inl (.inl (sm.sub.rd h1))⟩
      | tup ds =>
        refine key h fun ys e => ?_
        subst e
        obtain ⟨p, zs, rfl, h1, h2⟩ := rw'
        rw [Reps.strs h2] at h1
        exact ⟨p, rfl, .inr (sm.sub.sqT h1)⟩
      | _ => exact h.elim
    | _ => exact h.elim
theorem s_mth {mt : Mth} {o a : Ex} {Q : VK} {σ : L2.St} {H : Hp} {K : PySem.W.Frag} {Wx : WX} (h : tE P C N K Wx (.mth mt o a) σ H Q) : tM1 (rMth N K mt) (tE P C N K Wx o) (tE P C N K Wx a) σ H Q := by
  obtain ⟨env, m, M, F, s, h⟩ := h
  have h : ERes N K (RW N K) Wx Q σ env m F ((ev P C o env M).bind fun x M => match x with
    | .p (.str z) => (ev P C a env M).bind fun y M => Res.of (mthW mt z y) M
    | _ => .bad) := h
  refine tE.of s h fun x H1 m1 F1 w1 M1 s1 r1 g1 h1 => ?_
  split at h1
  · rename_i z
    cases (show x = .str z from r1)
    refine ⟨⟨z, rfl⟩, tE.of s1 h1 fun y H2 m2 F2 w2 M2 s2 r2 g2 h2 => ?_⟩
    exact ⟨m2, M2, F2, z, w2, y, rfl, rfl, s2.mem, r2, VRes.of s2 h2⟩
  · exact h1.elim
theorem s_fmt {a : Ex} {Q : VK} {σ : L2.St} {H : Hp} {K : PySem.W.Frag} {Wx : WX} (h : tE P C N K Wx (.fmt a) σ H Q) : tFmt (tE P C N K Wx a) σ H Q := by
  obtain ⟨env, m, M, F, s, h⟩ := h
  refine tE.of s h fun x H1 m1 F1 w1 M1 s1 r1 g1 h1 => ?_
  have h1 : ERes N K (RW N K) Wx Q σ env m1 F1 (Res.of (fmtW w1) M1) := h1
  unfold fmtW at h1
  split at h1
  · rename_i i _
    cases (show x = .int i from r1)
    split at h1
    · rename_i z
      exact .inr ⟨i, rfl, of_decide_eq_true z, VRes.same s1.mem (VRes.of (o := some _) s1 h1) rfl⟩
    · exact h1.elim
  · rename_i z _
    cases (show x = .str z from r1)
    split at h1
    · rename_i q
      exact .inl ⟨z, rfl, szOk_le q, VRes.same s1.mem (VRes.of (o := some _) s1 h1) rfl⟩
    · exact h1.elim
  · exact h1.elim
theorem s_fstr {Q : VK} {σ : L2.St} {env : G.Env} {K : PySem.W.Frag} {Wx : WX} : ∀ (es : List Ex) (acc : Str) (m : List Addr) (M : Mem) (F : Fx) (H : Hp), Sim N K σ env m M F H → ERes N K (RW N K) Wx Q σ env m F (evJ P C es acc env M) → tJs (es.map (tE P C N K Wx)) acc σ H fun out H1 => Q (.str out) H1
  | [], acc, m, M, F, H, s, h => VRes.same s.mem (VRes.of (o := some (.p (.str acc))) s h) rfl
  | e :: es, acc, m, M, F, H, s, h => by
    have h : ERes N K (RW N K) Wx Q σ env m F ((ev P C e env M).bind fun w M => match w with
      | .p (.str z) => if szOk (acc ++ z).length then evJ P C es (acc ++ z) env M else .bad
      | _ => .bad) := h
    refine tE.of s h fun x H1 m1 F1 w1 M1 s1 r1 g1 h1 => ?_
    split at h1
    · rename_i z
      cases (show x = .str z from r1)
      split at h1
      · rename_i q
        exact ⟨z, rfl, szOk_le q, s_fstr es (acc ++ z) m1 M1 F1 H1 s1 h1⟩
      · exact h1.elim
    · exact h1.elim
theorem gd_mth {mt : Mth} {o a : Ex} (go : Good Γ P C N L o) (ga : Good Γ P C N L a) : Good Γ P C N L (.mth mt o a) := by
  have inv : ∀ {sc e}, chk Γ L P.isis (.mth mt o a) sc e = true → ∃ l ap y p, e = .Call (.Attribute l (mnm mt) ap) [y] [] p ∧ chk Γ L P.isis o sc l = true ∧ noSup l = true ∧ chk Γ L P.isis a sc y = true ∧ noStar y = true ∧ (ap.endLine == p.line) = true := fun {sc e} h => by
    unfold chk at h
    split at h
    · obtain ⟨h, h6⟩ := and2 h
      obtain ⟨h, h5⟩ := and2 h
      obtain ⟨h, h4⟩ := and2 h
      obtain ⟨h, h3⟩ := and2 h
      obtain ⟨h1, h2⟩ := and2 h
      have e := of_decide_eq_true h1
      subst e
      exact ⟨_, _, _, _, rfl, h2, h3, h4, h5, h6⟩
    · cases h
  refine good_of (fun sc e X Wx cx tk h => ?_) (fun sc e h env whole => ?_) (fun _ _ _ _ h => by cases h) (fun _ _ _ h => by cases h)
  · obtain ⟨l, ap, y, p, rfl, h1, h2, h3, h4, h5⟩ := inv h
    have slot : Slot "str" (mnm mt) (mid mt) := by cases mt <;> first | exact F.slot_str_partition | exact F.slot_str_find | exact F.slot_str_split | exact F.slot_str_join
    have ty : typeOf (.builtin (mid mt)) = pure (.type "method_descriptor") := by cases mt <;> first | exact F.type_str_partition | exact F.type_str_find | exact F.type_str_split | exact F.type_str_join
    exact peI (pe_m1 slot ty (mth_ok (N := N) mt) (go.pe sc l X Wx cx tk h1) (ga.pe sc y X Wx cx tk h3) (star_of h4) (sup_of h2) h5) fun σ H Q q => s_mth q
  · obtain ⟨l, ap, y, p, rfl, _⟩ := inv h
    rfl
theorem gd_fmt {a : Ex} (ga : Good Γ P C N L a) : Good Γ P C N L (.fmt a) := by
  have inv : ∀ {sc e}, chk Γ L P.isis (.fmt a) sc e = true → ∃ l p, e = .FormattedValue l (-1) none p ∧ chk Γ L P.isis a sc l = true := fun {sc e} h => by
    unfold chk at h
    split at h
    · exact ⟨_, _, rfl, h⟩
    · cases h
  refine good_of (fun sc e X Wx cx tk h => ?_) (fun sc e h env whole => ?_) (fun _ _ _ _ h => by cases h) (fun _ _ _ h => by cases h)
  · obtain ⟨l, p, rfl, h1⟩ := inv h
    exact peI (pe_fmt (ga.pe sc l X Wx cx tk h1)) fun σ H Q q => s_fmt q
  · obtain ⟨l, p, rfl, _⟩ := inv h
    rfl
theorem pj_of {sc : Scope} {X : Cx} {Wx : WX} (cx : CxOk Γ P C N L sc X) (tk : Takes X Wx) : ∀ {es : List Ex} {vs : List Expr}, (∀ x ∈ es, Good Γ P C N L x) → chks Γ L P.isis es sc vs = true → PJ X vs (es.map (tE P C N X.K Wx))
  | [], vs, _, h => by
    cases vs with
    | nil => exact .nil
    | cons _ _ => cases h
  | x :: xs, vs, g, h => by
    cases vs with
    | nil => cases h
    | cons e vs =>
      obtain ⟨h1, h3⟩ := and2 (show ((chk Γ L P.isis x sc e && noStar e) && chks Γ L P.isis xs sc vs) = true from h)
      obtain ⟨h1, h2⟩ := and2 h1
      exact .cons ((g x (by simp)).pe sc e X Wx cx tk h1) (pj_of cx tk (fun y hy => g y (List.mem_cons_of_mem _ hy)) h3)
theorem gd_fstr {es : List Ex} (ge : ∀ x ∈ es, Good Γ P C N L x) : Good Γ P C N L (.fstr es) := by
  have inv : ∀ {sc e}, chk Γ L P.isis (.fstr es) sc e = true → ∃ v1 v2 rest p, e = .JoinedStr (v1 :: v2 :: rest) p ∧ chks Γ L P.isis es sc (v1 :: v2 :: rest) = true := fun {sc e} h => by
    unfold chk at h
    split at h
    · exact ⟨_, _, _, _, rfl, h⟩
    · cases h
  refine good_of (fun sc e X Wx cx tk h => ?_) (fun sc e h env whole => ?_) (fun _ _ _ _ h => by cases h) (fun _ _ _ h => by cases h)
  · obtain ⟨v1, v2, rest, p, rfl, h1⟩ := inv h
    refine peI (pe_joined (pj_of cx tk ge h1)) fun σ H Q q => ?_
    obtain ⟨env, m, M, F, s, q⟩ := q
    exact s_fstr es Str.empty m M F H s q
  · obtain ⟨v1, v2, rest, p, rfl, _⟩ := inv h
    rfl
theorem gd_it {a : Ex} (ga : Good Γ P C N L a) : Good Γ P C N L (.it a) :=
  gd_no (fun _ _ h => by cases h) fun sc tg e X Wx cx tk h => by
    obtain ⟨h1, h2⟩ := and2 (show (chk Γ L P.isis a sc e && noSet e) = true from h)
    exact pi_it (ga.pe sc e X Wx cx tk h1)
theorem gd_rng1 {a : Ex} (ga : Good Γ P C N L a) : Good Γ P C N L (.rng1 a) :=
  gd_no (fun _ _ h => by cases h) fun sc tg e X Wx cx tk h => by
    unfold chkI at h
    split at h
    · obtain ⟨h, h4⟩ := and2 h
      obtain ⟨h, h3⟩ := and2 h
      obtain ⟨h, h2⟩ := and2 h
      have e := of_decide_eq_true h
      subst e
      exact piI (pi_range1 (cx.gl h2) (cx.tn.free "range" (by decide)) (pa_cons (ga.pe sc _ X Wx cx tk h3) pa_nil (star_of h4)) (star_of h4)) fun σ H Q q => s_rng1 q
    · cases h
theorem gd_rng2 {a b : Ex} (ga : Good Γ P C N L a) (gb : Good Γ P C N L b) : Good Γ P C N L (.rng2 a b) :=
  gd_no (fun _ _ h => by cases h) fun sc tg e X Wx cx tk h => by
    unfold chkI at h
    split at h
    · obtain ⟨h, h6⟩ := and2 h
      obtain ⟨h, h5⟩ := and2 h
      obtain ⟨h, h4⟩ := and2 h
      obtain ⟨h, h3⟩ := and2 h
      obtain ⟨h, h2⟩ := and2 h
      have e := of_decide_eq_true h
      subst e
      exact piI (pi_range2 (cx.gl h2) (cx.tn.free "range" (by decide)) (pa_cons (ga.pe sc _ X Wx cx tk h3) (pa_cons (gb.pe sc _ X Wx cx tk h5) pa_nil (star_of h6)) (star_of h4)) (by rw [star_of h4, star_of h6]; rfl) (by rw [star_of h6]; rfl)) fun σ H Q q => s_rng2 q
    · cases h
theorem gd_enum {a : Ex} (ga : Good Γ P C N L a) : Good Γ P C N L (.enum a) :=
  gd_no (fun _ _ h => by cases h) fun sc tg e X Wx cx tk h => by
    unfold chkI at h
    split at h
    · obtain ⟨h, h5⟩ := and2 h
      obtain ⟨h, h4⟩ := and2 h
      obtain ⟨h, h3⟩ := and2 h
      obtain ⟨h, h2⟩ := and2 h
      have e := of_decide_eq_true h
      subst e
      cases tg with
      | Tuple es k p => exact pi_enum' (cx.gl h2) (cx.tn.free "enumerate" (by decide)) (ga.pe sc _ X Wx cx tk h3) (star_of h4)
      | _ => cases h5
    · cases h
theorem gd_zip {a b : Ex} (ga : Good Γ P C N L a) (gb : Good Γ P C N L b) : Good Γ P C N L (.zip a b) :=
  gd_no (fun _ _ h => by cases h) fun sc tg e X Wx cx tk h => by
    unfold chkI at h
    split at h
    · obtain ⟨h, h7⟩ := and2 h
      obtain ⟨h, h6⟩ := and2 h
      obtain ⟨h, h5⟩ := and2 h
      obtain ⟨h, h4⟩ := and2 h
      obtain ⟨h, h3⟩ := and2 h
      obtain ⟨h, h2⟩ := and2 h
      have e := of_decide_eq_true h
      subst e
      cases tg with
      | Tuple es k p => exact pi_zip' (cx.gl h2) (cx.tn.free "zip" (by decide)) (ga.pe sc _ X Wx cx tk h3) (gb.pe sc _ X Wx cx tk h5) (star_of h4) (by rw [star_of h6]; rfl)
      | _ => cases h7
    · cases h
theorem pa_of : ∀ {xs : List Ex}, (∀ x ∈ xs, Good Γ P C N L x) → PAg Γ P C N L xs
  | [], _, sc, es, X, Wx, cx, tk, h => by
    cases es with
    | nil => exact paI pa_nil fun _ _ _ q => s_nil q
    | cons _ _ => cases h
  | x :: xs, g, sc, es, X, Wx, cx, tk, h => by
    cases es with
    | nil => cases h
    | cons e es =>
      obtain ⟨h1, h3⟩ := and2 (show ((chk Γ L P.isis x sc e && noStar e) && chks Γ L P.isis xs sc es) = true from h)
      obtain ⟨h1, h2⟩ := and2 h1
      exact paI (pa_cons ((g x (by simp)).pe sc e X Wx cx tk h1) (pa_of (fun y hy => g y (List.mem_cons_of_mem _ hy)) sc es X Wx cx tk h3) (star_of h2)) fun _ _ _ q => s_cons q
variable (Γ P C N L)
mutual
theorem good : ∀ x : Ex, Good Γ P C N L x
  | .var i => gd_var i
  | .frz _ => gd_no (fun _ _ h => by cases h) fun _ _ _ _ _ _ _ h => by cases h
  | .int i => gd_int i
  | .str i => gd_str i
  | .bl i => gd_bl i
  | .non => gd_non
  | .glob g => gd_glob g
  | .tup xs => gd_tup (pa_of (goods xs))
  | .lst xs => gd_lst (pa_of (goods xs))
  | .lstL xs => gd_lstL (pa_of (goods xs))
  | .dct ks vs => gd_dct (goods vs)
  | .bin _ a b => gd_bin (good a) (good b)
  | .neg a => gd_neg (good a)
  | .not a => gd_not (good a)
  | .cmp _ a b => gd_cmp (good a) (good b)
  | .and a b => gd_and (good a) (good b)
  | .or a b => gd_or (good a) (good b)
  | .ite c a b => gd_ite (good c) (good a) (good b)
  | .idx a i => gd_idx (good a) (good i)
  | .slc a lo hi => gd_slc (good a) (goods lo) (goods hi)
  | .att a f => gd_att (good a)
  | .mth _ o a => gd_mth (good o) (good a)
  | .fstr es => gd_fstr (goods es)
  | .fmt a => gd_fmt (good a)
  | .call f as ks perm => gd_call (pa_of (goods as)) (goods ks)
  | .blt b as => gd_blt (pa_of (goods as))
  | .isi a cs => gd_isi (good a)
  | .comp elt own t it ifs => gd_comp (good elt) (good it) (goods ifs)
  | .it a => gd_it (good a)
  | .rng1 a => gd_rng1 (good a)
  | .rng2 a b => gd_rng2 (good a) (good b)
  | .enum a => gd_enum (good a)
  | .zip a b => gd_zip (good a) (good b)
theorem goods : ∀ xs : List Ex, ∀ x ∈ xs, Good Γ P C N L x
  | [], x, h => by cases h
  | y :: ys, x, h => by
    rcases List.mem_cons.mp h with e | h
    · rw [e]; exact good y
    · exact goods ys x h
end
end
end G

set_option maxHeartbeats 4000000
/-! Statements, read. -/
namespace G
open PySem PySem.Spec PyProof.Rows L2

def SRes (N : Nam) (K : PySem.W.Frag) (Wx : WX) (D : Ends) (m : List Addr) (F : Fx) : SR → Prop
  | .nx env M' => ∀ σ' H' m' F', Sim N K σ' env m' M' F' H' → Gr m F m' F' → D.nx σ' H'
  | .rt w M' => ∀ v H' m' F', SimM N K m' M' F' H' → RepW N K F' m' w v → Gr m F m' F' → D.rt v H'
  | .bk env M' => ∀ σ' H' m' F', Sim N K σ' env m' M' F' H' → Gr m F m' F' → D.bk σ' H'
  | .ct env M' => ∀ σ' H' m' F', Sim N K σ' env m' M' F' H' → Gr m F m' F' → D.ct σ' H'
  | .exc c ns vs env M' => ∀ cls d σ' H' m' F', Sim N K σ' env m' M' F' H' → Gr m F m' F' → ExcV N K F' cls d c ns vs → Wx cls d σ' H'
  | .bad => False
section
variable (P : Prog) (C : Calls) (N : Nam) (K : PySem.W.Frag) (Wx : WX)
def tS (x : G.St) : TS := fun D σ H => ∃ env m M F, Sim N K σ env m M F H ∧ SRes N K Wx D m F (ex P C x env M)
def tSs (x : List G.St) : TS := fun D σ H => ∃ env m M F, Sim N K σ env m M F H ∧ SRes N K Wx D m F (exs P C x env M)
end
section
variable {P : Prog} {C : Calls} {N : Nam} {K : PySem.W.Frag} {Wx : WX} {α β : Type} {D : Ends} {σ : L2.St} {env : G.Env} {m m' : List Addr} {M M' : Mem} {F F' : Fx} {H H' : Hp}
theorem SRes.rebase (g : Gr m F m' F') : ∀ {r : SR}, SRes N K Wx D m F r → SRes N K Wx D m' F' r
  | .nx _ _, h => fun σ' H' m2 F2 s g2 => h σ' H' m2 F2 s (g.trans g2)
  | .rt _ _, h => fun v H' m2 F2 s r g2 => h v H' m2 F2 s r (g.trans g2)
  | .bk _ _, h => fun σ' H' m2 F2 s g2 => h σ' H' m2 F2 s (g.trans g2)
  | .ct _ _, h => fun σ' H' m2 F2 s g2 => h σ' H' m2 F2 s (g.trans g2)
  | .exc _ _ _ _ _, h => fun cls d σ' H' m2 F2 s g2 e => h cls d σ' H' m2 F2 s (g.trans g2) e
  | .bad, h => h
/-- an expression, then a statement's rest -/
theorem tE.st {x : Ex} {f : W → Mem → SR} {Q' : VK} (s : Sim N K σ env m M F H) (h : SRes N K Wx D m F ((ev P C x env M).st env f))
    (k : ∀ b H' m' F' c M', Sim N K σ env m' M' F' H' → RepW N K F' m' c b → Gr m F m' F' → SRes N K Wx D m' F' (f c M') → Q' b H') : tE P C N K Wx x σ H Q' := by
  refine ⟨env, m, M, F, s, ?_⟩
  cases e : ev P C x env M with
  | ok w M' =>
    rw [e] at h
    exact fun b H' m' F' s' r g => k b H' m' F' w M' s' r g (h.rebase g)
  | exc c ns vs M' =>
    rw [e] at h
    exact fun cls d H' m' F' s' g ex => h cls d σ H' m' F' s' g ex
  | bad => rw [e] at h; exact h
theorem tT.st {x : Ex} {f : W → Mem → SR} {Q' : Bool → Hp → Prop} (s : Sim N K σ env m M F H) (h : SRes N K Wx D m F ((ev P C x env M).st env f)) (hf : ∀ w M', tru M' w = none → f w M' = .bad)
    (k : ∀ b H' m' F' c M', Sim N K σ env m' M' F' H' → tru M' c = some b → Gr m F m' F' → SRes N K Wx D m' F' (f c M') → Q' b H') : tT P C N K Wx x σ H Q' := by
  refine ⟨env, m, M, F, s, ?_⟩
  unfold evT
  cases e : ev P C x env M with
  | ok w M' =>
    rw [e] at h
    have h : SRes N K Wx D m F (f w M') := h
    rw [Res.bind_ok]
    cases q : tru M' w with
    | none => rw [hf w M' q] at h; exact h.elim
    | some b =>
      intro b' H' m' F' s' r g
      cases (show b = b' from r)
      exact k b H' m' F' w M' s' q g (h.rebase g)
  | exc c ns vs M' =>
    rw [e] at h
    exact fun cls d H' m' F' s' g ex => h cls d σ H' m' F' s' g ex
  | bad => rw [e] at h; exact h
theorem q_asg {i : Nat} {x : Ex} (h : tS P C N K Wx (.asg i x) D σ H) : tAsg (tE P C N K Wx x) (gName i) D σ H := by
  obtain ⟨env, m, M, F, s, h⟩ := h
  refine tE.st s h fun b H' m' F' c M' s' r g h' => ?_
  exact h' _ H' m' F' ⟨s'.mem, s'.env.set r⟩ (Gr.refl _ _)
theorem q_asgT {t : Tg} {x : Ex} (h : tS P C N K Wx (.asgT t x) D σ H) : tAsg (tE P C N K Wx x) (tTgt K t) D σ H := by
  obtain ⟨env, m, M, F, s, h⟩ := h
  refine tE.st s h fun b H' m' F' c M' s' r g h' => ?_
  cases e : give t c env with
  | none => rw [e] at h'; exact h'.elim
  | some env' =>
    rw [e] at h'
    exact give_ok s'.mem.sub e r s'.env fun σ2 re _ => h' σ2 H' m' F' ⟨s'.mem, re⟩ (Gr.refl _ _)
theorem q_par {i j : Nat} {a b : Ex} (h : tS P C N K Wx (.par i j a b) D σ H) : tPar i j (tEs P C N K Wx [a, b]) D σ H := by
  obtain ⟨env, m, M, F, s, h⟩ := h
  refine ⟨env, m, M, F, s, ?_⟩
  have ee : evs P C [a, b] env M = (ev P C a env M).bind fun x M => (ev P C b env M).bind fun y M => .ok [x, y] M := by
    show ((ev P C a env M).bind fun w M => ((ev P C b env M).bind fun w M => (Res.ok [] M).bind fun ws M => .ok (w :: ws) M).bind fun ws M => .ok (w :: ws) M) = _
    congr 1
    funext w M1
    rw [bind_asc]
    rfl
  rw [ee]
  have h : SRes N K Wx D m F ((ev P C a env M).st env fun x M => (ev P C b env M).st env fun y M => .nx ((env.set i (some x)).set j (some y)) M) := h
  cases e : ev P C a env M with
  | bad => rw [e] at h; exact h
  | exc c ns vs M' =>
    rw [e] at h
    exact fun cls d H' m' F' s' g ex => h cls d σ H' m' F' s' g ex
  | ok w M1 =>
    rw [e] at h
    have h : SRes N K Wx D m F ((ev P C b env M1).st env fun y M => .nx ((env.set i (some w)).set j (some y)) M) := h
    rw [Res.bind_ok]
    cases e2 : ev P C b env M1 with
    | bad => rw [e2] at h; exact h
    | exc c ns vs M' =>
      rw [e2] at h
      exact fun cls d H' m' F' s' g ex => h cls d σ H' m' F' s' g ex
    | ok u M2 =>
      rw [e2] at h
      intro vs H' m' F' s' r g
      obtain ⟨r, rl⟩ := r
      obtain ⟨x, y, rfl, r1, r2⟩ := RepWs.two r
      exact ⟨x, y, rfl, h _ H' m' F' ⟨s'.mem, (s'.env.set r1).set r2⟩ g⟩
theorem q_set {o i x : Ex} (h : tS P C N K Wx (.setIdx o i x) D σ H) : tAsg (tE P C N K Wx x) (gSub (tE P C N K Wx o) (tE P C N K Wx i) rSetL) D σ H := by
  obtain ⟨env, m, M, F, s, h⟩ := h
  refine tE.st s h fun v H1 m1 F1 w1 M1 s1 r1 g1 h1 => ?_
  refine tE.st s1 h1 fun a H2 m2 F2 w2 M2 s2 r2 g2 h2 => tE.st s2 h2 fun k H3 m3 F3 w3 M3 s3 r3 g3 h3 => ?_
  have h3 : SRes N K Wx D m3 F3 (match setCell M3 w2 w3 w1 with
    | some M' => .nx env M'
    | none => .bad) := h3
  cases e : setCell M3 w2 w3 w1 with
  | none => rw [e] at h3; exact h3.elim
  | some M' =>
    rw [e] at h3
    unfold setCell at e
    split at e
    · rename_i l i
      split at e
      · rename_i ws hM
        split at e
        · rename_i hi
          cases e
          obtain ⟨p, hp, rfl⟩ := RepW.mono g3.x _ _ r2
          obtain ⟨hF, ys, hH, ry⟩ := s3.mem.cell l p _ hp hM
          have rv := RepW.mono (g2.trans g3).x _ _ r1
          cases (show k = .int i from r3)
          refine ⟨p, ys, i, i.toNat, rfl, rfl, hH, ?_, ?_⟩
          · unfold ixN
            rw [← ry.length]
            rw [if_pos hi.1, if_pos (by have := hi.2; omega)]
          · have s4 := s3.mem.write (o := .lst (ys.set i.toNat v)) (c' := .lst (ws.set i.toNat w1)) hp hM hF ⟨hF, _, upd_same, RepWs.set _ ry rv⟩
            exact h3 σ _ m3 F3 ⟨s4, s3.env⟩ (Gr.refl _ _)
        · cases e
      · cases e
    · cases e
theorem q_if {c : Ex} {a b : List G.St} (h : tS P C N K Wx (.ifs c a b) D σ H) : tIfS (tT P C N K Wx c) (tSs P C N K Wx a) (tSs P C N K Wx b) D σ H := by
  obtain ⟨env, m, M, F, s, h⟩ := h
  refine tT.st s h (fun w M' e => by rw [e]) fun k H1 m1 F1 w1 M1 s1 e g1 h1 => ?_
  rw [e] at h1
  cases k with
  | true => exact ⟨env, m1, M1, F1, s1, h1⟩
  | false => exact ⟨env, m1, M1, F1, s1, h1⟩
theorem q_ret {x : Ex} (h : tS P C N K Wx (.ret x) D σ H) : tRet (tE P C N K Wx x) D σ H := by
  obtain ⟨env, m, M, F, s, h⟩ := h
  refine tE.st s h fun b H' m' F' c M' s' r g h' => ?_
  exact h' b H' m' F' s'.mem r (Gr.refl _ _)
theorem q_retN (h : tS P C N K Wx .retN D σ H) : tRetN D σ H := by
  obtain ⟨env, m, M, F, s, h⟩ := h
  exact h .non H m F s.mem rfl (Gr.refl _ _)
theorem q_expr {x : Ex} (h : tS P C N K Wx (.expr x) D σ H) : tDrop (tE P C N K Wx x) D σ H := by
  obtain ⟨env, m, M, F, s, h⟩ := h
  refine tE.st s h fun b H' m' F' c M' s' r g h' => ?_
  exact h' σ H' m' F' s' (Gr.refl _ _)
theorem q_pass (h : tS P C N K Wx .pass D σ H) : tNext D σ H := by
  obtain ⟨env, m, M, F, s, h⟩ := h
  exact h σ H m F s (Gr.refl _ _)
theorem q_brk (h : tS P C N K Wx .brk D σ H) : tBreak D σ H := by
  obtain ⟨env, m, M, F, s, h⟩ := h
  exact h σ H m F s (Gr.refl _ _)
theorem q_cnt (h : tS P C N K Wx .cnt D σ H) : tCont D σ H := by
  obtain ⟨env, m, M, F, s, h⟩ := h
  exact h σ H m F s (Gr.refl _ _)
theorem q_nil (h : tSs P C N K Wx [] D σ H) : tNext D σ H := by
  obtain ⟨env, m, M, F, s, h⟩ := h
  exact h σ H m F s (Gr.refl _ _)
theorem q_cons {x : G.St} {r : List G.St} (h : tSs P C N K Wx (x :: r) D σ H) : tSeq (tS P C N K Wx x) (tSs P C N K Wx r) D σ H := by
  obtain ⟨env, m, M, F, s, h⟩ := h
  refine ⟨env, m, M, F, s, ?_⟩
  have h : SRes N K Wx D m F (match ex P C x env M with
    | .nx env' M' => exs P C r env' M'
    | z => z) := h
  cases e : ex P C x env M with
  | nx env' M' =>
    rw [e] at h
    exact fun σ' H' m' F' s' g => ⟨env', m', M', F', s', SRes.rebase g h⟩
  | rt w M' => rw [e] at h; exact h
  | bk w M' => rw [e] at h; exact h
  | ct w M' => rw [e] at h; exact h
  | exc c ns vs w M' => rw [e] at h; exact h
  | bad => rw [e] at h; exact h
theorem q_while {c : Ex} {body : List G.St} (h : tS P C N K Wx (.while_ c body) D σ H) : tWhile (tT P C N K Wx c) (tSs P C N K Wx body) D σ H := by
  obtain ⟨env, m, M, F, s, h⟩ := h
  have h : SRes N K Wx D m F (whileL (ev P C c) (exs P C body) P.fuel env M) := h
  refine ⟨fun n σ H => ∃ env' m' M' F', Sim N K σ env' m' M' F' H ∧ Gr m F m' F' ∧ SRes N K Wx D m F (whileL (ev P C c) (exs P C body) n env' M'), ⟨P.fuel, env, m, M, F, s, Gr.refl _ _, h⟩, ?_⟩
  rintro n σ1 H1 ⟨env1, m1, M1, F1, s1, g1, h1⟩
  cases n with
  | zero => exact h1.elim
  | succ n =>
    have h1 : SRes N K Wx D m F (match ev P C c env1 M1 with
      | .ok x M' => match tru M' x with
        | some true => match exs P C body env1 M' with
          | .nx env' M'' => whileL (ev P C c) (exs P C body) n env' M''
          | .ct env' M'' => whileL (ev P C c) (exs P C body) n env' M''
          | .bk env' M'' => .nx env' M''
          | z => z
        | some false => .nx env1 M'
        | none => .bad
      | .exc c ns vs M' => .exc c ns vs env1 M'
      | .bad => .bad) := h1
    refine ⟨env1, m1, M1, F1, s1, ?_⟩
    unfold evT
    cases e : ev P C c env1 M1 with
    | bad => rw [e] at h1; exact h1
    | exc c ns vs M' =>
      rw [e] at h1
      exact fun cls d H' m' F' s' g ex => h1 cls d σ1 H' m' F' s' (g1.trans g) ex
    | ok w M2 =>
      rw [e] at h1
      rw [Res.bind_ok]
      dsimp only at h1
      cases e2 : tru M2 w with
      | none => rw [e2] at h1; exact h1
      | some k =>
        rw [e2] at h1
        intro b H2 m2 F2 s2 r g2
        cases (show k = b from r)
        cases k with
        | false =>
          show D.nx σ1 H2
          exact h1 σ1 H2 m2 F2 s2 (g1.trans g2)
        | true =>
          show ∃ N', _ ∧ _
          refine ⟨fun σ' H' => ∃ env' m' M' F', Sim N K σ' env' m' M' F' H' ∧ Gr m F m' F' ∧ SRes N K Wx D m F (whileL (ev P C c) (exs P C body) n env' M'), fun σ' H' q => ⟨n, Nat.lt_succ_self n, q⟩, env1, m2, M2, F2, s2, ?_⟩
          dsimp only at h1
          cases e3 : exs P C body env1 M2 with
          | bad => rw [e3] at h1; exact h1
          | nx env' M3 => rw [e3] at h1; exact fun σ' H' m' F' s' g => ⟨env', m', M3, F', s', (g1.trans g2).trans g, h1⟩
          | ct env' M3 => rw [e3] at h1; exact fun σ' H' m' F' s' g => ⟨env', m', M3, F', s', (g1.trans g2).trans g, h1⟩
          | bk env' M3 => rw [e3] at h1; exact fun σ' H' m' F' s' g => h1 σ' H' m' F' s' ((g1.trans g2).trans g)
          | rt w M3 => rw [e3] at h1; exact fun v H' m' F' s' r g => h1 v H' m' F' s' r ((g1.trans g2).trans g)
          | exc c ns vs env' M3 => rw [e3] at h1; exact fun cls d σ' H' m' F' s' g ex => h1 cls d σ' H' m' F' s' ((g1.trans g2).trans g) ex
theorem q_for {t : Tg} {it : Ex} {body : List G.St} (h : tS P C N K Wx (.for_ t it body) D σ H) : tFor (tI P C N K Wx it) (tTgt K t) (tSs P C N K Wx body) D σ H := by
  obtain ⟨env, m, M, F, s, h⟩ := h
  let step : W → G.Env → Mem → SR := fun w env M => match give t w env with
    | some env' => exs P C body env' M
    | none => .bad
  have h : SRes N K Wx D m F ((ev P C it env M).st env fun x M => match iterW x with
    | some ws => forL step ws env M
    | none => .bad) := h
  refine ⟨env, m, M, F, s, ?_⟩
  unfold evI
  cases e0 : ev P C it env M with
  | bad => rw [e0] at h; exact h
  | exc c ns vs M' =>
    rw [e0] at h
    exact fun cls d H' m' F' s' g ex => h cls d σ H' m' F' s' g ex
  | ok w0 M1 =>
    rw [e0] at h
    show ERes N K (RJ N K) Wx _ σ env m F (Res.of (iterW w0) M1)
    have h : SRes N K Wx D m F (match iterW w0 with
      | some ws => forL step ws env M1
      | none => .bad) := h
    cases e1 : iterW w0 with
    | none => rw [e1] at h; exact h
    | some ws =>
      rw [e1] at h
      intro J H1 m1 F1 s1 j g1
      have h : SRes N K Wx D m F (forL step ws env M1) := h
      have h1 := SRes.rebase g1 h
      clear h
      let WI : Nat → Nat → L2.St → Hp → Prop := fun i n σ H => ∃ (env' : G.Env) (m' : List Addr) (M' : Mem) (F' : Fx), n = ws.length - i ∧ i ≤ ws.length ∧ Sim N K σ env' m' M' F' H ∧ Gr m1 F1 m' F' ∧ SRes N K Wx D m1 F1 (forL step (ws.drop i) env' M')
      refine ⟨WI, ⟨ws.length, env, m1, M1, F1, rfl, Nat.zero_le _, s1, Gr.refl _ _, h1⟩, ?_⟩
      rintro i n σ2 H2 ⟨env2, m2, M2, F2, rfl, hil, s2, g2, hh⟩
      obtain ⟨jl, jj⟩ := j
      obtain ⟨jg, js⟩ := jj i H2 m2 M2 F2 s2.mem g2.x
      by_cases hlt : i < ws.length
      · have hw : ws[i]? = some ws[i] := List.getElem?_eq_getElem hlt
        obtain ⟨go, yl⟩ := jg _ hw
        refine .inr ⟨go, WI (i + 1) (ws.length - (i + 1)), fun σ' H' h' => ⟨ws.length - (i + 1), by omega, h'⟩, fun x H3 y => ?_⟩
        obtain ⟨F3, sm3, g3, rx⟩ := yl x H3 y
        rw [List.drop_eq_getElem_cons hlt] at hh
        have hh : SRes N K Wx D m1 F1 (match (match give t ws[i] env2 with
            | some env' => exs P C body env' M2
            | none => .bad) with
          | .nx env' M' => forL step (ws.drop (i + 1)) env' M'
          | .ct env' M' => forL step (ws.drop (i + 1)) env' M'
          | .bk env' M' => .nx env' M'
          | z => z) := hh
        cases eg : give t ws[i] env2 with
        | none => rw [eg] at hh; exact hh.elim
        | some env3 =>
          rw [eg] at hh
          dsimp only at hh
          refine give_ok sm3.sub eg rx (s2.env.mono g3.x) fun σ3 re _ => ⟨env3, m2, M2, F3, ⟨sm3, re⟩, ?_⟩
          have g23 := g2.trans g3
          cases e3 : exs P C body env3 M2 with
          | bad => rw [e3] at hh; exact hh
          | nx env' M3 => rw [e3] at hh; exact fun σ' H' m' F' s' g => ⟨env', m', M3, F', rfl, hlt, s', g23.trans g, hh⟩
          | ct env' M3 => rw [e3] at hh; exact fun σ' H' m' F' s' g => ⟨env', m', M3, F', rfl, hlt, s', g23.trans g, hh⟩
          | bk env' M3 => rw [e3] at hh; exact fun σ' H' m' F' s' g => hh σ' H' m' F' s' (g23.trans g)
          | rt w M3 => rw [e3] at hh; exact fun v H' m' F' s' r g => hh v H' m' F' s' r (g23.trans g)
          | exc c ns vs env' M3 => rw [e3] at hh; exact fun cls d σ' H' m' F' s' g ex => hh cls d σ' H' m' F' s' (g23.trans g) ex
      · have hie : i = ws.length := by omega
        refine .inl ⟨js hie, ?_⟩
        rw [hie, List.drop_length] at hh
        exact hh σ2 H2 m2 F2 s2 g2
end
end G

set_option maxHeartbeats 4000000
/-! How the arguments are bound. -/
namespace G
open PySem PySem.Spec PyProof.Rows L2

def simpleP (ps : List Str) (p : Arguments) : Bool := p.posonlyargs.isEmpty && p.vararg.isNone && p.kwonlyargs.isEmpty && p.kw_defaults.isEmpty && p.kwarg.isNone && p.defaults.isEmpty && decide (p.args.map (·.arg) = ps)
theorem noneItems : seqItems? Value.none = pure none := by rfl
theorem kw_loop {F : Str × Value → List (Str × Value) × List (Str × Value) → Sem (ForInStep (List (Str × Value) × List (Str × Value)))} (S : List (Str × Value)) : ∀ (kw : List (Str × Value)) (done : List (Str × Value)),
    (∀ (pre : List (Str × Value)) (x : Str × Value) (post : List (Str × Value)), kw = pre ++ x :: post → F x (S ++ (done ++ pre), []) = pure (.yield (S ++ (done ++ pre) ++ [(x.1, x.2)], []))) → forIn kw (S ++ done, []) F = pure (S ++ (done ++ kw), [])
  | [], done, _ => by rw [List.forIn_nil, List.append_nil]
  | x :: kw, done, h => by
    rw [List.forIn_cons]
    have h0 := h [] x kw rfl
    rw [List.append_nil] at h0
    rw [h0, pure_bind]
    have e : S ++ done ++ [(x.1, x.2)] = S ++ (done ++ [x]) := by rw [List.append_assoc]
    show forIn kw (S ++ done ++ [(x.1, x.2)], []) F = _
    rw [e, kw_loop S kw (done ++ [x]) fun pre y post q => by
      have := h (x :: pre) y post (by rw [q]; rfl)
      rw [show done ++ [x] ++ pre = done ++ x :: pre by simp]
      exact this]
    rw [List.append_assoc]
    rfl
theorem lookup_app {α : Type} {a b : List (Str × α)} {x : Str} (h : a.lookup x = none) : (a ++ b).lookup x = b.lookup x := by
  induction a with
  | nil => rfl
  | cons p a ih =>
    obtain ⟨k, v⟩ := p
    rw [List.cons_append, List.lookup_cons]
    rw [List.lookup_cons] at h
    cases e : x == k with
    | true => rw [e] at h; cases h
    | false => rw [e] at h; exact ih h
theorem lookup_out {α : Type} {x : Str} : ∀ {ks : List Str} {vs : List α}, x ∉ ks.take vs.length → (ks.zip vs).lookup x = none
  | [], vs, _ => by simp
  | _ :: _, [], _ => by simp
  | k :: ks, v :: vs, h => by
    rw [List.zip_cons_cons, List.lookup_cons]
    have h : x ∉ k :: ks.take vs.length := h
    have hk : (x == k) = false := by
      cases e : x == k with
      | true => exact absurd (List.mem_cons.mpr (.inl (by simpa using e))) h
      | false => rfl
    rw [hk]
    exact lookup_out fun q => h (List.mem_cons_of_mem _ q)
theorem lookup_in {α : Type} {x : Str} : ∀ {ks : List Str} {vs : List α} {i : Nat}, ks.Nodup → ks[i]? = some x → (ks.zip vs).lookup x = vs[i]?
  | [], _, _, _, h => by simp at h
  | k :: ks, [], i, _, _ => by simp
  | k :: ks, v :: vs, 0, _, h => by
    simp at h
    subst h
    simp [List.zip_cons_cons, List.lookup_cons]
  | k :: ks, v :: vs, i + 1, nd, h => by
    have nd' := List.nodup_cons.mp nd
    have h : ks[i]? = some x := by simpa using h
    have hk : (x == k) = false := by
      cases e : x == k with
      | true => exact absurd (show k ∈ ks by
        have e : x = k := by simpa using e
        subst e
        exact List.mem_of_getElem? h) nd'.1
      | false => rfl
    rw [List.zip_cons_cons, List.lookup_cons, hk]
    simpa using lookup_in nd'.2 h
theorem look_idx {α : Type} {ks : List Str} {vs : List α} {x : Str} (nd : ks.Nodup) (hx : x ∈ ks) : (ks.zip vs).lookup x = vs[ks.idxOf x]? := by
  refine lookup_in nd ?_
  have h := List.idxOf_lt_length_of_mem hx
  rw [List.getElem?_eq_getElem h, List.getElem_idxOf h]
theorem fmap_all {α β : Type} {f : α → Option β} {g : α → β} : ∀ {l : List α}, (∀ x ∈ l, f x = some (g x)) → l.filterMap f = l.map g
  | [], _ => rfl
  | x :: l, h => by
    rw [List.filterMap_cons, h x List.mem_cons_self, List.map_cons, fmap_all fun y hy => h y (List.mem_cons_of_mem _ hy)]
theorem zip_get {α β : Type} {a : List α} {b : List β} {i : Nat} : (a.zip b)[i]? = match a[i]?, b[i]? with
    | some x, some y => some (x, y)
    | _, _ => none := by
  rw [List.zip, List.getElem?_zipWith]
  cases a[i]? <;> cases b[i]? <;> rfl
def permG {α : Type} (d : α) (xs : List α) : List Nat → List α
  | [] => xs
  | is => is.map fun i => xs.getD i d
theorem permG_cons {α : Type} {d : α} {xs : List α} {is : List Nat} (h : is ≠ []) : permG d xs is = is.map fun i => xs.getD i d := by
  cases is with
  | nil => exact absurd rfl h
  | cons _ _ => rfl
/-- what the binder's table gives for each parameter -/
theorem bound {ps ks : List Str} {us ws : List Value} {perm : List Nat} (nd : ps.Nodup) (h : permOk ps us.length ks perm = true) (hw : ws.length = ks.length) :
    (∀ p ∈ ps, ((ps.zip us ++ ks.zip ws).lookup p).isSome = true) ∧ (ps.filterMap fun n => ((ps.zip us ++ ks.zip ws).lookup n).map (n, ·)) = ps.zip (permG .none (us ++ ws) perm) ∧ us.length ≤ ps.length ∧ (permG .none (us ++ ws) perm).length = ps.length := by
  have first : ∀ (i : Nat) (p : Str), ps[i]? = some p → i < us.length → (ps.zip us ++ ks.zip ws).lookup p = us[i]? := fun i p hp hi => by
    have e := lookup_in (vs := us) nd hp
    have hs : us[i]? = some us[i] := List.getElem?_eq_getElem hi
    rw [hs] at e ⊢
    exact List.lookup_append.trans (by rw [e]; rfl)
  unfold permOk at h
  cases hk : ks.isEmpty with
  | true =>
    rw [hk, if_pos rfl] at h
    obtain ⟨h1, h2⟩ := and2 h
    have hl := of_decide_eq_true h2
    obtain rfl : ks = [] := List.isEmpty_iff.mp hk
    obtain rfl : perm = [] := List.isEmpty_iff.mp h1
    obtain rfl : ws = [] := List.length_eq_zero_iff.mp (by simpa using hw)
    have key : ∀ p ∈ ps, ∃ i, ps[i]? = some p ∧ i < us.length := fun p hp => by
      obtain ⟨i, hi, e⟩ := List.getElem_of_mem hp
      exact ⟨i, by rw [List.getElem?_eq_getElem hi, e], by omega⟩
    refine ⟨fun p hp => ?_, ?_, by omega, by simp [permG, hl]⟩
    · obtain ⟨i, h1, h2⟩ := key p hp
      rw [first i p h1 h2, List.getElem?_eq_getElem h2]
      rfl
    · refine List.ext_getElem? fun i => ?_
      have fm : (ps.filterMap fun n => ((ps.zip us ++ ([] : List Str).zip ([] : List Value)).lookup n).map (n, ·)) = ps.map fun n => (n, ((ps.zip us ++ ([] : List Str).zip ([] : List Value)).lookup n).getD .none) := by
        refine fmap_all fun p hp => ?_
        obtain ⟨i, h1, h2⟩ := key p hp
        rw [first i p h1 h2, List.getElem?_eq_getElem h2]
        rfl
      rw [fm]
      show _ = (ps.zip (us ++ []))[i]?
      rw [List.append_nil, List.getElem?_map, zip_get]
      cases hp : ps[i]? with
      | none => simp
      | some p =>
        have hi : i < us.length := by
          have := (List.getElem?_eq_some_iff.mp hp).1
          omega
        have f := first i p hp hi
        simp only [List.zip_nil_left] at f
        simp only [Option.map_some, List.zip_nil_left, f, List.getElem?_eq_getElem hi]
        rfl
  | false =>
    rw [hk, if_neg Bool.false_ne_true] at h
    obtain ⟨h, h5⟩ := and2 h
    obtain ⟨h, h6⟩ := and2 h
    obtain ⟨h, h4⟩ := and2 h
    obtain ⟨h, h3⟩ := and2 h
    obtain ⟨h1, h2⟩ := and2 h
    have h1 := of_decide_eq_true h1
    have h2 := of_decide_eq_true h2
    have h3 : ks.Nodup := of_decide_eq_true h3
    have h5 := of_decide_eq_true h5
    have h4 : ∀ k ∈ ks, k ∈ ps.drop us.length := fun k q => by simpa using List.all_eq_true.mp h4 k q
    have hdk : ∀ p ∈ ps.drop us.length, p ∈ ks := fun p q => by simpa using List.all_eq_true.mp h6 p q
    have second : ∀ (i : Nat) (p : Str), ps[i]? = some p → us.length ≤ i → (ps.zip us ++ ks.zip ws).lookup p = some (ws.getD (ks.idxOf p) .none) ∧ p ∈ ks := fun i p hp hi => by
      have hd : p ∈ ps.drop us.length := by
        have : (ps.drop us.length)[i - us.length]? = some p := by rw [List.getElem?_drop, show us.length + (i - us.length) = i by omega]; exact hp
        exact List.mem_of_getElem? this
      have hn : p ∉ ps.take us.length := fun q => by
        have dj := (List.nodup_append.mp (by rw [List.take_append_drop us.length ps]; exact nd)).2.2
        exact dj p q p hd rfl
      have hx := hdk p hd
      refine ⟨?_, hx⟩
      rw [lookup_app (lookup_out hn), look_idx h3 hx]
      have hi := List.idxOf_lt_length_of_mem hx
      rw [List.getD_eq_getElem?_getD, List.getElem?_eq_getElem (by omega)]
      rfl
    have key : ∀ (i : Nat) (p : Str), ps[i]? = some p → (ps.zip us ++ ks.zip ws).lookup p = some (if i < us.length then us.getD i .none else ws.getD (ks.idxOf p) .none) := fun i p hp => by
      by_cases hi : i < us.length
      · rw [if_pos hi, first i p hp hi, List.getD_eq_getElem?_getD, List.getElem?_eq_getElem hi]; rfl
      · rw [if_neg hi]; exact (second i p hp (by omega)).1
    have memk : ∀ p ∈ ps, ∃ v, (ps.zip us ++ ks.zip ws).lookup p = some v := fun p hp => by
      obtain ⟨i, hi, e⟩ := List.getElem_of_mem hp
      exact ⟨_, key i p (by rw [List.getElem?_eq_getElem hi, e])⟩
    have pl : perm.length = ps.length := by rw [h5]; simp; omega
    have pne : perm ≠ [] := fun e => by
      rw [e] at pl
      have : ks ≠ [] := fun e => by rw [e] at hk; cases hk
      have := List.length_pos_iff.mpr this
      simp at pl; omega
    refine ⟨fun p hp => ?_, ?_, h1, by rw [permG_cons pne, List.length_map, pl]⟩
    · obtain ⟨v, e⟩ := memk p hp
      rw [e]; rfl
    · have fm : (ps.filterMap fun n => ((ps.zip us ++ ks.zip ws).lookup n).map (n, ·)) = ps.map fun n => (n, ((ps.zip us ++ ks.zip ws).lookup n).getD .none) := by
        refine fmap_all fun p hp => ?_
        obtain ⟨v, e⟩ := memk p hp
        rw [e]; rfl
      rw [fm, permG_cons pne]
      refine List.ext_getElem? fun i => ?_
      rw [List.getElem?_map, zip_get, List.getElem?_map]
      cases hp : ps[i]? with
      | none => simp
      | some p =>
        have hi : i < ps.length := (List.getElem?_eq_some_iff.mp hp).1
        have ep : perm[i]? = some (if i < us.length then i else us.length + ks.idxOf p) := by
          rw [h5]
          by_cases q : i < us.length
          · rw [if_pos q, List.getElem?_append_left (by simpa using q), List.getElem?_range q]
          · rw [if_neg q, List.getElem?_append_right (by simp; omega), List.length_range, List.getElem?_map, List.getElem?_drop, show us.length + (i - us.length) = i by omega, hp]
            rfl
        rw [ep]
        simp only [Option.map_some, key i p hp, Option.getD_some]
        by_cases q : i < us.length
        · rw [if_pos q, if_pos q]
          simp [List.getD_eq_getElem?_getD, List.getElem?_append_left q]
        · rw [if_neg q, if_neg q]
          simp only [List.getD_eq_getElem?_getD]
          rw [List.getElem?_append_right (Nat.le_add_right _ _), Nat.add_sub_cancel_left]
theorem bind_simple {fd : FuncData} {ps ks : List Str} {us ws : List Value} {perm : List Nat} (sp : simpleP ps fd.params = true) (hd : fd.defaults = .none) (nd : ps.Nodup) (h : permOk ps us.length ks perm = true) (hw : ws.length = ks.length) :
    bindArgs fd ⟨us, ks.zip ws⟩ = pure (ps.zip (permG .none (us ++ ws) perm)) := by
  obtain ⟨b1, b2, b3, b4⟩ := bound nd h hw
  obtain ⟨nm, qn, pr, bd, sc, gl, cl, df, kd, dc, pm, an, cd, ct, bu⟩ := fd
  obtain ⟨po, ar, va, ko, kwd, ka, de⟩ := pr
  unfold simpleP at sp
  obtain ⟨sp, q7⟩ := and2 sp
  obtain ⟨sp, q6⟩ := and2 sp
  obtain ⟨sp, q5⟩ := and2 sp
  obtain ⟨sp, q4⟩ := and2 sp
  obtain ⟨sp, q3⟩ := and2 sp
  obtain ⟨q1, q2⟩ := and2 sp
  obtain rfl : po = [] := List.isEmpty_iff.mp q1
  obtain rfl : va = none := Option.isNone_iff_eq_none.mp q2
  obtain rfl : ko = [] := List.isEmpty_iff.mp q3
  obtain rfl : kwd = [] := List.isEmpty_iff.mp q4
  obtain rfl : ka = none := Option.isNone_iff_eq_none.mp q5
  obtain rfl : de = [] := List.isEmpty_iff.mp q6
  have q7 : ar.map (·.arg) = ps := of_decide_eq_true q7
  subst q7
  generalize hps : ar.map (·.arg) = ps at *
  have hd : df = .none := hd
  subst hd
  unfold bindArgs
  simp only [List.map_nil, List.nil_append, List.append_nil, hps, noneItems, pure_bind]
  have ksp : ∀ k ∈ ks, k ∈ ps ∧ k ∉ ps.take us.length := fun k hk => by
    unfold permOk at h
    cases e : ks.isEmpty with
    | true => rw [List.isEmpty_iff.mp e] at hk; cases hk
    | false =>
      rw [e, if_neg Bool.false_ne_true] at h
      have h4 := (and2 (and2 (and2 h).1).1).2
      have hd : k ∈ ps.drop us.length := by simpa using List.all_eq_true.mp h4 k hk
      refine ⟨List.mem_of_mem_drop hd, fun q => ?_⟩
      have dj := (List.nodup_append.mp (by rw [List.take_append_drop us.length ps]; exact nd)).2.2
      exact dj k q k hd rfl
  have ksn : ks.Nodup := by
    unfold permOk at h
    cases e : ks.isEmpty with
    | true => rw [List.isEmpty_iff.mp e]; simp
    | false =>
      rw [e, if_neg Bool.false_ne_true] at h
      exact of_decide_eq_true (and2 (and2 (and2 (and2 h).1).1).1).2
  have e1 : (ps.zip us, ([] : List (Str × Value))) = (ps.zip us ++ [], []) := by rw [List.append_nil]
  rw [e1, kw_loop (ps.zip us) (ks.zip ws) [] (fun pre x post q => ?_)]
  · rw [pure_bind, List.nil_append]
    have e2 : (decide (us.length > ps.length) && (none : Option Arg).isNone) = false := by simp; exact b3
    simp only [e2, Bool.false_eq_true, if_false]
    have e3 : ps.filter (fun n => ((ps.zip us ++ ks.zip ws).lookup n).isNone) = [] := List.filter_eq_nil_iff.mpr fun p hp => by
      have := b1 p hp
      cases e : (ps.zip us ++ ks.zip ws).lookup p with
      | none => rw [e] at this; cases this
      | some v => simp
    simp [e3, b2]
  · have hx : x ∈ ks.zip ws := by rw [q]; simp
    obtain ⟨k, v⟩ := x
    have hk := (List.of_mem_zip hx).1
    obtain ⟨h1, h2⟩ := ksp k hk
    have c1 : ps.contains k = true := by simpa using h1
    have c2 : (ps.zip us ++ ([] ++ pre)).lookup k = none := by
      rw [lookup_app (lookup_out h2), List.nil_append]
      cases e : pre.lookup k with
      | none => rfl
      | some u =>
        exfalso
        have m1 : (k, u) ∈ pre := PySem.mem_of_lookup e
        have ez : (ks.zip ws).map (·.1) = ks := List.map_fst_zip (by omega)
        rw [q, List.map_append, List.map_cons] at ez
        rw [← ez] at ksn
        exact (List.nodup_append.mp ksn).2.2 k (List.mem_map.mpr ⟨_, m1, rfl⟩) k (by simp) rfl
    simp only [c1, c2, Bool.true_or, if_true, Option.isSome_none, Bool.false_eq_true, if_false]
end G

set_option maxHeartbeats 4000000
/-! Functions: what is promised, how they are called. -/
namespace G
open PySem PySem.Spec PyProof.Rows L2

def FRes (N : Nam) (K : PySem.W.Frag) (Q : VK) (E : XK) (m : List Addr) (F : Fx) : Res W → Prop
  | .ok w M' => ∀ v H' m' F', SimM N K m' M' F' H' → RepW N K F' m' w v → Gr m F m' F' → Q v H'
  | .exc c ns vs M' => ∀ cls d H' m' F', SimM N K m' M' F' H' → Gr m F m' F' → ExcV N K F' cls d c ns vs → E cls d H'
  | .bad => False
def spF (N : Nam) (K : PySem.W.Frag) (C : Calls) (f : Nat) (n : Nat) : Sp := fun vs H Q E => vs.length = n ∧ ∃ m M F ws, SimM N K m M F H ∧ RepWs N K F m ws vs ∧ FRes N K Q E m F (C f ws M)
/-- a def's promise where no repr is under way -/
structure FnG (Pr : Program) (w : World) (K : PySem.W.Frag) (mg : Str → Option Value) (base : Heap) (k : Nat) (a : Addr) (fd : FuncData) (ps : List Str) (sp : Sp) : Prop where
  len : ∀ vs H Q E, sp vs H Q E → vs.length = ps.length
  run : ∀ (A : Around) (outer : List PySem.Env) (s : Shared) (H : Hp) (args : Args) (us : List Value) (vs : List V) (Q : VK) (E : XK), Room k A → A.guards = some [] → Env0 Pr w K mg base A outer s H → BindsTo s fd args (ps.zip us) → Vals vs us → sp vs H Q E →
    codeAny (model Pr w) A (.call (.ref a) args) (CR (L2.CX Pr w) outer Pr w H s Q E) s
/-- what is known of a function of the table -/
structure FnFact (K : PySem.W.Frag) (mg : Str → Option Value) (x : Str) (a : Addr) (fd : FuncData) (ps : List Str) : Prop where
  mg : mg x = some (.ref a)
  db : (x == ("__debug__" : Str)) = false
  keep : PySem.W.keepIn K (.ref a) = true
  simp : simpleP ps fd.params = true
  dfl : fd.defaults = .none
  nd : ps.Nodup
section
variable {env : PySem.Env} {pos : Pos}
theorem kw_of : ∀ {kws : List Keyword}, kws.all (·.arg.isSome) = true → (backToKw pos (keywordEach kws env)).all (·.1.isSome) = true ∧ (backToKw pos (keywordEach kws env)).filterMap (·.1) = kws.filterMap (·.arg) ∧ (backToKw pos (keywordEach kws env)).any (·.1.isNone) = false ∧ (kws.filterMap (·.arg)).length = kws.length
  | [], _ => ⟨rfl, rfl, rfl, rfl⟩
  | ⟨nm, e, p⟩ :: kws, h => by
    obtain ⟨h1, h2⟩ := and2 (show (nm.isSome && kws.all (·.arg.isSome)) = true from h)
    obtain ⟨a, b, c, d⟩ := kw_of h2
    cases nm with
    | none => cases h1
    | some n =>
      refine ⟨?_, ?_, ?_, ?_⟩
      · show (true && (backToKw pos (keywordEach kws env)).all (·.1.isSome)) = true
        rw [a]; rfl
      · show List.filterMap (·.1) ((some n, _) :: backToKw pos (keywordEach kws env)) = List.filterMap (·.arg) (⟨some n, e, p⟩ :: kws)
        simp only [List.filterMap_cons, b]
      · show (false || (backToKw pos (keywordEach kws env)).any (·.1.isNone)) = false
        rw [c]; rfl
      · simp only [List.filterMap_cons, List.length_cons, d]
end
theorem vals_getD : ∀ {vs : List V} {us : List Value} (i : Nat), Vals vs us → RelV (vs.getD i .non) (us.getD i .none)
  | _, _, _, .nil => rfl
  | _, _, 0, .cons r _ => r
  | _, _, i + 1, .cons _ t => by simpa using vals_getD i t
theorem Vals.perm {vs : List V} {us : List Value} (r : Vals vs us) (is : List Nat) : Vals (permG .non vs is) (permG .none us is) := by
  cases is with
  | nil => exact r
  | cons i is =>
    rw [permG_cons (by simp), permG_cons (by simp)]
    generalize i :: is = l
    induction l with
    | nil => exact .nil
    | cons i l ih => exact .cons (vals_getD i r) ih
section
variable {N : Nam} {K : PySem.W.Frag} {F : Hp} {m : List Addr}
theorem reps_getD : ∀ {ws : List W} {vs : List V} (i : Nat), RepWs N K F m ws vs → RepW N K F m (ws.getD i default) (vs.getD i .non)
  | [], [], _, _ => rfl
  | _ :: _, _ :: _, 0, h => h.1
  | _ :: _, _ :: _, i + 1, h => by simpa using reps_getD i h.2
  | [], _ :: _, _, h => h.elim
  | _ :: _, [], _, h => h.elim
theorem RepWs.perm {ws : List W} {vs : List V} (r : RepWs N K F m ws vs) (is : List Nat) : RepWs N K F m (permW ws is) (permG .non vs is) := by
  cases is with
  | nil => exact r
  | cons i is =>
    rw [permG_cons (by simp)]
    show RepWs N K F m ((i :: is).map fun i => ws.getD i default) _
    generalize i :: is = l
    induction l with
    | nil => exact trivial
    | cons i l ih => exact ⟨reps_getD i r, ih⟩
end
theorem ERes.fres {N : Nam} {K : PySem.W.Frag} {Wx : WX} {Q : VK} {σ : L2.St} {env : G.Env} {m : List Addr} {F : Fx} {M : Mem} {H : Hp} (s : Sim N K σ env m M F H) : ∀ {r : Res W}, ERes N K (RW N K) Wx Q σ env m F r → FRes N K Q (fun cls d H' => Wx cls d σ H') m F r
  | .ok w M', h => fun v H' m' F' s' r g => h v H' m' F' (s.to s' g.x) r g
  | .exc c ns vs M', h => fun cls d H' m' F' s' g e => h cls d H' m' F' (s.to s' g.x) g e
  | .bad, h => h
theorem call_ok {Γ : Tab} {P : Prog} {C : Calls} {N : Nam} {n : Nat} {X : Cx} (hr : Room n X.A) (hg : X.A.guards = some [])
    (FG : ∀ x f ps, Γ.fn.lookup x = some (f, ps) → ∃ a fd, FnFact X.K X.mg x a fd ps ∧ FnG X.prog X.w X.K X.mg X.base n a fd ps (spF N X.K C f ps.length)) : Callable Γ P C N X := by
  intro Wx tk x f ps as ks perm es kws p pos hf gl hp hka hes hl hlk pa pk
  obtain ⟨a, fd, ff, G⟩ := FG x f ps hf
  obtain ⟨k1, k2, k3, k4⟩ := kw_of (env := X.env) (pos := pos) hka
  refine ⟨fun pins s σ H Q I h => ?_⟩
  refine wpAny_Call_Name_kw (ld_glob I gl ff.mg ?_ ff.db)
  obtain ⟨env, m, M, F, sm, h⟩ := h
  have h : ERes N X.K (RW N X.K) Wx Q σ env m F ((evs P C as env M).bind fun ws M => (evs P C ks env M).bind fun us M => C f (permW (ws ++ us) perm) M) := h
  let Z : List V → List V → Hp → Prop := fun vs zs H2 => vs.length = as.length ∧ zs.length = ks.length ∧ ∃ m M F ws us, Sim N X.K σ env m M F H2 ∧ RepWs N X.K F m ws vs ∧ RepWs N X.K F m us zs ∧ ERes N X.K (RW N X.K) Wx Q σ env m F (C f (permW (ws ++ us) perm) M)
  have st : tEs P C N X.K Wx as σ H fun vs H1 => tEs P C N X.K Wx ks σ H1 fun zs H2 => Z vs zs H2 :=
    tEs.of sm h (fun _ _ => evs_len) fun vs H1 m1 F1 ws M1 s1 r1 l1 g1 h1 => tEs.of s1 h1 (fun _ _ => evs_len) fun zs H2 m2 F2 us M2 s2 r2 l2 g2 h2 =>
      ⟨by rw [← r1.length, l1], by rw [← r2.length, l2], m2, M2, F2, ws, us, s2, RepWs.mono g2.x _ _ r1, r2, h2⟩
  have fin : ∀ {s2 : Shared} {H2 : Hp} {vs zs : List V} {us ws : List Value}, L2.Inv X pins σ H2 s2 → Vals vs us → Vals zs ws → Z vs zs H2 →
      wpAny (model X.prog X.w) X.A (call (.ref a) us ((kws.filterMap (·.arg)).zip ws)) (EP X pins σ Q) X.xe s2 := fun {s2 H2 vs zs us ws} I2 rv rz z => by
    obtain ⟨l1, l2, m2, M2, F2, wv, wz, s3, r1, r2, hh⟩ := z
    have lu : us.length = as.length := by rw [← rv.length, l1]
    have lw : ws.length = (kws.filterMap (·.arg)).length := by rw [← rz.length, l2, k4, hlk]
    rw [← lu] at hp
    have b := bind_simple ff.simp ff.dfl ff.nd hp lw
    have rr := Vals.perm (rv.append rz) perm
    have ll := (bound ff.nd hp lw).2.2.2
    refine wpAny_call (codeAny_mono (G.run X.A X.stack s2 H2 ⟨us, (kws.filterMap (·.arg)).zip ws⟩ _ _ Q (fun cls d H' => Wx cls d σ H') hr hg I2.env0 (BindsTo.of_eq b) rr ⟨by rw [rr.length, ll], m2, M2, F2, _, s3.mem, RepWs.perm (RepWs.append r1 r2) perm, ERes.fres s3 hh⟩) fun r s' hq => ?_)
    cases r with
    | error e => exact tk e s' (XE.of_call I2 (fun _ _ _ h => h) hq)
    | ok fl =>
      cases fl with
      | ret u => exact I2.after hq
      | next => exact False.elim hq
      | brk => exact False.elim hq
      | cont => exact False.elim hq
  cases es with
  | nil =>
    refine PySem.W.callWith_KW0 (h₀ := X.base) I.ok.mod.kin ff.keep k1 ?_ (by rw [k3]; rfl)
    have e0 : as = [] := List.length_eq_zero_iff.mp hl.symm
    subst e0
    obtain ⟨env', m', M', F', s', h'⟩ := st
    have h' := ERes.now (a := []) (b := ([] : List V)) h' s' ⟨trivial, rfl⟩
    refine thn (pk.run pos pins s σ H _ I h') fun ws s2 ⟨zs, H2, I2, rz, z⟩ => ⟨I2.kIn, ?_⟩
    rw [k2]
    exact fin I2 .nil rz z
  | cons e es =>
    obtain ⟨e1, e2⟩ := and2 (show (noStar e && es.all noStar) = true from hes)
    refine PySem.W.callWith_KW (h₀ := X.base) I.ok.mod.kin ff.keep k1 (thn (pa.run pos pins s σ H _ I st) fun us s1 ⟨vs, H1, I1, r, q⟩ => ?_) (by rw [k3, plain_of hes]; rfl) (star_of e1)
    refine thn (pk.run pos pins s1 σ H1 _ I1 q) fun ws s2 ⟨zs, H2, I2, rz, z⟩ => ⟨I2.kIn, ?_⟩
    rw [k2]
    exact fin I2 r rz z
end G

set_option maxHeartbeats 4000000
/-! An exception's class of the text, called with keywords too. -/
namespace PySem
namespace GK
open PySem.HandSPX
section
variable {M : Model} {A : Around} {E : Value → Shared → Prop} {hp : Heap} {gg : Array GenState} {dr : Drawn} {tk : Nat} {oo : OsState}
variable {nm q : Str} {C N : Addr} {bs bm bmB : List Value} {hx : Bool} {sn : List Str} {sub : List Value} {ab : Bool} {col : Option Bool} {dd : Option Addr} {k0 k1 k2 k3 k5 : Option Value} {B newId initId : String} {us : List Value} {kw : List (Str × Value)}
theorem chk_new (F : ExcBaseFacts B newId initId bmB) (same : ∀ Y : String, bm.contains (.type Y) = bmB.contains (.type Y)) {Q : Unit → Shared → Prop}
    (ho : hp.get? C = some (excClassObj nm q C N bs bm hx sn sub ab col dd k0 k1 k2 k3 k5 newId)) (fin : Q () ⟨hp, gg, dr, tk, oo⟩) :
    wpAny M A (checkBuiltinCall newId ⟨Value.ref C :: us, kw⟩) Q E ⟨hp, gg, dr, tk, oo⟩ := by
  have cB : (Value.ref C :: bm).contains (.type B) = true := by rw [List.contains_cons, same B, F.hasB, Bool.or_true]
  have st := F.noStar
  simp only [checkBuiltinCall, F.newKind, F.newSplit, F.newRow]
  repeat (first
    | refine wpAny_loadPart_at ho ?_
    | (refine wpAny_isSubtype_exc ho ?_; rw [cB])
    | refine wpAny_staticBase_exc ho ?_
    | refine wpAny_madeBy_exc ho ?_
    | simp only [bne_self_eq_false, Bool.false_eq_true, if_false]
    | wp_step)
  exact fin
end
section
variable {prog : Program} {w : World} {A : Around} {E : Value → Shared → Prop} {R : Result → Shared → Prop} {hp : Heap} {gg : Array GenState} {dr : Drawn} {tk : Nat} {oo : OsState}
variable {nm q : Str} {C N : Addr} {bs bm bmB : List Value} {hx : Bool} {sn : List Str} {sub : List Value} {ab : Bool} {col : Option Bool} {dd : Option Addr} {k0 k1 k2 k3 k5 : Option Value} {B newId initId : String} {us : List Value} {kw : List (Str × Value)} {fI : Addr}
theorem new_kw (F : ExcBaseFacts B newId initId bmB) (same : ∀ Y : String, bm.contains (.type Y) = bmB.contains (.type Y))
    (ho : hp.get? C = some (excClassObj nm q C N bs bm hx sn sub ab col dd k0 k1 k2 k3 k5 newId))
    (fin : R (.ok (.ret (.ref (hp.objs.size + 1)))) ⟨(hp.push (W.kdv_tup us)).push (excO C hp.objs.size), gg, dr, tk, oo⟩) (short : us.length ≤ sizeLine) :
    codeAny (model prog w) A (.builtin newId ⟨Value.ref C :: us, kw⟩) R ⟨hp, gg, dr, tk, oo⟩ := by
  have en := F.ends
  have cB : (Value.ref C :: bm).contains (.type B) = true := by rw [List.contains_cons, same B, F.hasB, Bool.or_true]
  have cA : (Value.ref C :: bm).contains (.type "AttributeError") = false := by
    rw [List.contains_cons, same "AttributeError", F.noAttr] <;> rfl
  have cN : (Value.ref C :: bm).contains (.type "NameError") = false := by
    rw [List.contains_cons, same "NameError", F.noName] <;> rfl
  refine codeAny_builtinAt F.entry ?_
  unfold Builtin.«BaseException.__new__»
  refine wpAt_bind ?_
  show wpAt _ _ _ (stack >>= _) _ _ _
  refine wpAt_bind (wpAt_stack fun _ _ => wpAt_of_wpAny ?_)
  wp_walk
  refine wpAt_of_wpAny ?_
  rw [F.owner]
  repeat (first
    | with_reducible refine wpAny_madeHere_exc F.canon ho ?_
    | with_reducible refine wpAny_loadPart_at ho ?_
    | (with_reducible refine wpAny_isSubtype_exc ho ?_; first | rw [cB] | rw [cA] | rw [cN])
    | wp_step)
  show R _ _
  rw [Heap.size_push]
  exact fin
theorem type_call_kw {Q : Fin → Shared → Prop} (F : ExcBaseFacts B newId initId bmB) (same : ∀ Y : String, bm.contains (.type Y) = bmB.contains (.type Y))
    (ho : hp.get? C = some (excClassObj nm q C N bs bm hx sn sub ab col dd k0 k1 k2 k3 k5 newId))
    (li : W.Looks (model prog w) hp (typeLookup (.ref C) "__init__") (some (.ref fI))) (lb : ∀ me, W.Looks (model prog w) hp (bindSpecial (.ref fI) me) (.ref fI, [me])) (short : us.length ≤ sizeLine)
    (fin : codeAny (model prog w) A (.call (.ref fI) ⟨Value.ref (hp.objs.size + 1) :: us, kw⟩)
      (fun r s' => match r with
        | .ok (.ret v) => v = .none ∧ Q (.done (.ret (.ref (hp.objs.size + 1)))) s'
        | .ok _ => False
        | .error e => E e s') ⟨(hp.push (W.kdv_tup us)).push (excO C hp.objs.size), gg, dr, tk, oo⟩) :
    wpAny (model prog w) A (Builtin.«type.__call__» ⟨Value.ref C :: us, kw⟩) Q E ⟨hp, gg, dr, tk, oo⟩ := by
  repeat (first
    | with_reducible refine wpAny_loadPart_at ho ?_
    | with_reducible refine wpAny_madeBy_exc ho ?_
    | wp_step)
  refine codeAny_call_builtin_code (Code.quiet_builtin _ F.quiet) (chk_new F same ho ?_)
  refine new_kw F same ho ?_ short
  show wpAny _ _ _ _ _ _
  have kp : ∀ b o, hp.get? b = some o → ((hp.push (W.kdv_tup us)).push (excO C hp.objs.size)).get? b = some o := fun b o e =>
    Heap.get?_push_of_some _ (Heap.get?_push_of_some _ e)
  have ho' := kp _ _ ho
  have hg : ((hp.push (W.kdv_tup us)).push (excO C hp.objs.size)).get? (hp.objs.size + 1) = some (excO C hp.objs.size) := by
    heap_get
  have cC : (Value.ref C :: bm).contains (.ref C) = true := by simp
  have li' := li.keeps kp
  have lb' := (lb (.ref (hp.objs.size + 1))).keeps kp
  unfold isInstance
  repeat (first
    | with_reducible refine wpAny_loadPart_at hg ?_
    | (with_reducible refine wpAny_isSubtype_exc ho' ?_; rw [cC])
    | wp_step)
  show wpAny _ _ (typeLookup (.ref C) _) _ _ _
  refine li'.at ?_
  refine wpAny_holding (wpAny_bind (lb'.at ?_))
  refine wpAny_bind (wpAny_call (codeAny_mono fin fun r s' z => ?_))
  cases r with
  | error e => exact z
  | ok f =>
    cases f with
    | ret v =>
      have z' : v = Value.none ∧ Q (.done (.ret (.ref (hp.objs.size + 1)))) s' := z
      obtain ⟨v0, z2⟩ := z'
      clear z
      subst v0
      first
        | exact wpAny_pure (wpAny_pure z2)
        | (wp_walk; done)
        | (wp_walk; exact z2)
    | next => exact z.elim
    | brk => exact z.elim
    | cont => exact z.elim
theorem call_kw (F : ExcBaseFacts B newId initId bmB) (same : ∀ Y : String, bm.contains (.type Y) = bmB.contains (.type Y))
    (ho : hp.get? C = some (excClassObj nm q C N bs bm hx sn sub ab col dd k0 k1 k2 k3 k5 newId))
    (li : W.Looks (model prog w) hp (typeLookup (.ref C) "__init__") (some (.ref fI))) (lb : ∀ me, W.Looks (model prog w) hp (bindSpecial (.ref fI) me) (.ref fI, [me])) (short : us.length ≤ sizeLine)
    (fin : codeAny (model prog w) (A.under (.builtin "type.__call__" ⟨Value.ref C :: us, kw⟩)) (.call (.ref fI) ⟨Value.ref (hp.objs.size + 1) :: us, kw⟩) (W.InitBack (hp.objs.size + 1) R)
      ⟨(hp.push (W.kdv_tup us)).push (excO C hp.objs.size), gg, dr, tk, oo⟩) :
    codeAny (model prog w) A (.call (.ref C) ⟨us, kw⟩) R ⟨hp, gg, dr, tk, oo⟩ := by
  have t1 := tc_lookup
  have t2 := tc_bind (.ref C)
  have ty : (⟨hp, gg, dr, tk, oo⟩ : Shared).TypeIs (.ref C) "type" := ⟨_, ho, rfl⟩
  refine codeAny_of_tree ?_
  show wpAny _ _ (callAny (.ref C) _) _ _ _
  repeat (any_goals (first
    | assumption
    | with_reducible refine wpAny_loadPart_at ho ?_
    | wp_step))
  refine ⟨rfl, ?_⟩
  exact codeAny_call_builtin_at (Code.quiet_builtin _ (by decide +kernel)) entry_typeCall (wpAny_check_type_call_sub ho (type_call_kw F same ho li lb short fin))
end
end GK
end PySem

set_option maxHeartbeats 4000000
/-! raise of an exception of the text, whose __init__ calls its base's and stores its arguments. -/
namespace G
open PySem PySem.Spec PyProof.Rows L2

def mkfs (names : List Str) (args : List V) : List (Str × V) := (names.zip args).reverse
theorem look_mem {l : List (Str × V)} {x : Str} {v : V} (nd : (l.map (·.1)).Nodup) (h : (x, v) ∈ l) : l.lookup x = some v := by
  induction l with
  | nil => cases h
  | cons p l ih =>
    obtain ⟨k, u⟩ := p
    have nd' := List.nodup_cons.mp nd
    rw [List.lookup_cons]
    rcases List.mem_cons.mp h with e | h
    · cases e; simp
    · have hk : (x == k) = false := by
        cases e : x == k with
        | true =>
          have e : x = k := by simpa using e
          exact absurd (List.mem_map.mpr ⟨_, h, e⟩) nd'.1
        | false => rfl
      rw [hk]
      exact ih nd'.2 h
theorem mkfs_look {names : List Str} {args : List V} {i : Nat} {x : Str} {v : V} (nd : names.Nodup) (hl : args.length = names.length) (h1 : names[i]? = some x) (h2 : args[i]? = some v) : (mkfs names args).lookup x = some v := by
  refine look_mem ?_ ?_
  · unfold mkfs
    rw [List.map_reverse, List.map_fst_zip (by omega)]
    unfold List.Nodup
    rw [List.pairwise_reverse]
    exact List.Pairwise.imp (fun h => Ne.symm h) nd
  · unfold mkfs
    rw [List.mem_reverse]
    have : (names.zip args)[i]? = some (x, v) := by rw [zip_get, h1, h2]
    exact List.mem_of_getElem? this
theorem repF_of {N : Nam} {K : PySem.W.Frag} {F : Hp} {L : Str → Option V} : ∀ {ns : List Nat} {ds : List D} {vs : List V}, Reps N K F ds vs → ns.length = ds.length → (∀ (i : Nat) (n : Nat) (v : V), ns[i]? = some n → vs[i]? = some v → L (N.at_ n) = some v) → RepF N K F ns ds L
  | [], [], _, _, _, _ => trivial
  | n :: ns, d :: ds, v :: vs, r, hl, h => ⟨⟨v, h 0 n v rfl rfl, r.1⟩, repF_of r.2 (by simpa using hl) fun i m u h1 h2 => h (i + 1) m u (by simpa using h1) (by simpa using h2)⟩
  | [], _ :: _, _, _, hl, _ => by cases hl
  | _ :: _, [], _, _, hl, _ => by cases hl
  | _ :: _, _ :: _, [], r, _, _ => r.elim
/-! ### the text of such an __init__ -/
def iniR (L : List Str) (sc : Scope) : List Str → Nat → List Stmt → Bool
  | [], _, [] => true
  | f :: fs, i, .Assign [.Attribute (.Name s _) g _] (.Name y _) _ :: r => decide (g = f) && decide (L[0]? = some s) && decide (L[i]? = some y) && visB sc s && visB sc y && okN s && okN y && iniR L sc fs (i + 1) r
  | _, _, _ => false
/-- its base's __init__(self, 'text'), then the fields -/
def iniB (L : List Str) (sc : Scope) (B : Str) (fs : List Str) : List Stmt → Bool
  | .Expr (.Call (.Attribute (.Name b _) m p2) [.Name s _, .Constant (.str _) _ _] [] p5) _ :: r => (p2.endLine == p5.line) && decide (b = B) && decide (m = "__init__") && glB sc b && decide (L[0]? = some s) && visB sc s && okN s && iniR L sc fs 1 r && !fs.isEmpty && decide (fs.length ≤ 800)
  | _ => false
/-- the base class at B0 inherits ValueError.__init__ -/
structure BaseC (K : PySem.W.Frag) (mg : Str → Option Value) (B : Str) (B0 : Addr) : Prop where
  mg : mg B = some (.ref B0)
  db : (B == ("__debug__" : Str)) = false
  ga : PySem.W.specialIn K (.ref B0) "__getattribute__" = some (some (.builtin "type.__getattribute__"))
  ty : PySem.W.typeIn K (.ref B0) = some (.type "type")
  rd : PySem.W.readsIn K B0 (.type "type") = true
  ini : PySem.W.findCls K (.ref B0) (.type "type") "__init__" = some (.val (.builtin "ValueError.__init__"))
theorem icall {env : PySem.Env} {B s t m : Str} {p1 p2 p3 p4 pos : Pos} {j : Nat} (hl : (p2.endLine == pos.line) = true) : eval (.Call (.Attribute (.Name B p1) m p2) [.Name s p3, .Constant (.str t) j p4] [] pos) env = (do
    let ov ← eval (.Name B p1) env
    standAt p2.atName
    let (f, first) ← holding [ov] (getMethod ov m (do return (← importBound (.Name B p1) env).getD true))
    callWith pos f first (backTo pos (starEach [.Name s p3, .Constant (.str t) j p4] env)) (backToKw pos (keywordEach [] env))) := by
  have e1 : methodCallPos true (.Name B p1) env p2 pos = pure pos := by
    unfold methodCallPos
    rw [hl]
    rfl
  have e2 : methodCallForm 2 (backTo pos (starEach [.Name s p3, .Constant (.str t) j p4] env)) (backToKw pos (keywordEach [] env)) = true := rfl
  show (attributeBase (.Name B p1) m env (eval (.Name B p1) env) >>= fun ov => standAt p2.atName >>= fun _ => methodCall (.Name B p1) m p2 pos env ov 2 (backTo pos (starEach [.Name s p3, .Constant (.str t) j p4] env)) (backToKw pos (keywordEach [] env))) = _
  rw [sup_of rfl]
  unfold methodCall
  rw [e2, e1]
  simp only [pure_bind]
  rfl
section
variable {X : Cx}
theorem pe_binit {B : Str} {B0 : Addr} {e : Expr} {es : List Expr} {ta : TA} {p1 p2 pos : Pos} (T : BaseC X.K X.mg B B0) (hg : Gl X B) (ha : PA X (e :: es) ta) (he : starEach (e :: es) X.env = (false, eval e X.env) :: starEach es X.env) (hpl : (backTo pos (starEach es X.env)).any (·.1) = false) {pl : Sem Bool}
    (hc : eval (.Call (.Attribute (.Name B p1) "__init__" p2) (e :: es) [] pos) X.env = (do
      let ov ← eval (.Name B p1) X.env
      standAt p2.atName
      let (f, first) ← holding [ov] (getMethod ov "__init__" pl)
      callWith pos f first (backTo pos (starEach (e :: es) X.env)) (backToKw pos (keywordEach [] X.env)))) :
    PE X (.Call (.Attribute (.Name B p1) "__init__" p2) (e :: es) [] pos) (tVeI X.K ta) := by
  refine ⟨fun pins s σ H Q I h => ?_⟩
  refine PySem.W.methodCall_KW (ld_glob I hg T.mg ?_ T.db) hc
  obtain ⟨m, fr⟩ := I.fr
  refine PySem.W.method_of_cls fr I.ok.mod.kin T.ga (PySem.W.cls_val fr I.ok.mod.kin T.ty T.rd T.ini (by decide +kernel) ?_)
  refine PyProof.Rows.callWith_method1 (first := []) (id := "ValueError.__init__") ?_ he hpl
  refine thn (ha.run pos pins _ σ H _ (I.tok _) h) fun us s1 ⟨vs, H1, I1, r1, a, C, ws, ev, hl, TC, ea, q⟩ => ?_
  subst ev
  cases r1 with
  | @cons _ u0 _ ur ra rw' =>
    cases (show u0 = Value.ref a from ra)
    exact oinit_ok TC I1 ea (by rw [← rw'.length, sizeLine_eq]; omega) fun s' J => ⟨.non, H1, J, rfl, q⟩
def tIniR (K : PySem.W.Frag) : List Str → Nat → TS
  | [], _ => tNext
  | f :: fs, i => tSeq (tOst K f (tVar 0) (tVar i)) (tIniR K fs (i + 1))
theorem ini_rest {L : List Str} {sc : Scope} (hN : X.N = L) (hs : X.env.scope = sc) : ∀ {fs : List Str} {i : Nat} {body : List Stmt}, iniR L sc fs i body = true → PSs X body (tIniR X.K fs i) := by
  intro fs
  induction fs with
  | nil =>
    intro i body h
    cases body with
    | nil => exact pss_nil
    | cons _ _ => cases h
  | cons f fs ih =>
    intro i body h
    unfold iniR at h
    split at h
    · rename_i e
      cases e
    · rename_i f' fs' i' s p1 g p2 y p3 p4 r e1
      cases e1
      obtain ⟨h, h8⟩ := and2 h
      obtain ⟨h, h7⟩ := and2 h
      obtain ⟨h, h6⟩ := and2 h
      obtain ⟨h, h5⟩ := and2 h
      obtain ⟨h, h4⟩ := and2 h
      obtain ⟨h, h3⟩ := and2 h
      obtain ⟨h1, h2⟩ := and2 h
      have e := of_decide_eq_true h1
      subst e
      have vis : ∀ {x : Str}, visB sc x = true → Vis X.env.scope x := fun {x} v => by
        rw [hs]
        rcases Bool.or_eq_true_iff.mp v with v | v
        · rcases Bool.or_eq_true_iff.mp v with v | v
          · exact .inl (of_decide_eq_true v)
          · exact .inr (.inl (of_decide_eq_true v))
        · exact .inr (.inr (of_decide_eq_true v))
      obtain ⟨a1, a2⟩ := okN_ok h6
      obtain ⟨b1, b2⟩ := okN_ok h7
      exact pss_cons (ps_ost (pe_var (by rw [hN]; exact of_decide_eq_true h2) (vis h4) a1 a2) (pe_var (by rw [hN]; exact of_decide_eq_true h3) (vis h5) b1 b2)) (ih h8)
    · cases h
end
theorem upd_comm {H : Hp} {a b : Addr} {o u : HO} (h : a ≠ b) : upd (upd H a o) b u = upd (upd H b u) a o := by
  funext c
  by_cases q : c = a
  · subst q; rw [upd_ne h, upd_same, upd_same]
  · by_cases q2 : c = b
    · subst q2; rw [upd_same, upd_ne q, upd_same]
    · rw [upd_ne q2, upd_ne q, upd_ne q, upd_ne q2]
/-- further fields -/
theorem ini_more {K : PySem.W.Frag} {a C d : Addr} (T : OexC K C) {σ : L2.St} {D : Ends} : ∀ {fs : List Str} {i : Nat} {args : List V} {gs : List (Str × V)} {H : Hp}, (∀ f ∈ fs, PySem.W.findIn K (.ref C) f = some none) → σ[0]? = some (some (.ref a)) → (∀ (j : Nat) (v : V), args[j]? = some v → σ[i + j]? = some (some v)) → args.length = fs.length →
    H a = some (exo a C (some d)) → H d = some (exd d gs) → d ≠ a → gs.length + fs.length ≤ 900 → D.nx σ (upd H d (exd d ((fs.zip args).reverse ++ gs))) → tIniR K fs i D σ H
  | [], i, args, gs, H, hf, h0, ha, hl, ea, ed, hd, hz, q => by
    have e : upd H d (exd d (((([] : List Str).zip args).reverse) ++ gs)) = H := by
      funext c
      by_cases z : c = d
      · subst z; rw [upd_same, ed]; simp
      · rw [upd_ne z]
    rw [e] at q
    exact q
  | f :: fs, i, [], gs, H, hf, h0, ha, hl, ea, ed, hd, hz, q => by cases hl
  | f :: fs, i, v :: args, gs, H, hf, h0, ha, hl, ea, ed, hd, hz, q => by
    refine ⟨v, ha 0 v rfl, .ref a, h0, a, C, rfl, T, hf f (by simp), .inr ⟨d, gs, ea, ed, by simp at hz; omega, ?_⟩⟩
    refine ini_more T (gs := (f, v) :: gs) (fun g hg => hf g (List.mem_cons_of_mem _ hg)) h0 (fun j u hj => ?_) (by simpa using hl) (by rw [upd_ne (Ne.symm hd)]; exact ea) upd_same hd (by simp at hz ⊢; omega) ?_
    · have := ha (j + 1) u (by simpa using hj)
      rw [show i + 1 + j = i + (j + 1) by omega]
      exact this
    · rw [upd_upd]
      simpa using q
/-- what such an __init__ does -/
def spI (C : Addr) (names : List Str) : Sp := fun vs H Q _ => ∃ a args, vs = V.ref a :: args ∧ args.length = names.length ∧ H a = some (exo a C none) ∧ ∀ d, H d = none → d ≠ a → Q .non (upd (upd H d (exd d (mkfs names args))) a (exo a C (some d)))
structure IniC (K : PySem.W.Frag) (mg : Str → Option Value) (C : Addr) (ps names : List Str) (fI : Addr) (fd : FuncData) : Prop where
  oex : OexC K C
  ini : PySem.W.findIn K (.ref C) "__init__" = some (some (.ref fI))
  ty : PySem.W.typeIn K (.ref fI) = some (.type "function")
  fn : ∃ oc od osl nm qual params body scope dV kV doc pm an cdv ct L B B0 s0, fd = PySem.W.fnOf nm qual params body scope dV kV doc pm an cdv ct ∧ K.lookup fI = some ⟨oc, od, .func fd, osl⟩ ∧ PySem.W.codeIn K cdv qual = true ∧ FnScope L (s0 :: ps) scope ∧ L = s0 :: ps ∧ simpleP (s0 :: ps) params = true ∧ dV = .none ∧ iniB L scope B names body = true ∧ BaseC K mg B B0
  len : ps.length = names.length
  nd : names.Nodup
  no : ∀ f ∈ names, PySem.W.findIn K (.ref C) f = some none
theorem ini_fn {Pr : Program} {w : World} {K : PySem.W.Frag} {mg : Str → Option Value} {base : Heap} {C fI : Addr} {ps names : List Str} {fd : FuncData} (T : IniC K mg C ps names fI fd) :
    ∃ s0, FnOk Pr w K mg base (L2.CX Pr w) 1 fI fd (s0 :: ps) (spI C names) ∧ simpleP (s0 :: ps) fd.params = true ∧ fd.defaults = .none ∧ (s0 :: ps).Nodup := by
  obtain ⟨oc, od, osl, nm, qual, params, body, scope, dV, kV, doc, pm, an, cdv, ct, L, B, B0, s0, rfl, lk, hcd, S, hL, sp, rfl, hb, hB⟩ := T.fn
  have nd : (s0 :: ps).Nodup := by rw [← hL]; exact S.nd
  refine ⟨s0, fn_of lk hcd S (fun vs H Q E h => ?_) (fun A outer s H vs Q E hr h => ?_), sp, rfl, nd⟩
  · obtain ⟨a, args, rfl, hl, _⟩ := h
    simp [hl, T.len]
  · obtain ⟨a, args, rfl, hl, ea, q⟩ := h
    generalize hX : cxOf (L2.CX Pr w) Pr w K mg base L qual scope fI cdv A outer s H E = X
    have hN : X.N = L := by rw [← hX]; rfl
    have hs : X.env.scope = scope := by rw [← hX]; rfl
    have hK : X.K = K := by rw [← hX]; rfl
    have hm : X.mg = mg := by rw [← hX]; rfl
    unfold iniB at hb
    split at hb
    · rename_i b p1 m p2 s p3 t j p4 p5 p6 r
      obtain ⟨hb, h9⟩ := and2 hb
      obtain ⟨hb, h8⟩ := and2 hb
      obtain ⟨hb, h7⟩ := and2 hb
      obtain ⟨hb, h6⟩ := and2 hb
      obtain ⟨hb, h5⟩ := and2 hb
      obtain ⟨hb, h4⟩ := and2 hb
      obtain ⟨hb, h3⟩ := and2 hb
      obtain ⟨hb, h2⟩ := and2 hb
      obtain ⟨h0, h1⟩ := and2 hb
      have e := of_decide_eq_true h1
      subst e
      have e := of_decide_eq_true h2
      subst e
      have h9 := of_decide_eq_true h9
      obtain ⟨a1, a2⟩ := okN_ok h6
      have gl : Gl X b := by
        have e := of_decide_eq_true h3
        rw [← hs] at e
        exact e
      have vis : Vis X.env.scope s := by
        rw [hs]
        rcases Bool.or_eq_true_iff.mp h5 with v | v
        · rcases Bool.or_eq_true_iff.mp v with v | v
          · exact .inl (of_decide_eq_true v)
          · exact .inr (.inl (of_decide_eq_true v))
        · exact .inr (.inr (of_decide_eq_true v))
      have pv : PE X (.Name s p3) (tVar 0) := pe_var (by rw [hN]; exact of_decide_eq_true h4) vis a1 a2
      have st : ∀ {z : Expr} {zs : List Expr}, noStar z = true → starEach (z :: zs) X.env = (false, eval z X.env) :: starEach zs X.env := fun h => star_of h
      have pc := pe_binit (X := X) (e := .Name s p3) (es := [.Constant (.str t) j p4]) (ta := tCons (tVar 0) (tCons (tC (.str t)) tNil)) (p1 := p1) (p2 := p2) (pos := p5) (hK ▸ hm ▸ hB) gl (pa_cons pv (pa_cons pe_str pa_nil (st rfl)) (st rfl)) (st rfl) (plain_of rfl) (icall h0)
      refine ⟨_, pss_cons (ps_expr (pos := p6) pc) (ini_rest hN hs h7), ?_⟩
      have hlen : L.length = args.length + 1 := by rw [hL, List.length_cons, T.len, hl]
      have e0 : (L2.start L (V.ref a :: args))[0]? = some (some (.ref a)) := rfl
      have e1 : ∀ (j : Nat) (v : V), args[j]? = some v → (L2.start L (V.ref a :: args))[1 + j]? = some (some v) := fun j v hj => by
        have hj' := (List.getElem?_eq_some_iff.mp hj).1
        unfold L2.start
        rw [List.getElem?_append_left (by simp; omega), List.getElem?_map, show 1 + j = j + 1 by omega]
        simp [hj]
      unfold tSeq tDrop tVeI
      refine ⟨.ref a, e0, ?_⟩
      refine ⟨a, C, [.str t], rfl, by simp, hK ▸ T.oex, ea, ?_⟩
      rw [hK]
      cases names with
      | nil => cases h8
      | cons f fs =>
        cases args with
        | nil => cases hl
        | cons v args =>
          refine ⟨v, e1 0 v rfl, .ref a, e0, a, C, rfl, T.oex, T.no f (by simp), .inl ⟨ea, fun d hd hda => ?_⟩⟩
          refine ini_more T.oex (d := d) (gs := [(f, v)]) (args := args) (fun g hg => T.no g (List.mem_cons_of_mem _ hg)) e0 (fun j u hj => by
            have := e1 (j + 1) u (by simpa using hj)
            rw [show 1 + 1 + j = 1 + (j + 1) by omega]
            exact this) (by simpa using hl) upd_same (by rw [upd_ne hda]; exact upd_same) hda (by simp at h9 ⊢; omega) ?_
          have := q d hd hda
          show Q .non _
          rw [upd_comm (Ne.symm hda), upd_upd]
          have em : (fs.zip args).reverse ++ [(f, v)] = mkfs (f :: fs) (v :: args) := by simp [mkfs]
          rw [em]
          exact this
    · cases hb
end G

set_option maxHeartbeats 4000000
/-! raise, by values. -/
namespace G
open PySem PySem.Spec PyProof.Rows L2

def selfP : List Nat → List Nat
  | [] => []
  | is => 0 :: is.map (· + 1)
theorem selfP_ok {ps ks : List Str} {n : Nat} {perm : List Nat} {s0 : Str} (h : permOk ps n ks perm = true) : permOk (s0 :: ps) (n + 1) ks (selfP perm) = true := by
  unfold permOk at h ⊢
  cases e : ks.isEmpty with
  | true =>
    rw [e, if_pos rfl] at h
    obtain ⟨h1, h2⟩ := and2 h
    obtain rfl : perm = [] := List.isEmpty_iff.mp h1
    have h2 := of_decide_eq_true h2
    rw [if_pos rfl]
    simp [selfP, h2]
  | false =>
    rw [e, if_neg Bool.false_ne_true] at h
    obtain ⟨h, h5⟩ := and2 h
    obtain ⟨h, h6⟩ := and2 h
    obtain ⟨h, h4⟩ := and2 h
    obtain ⟨h, h3⟩ := and2 h
    obtain ⟨h1, h2⟩ := and2 h
    have h1 := of_decide_eq_true h1
    have h2 := of_decide_eq_true h2
    have h5 := of_decide_eq_true h5
    have ne : ks ≠ [] := fun q => by rw [q] at e; cases e
    have kl := List.length_pos_iff.mpr ne
    rw [if_neg Bool.false_ne_true]
    have pne : perm ≠ [] := fun q => by
      rw [h5] at q
      have := congrArg List.length q
      simp at this
      omega
    have sp : selfP perm = 0 :: perm.map (· + 1) := by
      cases perm with
      | nil => exact absurd rfl pne
      | cons _ _ => rfl
    have e5 : selfP perm = List.range (n + 1) ++ ((s0 :: ps).drop (n + 1)).map fun p => n + 1 + ks.idxOf p := by
      rw [sp, h5, List.range_succ_eq_map]
      rw [List.map_append, List.map_map, List.cons_append, List.drop_succ_cons]
      congr 2
      refine List.map_congr_left fun p _ => ?_
      show n + ks.idxOf p + 1 = n + 1 + ks.idxOf p
      omega
    simp only [List.drop_succ_cons] at *
    rw [h3, h4, h6, decide_eq_true e5]
    simp
    omega
theorem selfP_get {α : Type} {d a : α} {xs : List α} (perm : List Nat) : permG d (a :: xs) (selfP perm) = a :: permG d xs perm := by
  cases perm with
  | nil => rfl
  | cons i is =>
    rw [show selfP (i :: is) = 0 :: (i :: is).map (· + 1) from rfl, permG_cons (by simp), permG_cons (by simp)]
    simp [List.map_map, Function.comp_def]
/-- what the head says of an exception's class -/
structure XFact (K : PySem.W.Frag) (mg : Str → Option Value) (N : Nam) (x : Str) (c : Nat) (ps : List Str) (flds : List Nat) : Prop where
  mgx : mg x = some (.ref (N.cA c))
  db : (x == ("__debug__" : Str)) = false
  ini : ∃ fI fd, IniC K mg (N.cA c) ps (flds.map N.at_) fI fd
section
variable {X : Cx} {P : Prog} {C : Calls} {N : Nam} {Wx : WX} {Γ : Tab}
theorem ps_raiseX {x : Str} {c : Nat} {ps : List Str} {k : ClsDef} {as ks : List Ex} {perm : List Nat} {es : List Expr} {kws : List Keyword} {p pos pos' : Pos} {n : Nat} (hr : Room (n + 2) X.A) (hc : X.calm = true) (tk : Takes X Wx) (hk : P.cls c = some k) (T : XFact X.K X.mg N x c ps k.flds) (gl : Gl X x)
    (hp : permOk ps as.length (kws.filterMap (·.arg)) perm = true) (hka : kws.all (·.arg.isSome) = true) (hes : es.all noStar = true) (hl : es.length = as.length) (hlk : kws.length = ks.length) (ha9 : as.length ≤ 900) (hk9 : ks.length ≤ 90) (pa : PA X es (tEs P C N X.K Wx as)) (pk : PK X kws (tEs P C N X.K Wx ks)) :
    PS X (.Raise (some (.Call (.Name x p) es kws pos)) none pos') (tS P C N X.K Wx (.raise c as ks perm)) := by
  obtain ⟨fI, fd, IC⟩ := T.ini
  obtain ⟨s0, F1, sp, df, nd⟩ := ini_fn (Pr := X.prog) (w := X.w) (base := X.base) IC
  obtain ⟨k1, k2, k3, k4⟩ := kw_of (env := X.env) (pos := pos) hka
  let Z : List V → List V → Hp → XK → Prop := fun vs zs H2 Q => vs.length = as.length ∧ zs.length = ks.length ∧ ∀ d, H2 d = none → Q (.ref (N.cA c)) (some d) (upd H2 d (.xd (mkfs (k.flds.map N.at_) (permG .non (vs ++ zs) perm))))
  let t : L2.St → Hp → XK → Prop := fun σ H Q => tEs P C N X.K Wx as σ H fun vs H1 => tEs P C N X.K Wx ks σ H1 fun zs H2 => Z vs zs H2 Q
  have mk : PMk X (.Call (.Name x p) es kws pos) t := by
    intro pins s σ H Q I h
    refine wpAny_Call_Name_kw (ld_glob I gl T.mgx ?_ T.db)
    obtain ⟨nm, qn, Na, bs, bm, sn, sub, ab, col, dd, q0, q1, q2, q3, q5, hC, hbm⟩ := IC.oex.cls
    have fin : ∀ {s1 : Shared} {H1 : Hp} {vs zs : List V} {us ws : List Value}, L2.Inv X pins σ H1 s1 → Vals vs us → Vals zs ws → Z vs zs H1 Q →
        wpAny (model X.prog X.w) X.A (call (.ref (N.cA c)) us ((kws.filterMap (·.arg)).zip ws)) (MkP X pins σ Q) X.xe s1 := fun {s1 H1 vs zs us ws} I1 rv rz z => by
      obtain ⟨l1, l2, q1⟩ := z
      have lu : us.length = as.length := by rw [← rv.length, l1]
      have lw : ws.length = (kws.filterMap (·.arg)).length := by rw [← rz.length, l2, k4, hlk]
      obtain ⟨hp1, g, dr, tk1, os⟩ := s1
      have hsz : hp1.objs.size ≤ hp1.objs.size + 1 := Nat.le_succ _
      have hn : H1 (hp1.objs.size + 1) = none := I1.hok.fresh hsz
      have kk : ∀ b o, hp1.get? b = some o → ((hp1.push (PySem.W.kdv_tup us)).push (PySem.HandSPX.excO (N.cA c) hp1.objs.size)).get? b = some o := fun b o e =>
        Heap.get?_push_of_some _ (Heap.get?_push_of_some _ e)
      have hget : ((hp1.push (PySem.W.kdv_tup us)).push (PySem.HandSPX.excO (N.cA c) hp1.objs.size)).get? (hp1.objs.size + 1) = some (PySem.HandSPX.excO (N.cA c) hp1.objs.size) := by
        heap_get
      have I2 := I1.laid (t' := tk1) (a := hp1.objs.size + 1) (o := exo (hp1.objs.size + 1) (N.cA c) none) kk hsz (exo_ok hget)
      have hp' := selfP_ok (s0 := s0) hp
      rw [← lu] at hp'
      have hp'' : permOk (s0 :: ps) (Value.ref (hp1.objs.size + 1) :: us).length (kws.filterMap (·.arg)) (selfP perm) = true := hp'
      have bd := bind_simple (us := Value.ref (hp1.objs.size + 1) :: us) (ws := ws) sp df nd hp'' lw
      have ll := (bound nd hp'' lw).2.2.2
      have r2 : Vals (V.ref (hp1.objs.size + 1) :: permG .non (vs ++ zs) perm) (permG .none ((Value.ref (hp1.objs.size + 1) :: us) ++ ws) (selfP perm)) := by
        rw [List.cons_append, selfP_get]
        exact .cons rfl (Vals.perm (rv.append rz) perm)
      have al : (permG V.non (vs ++ zs) perm).length = (k.flds.map N.at_).length := by
        have e := r2.length
        rw [ll, List.length_cons, List.length_cons] at e
        rw [← IC.len]
        omega
      have hus : us.length ≤ sizeLine := by
        rw [lu, sizeLine_eq]
        omega
      have spq : spI (N.cA c) (k.flds.map N.at_) (V.ref (hp1.objs.size + 1) :: permG .non (vs ++ zs) perm) (upd H1 (hp1.objs.size + 1) (exo (hp1.objs.size + 1) (N.cA c) none))
          (fun v H2 => v = .non ∧ ∃ (d : Addr) (fs : List (Str × V)), H2 (hp1.objs.size + 1) = some (exo (hp1.objs.size + 1) (N.cA c) (some d)) ∧ H2 d = some (exd d fs) ∧ H1 d = none ∧ Q (.ref (N.cA c)) (some d) (upd (del H2 (hp1.objs.size + 1)) d (.xd fs))) (fun _ _ _ => False) := by
        refine ⟨_, _, rfl, al, upd_same, fun d hd hda => ⟨rfl, d, mkfs (k.flds.map N.at_) (permG .non (vs ++ zs) perm), upd_same, ?_, ?_, ?_⟩⟩
        · rw [upd_ne hda, upd_same]
        · rw [upd_ne hda] at hd; exact hd
        · have hd1 : H1 d = none := by rw [upd_ne hda] at hd; exact hd
          have e : upd (del (upd (upd (upd H1 (hp1.objs.size + 1) (exo (hp1.objs.size + 1) (N.cA c) none)) d (exd d (mkfs (k.flds.map N.at_) (permG .non (vs ++ zs) perm)))) (hp1.objs.size + 1) (exo (hp1.objs.size + 1) (N.cA c) (some d))) (hp1.objs.size + 1)) d (.xd (mkfs (k.flds.map N.at_) (permG .non (vs ++ zs) perm))) =
              upd H1 d (.xd (mkfs (k.flds.map N.at_) (permG .non (vs ++ zs) perm))) := by
            funext b
            by_cases zb : b = d
            · subst zb; rw [upd_same, upd_same]
            · rw [upd_ne zb, upd_ne zb]
              by_cases za : b = hp1.objs.size + 1
              · rw [za, del_same, hn]
              · rw [del_ne za, upd_ne za, upd_ne zb, upd_ne za]
          rw [e]
          exact q1 d hd1
      refine wpAny_call (PySem.GK.call_kw F.excBase_ValueError (fun Y => PySem.HandSPX.refsVE_contains Y bm hbm) (I1.kIn _ _ hC) (PySem.W.looks_findIn I1.kIn IC.ini) (fun me => PySem.W.bind_fn I1.kIn me IC.ty) hus
        (codeAny_mono (F1.run _ X.stack _ _ ⟨Value.ref (hp1.objs.size + 1) :: us, (kws.filterMap (·.arg)).zip ws⟩ _ _ _ (fun _ _ _ => False) ((hr.mono (by omega : 2 ≤ n + 2)).make (N.cA c) us _) (I2.env0.make (N.cA c) us _) (BindsTo.of_eq bd) r2 spq) fun r s' hq' => ?_))
      cases r with
      | error er =>
        exact tk er s' (XE.of_call I2 (fun _ _ _ z => z.elim) hq')
      | ok fl =>
        cases fl with
        | ret u =>
          obtain ⟨v, H2, os2, bare2, un2, hok2, rvv, ev, d, fs, ea, ed, hd1, qq⟩ := hq'
          subst ev
          obtain ⟨h2, g2, d2, t2, os'⟩ := s'
          exact ⟨rvv, mk_end (raises_own IC.oex.exC IC.oex.tyC) I1 hsz kk un2 hok2 os2 bare2 ea ed hd1 qq⟩
        | next => exact False.elim hq'
        | brk => exact False.elim hq'
        | cont => exact False.elim hq'
    cases es with
    | nil =>
      refine PySem.W.callWith_KW0 (h₀ := X.base) I.ok.mod.kin IC.oex.kC k1 ?_ (by rw [k3]; rfl)
      have e0 : as = [] := List.length_eq_zero_iff.mp hl.symm
      subst e0
      obtain ⟨env', m', M', F', s', h'⟩ := h
      have h' := ERes.now (a := []) (b := ([] : List V)) h' s' ⟨trivial, rfl⟩
      refine thn (pk.run pos pins s σ H _ I h') fun ws s2 ⟨zs, H2, I2, rz, z⟩ => ⟨I2.kIn, ?_⟩
      rw [k2]
      exact fin I2 .nil rz z
    | cons e es =>
      obtain ⟨e1, e2⟩ := and2 (show (noStar e && es.all noStar) = true from hes)
      refine PySem.W.callWith_KW (h₀ := X.base) I.ok.mod.kin IC.oex.kC k1 (thn (pa.run pos pins s σ H _ I h) fun us s1 ⟨vs, H1, I1, r, q⟩ => ?_) (by rw [k3, plain_of hes]; rfl) (star_of e1)
      refine thn (pk.run pos pins s1 σ H1 _ I1 q) fun ws s2 ⟨zs, H2, I2, rz, z⟩ => ⟨I2.kIn, ?_⟩
      rw [k2]
      exact fin I2 r rz z
  have rs := ps_raise (pos := pos') hc tk mk
  refine ⟨fun pins s σ H D I h => rs.run pins s σ H D I ?_⟩
  obtain ⟨env, m, M, F, sm, h⟩ := h
  have h : SRes N X.K Wx D m F ((evs P C as env M).st env fun ws M => (evs P C ks env M).st env fun us M => match P.cls c, W.pures (permW (ws ++ us) perm) with
    | some k, some vs => if k.flds.length = vs.length ∧ k.isX = true then .exc c k.flds vs env M else .bad
    | _, _ => .bad) := h
  refine ⟨env, m, M, F, sm, ?_⟩
  cases e1 : evs P C as env M with
  | bad => rw [e1] at h; exact h
  | exc c' ns vs M' =>
    rw [e1] at h
    exact fun cls d H' m' F' s' g ex => h cls d σ H' m' F' s' g ex
  | ok ws M1 =>
    rw [e1] at h
    intro vs H1 m1 F1' s1 r1 g1
    obtain ⟨r1, l1⟩ := r1
    refine ⟨env, m1, M1, F1', s1, ?_⟩
    have h : SRes N X.K Wx D m F ((evs P C ks env M1).st env fun us M => match P.cls c, W.pures (permW (ws ++ us) perm) with
      | some k, some vs => if k.flds.length = vs.length ∧ k.isX = true then .exc c k.flds vs env M else .bad
      | _, _ => .bad) := h
    cases e2 : evs P C ks env M1 with
    | bad => rw [e2] at h; exact h
    | exc c' ns vs' M' =>
      rw [e2] at h
      exact fun cls d H' m' F' s' g ex => h cls d σ H' m' F' s' (g1.trans g) ex
    | ok us M2 =>
      rw [e2] at h
      intro zs H2 m2 F2 s2 r2 g2
      obtain ⟨r2, l2⟩ := r2
      have h : SRes N X.K Wx D m F (match P.cls c, W.pures (permW (ws ++ us) perm) with
        | some k, some vs => if k.flds.length = vs.length ∧ k.isX = true then .exc c k.flds vs env M2 else .bad
        | _, _ => .bad) := h
      rw [hk] at h
      refine ⟨by rw [← r1.length, l1], by rw [← r2.length, l2], fun d hd => ?_⟩
      cases e3 : W.pures (permW (ws ++ us) perm) with
      | none => rw [e3] at h; exact h.elim
      | some ds =>
        rw [e3] at h
        have h : SRes N X.K Wx D m F (if k.flds.length = ds.length ∧ k.isX = true then .exc c k.flds ds env M2 else .bad) := h
        by_cases cd : k.flds.length = ds.length ∧ k.isX = true
        · rw [if_pos cd] at h
          obtain ⟨s3, g3⟩ := s2.mem.new (o := .xd (mkfs (k.flds.map N.at_) (permG .non (vs ++ zs) perm))) hd
          have rr : Reps N X.K F2 ds (permG .non (vs ++ zs) perm) := (RepWs.perm (RepWs.append (RepWs.mono g2.x _ _ r1) r2) perm).pures e3
          refine h (.ref (N.cA c)) (some d) σ _ m2 _ (s2.to s3 g3.x) ((g1.trans g2).trans g3) ⟨rfl, d, _, rfl, upd_same, ?_⟩
          refine repF_of (Reps.mono g3.ex _ _ rr) cd.1 fun i n v h1 h2 => ?_
          exact mkfs_look IC.nd (by rw [← rr.length, List.length_map, cd.1]) (by rw [List.getElem?_map, h1]; rfl) h2
        · rw [if_neg cd] at h; exact h.elim
end
end G

set_option maxHeartbeats 4000000
/-! try: the caught exception becomes an object of the abstract heap. -/
namespace G
open PySem PySem.Spec PyProof.Rows L2

theorem exc_ok {P : Program} {w : World} {H : Hp} {h : Heap} {a C : Addr} {d : Option Addr} {oe : Obj} {vs : Array Value} (he : h.get? a = some oe) (hz : Zc (.ref C) d oe) (hd : oe.data = .fields vs) : ObjOk P w H h a (excHO C d a) :=
  ⟨⟨oe, vs, he, hz, hd⟩, ⟨_, he⟩, fun h1 h2 z k => by
    obtain ⟨o, v, e, z, q⟩ := z
    exact ⟨o, v, k _ e, z, q⟩⟩
section
variable {X : Cx} {pins : List (Addr × Obj)} {σ : L2.St} {H : Hp} {s : Shared}
theorem inv_hot {a C : Addr} {d : Option Addr} {oe : Obj} {vs : Array Value} (I : L2.Inv X pins σ H s) (he : s.heap.get? a = some oe) (hz : Zc (.ref C) d oe) (hd : oe.data = .fields vs) (na : H a = none) (nL : a ≠ X.env.locals) (n0 : X.s_0.heap.get? a = none) (np : ∀ p ∈ X.pn ++ pins, p.1 ≠ a) :
    L2.Inv (X.suite a (X.pn ++ pins)) [] σ (upd H a (excHO C d a)) s := by
  have ne : ∀ {b : Addr} {o : HO}, H b = some o → b ≠ a := fun {b o} e q => by rw [q, na] at e; cases e
  have b0 : ∀ {b : Addr} {o : Obj}, X.s_0.heap.get? b = some o → b ≠ a := fun {b o} e q => by rw [q, n0] at e; cases e
  refine ⟨I.ok.suite _ _, I.os, I.bare, ⟨I.base.keep, I.base.slot, fun b o e n hx => ?_, I.base.there, fun b xs e => ?_, fun b o u e => ?_, fun b ps e => ?_⟩, I.loc, I.cell, ?_, fun x c e => ?_, fun p hp => ?_, fun b o e => ?_, I.len⟩
  · rw [upd_ne (b0 e)]; exact I.base.free b o e n hx
  · have z := I.base.tups b xs e
    rw [upd_ne (ne z)]; exact z
  · have z := I.base.frzs b o u e
    rw [upd_ne (ne z)]; exact z
  · obtain ⟨more, z⟩ := I.base.tbls b ps e
    exact ⟨more, by rw [upd_ne (ne z)]; exact z⟩
  · show upd H a _ X.env.locals = none
    rw [upd_ne (Ne.symm nL)]; exact I.free
  · have hc : c ≠ a := fun q => by
      obtain ⟨v, o, e1, e2⟩ := I.cell x c e
      rw [q, he] at e1
      cases e1
      rw [hd] at e2
      cases e2
    rw [upd_ne hc]; exact I.freeC x c e
  · have hp' : p ∈ X.pn ++ pins := by rw [List.append_nil] at hp; exact hp
    obtain ⟨q1, q2, q3, q4, q5⟩ := I.pin p hp'
    exact ⟨q1, by rw [upd_ne (np p hp')]; exact q2, q3, q4, q5⟩
  · by_cases q : b = a
    · subst q
      rw [upd_same] at e
      cases e
      exact exc_ok he hz hd
    · rw [upd_ne q] at e
      exact (I.hok b o e).stay (fun c u hc z => z) (fun c hc => by rw [upd_ne (ne hc)]; exact hc) fun c xs hc => by rw [upd_ne (ne hc)]; exact hc
theorem inv_cold {a : Addr} {pn' : List (Addr × Obj)} (I : L2.Inv (X.suite a (X.pn ++ pins)) pn' σ H s) (ok : X.Ok) : L2.Inv X pins σ H s :=
  ⟨ok, I.os, I.bare, I.base, I.loc, I.cell, I.free, I.freeC, fun p hp => I.pin p (List.mem_append_left _ hp), I.hok, I.len⟩
end
/-- what is known of the clauses: their classes, their names, their suites -/
inductive HdG (P : Prog) (C : Calls) (N : Nam) (X : Cx) : List ExceptHandler → List (Nat × Option Nat) → List (List G.St) → Prop
  | nil : HdG P C N X [] [] []
  | plain {x : Str} {t : Nat} {b₀ : Stmt} {r : List Stmt} {su : List G.St} {np pos : Pos} {hds hcs sus} (hm : X.mg x = some (.ref (N.cA t))) (hg : Gl X x) (hdb : (x == ("__debug__" : Str)) = false)
      (hx : ∀ c k, P.cls c = some k → k.isX = true → PySem.W.exmOne X.K (.ref (N.cA c)) (.ref (N.cA t)) = some (k.anc.contains t))
      (hs : ∀ (a : Addr) (pn : List (Addr × Obj)), PSs (X.suite a pn) (b₀ :: r) (tSs P C N X.K WF su)) (hr : HdG P C N X hds hcs sus) : HdG P C N X (.ExceptHandler (some (.Name x np)) none (b₀ :: r) pos :: hds) ((t, none) :: hcs) (su :: sus)
  | named {x n : Str} {t i : Nat} {b₀ : Stmt} {r : List Stmt} {su : List G.St} {np pos : Pos} {hds hcs sus} (hm : X.mg x = some (.ref (N.cA t))) (hg : Gl X x) (hdb : (x == ("__debug__" : Str)) = false)
      (hx : ∀ c k, P.cls c = some k → k.isX = true → PySem.W.exmOne X.K (.ref (N.cA c)) (.ref (N.cA t)) = some (k.anc.contains t)) (hi : X.N[i]? = some n) (hn : X.env.kindOf n = some .local)
      (hs : ∀ (a : Addr) (pn : List (Addr × Obj)), PSs (X.suite a pn) (b₀ :: r) (tSs P C N X.K WF su)) (hr : HdG P C N X hds hcs sus) : HdG P C N X (.ExceptHandler (some (.Name x np)) (some n) (b₀ :: r) pos :: hds) ((t, some i) :: hcs) (su :: sus)
theorem isX_of {P : Prog} {N : Nam} {K : PySem.W.Frag} {F : Hp} {cls : Value} {d : Option Addr} {c : Nat} {ns : List Nat} {vs : List D} (h : ExcV N K F cls d c ns vs) : cls = .ref (N.cA c) := h.1
section
variable {X : Cx} {P : Prog} {C : Calls} {N : Nam} {Wx : WX}
/-- what the body's exception must meet -/
def wTry (P : Prog) (C : Calls) (N : Nam) (K : PySem.W.Frag) (Wx : WX) (De : Ends) (hcs : List (Nat × Option Nat)) (sus : List (List G.St)) : WX := fun cls d σ H =>
  ∃ (env : G.Env) (m : List Addr) (M : Mem) (F : Fx) (c : Nat) (ns : List Nat) (vs : List D), Sim N K σ env m M F H ∧ ExcV N K F cls d c ns vs ∧ SRes N K Wx De m F (exh P C hcs sus c ns vs env M)
theorem ps_tryG {body : List Stmt} {bi : List G.St} {h₀ : ExceptHandler} {hds : List ExceptHandler} {hcs : List (Nat × Option Nat)} {sus : List (List G.St)} {pos : Pos} (hs : X.stack = X.env :: X.outer) (hf : X.env.frame = some X.env.locals) (hex : X.ex = []) (nd : X.N.Nodup) (tk : Takes X Wx)
    (hb : ∀ (W : WX) (pn : List (Addr × Obj)) (xe : Value → Shared → Prop), Takes (X.tr pn xe) W → PassesOwn (model X.prog X.w) X.A X.env xe → PSs (X.tr pn xe) body (tSs P C N X.K W bi))
    (hh : HdG P C N X (h₀ :: hds) hcs sus) : PS X (.Try body (h₀ :: hds) [] [] pos) (tS P C N X.K Wx (.try_ bi hcs sus)) := by
  refine ⟨fun pins s σ H D I h => ?_⟩
  have ok := I.ok
  have hfr : X.A.frames = some (X.env :: X.outer) := by rw [ok.frames, hs]
  -- the body's reading
  have h0 : tSs P C N X.K (wTry P C N X.K Wx D hcs sus) bi D σ H := by
    obtain ⟨env, m, M, F, sm, h⟩ := h
    refine ⟨env, m, M, F, sm, ?_⟩
    have h : SRes N X.K Wx D m F (match exs P C bi env M with
      | .exc c ns vs env' M' => exh P C hcs sus c ns vs env' M'
      | z => z) := h
    cases e : exs P C bi env M with
    | exc c ns vs env' M' =>
      rw [e] at h
      exact fun cls d σ' H' m' F' s' g ex => ⟨env', m', M', F', c, ns, vs, s', ex, SRes.rebase g h⟩
    | nx _ _ => rw [e] at h; exact h
    | rt _ _ => rw [e] at h; exact h
    | bk _ _ => rw [e] at h; exact h
    | ct _ _ => rw [e] at h; exact h
    | bad => rw [e] at h; exact h
  refine wpAny_Try_except ?_
  let xe' : Value → Shared → Prop := fun e s₁ => wpAny (model X.prog X.w) X.A (noteFrame e X.env) (fun _ s₂ => wpAny (model X.prog X.w) X.A (setFlight e none) (fun _ s₃ =>
    wpAny (model X.prog X.w) X.A (handleBy e X.env (h₀ :: hds)) (SP X pins D) X.xe s₃) X.xe s₂) X.xe s₁
  refine wpAny_mono ((hb (wTry P C N X.K Wx D hcs sus) (X.pn ++ pins) xe' (fun u s' xx => ?_) PassesOwn.looking).run [] s σ H D (I.toTry _) h0) (fun f s1 hsp => ?_) (fun e s1 he => he)
  · obtain ⟨a, B, sI, pins', σ', H', cls, d, rfl, J', nb, up, sky, na, os, ag, w⟩ := xx
    have J : L2.Inv X pins σ' H' sI := J'.ofTry ok
    have sky' : Sky B (X.env :: X.outer) a (Zc cls d) X.env.locals s'.heap := by rw [← hs]; exact sky
    show wpAny (model X.prog X.w) X.A (noteFrame (.ref a) X.env) _ _ _
    refine Sky.land Zc.steady hfr hf sky' fun h3 fl3 up3 => ?_
    have J3 : L2.Inv X pins σ' H' { s' with heap := h3 } := J.landed nb fl3.1 (up.trans up3) os ag
    obtain ⟨oe3, vs3, he3, hz3, hd3⟩ := fl3.there
    have nfr : a ∉ frs (X.env :: X.outer) := fun hm => by
      obtain ⟨_, o', e', hnf⟩ := fl3.2.2.1.mem hm
      rw [he3] at e'
      cases e'
      exact hnf _ hd3
    have nL : a ≠ X.env.locals := fun z => nfr (List.mem_filterMap.mpr ⟨X.env, List.mem_cons_self, by rw [hf, z]⟩)
    have nF : a ∉ X.fs := fun hm => by
      obtain ⟨e, he, q⟩ := List.mem_filterMap.mp hm
      exact nfr (List.mem_filterMap.mpr ⟨e, List.mem_cons_of_mem _ he, q⟩)
    have nI : sI.heap.get? a = none := by
      cases e : sI.heap.get? a with
      | none => rfl
      | some o =>
        have z := nb a o e (by rw [hs]; exact nfr)
        rw [fl3.2.1] at z
        cases z
    have n0 : X.s_0.heap.get? a = none := by
      cases e : X.s_0.heap.get? a with
      | none => rfl
      | some o =>
        obtain ⟨o', z⟩ := J.base.there a o e (by rw [hex]; simp)
        rw [nI] at z
        cases z
    have np : ∀ p ∈ X.pn ++ pins, p.1 ≠ a := fun p hp q => by
      have z := (J.pin p hp).1
      rw [q, nI] at z
      cases z
    have S3 := J3.suite he3 hd3 na nL nF
    obtain ⟨env, m, M, F, c, ns, vs, sm, ex, w⟩ := w
    have ecls := ex.1
    subst ecls
    have go : ∀ {hds' : List ExceptHandler} {hcs' : List (Nat × Option Nat)} {sus' : List (List G.St)}, HdG P C N X hds' hcs' sus' → SRes N X.K Wx D m F (exh P C hcs' sus' c ns vs env M) →
        wpAny (model X.prog X.w) X.A (handleBy (.ref a) X.env hds') (SP X pins D) X.xe { s' with heap := h3 } := by
      intro hds' hcs' sus' hk
      induction hk with
      | nil =>
        intro w
        refine wpAny_handleBy_nil ?_
        obtain ⟨k1, k2, k3, oe, vs', T, oT, ts', he, hz, hd, h1, hr⟩ := id fl3
        unfold PySem.passOn
        refine wpAny_bind (wpAny_field he hd h1 ?_)
        rw [if_neg (show ¬ ((Value.ref T == Value.none) = true) from by simp)]
        have fin : wpAny (model X.prog X.w) X.A (setFlight (.ref a) X.env.frame) (fun _ s4 => wpAny (model X.prog X.w) X.A (throw (.ref a) : Sem Flow) (SP X pins D) X.xe s4) X.xe { s' with heap := h3 } := by
          rw [hf]
          refine HandSPX.setFlight_upZ fl3 fun h4 hh4 up4 => wpAny_throw (tk _ _ ?_)
          have w' : Wx (.ref (N.cA c)) d σ' H' := w (.ref (N.cA c)) d σ' H' m F sm (Gr.refl _ _) ex
          exact ⟨a, B, sI, pins, σ', H', _, d, rfl, J, nb, (up.trans up3).trans up4, .inr (.inr (by rw [hs]; exact hh4)), na, os, ag, w'⟩
        first
          | exact wpAny_bind (wpAny_pure (wpAny_bind fin))
          | exact wpAny_bind fin
      | @plain x t b₀ r su npx pos' hds2 hcs2 sus2 hm hg hdb hx hsu hr ih =>
        intro w
        have w : SRes N X.K Wx D m F (match P.cls c with
          | some k => if k.isX = false then .bad else if k.anc.contains t then (match exs P C su env M with
              | .nx e M => .nx e M
              | .bk e M => .bk e M
              | .ct e M => .ct e M
              | .rt w M => .rt w M
              | _ => .bad)
            else exh P C hcs2 sus2 c ns vs env M
          | none => .bad) := w
        cases ek : P.cls c with
        | none => rw [ek] at w; exact w.elim
        | some k =>
          rw [ek] at w
          dsimp only at w
          cases ix : k.isX with
          | false => rw [ix, if_pos rfl] at w; exact w.elim
          | true =>
            rw [ix, if_neg (by decide)] at w
            refine wpAny_handleBy_cons (codeAny_handlers_test ?_) (by intro q; cases q)
            have LT : PySem.W.Looks (model X.prog X.w) h3 (typeOf (.ref a)) (.ref (N.cA c)) := fun A Q E s k q => wpAny_typeOf_ref (k _ _ he3) (by rw [hz3.1]; exact q)
            have LM := PySem.W.exm_one (M := model X.prog X.w) J3.kIn LT (hx c k ek ix)
            refine ld_glob (X := X.suite a ((a, oe3) :: (X.pn ++ pins))) S3 hg hm ?_ hdb
            refine LM.here ?_
            cases ea : k.anc.contains t with
            | false =>
              rw [ea, if_neg Bool.false_ne_true] at w
              exact ih w
            | true =>
              rw [ea, if_pos rfl] at w
              refine codeAny_handlers_suite ?_
              refine HandSPX.lands_againZ fl3 fun h4 fl4 up4 => ?_
              have J4 : L2.Inv X pins σ' H' { s' with heap := h4 } := J.landed nb fl4.1 ((up.trans up3).trans up4) os ag
              obtain ⟨oe4, vs4, he4, hz4, hd4⟩ := fl4.there
              have S4 := inv_hot J4 he4 hz4 hd4 na nL n0 np
              obtain ⟨sm4, g4⟩ := sm.mem.new (o := excHO (N.cA c) d a) na
              have sim4 : Sim N X.K σ' env m M (F.put a (excHO (N.cA c) d a)) (upd H' a (excHO (N.cA c) d a)) := sm.to sm4 g4.x
              refine wpAny_mono ((hsu a (X.pn ++ pins)).run [] _ σ' _ D S4 ⟨env, m, M, _, sim4, ?_⟩) (fun f s6 hsp => ?_) (fun _ _ z => False.elim z)
              · have w := SRes.rebase g4 w
                cases e6 : exs P C su env M with
                | nx _ _ => rw [e6] at w; exact w
                | rt _ _ => rw [e6] at w; exact w
                | bk _ _ => rw [e6] at w; exact w
                | ct _ _ => rw [e6] at w; exact w
                | exc _ _ _ _ _ => rw [e6] at w; exact w.elim
                | bad => rw [e6] at w; exact w.elim
              · cases f with
                | next =>
                  obtain ⟨σ6, H6, S6, q6⟩ := hsp
                  exact ⟨_, _, inv_cold S6 ok, q6⟩
                | brk =>
                  obtain ⟨σ6, H6, S6, q6⟩ := hsp
                  exact ⟨_, _, inv_cold S6 ok, q6⟩
                | cont =>
                  obtain ⟨σ6, H6, S6, q6⟩ := hsp
                  exact ⟨_, _, inv_cold S6 ok, q6⟩
                | ret u =>
                  obtain ⟨v6, σ6, H6, S6, r6, q6⟩ := hsp
                  exact ⟨_, _, _, inv_cold S6 ok, r6, q6⟩
      | @named x n t i b₀ r su npx pos' hds2 hcs2 sus2 hm hg hdb hx hi hn hsu hr ih =>
        intro w
        have w : SRes N X.K Wx D m F (match P.cls c with
          | some k => if k.isX = false then .bad else if k.anc.contains t then (match exs P C su (env.set i (some (.p (.exc c ns vs)))) M with
              | .nx e M => .nx (e.set i none) M
              | .bk e M => .bk (e.set i none) M
              | .ct e M => .ct (e.set i none) M
              | .rt w M => .rt w M
              | _ => .bad)
            else exh P C hcs2 sus2 c ns vs env M
          | none => .bad) := w
        cases ek : P.cls c with
        | none => rw [ek] at w; exact w.elim
        | some k =>
          rw [ek] at w
          dsimp only at w
          cases ix : k.isX with
          | false => rw [ix, if_pos rfl] at w; exact w.elim
          | true =>
            rw [ix, if_neg (by decide)] at w
            refine wpAny_handleBy_cons (codeAny_handlers_test ?_) (by intro q; cases q)
            have LT : PySem.W.Looks (model X.prog X.w) h3 (typeOf (.ref a)) (.ref (N.cA c)) := fun A Q E s k q => wpAny_typeOf_ref (k _ _ he3) (by rw [hz3.1]; exact q)
            have LM := PySem.W.exm_one (M := model X.prog X.w) J3.kIn LT (hx c k ek ix)
            refine ld_glob (X := X.suite a ((a, oe3) :: (X.pn ++ pins))) S3 hg hm ?_ hdb
            refine LM.here ?_
            cases ea : k.anc.contains t with
            | false =>
              rw [ea, if_neg Bool.false_ne_true] at w
              exact ih w
            | true =>
              rw [ea, if_pos rfl] at w
              refine codeAny_handlers_suite_as ?_
              refine HandSPX.lands_againZ fl3 fun h4 fl4 up4 => ?_
              have J4 : L2.Inv X pins σ' H' { s' with heap := h4 } := J.landed nb fl4.1 ((up.trans up3).trans up4) os ag
              obtain ⟨oe4, vs4, he4, hz4, hd4⟩ := fl4.there
              have S4 := inv_hot J4 he4 hz4 hd4 na nL n0 np
              obtain ⟨sm4, g4⟩ := sm.mem.new (o := excHO (N.cA c) d a) na
              obtain ⟨_, dd, fs, ed, efd, erf⟩ := ex
              have rx : RepW N X.K (F.put a (excHO (N.cA c) d a)) m (.p (.exc c ns vs)) (.ref a) := by
                subst ed
                exact ⟨a, dd, fs, rfl, upd_same, g4.ex _ _ efd, RepF.mono g4.ex _ _ _ erf⟩
              have sim4 : Sim N X.K (σ'.set i (some (.ref a))) (env.set i (some (.p (.exc c ns vs)))) m M (F.put a (excHO (N.cA c) d a)) (upd H' a (excHO (N.cA c) d a)) := ⟨sm4, (sm.env.mono g4.x).set rx⟩
              refine store_ok (X := X.suite a (X.pn ++ pins)) (v := .ref a) S4 nd hi (.inl hn) rfl (fun s5 S5 => ?_) (.inr hn)
              refine wpAny_mono ((hsu a (X.pn ++ pins)).run [] s5 _ _ { nx := fun σ' H' => D.nx (σ'.set i none) H', rt := D.rt, bk := fun σ' H' => D.bk (σ'.set i none) H', ct := fun σ' H' => D.ct (σ'.set i none) H' } S5 ⟨_, m, M, _, sim4, ?_⟩) (fun f s6 hsp => ?_) (fun _ _ z => False.elim z)
              · have w := SRes.rebase g4 w
                have un : ∀ {σ6 : L2.St} {e6 : G.Env} {m6 : List Addr} {M6 : Mem} {F6 : Fx} {H6 : Hp}, Sim N X.K σ6 e6 m6 M6 F6 H6 → Sim N X.K (σ6.set i none) (e6.set i none) m6 M6 F6 H6 := fun q => ⟨q.mem, q.env.unset⟩
                cases e6 : exs P C su (env.set i (some (.p (.exc c ns vs)))) M with
                | nx _ _ => rw [e6] at w; exact fun σ6 H6 m6 F6 s6 g6 => w _ H6 m6 F6 (un s6) g6
                | rt _ _ => rw [e6] at w; exact w
                | bk _ _ => rw [e6] at w; exact fun σ6 H6 m6 F6 s6 g6 => w _ H6 m6 F6 (un s6) g6
                | ct _ _ => rw [e6] at w; exact fun σ6 H6 m6 F6 s6 g6 => w _ H6 m6 F6 (un s6) g6
                | exc _ _ _ _ _ => rw [e6] at w; exact w.elim
                | bad => rw [e6] at w; exact w.elim
              · have end_ : ∀ {σ6 : L2.St} {H6 : Hp} {Q : Shared → Prop}, L2.Inv (X.suite a (X.pn ++ pins)) [] σ6 H6 s6 → (∀ s7, L2.Inv X pins (σ6.set i none) H6 s7 → Q s7) →
                    wpAny (model X.prog X.w) X.A (do bindName X.env n .none; unbindBehindTheSuite X.env n pos') (fun _ s7 => Q s7) X.xe s6 := fun {σ6 H6 Q} S6 hq => gone_ok (inv_cold S6 ok) nd hi hn hq
                cases f with
                | next =>
                  obtain ⟨σ6, H6, S6, q6⟩ := hsp
                  exact end_ S6 fun s7 J7 => ⟨_, _, J7, q6⟩
                | brk =>
                  obtain ⟨σ6, H6, S6, q6⟩ := hsp
                  exact end_ S6 fun s7 J7 => ⟨_, _, J7, q6⟩
                | cont =>
                  obtain ⟨σ6, H6, S6, q6⟩ := hsp
                  exact end_ S6 fun s7 J7 => ⟨_, _, J7, q6⟩
                | ret u =>
                  obtain ⟨v6, σ6, H6, S6, r6, q6⟩ := hsp
                  exact end_ S6 fun s7 J7 => ⟨_, _, _, J7, r6, q6⟩
    exact go hh w
  · cases f with
    | next =>
      obtain ⟨σ', H', J', q⟩ := hsp
      exact wpAny_execs_nil ⟨σ', H', J'.ofTry ok, q⟩
    | brk =>
      obtain ⟨σ', H', J', q⟩ := hsp
      exact ⟨σ', H', J'.ofTry ok, q⟩
    | cont =>
      obtain ⟨σ', H', J', q⟩ := hsp
      exact ⟨σ', H', J'.ofTry ok, q⟩
    | ret u =>
      obtain ⟨v, σ', H', J', r, q⟩ := hsp
      exact ⟨v, σ', H', J'.ofTry ok, r, q⟩
end
end G

set_option maxHeartbeats 4000000
/-! The checker of statements. -/
namespace G
open PySem PySem.Spec PyProof.Rows L2
def Tab.quiet (Γ : Tab) : Tab := { Γ with calm := false }
def isXb (P : Prog) (t : Nat) : Bool := match P.cls t with
  | some k => k.isX
  | none => false
def lcB (x : Str) (p : Pos) : Expr → Bool
  | .ListComp _ _ scope cp => (p.line == cp.line) && !(scope.names.any fun (n, k) => n == x && (k == .local || k == .cell))
  | .SetComp _ _ _ _ => false
  | .DictComp _ _ _ _ _ => false
  | _ => true
def nameT : Expr → Bool
  | .Name _ _ => true
  | _ => false
/-- brackets, not all of them names -/
def nestT : Expr → Bool
  | .Tuple es _ _ => es.any fun e => !nameT e
  | _ => false
def foldT : Expr → Bool
  | .Tuple vs _ _ => vs.all (foldedForSure 8)
  | _ => false
def noLc : Expr → Bool
  | .ListComp _ _ _ _ => false
  | .SetComp _ _ _ _ => false
  | .DictComp _ _ _ _ _ => false
  | _ => true
def slotB (L : List Str) (sc : Scope) : Option Nat → Option Str → Bool
  | none, none => true
  | some i, some n => decide (L[i]? = some n) && decide (sc.names.lookup n = some .local)
  | _, _ => false
section
variable (P : Prog) (L : List Str)
mutual
def chkS : G.St → Tab → Scope → Stmt → Bool
  | .asg i e, Γ, sc, st => match st with
    | .Assign [.Name x p] v _ => decide (L[i]? = some x) && chk Γ L P.isis e sc v && (decide (sc.names.lookup x = some .cell) || (decide (sc.names.lookup x = some .local) && lcB x p v && (noLc v || Γ.calm)))
    | _ => false
  | .asgT t e, Γ, sc, st => match st with
    | .Assign [tg] v _ => tgtB L sc t tg && isTupT tg && chk Γ L P.isis e sc v && (!isTupT v || nestT tg || foldT v) && Γ.calm
    | _ => false
  | .par i j a b, Γ, sc, st => match st with
    | .Assign [.Tuple [.Name x px, .Name y py] _ _] (.Tuple [l, r] _ _) _ => decide (L[i]? = some x) && decide (L[j]? = some y) && decide (i ≠ j) && decide (sc.names.lookup x = some .local) && decide (sc.names.lookup y = some .local) && (py.line == px.line) && decide (x ≠ y) &&
        !([l, r].all (foldedForSure 8)) && !([l, r].all (constantsAlone 8)) && chk Γ L P.isis a sc l && chk Γ L P.isis b sc r && noStar l && noStar r && Γ.calm
    | _ => false
  | .setIdx o i e, Γ, sc, st => match st with
    | .Assign [.Subscript l r _] v _ => chk Γ L P.isis o sc l && chk Γ L P.isis i sc r && chk Γ L P.isis e sc v && noSlc r
    | _ => false
  | .ifs c a b, Γ, sc, st => match st with
    | .If t x y _ => chk Γ L P.isis c sc t && noIf t && chkSs a Γ sc x && chkSs b Γ sc y
    | _ => false
  | .for_ t it body, Γ, sc, st => match st with
    | .For tg iter x [] _ => Γ.calm && chkI Γ L P.isis it sc tg iter && noSet iter && tgtB L sc t tg && chkSs body Γ sc x
    | _ => false
  | .while_ c body, Γ, sc, st => match st with
    | .While t x [] _ => Γ.calm && chk Γ L P.isis c sc t && noIf t && chkSs body Γ sc x
    | _ => false
  | .ret e, Γ, sc, st => match st with
    | .Return (some v) _ => chk Γ L P.isis e sc v
    | _ => false
  | .retN, _, _, st => match st with
    | .Return none _ => true
    | _ => false
  | .expr e, Γ, sc, st => match st with
    | .Expr v _ => chk Γ L P.isis e sc v && noLc v
    | _ => false
  | .app _ _, _, _, _ => false
  | .raise c as ks perm, Γ, sc, st => match st with
    | .Raise (some (.Call (.Name x _) es kws _)) none _ => Γ.calm && (match Γ.xs.lookup x with
      | some (g, ps) => decide (g = c) && permOk ps as.length (kws.filterMap (·.arg)) perm
      | none => false) && glB sc x && (kws.all (·.arg.isSome)) && chks Γ L P.isis as sc es && chks Γ L P.isis ks sc (kws.map (·.value)) && decide (as.length ≤ 900) && decide (ks.length ≤ 90)
    | _ => false
  | .try_ body hcs sus, Γ, sc, st => match st with
    | .Try x (h :: hds) [] [] _ => Γ.calm && chkSs body Γ sc x && chkH sus hcs Γ sc (h :: hds)
    | _ => false
  | .pass, _, _, st => match st with
    | .Pass _ => true
    | _ => false
  | .brk, _, _, st => match st with
    | .Break _ => true
    | _ => false
  | .cnt, _, _, st => match st with
    | .Continue _ => true
    | _ => false
def chkSs : List G.St → Tab → Scope → List Stmt → Bool
  | [], _, _, sts => sts.isEmpty
  | s :: r, Γ, sc, sts => match sts with
    | st :: sts => chkS s Γ sc st && chkSs r Γ sc sts
    | [] => false
def chkH : List (List G.St) → List (Nat × Option Nat) → Tab → Scope → List ExceptHandler → Bool
  | [], hcs, _, _, hds => hcs.isEmpty && hds.isEmpty
  | su :: sus, hcs, Γ, sc, hds => match hcs, hds with
    | (t, slot) :: hcs, .ExceptHandler (some (.Name x _)) nm (b :: r) _ :: hds => decide (Γ.cl.lookup x = some t) && glB sc x && isXb P t && slotB L sc slot nm && chkSs su Γ.quiet sc (b :: r) && chkH sus hcs Γ sc hds
    | _, _ => false
end
end
/-- what a statement's context must give -/
structure StX (Γ : Tab) (P : Prog) (C : Calls) (N : Nam) (L : List Str) (sc : Scope) (X : Cx) : Prop where
  cx : CxOk Γ P C N L sc X
  kd : X.env.scope.kind = .function
  own : Γ.calm = true → PassesOwn (model X.prog X.w) X.A X.env X.xe
  stk : X.stack = X.env :: X.outer
  frm : X.env.frame = some X.env.locals
  ex : X.ex = []
  fnt : ∀ x, X.fn x = true
  xs : ∀ x c ps, Γ.xs.lookup x = some (c, ps) → ∃ k, P.cls c = some k ∧ XFact X.K X.mg N x c ps k.flds
  rm : Γ.calm = true → ∃ n, Room (n + 2) X.A
  hd : ∀ c k t, P.cls c = some k → k.isX = true → isXb P t = true → PySem.W.exmOne X.K (.ref (N.cA c)) (.ref (N.cA t)) = some (k.anc.contains t)
section
variable {Γ : Tab} {P : Prog} {C : Calls} {N : Nam} {L : List Str} {sc : Scope} {X : Cx}
theorem StX.tr (h : StX Γ P C N L sc X) {pn : List (Addr × Obj)} {xe : Value → Shared → Prop} (ow : PassesOwn (model X.prog X.w) X.A X.env xe) : StX Γ P C N L sc (X.tr pn xe) :=
  ⟨⟨h.cx.nm, h.cx.sc, h.cx.nd, ⟨h.cx.blt.sys, h.cx.blt.grd, h.cx.blt.unt⟩, h.cx.tc, h.cx.tn, h.cx.cal, h.cx.call⟩, h.kd, fun _ => ow, h.stk, h.frm, h.ex, h.fnt, h.xs, h.rm, h.hd⟩
theorem noq {p : Prop} (q : Γ.quiet.calm = true) : p := absurd (show false = true from q) Bool.false_ne_true
theorem StX.suite (h : StX Γ P C N L sc X) (a : Addr) (pn : List (Addr × Obj)) : StX Γ.quiet P C N L sc (X.suite a pn) :=
  ⟨⟨h.cx.nm, h.cx.sc, h.cx.nd, ⟨h.cx.blt.sys, h.cx.blt.grd, h.cx.blt.unt⟩, h.cx.tc, ⟨h.cx.tn.free, h.cx.tn.oerr, h.cx.tn.cls, h.cx.tn.gv, h.cx.tn.fa⟩, noq, noq⟩, h.kd, noq, h.stk, h.frm, h.ex, h.fnt, h.xs, noq, h.hd⟩
theorem suite_takes {a : Addr} {pn : List (Addr × Obj)} : Takes (X.suite a pn) WF := fun u s' h => by
  obtain ⟨_, _, _, _, _, _, _, _, _, _, _, _, _, _, _, _, w⟩ := h
  exact w.elim
end
end G

set_option maxHeartbeats 4000000
/-! The checker of statements is sound. -/
namespace G
open PySem PySem.Spec PyProof.Rows L2
section
variable {P : Prog} {C : Calls} {N : Nam} {L : List Str}
theorem psI {X : Cx} {st : Stmt} {t t' : TS} (h : PS X st t) (k : ∀ D σ H, t' D σ H → t D σ H) : PS X st t' := ⟨fun pins s σ H D I q => h.run pins s σ H D I (k _ _ _ q)⟩
theorem pssI {X : Cx} {st : List Stmt} {t t' : TS} (h : PSs X st t) (k : ∀ D σ H, t' D σ H → t D σ H) : PSs X st t' := ⟨fun pins s σ H D I q => h.run pins s σ H D I (k _ _ _ q)⟩
def PSg (P : Prog) (C : Calls) (N : Nam) (L : List Str) (x : G.St) : Prop := ∀ (Γ : Tab) (sc : Scope) (st : Stmt) (X : Cx) (Wx : WX), StX Γ P C N L sc X → Takes X Wx → chkS P L x Γ sc st = true → PS X st (tS P C N X.K Wx x)
def PSsg (P : Prog) (C : Calls) (N : Nam) (L : List Str) (xs : List G.St) : Prop := ∀ (Γ : Tab) (sc : Scope) (sts : List Stmt) (X : Cx) (Wx : WX), StX Γ P C N L sc X → Takes X Wx → chkSs P L xs Γ sc sts = true → PSs X sts (tSs P C N X.K Wx xs)
def PHg (P : Prog) (C : Calls) (N : Nam) (L : List Str) (sus : List (List G.St)) : Prop := ∀ (hcs : List (Nat × Option Nat)) (Γ : Tab) (sc : Scope) (hds : List ExceptHandler) (X : Cx), StX Γ P C N L sc X → chkH P L sus hcs Γ sc hds = true → HdG P C N X hds hcs sus
theorem local_of {Γ : Tab} {sc : Scope} {X : Cx} (h : CxOk Γ P C N L sc X) {x : Str} (e : sc.names.lookup x = some .local) : X.env.scope.names.lookup x = some .local := by rw [h.sc]; exact e
theorem sw_none {v : Expr} {t : Option Expr} {l : Nat} {env : PySem.Env} (h : noLc v = true) : swapsWith v t l env = pure false := by
  cases v <;> first | rfl | cases h
theorem sw_cell {v : Expr} {x : Str} {p : Pos} {l : Nat} {env : PySem.Env} (h : env.scope.names.lookup x = some .cell) : swapsWith v (some (.Name x p)) l env = pure false := by
  have k : (env.kindOf x == some .local) = false := by
    have e : env.kindOf x = some .cell := h
    rw [e]; rfl
  have key : ∀ (a b c : Bool), (a && (env.kindOf x == some .local) && b && c) = false := fun a b c => by rw [k]; simp
  cases v <;> first | rfl | (show pure _ = pure false; congr 1; exact key _ _ _)
theorem tAsg_mono {t t' : TE} {g : TG} (k : ∀ σ H Q, t σ H Q → t' σ H Q) : ∀ D σ H, tAsg t g D σ H → tAsg t' g D σ H := fun D σ H h => k _ _ _ h
theorem st_asg (i : Nat) (e : Ex) : PSg P C N L (.asg i e) := by
  intro Γ sc st X Wx sx tk h
  have cx := sx.cx
  unfold chkS at h
  split at h
  · rename_i x p v pos
    obtain ⟨h, h2⟩ := and2 h
    obtain ⟨h1, h3⟩ := and2 h
    have hi : X.N[i]? = some x := by rw [cx.nm]; exact of_decide_eq_true h1
    have nd : X.N.Nodup := by rw [cx.nm]; exact cx.nd
    rcases Bool.or_eq_true_iff.mp h2 with hc | h2
    · have hl : X.env.scope.names.lookup x = some .cell := by rw [cx.sc]; exact of_decide_eq_true hc
      exact psI (ps_set nd hi (.inr hl) ((good Γ P C N L e).pe sc v X Wx cx tk h3) (sw_cell hl) (.inl (sx.fnt x))) fun D σ H q => q_asg q
    obtain ⟨h, h5⟩ := and2 h2
    obtain ⟨h2, h4⟩ := and2 h
    have hl := local_of cx (of_decide_eq_true h2)
    refine psI ?_ fun D σ H q => q_asg q
    cases hv : noLc v with
    | true => exact ps_set nd hi (.inl hl) ((good Γ P C N L e).pe sc v X Wx cx tk h3) (sw_none hv) (.inr hl)
    | false =>
      have hc : Γ.calm = true := by rw [hv] at h5; simpa using h5
      cases v with
      | ListComp l gens scope cp =>
        obtain ⟨hl4, hl5⟩ := and2 (show ((p.line == cp.line) && !(scope.names.any fun (n, k) => n == x && (k == .local || k == .cell))) = true from h4)
        have hl5 : (scope.names.any fun (n, k) => n == x && (k == .local || k == .cell)) = false := by simpa using hl5
        cases e with
        | comp elt own t it ifs =>
          unfold chk at h3
          split at h3
          · rename_i l' tg iter fs scope' cp' e1
            cases e1
            obtain ⟨h, c9⟩ := and2 h3
            obtain ⟨h, c8⟩ := and2 h
            obtain ⟨h, c7⟩ := and2 h
            obtain ⟨h, c6⟩ := and2 h
            obtain ⟨h, c5⟩ := and2 h
            obtain ⟨h, c4⟩ := and2 h
            obtain ⟨h, c3⟩ := and2 h
            obtain ⟨h, c2⟩ := and2 h
            obtain ⟨c0, c1⟩ := and2 h
            have hcal := cx.cal hc
            have bk : BlkOk X.N X.env.scope scope (ownP L own) := by rw [cx.nm, cx.sc]; exact blkOk_by c4
            have ho : (ownP L own).map (·.2) = own := by simp [ownP, List.map_map, Function.comp_def]
            have hll : ifs.length ≤ 1 := by rw [← (star_all c7).2]; exact of_decide_eq_true c8
            have ht : ∀ i ∈ t.vars, i ∈ own := fun i hi => by
              have := List.all_eq_true.mp c5 i hi
              simpa using this
            have ps := ps_setLc (wi := tI P C N X.K Wx it) (g := tTgt X.K t) (tt := tIfs P C N X.K ifs) (te := tE P C N X.K WF elt) (pos := cp) (spos := pos) (X := X) (elt := l) (tg := tg) (iter := iter) (ifs := fs) (scope := scope) (own := ownP L own) (y := x) (py := p) hcal nd hi hl
              (sw_true sx.kd hl hl4 hl5) ((good Γ P C N L it).pi sc tg iter X Wx cx tk c1) bk
              (fun s H D cl fp => pg_ok (sc := relS scope sc) (cx.blk s H scope D cl fp).nm (cx.blk s H scope D cl fp).sc cx.nd hcal c3)
              (fun s H D cl fp => by
                cases fs with
                | nil =>
                  cases ifs with
                  | nil => exact pts_nil
                  | cons _ _ => cases c7
                | cons f fs =>
                  cases fs with
                  | cons _ _ => simp at c8
                  | nil =>
                    cases ifs with
                    | nil => cases c7
                    | cons c cs =>
                      obtain ⟨q, q3⟩ := and2 (show ((chk Γ L P.isis c (relS scope sc) f && noStar f) && chks Γ L P.isis cs (relS scope sc) []) = true from c7)
                      have hn : noIf f = true := by simpa using c9
                      exact pts_one ((good Γ P C N L c).pt (relS scope sc) f _ WF (cx.blk s H scope D cl fp) blk_takes (and2 q).1 hn).1)
              (fun s H D cl fp => (good Γ P C N L elt).pe (relS scope sc) l _ WF (cx.blk s H scope D cl fp) blk_takes c6) (fold_of c2)
            rw [ho] at ps
            exact psI ps (tAsg_mono fun σ H Q q => s_comp hll ht q)
          · cases h3
        | _ => cases h3
      | SetComp _ _ _ _ => cases h4
      | DictComp _ _ _ _ _ => cases h4
      | _ => cases hv
  · cases h
theorem sw_tup {v tg : Expr} {l : Nat} {env : PySem.Env} (h : isTupT tg = true) : swapsWithSole [tg] v l env = pure false := by
  cases tg <;> first | (cases v <;> rfl) | cases h
theorem sto_none {v tg : Expr} {env : PySem.Env} (h : isTupT v = false) : swappedStores [tg] v env = pure none := by
  cases v <;> first | (cases tg <;> rfl) | cases h
theorem filter_lt {α β : Type} {f : α → Option β} {p : α → Bool} (h : ∀ a, p a = true → f a = none) : ∀ {l : List α}, l.any p = true → (l.filterMap f).length < l.length
  | [], q => by cases q
  | a :: l, q => by
    have hle : (l.filterMap f).length ≤ l.length := List.length_filterMap_le f l
    cases e : f a with
    | none => rw [List.filterMap_cons_none e, List.length_cons]; omega
    | some b =>
      rw [List.filterMap_cons_some e, List.length_cons, List.length_cons]
      have pa : p a = false := by
        cases z : p a with
        | false => rfl
        | true => rw [h a z] at e; cases e
      have q : l.any p = true := by simpa [List.any_cons, pa] using q
      have := filter_lt h q
      omega
theorem sto_nest {v tg : Expr} {env : PySem.Env} (h : nestT tg = true) : swappedStores [tg] v env = pure none := by
  cases tg with
  | Tuple es k p =>
    cases v with
    | Tuple vs k2 p2 =>
      have hn := filter_lt (f := fun e => match e with
        | .Name id pos => if env.kindOf id == some .local && pos.line == ((es.head?.map (·.pos.line)).getD 0) then some id else none
        | _ => none) (fun e he => by cases e <;> first | rfl | cases he) (show es.any (fun e => !nameT e) = true from h)
      unfold swappedStores
      dsimp only
      split
      · rfl
      · split
        · rfl
        · rw [if_pos]
          refine Bool.or_eq_true_iff.mpr (.inl ?_)
          rw [bne_iff_ne]
          exact Nat.ne_of_lt hn
    | _ => rfl
  | _ => cases h
theorem sto_fold {v tg : Expr} {env : PySem.Env} (h : foldT v = true) : swappedStores [tg] v env = pure none := by
  cases v with
  | Tuple vs k2 p2 =>
    have h : vs.all (foldedForSure 8) = true := h
    have key : ∀ es : List Expr, (swappedStores [.Tuple es 0 p2] (.Tuple vs k2 p2) env = pure none) := fun es => by
      unfold swappedStores
      dsimp only
      split
      · rfl
      · split
        · rfl
        · split
          · rfl
          · rfl
    cases tg <;> first | rfl | exact key _
  | _ => cases h
theorem ase_tup {tg : Expr} {env : PySem.Env} (h : isTupT tg = true) : (assignEach [tg] env).map (·.2) = [assign tg env] := by
  cases tg <;> first | rfl | cases h
theorem st_asgT (t : Tg) (e : Ex) : PSg P C N L (.asgT t e) := by
  intro Γ sc st X Wx sx tk h
  have cx := sx.cx
  unfold chkS at h
  split at h
  · rename_i tg v pos
    obtain ⟨h, h5⟩ := and2 h
    obtain ⟨h, h4⟩ := and2 h
    obtain ⟨h, h3⟩ := and2 h
    obtain ⟨h1, h2⟩ := and2 h
    have sto : swappedStores [tg] v X.env = pure none := by
      rcases Bool.or_eq_true_iff.mp h4 with h4 | h4
      · rcases Bool.or_eq_true_iff.mp h4 with h4 | h4
        · exact sto_none (by simpa using h4)
        · exact sto_nest h4
      · exact sto_fold h4
    exact psI (ps_asg ((good Γ P C N L e).pe sc v X Wx cx tk h3) (pg_ok cx.nm cx.sc cx.nd (cx.cal h5) h1) (sw_tup h2) sto (ase_tup h2)) fun D σ H q => q_asgT q
  · cases h
theorem star_m {l : Expr} (n1 : noStar l = true) : (match l with | .Starred .. => true | _ => false) = false := by
  cases l <;> first | rfl | exact absurd n1 Bool.false_ne_true
theorem sto_pair {x y : Str} {px py p1 p2 : Pos} {k1 k2 : Nat} {l r : Expr} {env : PySem.Env} (kd : env.scope.kind = .function) (hx : env.scope.names.lookup x = some .local) (hy : env.scope.names.lookup y = some .local) (hp : (py.line == px.line) = true) (hxy : x ≠ y)
    (f1 : ([l, r].all (foldedForSure 8)) = false) (f2 : ([l, r].all (constantsAlone 8)) = false) (n1 : noStar l = true) (n2 : noStar r = true) : swappedStores [.Tuple [.Name x px, .Name y py] k1 p1] (.Tuple [l, r] k2 p2) env = pure (some [x, y]) := by
  have kx : env.kindOf x = some .local := hx
  have ky : env.kindOf y = some .local := hy
  have hb : env.blockKind = .function := by unfold Env.blockKind; rw [kd]; rfl
  have hyx : (y == x) = false := by
    cases e : y == x with
    | true => exact absurd (by simpa using e) (Ne.symm hxy)
    | false => rfl
  have hxy' : (x == y) = false := by
    cases e : x == y with
    | true => exact absurd (by simpa using e) hxy
    | false => rfl
  unfold swappedStores
  have hp' : (Expr.pos (.Name x px)).line = px.line := rfl
  simp only [List.length_cons, List.length_nil, hb, f1, f2, kx, ky, Expr.pos, List.head?_cons, Option.map_some, Option.getD_some, List.filterMap_cons, List.filterMap_nil, beq_self_eq_true, Bool.and_self, Bool.and_true, hp, if_true]
  have ed : [x, y].eraseDups = [x, y] := by
    simp [List.eraseDups_cons, List.filter, hyx]
  simp [ed]
  intro q
  rcases q with q | q
  · exfalso
    cases l <;> first | exact absurd n1 Bool.false_ne_true | cases q
  · exfalso
    cases r <;> first | exact absurd n2 Bool.false_ne_true | cases q
theorem notB {b : Bool} (h : (!b) = true) : b = false := by cases b <;> first | rfl | cases h
theorem st_par (i j : Nat) (a b : Ex) : PSg P C N L (.par i j a b) := by
  intro Γ sc st X Wx sx tk h
  have cx := sx.cx
  unfold chkS at h
  split at h
  · rename_i x px y py k1 p1 l r k2 p2 pos
    obtain ⟨h, c14⟩ := and2 h
    obtain ⟨h, c13⟩ := and2 h
    obtain ⟨h, c12⟩ := and2 h
    obtain ⟨h, c11⟩ := and2 h
    obtain ⟨h, c10⟩ := and2 h
    obtain ⟨h, c9⟩ := and2 h
    obtain ⟨h, c8⟩ := and2 h
    obtain ⟨h, c7⟩ := and2 h
    obtain ⟨h, c6⟩ := and2 h
    obtain ⟨h, c5⟩ := and2 h
    obtain ⟨h, c4⟩ := and2 h
    obtain ⟨h, c3⟩ := and2 h
    obtain ⟨c1, c2⟩ := and2 h
    have hx := local_of cx (of_decide_eq_true c4)
    have hy := local_of cx (of_decide_eq_true c5)
    have pa : PA X [l, r] (tEs P C N X.K Wx [a, b]) := paI (pa_cons ((good Γ P C N L a).pe sc l X Wx cx tk c10) (pa_cons ((good Γ P C N L b).pe sc r X Wx cx tk c11) pa_nil (star_of c13)) (star_of c12)) fun σ H Q q => by
      have q1 := s_cons q
      refine q1.imp fun env q => ?_
      obtain ⟨m, M, F, s, q⟩ := q
      exact ⟨m, M, F, s, ERes.imp (fun b H z => by
        obtain ⟨e2, m2, M2, F2, s2, z⟩ := s_cons z
        exact ⟨e2, m2, M2, F2, s2, ERes.imp (fun b H z => s_nil z) z⟩) q⟩
    exact psI (ps_par (cx.cal c14) (by rw [cx.nm]; exact cx.nd) (by rw [cx.nm]; exact of_decide_eq_true c1) (by rw [cx.nm]; exact of_decide_eq_true c2) (of_decide_eq_true c3) hx hy pa (sto_pair sx.kd hx hy c6 (of_decide_eq_true c7) (notB c8) (notB c9) c12 c13)) fun D σ H q => q_par q
  · cases h
theorem st_set (o i e : Ex) : PSg P C N L (.setIdx o i e) := by
  intro Γ sc st X Wx sx tk h
  have cx := sx.cx
  unfold chkS at h
  split at h
  · rename_i l r p v pos
    obtain ⟨h, h4⟩ := and2 h
    obtain ⟨h, h3⟩ := and2 h
    obtain ⟨h1, h2⟩ := and2 h
    exact psI (ps_asg ((good Γ P C N L e).pe sc v X Wx cx tk h3) (pg_sub ((good Γ P C N L o).pe sc l X Wx cx tk h1) ((good Γ P C N L i).pe sc r X Wx cx tk h2) set_list (fun u => by cases r <;> first | rfl | exact absurd h4 Bool.false_ne_true)) (by cases v <;> rfl) (by cases v <;> rfl) rfl) fun D σ H q => q_set q
  · cases h
end
end G

set_option maxHeartbeats 4000000
/-! The checker of statements is sound: the end. -/
namespace G
open PySem PySem.Spec PyProof.Rows L2
section
variable {P : Prog} {C : Calls} {N : Nam} {L : List Str}
theorem st_if {c : Ex} {a b : List G.St} (ha : PSsg P C N L a) (hb : PSsg P C N L b) : PSg P C N L (.ifs c a b) := by
  intro Γ sc st X Wx sx tk h
  unfold chkS at h
  split at h
  · obtain ⟨h, h4⟩ := and2 h
    obtain ⟨h, h3⟩ := and2 h
    obtain ⟨h1, h2⟩ := and2 h
    exact psI (ps_if ((good Γ P C N L c).pt sc _ X Wx sx.cx tk h1 h2).1 (ha Γ sc _ X Wx sx tk h3) (hb Γ sc _ X Wx sx tk h4)) fun D σ H q => q_if q
  · cases h
theorem st_for {t : Tg} {it : Ex} {body : List G.St} (hb : PSsg P C N L body) : PSg P C N L (.for_ t it body) := by
  intro Γ sc st X Wx sx tk h
  unfold chkS at h
  split at h
  · obtain ⟨h, h5⟩ := and2 h
    obtain ⟨h, h4⟩ := and2 h
    obtain ⟨h, h3⟩ := and2 h
    obtain ⟨h1, h2⟩ := and2 h
    exact psI (ps_for (sx.own h1) (sx.cx.cal h1) ((good Γ P C N L it).pi sc _ _ X Wx sx.cx tk h2) (pg_ok sx.cx.nm sx.cx.sc sx.cx.nd (sx.cx.cal h1) h4) (hb Γ sc _ X Wx sx tk h5) (fold_of h3)) fun D σ H q => q_for q
  · cases h
theorem st_while {c : Ex} {body : List G.St} (hb : PSsg P C N L body) : PSg P C N L (.while_ c body) := by
  intro Γ sc st X Wx sx tk h
  unfold chkS at h
  split at h
  · obtain ⟨h, h4⟩ := and2 h
    obtain ⟨h, h3⟩ := and2 h
    obtain ⟨h1, h2⟩ := and2 h
    exact psI (ps_while (sx.own h1) ((good Γ P C N L c).pt sc _ X Wx sx.cx tk h2 h3).1 (hb Γ sc _ X Wx sx tk h4)) fun D σ H q => q_while q
  · cases h
theorem st_ret (e : Ex) : PSg P C N L (.ret e) := by
  intro Γ sc st X Wx sx tk h
  unfold chkS at h
  split at h
  · exact psI (ps_ret ((good Γ P C N L e).pe sc _ X Wx sx.cx tk h)) fun D σ H q => q_ret q
  · cases h
theorem st_retN : PSg P C N L .retN := by
  intro Γ sc st X Wx sx tk h
  unfold chkS at h
  split at h
  · exact psI ps_retN fun D σ H q => q_retN q
  · cases h
theorem st_expr (e : Ex) : PSg P C N L (.expr e) := by
  intro Γ sc st X Wx sx tk h
  unfold chkS at h
  split at h
  · obtain ⟨h1, h2⟩ := and2 h
    exact psI (ps_expr ((good Γ P C N L e).pe sc _ X Wx sx.cx tk h1) (sw_none h2)) fun D σ H q => q_expr q
  · cases h
theorem st_pass : PSg P C N L .pass := by
  intro Γ sc st X Wx sx tk h
  unfold chkS at h
  split at h
  · exact psI ps_pass fun D σ H q => q_pass q
  · cases h
theorem st_brk : PSg P C N L .brk := by
  intro Γ sc st X Wx sx tk h
  unfold chkS at h
  split at h
  · exact psI ps_break fun D σ H q => q_brk q
  · cases h
theorem st_cnt : PSg P C N L .cnt := by
  intro Γ sc st X Wx sx tk h
  unfold chkS at h
  split at h
  · exact psI ps_continue fun D σ H q => q_cnt q
  · cases h
theorem st_no {x : G.St} (h : ∀ Γ sc st, chkS P L x Γ sc st = true → False) : PSg P C N L x := fun Γ sc st X Wx sx tk hc => (h Γ sc st hc).elim
theorem pk_of {Γ : Tab} {isis : List TyC} (e : isis = P.isis) : ∀ {ks : List Ex} {kws : List Keyword} {sc : Scope} {X : Cx} {Wx : WX}, CxOk Γ P C N L sc X → Takes X Wx → chks Γ L isis ks sc (kws.map (·.value)) = true → PK X kws (tEs P C N X.K Wx ks) := fun {ks} => by
  subst e
  induction ks with
  | nil =>
    intro kws sc X Wx cx tk h
    cases kws with
    | nil => exact pkI pk_nil fun _ _ _ q => s_nil q
    | cons k kws => cases h
  | cons x ks ih =>
    intro kws sc X Wx cx tk h
    cases kws with
    | nil => cases h
    | cons k kws =>
      obtain ⟨h1, h3⟩ := and2 (show ((chk Γ L P.isis x sc k.value && noStar k.value) && chks Γ L P.isis ks sc (kws.map (·.value))) = true from h)
      obtain ⟨h1, h2⟩ := and2 h1
      obtain ⟨ka, kv, kp⟩ := k
      exact pkI (pk_cons ((good Γ P C N L x).pe sc kv X Wx cx tk h1) (ih cx tk h3)) fun _ _ _ q => s_cons q
theorem st_raise (c : Nat) (as ks : List Ex) (perm : List Nat) : PSg P C N L (.raise c as ks perm) := by
  intro Γ sc st X Wx sx tk h
  unfold chkS at h
  split at h
  · rename_i x p es kws p2 p3
    obtain ⟨h, h8⟩ := and2 h
    obtain ⟨h, h7⟩ := and2 h
    obtain ⟨h, h6⟩ := and2 h
    obtain ⟨h, h5⟩ := and2 h
    obtain ⟨h, h4⟩ := and2 h
    obtain ⟨h, h3⟩ := and2 h
    obtain ⟨h1, h2⟩ := and2 h
    split at h2
    · rename_i g ps eq
      obtain ⟨q1, q2⟩ := and2 h2
      have e := of_decide_eq_true q1
      subst e
      obtain ⟨k, hk, T⟩ := sx.xs x g ps eq
      obtain ⟨n, hr⟩ := sx.rm h1
      obtain ⟨a1, a2⟩ := star_all h5
      obtain ⟨b1, b2⟩ := star_all h6
      rw [List.length_map] at b2
      exact ps_raiseX hr (sx.cx.cal h1) tk hk T (sx.cx.gl h3) q2 h4 a1 a2 b2 (of_decide_eq_true h7) (of_decide_eq_true h8) (pa_of (goods Γ P C N L as) sc es X Wx sx.cx tk h5) (pk_of rfl sx.cx tk h6)
    · cases h2
  · cases h
theorem st_try {body : List G.St} {hcs : List (Nat × Option Nat)} {sus : List (List G.St)} (hb : PSsg P C N L body) (hh : PHg P C N L sus) : PSg P C N L (.try_ body hcs sus) := by
  intro Γ sc st X Wx sx tk h
  unfold chkS at h
  split at h
  · rename_i x h0 hds p
    obtain ⟨h, h3⟩ := and2 h
    obtain ⟨h1, h2⟩ := and2 h
    exact ps_tryG sx.stk sx.frm sx.ex (by rw [sx.cx.nm]; exact sx.cx.nd) tk (fun W pn xe tk' ow => hb Γ sc x (X.tr pn xe) W (sx.tr ow) tk' h2) (hh hcs Γ sc (h0 :: hds) X sx h3)
  · cases h
theorem pss_of0 : PSsg P C N L [] := by
  intro Γ sc sts X Wx sx tk h
  cases sts with
  | nil => exact pssI pss_nil fun D σ H q => q_nil q
  | cons _ _ => cases h
theorem pss_of1 {x : G.St} {r : List G.St} (hx : PSg P C N L x) (hr : PSsg P C N L r) : PSsg P C N L (x :: r) := by
  intro Γ sc sts X Wx sx tk h
  cases sts with
  | nil => cases h
  | cons st sts =>
    obtain ⟨h1, h2⟩ := and2 (show (chkS P L x Γ sc st && chkSs P L r Γ sc sts) = true from h)
    exact pssI (pss_cons (hx Γ sc st X Wx sx tk h1) (hr Γ sc sts X Wx sx tk h2)) fun D σ H q => q_cons q
theorem ph_of0 : PHg P C N L [] := by
  intro hcs Γ sc hds X sx h
  obtain ⟨h1, h2⟩ := and2 (show (hcs.isEmpty && hds.isEmpty) = true from h)
  obtain rfl : hcs = [] := List.isEmpty_iff.mp h1
  obtain rfl : hds = [] := List.isEmpty_iff.mp h2
  exact .nil
theorem ph_of1 {su : List G.St} {sus : List (List G.St)} (hs : PSsg P C N L su) (hr : PHg P C N L sus) : PHg P C N L (su :: sus) := by
  intro hcs Γ sc hds X sx h
  unfold chkH at h
  split at h
  · rename_i t slot hcs' x np nm b r pos hds'
    obtain ⟨h, h6⟩ := and2 h
    obtain ⟨h, h5⟩ := and2 h
    obtain ⟨h, h4⟩ := and2 h
    obtain ⟨h, h3⟩ := and2 h
    obtain ⟨h1, h2⟩ := and2 h
    obtain ⟨m1, m2⟩ := sx.cx.tn.cls x t (of_decide_eq_true h1)
    have hx : ∀ c k, P.cls c = some k → k.isX = true → PySem.W.exmOne X.K (.ref (N.cA c)) (.ref (N.cA t)) = some (k.anc.contains t) := fun c k h h' => sx.hd c k t h h' h3
    have su' : ∀ (a : Addr) (pn : List (Addr × Obj)), PSs (X.suite a pn) (b :: r) (tSs P C N X.K WF su) := fun a pn => hs Γ.quiet sc (b :: r) (X.suite a pn) WF (sx.suite a pn) suite_takes h5
    have r' := hr hcs' Γ sc hds' X sx h6
    cases slot with
    | none =>
      cases nm with
      | none => exact .plain m1 (sx.cx.gl h2) m2 hx su' r'
      | some _ => cases h4
    | some i =>
      cases nm with
      | none => cases h4
      | some n =>
        obtain ⟨q1, q2⟩ := and2 (show (decide (L[i]? = some n) && decide (sc.names.lookup n = some .local)) = true from h4)
        exact .named m1 (sx.cx.gl h2) m2 hx (by rw [sx.cx.nm]; exact of_decide_eq_true q1) (local_of sx.cx (of_decide_eq_true q2)) su' r'
  · cases h
variable (P C N L)
mutual
theorem ps_of : ∀ x : G.St, PSg P C N L x
  | .asg i e => st_asg i e
  | .asgT t e => st_asgT t e
  | .par i j a b => st_par i j a b
  | .setIdx o i e => st_set o i e
  | .ifs c a b => st_if (pss_of a) (pss_of b)
  | .for_ t it body => st_for (pss_of body)
  | .while_ c body => st_while (pss_of body)
  | .ret e => st_ret e
  | .retN => st_retN
  | .expr e => st_expr e
  | .app _ _ => st_no fun _ _ _ h => by cases h
  | .raise c as ks perm => st_raise c as ks perm
  | .try_ body hcs sus => st_try (pss_of body) (ph_of sus)
  | .pass => st_pass
  | .brk => st_brk
  | .cnt => st_cnt
theorem pss_of : ∀ xs : List G.St, PSsg P C N L xs
  | [] => pss_of0
  | x :: r => pss_of1 (ps_of x) (pss_of r)
theorem ph_of : ∀ sus : List (List G.St), PHg P C N L sus
  | [] => ph_of0
  | su :: sus => ph_of1 (pss_of su) (ph_of sus)
end
end
end G

set_option maxHeartbeats 4000000
/-! The functions of the text keep what the evaluator says. -/
namespace G
open PySem PySem.Spec PyProof.Rows L2

section
variable {N : Nam} {K : PySem.W.Frag} {F : Fx} {H : Hp} {m r : List Addr} {M : Mem}
mutual
theorem RepW.below {F : Hp} : ∀ (w : W) (v : V), RepW N K F (m ++ r) w v → belowW m.length w = true → RepW N K F m w v
  | .p d, v, h, _ => h
  | .loc l, v, h, hb => by
    obtain ⟨a, h1, h2⟩ := h
    have hl : l < m.length := of_decide_eq_true hb
    exact ⟨a, by rw [List.getElem?_append_left hl] at h1; exact h1, h2⟩
  | .tp ws, v, h, hb => by
    obtain ⟨a, ys, h1, h2, h3⟩ := h
    exact ⟨a, ys, h1, h2, RepWs.below ws ys h3 hb⟩
theorem RepWs.below {F : Hp} : ∀ (ws : List W) (vs : List V), RepWs N K F (m ++ r) ws vs → belowWs m.length ws = true → RepWs N K F m ws vs
  | [], [], _, _ => trivial
  | w :: ws, v :: vs, h, hb => by
    obtain ⟨h1, h2⟩ := and2 (show (belowW m.length w && belowWs m.length ws) = true from hb)
    exact ⟨RepW.below w v h.1 h1, RepWs.below ws vs h.2 h2⟩
  | [], _ :: _, h, _ => h.elim
  | _ :: _, [], h, _ => h.elim
end
theorem RepWF.below {F : Hp} {L : Str → Option V} : ∀ (ns : List Nat) (ws : List W), RepWF N K F (m ++ r) ns ws L → belowWs m.length ws = true → RepWF N K F m ns ws L
  | [], [], _, _ => trivial
  | n :: ns, w :: ws, h, hb => by
    obtain ⟨h1, h2⟩ := and2 (show (belowW m.length w && belowWs m.length ws) = true from hb)
    obtain ⟨⟨v, q1, q2⟩, q3⟩ := h
    exact ⟨⟨v, q1, RepW.below w v q2 h1⟩, RepWF.below ns ws q3 h2⟩
  | [], _ :: _, h, _ => h.elim
  | _ :: _, [], h, _ => h.elim
theorem CellOk.below {F : Hp} {a : Addr} : ∀ {c : Cell}, CellOk N K F (m ++ r) H a c → belowC m.length c = true → CellOk N K F m H a c
  | .lst ws, h, hb => by
    obtain ⟨h0, ys, h1, h2⟩ := h
    exact ⟨h0, ys, h1, RepWs.below _ _ h2 hb⟩
  | .ins c ns ws, h, hb => by
    obtain ⟨h0, dx, fs, h1, h2⟩ := h
    exact ⟨h0, dx, fs, h1, RepWF.below _ _ h2 hb⟩
  | .dic ks ws, h, hb => by
    obtain ⟨h0, kvs, h1, h2, h3⟩ := h
    exact ⟨h0, kvs, h1, h2, RepWs.below _ _ h3 hb⟩
  | .fz d, h, hb => h
/-- the places behind go -/
theorem SimM.pop (s : SimM N K (m ++ r) M F H) (hl : m.length ≤ M.length) (hb : (M.take m.length).all (belowC m.length) = true) : SimM N K m (M.take m.length) F H := by
  refine ⟨s.sub, by rw [List.length_take]; omega, fun l a c h1 h2 => ?_, (List.nodup_append.mp s.nd).1, fun a ha => s.live a (List.mem_append_left _ ha), fun a o e => ?_⟩
  · have hlm : l < m.length := (List.getElem?_eq_some_iff.mp h1).1
    have h2' : M[l]? = some c := by rw [List.getElem?_take_of_lt hlm] at h2; exact h2
    have hc := s.cell l a c (by rw [List.getElem?_append_left hlm]; exact h1) h2'
    exact CellOk.below hc (List.all_eq_true.mp hb c (List.mem_of_getElem? h2))
  · obtain ⟨h1, h2, h3⟩ := s.apart a o e
    exact ⟨h1, fun q => h2 (List.mem_append_left _ q), h3⟩
end
/-- what a body must keep so that its call keeps what is said -/
theorem body_res {N : Nam} {K : PySem.W.Frag} {Q : VK} {E : XK} {m : List Addr} {F : Fx} {M : Mem} {pop : Bool} (lm : m.length = M.length) : ∀ {z : SR}, FRes N K Q E m F (fnR pop M z) → SRes N K (fun cls d _ H' => E cls d H') { nx := fun _ H' => Q .non H', rt := Q } m F z := by
  have pp : ∀ {w : W} {M' : Mem}, FRes N K Q E m F (popR M w M') → ∀ v H' m' F', SimM N K m' M' F' H' → RepW N K F' m' w v → Gr m F m' F' → Q v H' := fun {w M'} h v H' m' F' s r g => by
    unfold popR at h
    split at h
    · exact h v H' m' F' s r g
    · split at h
      · rename_i hb
        obtain ⟨h1, h2⟩ := and2 hb
        obtain ⟨⟨x, rfl⟩, g1, g2⟩ := g
        have ml : M'.length = m.length + x.length := by rw [← s.len, List.length_append]
        rw [← lm] at h1 h2 h
        exact h v H' m F' (s.pop (by omega) h2) (RepW.below w v r h1) ⟨⟨[], by simp⟩, g1, g2⟩
      · exact h.elim
  intro z h
  cases z with
  | nx env M' =>
    cases pop with
    | true => exact fun σ' H' m' F' s g => pp h .non H' m' F' s.mem rfl g
    | false => exact fun σ' H' m' F' s g => h .non H' m' F' s.mem rfl g
  | rt w M' =>
    cases pop with
    | true => exact fun v H' m' F' s r g => pp h v H' m' F' s r g
    | false => exact fun v H' m' F' s r g => h v H' m' F' s r g
  | bk env M' => exact h.elim
  | ct env M' => exact h.elim
  | bad => exact h.elim
  | exc c ns vs env M' =>
    intro cls d σ' H' m' F' s g ex
    have h : FRes N K Q E m F (if pop && decide (M.length < M'.length) then (if (M'.take M.length).all (belowC M.length) then .exc c ns vs (M'.take M.length) else .bad) else .exc c ns vs M') := h
    split at h
    · split at h
      · rename_i hb
        obtain ⟨⟨x, rfl⟩, g1, g2⟩ := g
        have ml : M'.length = m.length + x.length := by rw [← s.mem.len, List.length_append]
        rw [← lm] at hb h
        exact h cls d H' m F' (s.mem.pop (by omega) hb) ⟨⟨[], by simp⟩, g1, g2⟩ ex
      · exact h.elim
    · exact h cls d H' m' F' s.mem g ex
theorem fn_ofG {Pr : Program} {w : World} {K : PySem.W.Frag} {mg : Str → Option Value} {base : Heap} {k : Nat} {f : Addr} {nm qual : Str} {params : Arguments} {body : List Stmt} {scope : Scope} {dV kV doc pm cdv ct oc : Value} {an od : Option Addr}
    {osl : Array (Option Value)} {L ps : List Str} {sp : Sp} (lk : K.lookup f = some ⟨oc, od, .func (PySem.W.fnOf nm qual params body scope dV kV doc pm an cdv ct), osl⟩) (hcd : PySem.W.codeIn K cdv qual = true) (S : FnScope L ps scope)
    (len : ∀ vs H Q E, sp vs H Q E → vs.length = ps.length)
    (hbody : ∀ (A : Around) (outer : List PySem.Env) (s : Shared) (H : Hp) (vs : List V) (Q : VK) (E : XK), Room k (A.deeper (envOfC qual scope s.heap.objs.size f cdv)) → A.guards = some [] → sp vs H Q E →
      ∃ t, PSs (cxOf (L2.CX Pr w) Pr w K mg base L qual scope f cdv A outer s H E) body t ∧ t { nx := fun _ H' => Q .non H', rt := Q } (L2.start L vs) H) :
    FnG Pr w K mg base (k + 1) f (PySem.W.fnOf nm qual params body scope dV kV doc pm an cdv ct) ps sp := by
  refine ⟨len, fun A outer s H args us vs Q E hr hg e0 hb r hsp => ?_⟩
  have KX : K.In s.heap := e0.mod.kin.keeps fun b o e => (e0.bs b o e).1
  have lim : s.heap.NoLimit := e0.mod.nolimit.keeps fun b o e => (e0.bs b o e).1
  have kinds : ∀ y ∈ ps.zip us, scope.names.lookup y.1 = some .local ∨ (scope.names.lookup y.1 = some .cell ∧ ((cellsFrom (s.heap.objs.size + 1) scope.names []).lookup y.1).isSome = true) := by
    intro y hy
    obtain ⟨n, v⟩ := y
    rcases S.par n (List.of_mem_zip hy).1 with q | q
    · exact Or.inl q
    · exact Or.inr ⟨q, PySem.W.cellsFrom_some _ _ _ (Or.inl q)⟩
  refine codeAny_call_function hr.depth (KX _ _ lk) rfl S.co S.gen rfl (PySem.W.codeRec_of KX hcd) (hb _ _ _ _ ?_)
  refine wpAny_newFunctionEnv_cells S.kind kinds fun env he s1 x => ?_
  subst he
  refine ⟨lim.keeps x.toInCall.keep, codeAny_func ?_⟩
  obtain ⟨t, ht, hq⟩ := hbody A outer s H vs Q E (hr.deeper _) hg hsp
  have I : L2.Inv (cxOf (L2.CX Pr w) Pr w K mg base L qual scope f cdv A outer s H E) [] (L2.start L vs) H s1 := inv_start S hr.hd e0 (len _ _ _ _ hsp) r x
  refine wpAny_mono (ht.run [] s1 (L2.start L vs) H _ I hq) (fun fl s' hs => ?_) fun e s' hs => hs
  cases fl with
  | ret u =>
    obtain ⟨v, σ', H', J, rv, q⟩ := hs
    exact ⟨v, H', J.os, J.bare, J.base, J.hok, rv, q⟩
  | next =>
    obtain ⟨σ', H', J, q⟩ := hs
    exact ⟨V.non, H', J.os, J.bare, J.base, J.hok, rfl, q⟩
  | brk =>
    obtain ⟨_, _, _, q⟩ := hs
    exact False.elim q
  | cont =>
    obtain ⟨_, _, _, q⟩ := hs
    exact False.elim q
/-- a function of the text against the evaluator's table -/
structure FnTie (Γ : Tab) (P : Prog) (K : PySem.W.Frag) (mg : Str → Option Value) (x : Str) (f : Nat) (ps : List Str) : Prop where
  at_ : ∃ a fd, FnFact K mg x a fd ps ∧ ∃ L d oc od osl nm qual params body scope dV kV doc pm an cdv ct, fd = PySem.W.fnOf nm qual params body scope dV kV doc pm an cdv ct ∧ K.lookup a = some ⟨oc, od, .func fd, osl⟩ ∧
    PySem.W.codeIn K cdv qual = true ∧ FnScope L ps scope ∧ P.fn f = some d ∧ d.par = ps.length ∧ d.slots = L.length ∧ chkSs P L d.body Γ scope body = true
structure ModTie (Γ : Tab) (P : Prog) (N : Nam) (K : PySem.W.Frag) (mg : Str → Option Value) : Prop where
  calm : Γ.calm = true
  tc : TieC P N K
  tn : TieN Γ P N K mg
  fns : ∀ x f ps, Γ.fn.lookup x = some (f, ps) → FnTie Γ P K mg x f ps
  xs : ∀ x c ps, Γ.xs.lookup x = some (c, ps) → ∃ k, P.cls c = some k ∧ XFact K mg N x c ps k.flds
  hd : ∀ c k t, P.cls c = some k → k.isX = true → isXb P t = true → PySem.W.exmOne K (.ref (N.cA c)) (.ref (N.cA t)) = some (k.anc.contains t)
theorem start_rep {N : Nam} {K : PySem.W.Frag} {F : Hp} {m : List Addr} {L : List Str} {ws : List W} {vs : List V} {n : Nat} (r : RepWs N K F m ws vs) (h : n = L.length - vs.length) : RepE N K F m (ws.map some ++ List.replicate n none) (L2.start L vs) := by
  unfold L2.start
  subst h
  refine ⟨by simp [r.length], fun i w e => ?_⟩
  by_cases hi : i < ws.length
  · rw [List.getElem?_append_left (by simpa using hi), List.getElem?_map] at e
    cases e1 : ws[i]? with
    | none => rw [e1] at e; cases e
    | some u =>
      rw [e1] at e
      cases e
      obtain ⟨v, h1, h2⟩ := r.get e1
      exact ⟨v, by rw [List.getElem?_append_left (by simp; rw [← r.length]; exact hi), List.getElem?_map, h1]; rfl, h2⟩
  · rw [List.getElem?_append_right (by simp; omega), List.getElem?_replicate] at e
    split at e <;> cases e
theorem fn_level {Γ : Tab} {P : Prog} {N : Nam} {K : PySem.W.Frag} {mg : Str → Option Value} (T : ModTie Γ P N K mg) (Pr : Program) (w : World) : ∀ (n : Nat) (x : Str) (f : Nat) (ps : List Str), Γ.fn.lookup x = some (f, ps) →
    ∃ a fd, FnFact K mg x a fd ps ∧ ∀ base : Heap, FnG Pr w K mg base (n + 3) a fd ps (spF N K (callF P n) f ps.length)
  | 0, x, f, ps, h => by
    obtain ⟨a, fd, ff, _⟩ := (T.fns x f ps h).at_
    refine ⟨a, fd, ff, fun base => ⟨fun vs H Q E q => q.1, fun A outer s H args us vs Q E hr hg e0 hb r q => ?_⟩⟩
    obtain ⟨_, m, M, F, ws, _, _, q⟩ := q
    exact q.elim
  | n + 1, x, f, ps, h => by
    obtain ⟨a, fd, ff, L, d, oc, od, osl, nm, qual, params, body, scope, dV, kV, doc, pm, an, cdv, ct, rfl, lk, hcd, S, hf, hp, hsl, hchk⟩ := (T.fns x f ps h).at_
    refine ⟨a, _, ff, fun base => fn_ofG lk hcd S (fun vs H Q E q => q.1) fun A outer s H vs Q E hr hg q => ?_⟩
    obtain ⟨hl, m, M, F, ws, sm, rw', q⟩ := q
    have q : FRes N K Q E m F (match P.fn f with
      | some d => if ws.length = d.par then fnR d.pop M (exs P (callF P n) d.body (ws.map some ++ List.replicate (d.slots - d.par) none) M) else .bad
      | none => .bad) := q
    rw [hf] at q
    have hw : ws.length = d.par := by rw [rw'.length, hl, hp]
    have q : FRes N K Q E m F (if ws.length = d.par then fnR d.pop M (exs P (callF P n) d.body (ws.map some ++ List.replicate (d.slots - d.par) none) M) else .bad) := q
    rw [if_pos hw] at q
    have sr := body_res sm.len q
    let X := cxOf (L2.CX Pr w) Pr w K mg base L qual scope a cdv A outer s H E
    have hrX : Room (n + 3) X.A := hr
    have hgX : X.A.guards = some [] := hg
    have tk : Takes X (fun cls d _ H' => E cls d H') := takes_of (X := X) (E := E) rfl rfl rfl rfl
    have cx : CxOk Γ P (callF P n) N L scope X :=
      ⟨rfl, rfl, S.nd, ⟨T.tc.sysm, hgX, by have := hrX.un; show X.A.units + 64 < cLine; omega⟩, T.tc, T.tn, fun _ => rfl, fun _ X' e1 e2 e3 e4 e5 e6 _ _ =>
        call_ok (n := n + 3) (by rw [e6]; exact hrX) (by rw [e6]; exact hgX) fun x' f' ps' h' => by
          rw [e1, e2, e3, e4, e5]
          obtain ⟨a1, fd1, ff1, g1⟩ := fn_level T Pr w n x' f' ps' h'
          exact ⟨a1, fd1, ff1, g1 _⟩⟩
    have sx : StX Γ P (callF P n) N L scope X :=
      ⟨cx, S.kind, fun _ => passes_of (X := X) rfl, rfl, rfl, rfl, fun _ => rfl, T.xs, fun _ => ⟨n + 1, hrX⟩, T.hd⟩
    refine ⟨_, pss_of P (callF P n) N L d.body Γ scope body X _ sx tk hchk, ?_⟩
    have e0 : d.slots - d.par = L.length - vs.length := by rw [hsl, hp, hl]
    exact ⟨_, m, M, F, ⟨sm, start_rep rw' e0⟩, sr⟩
end G

set_option maxHeartbeats 4000000
/-! What the head reads of the module, as one Bool. -/
namespace G
open PySem PySem.Spec PyProof.Rows L2

def oexB (K : PySem.W.Frag) (C : Addr) : Bool := (match K.lookup C with
  | some ⟨.type t, _, .cls cd, sl⟩ => (t == "type") && (match cd.mro, sl.toList with
    | .ref C' :: bm, [_, _, _, _, some (.builtin n), _] => (C' == C) && (n == "ValueError.__new__") && !cd.hasDel && cd.hasDict && PySem.HandSPX.refsVE bm
    | _, _ => false)
  | _ => false) && decide (PySem.W.findIn K (.ref C) "__setattr__" = some (some (.builtin "object.__setattr__"))) && decide (PySem.W.subIn K (.ref C) (.type "BaseException") = some true) && decide (PySem.W.typeIn K (.ref C) = some (.type "type")) && PySem.W.keepIn K (.ref C)
theorem oexB_ok {K : PySem.W.Frag} {C : Addr} (h : oexB K C = true) : OexC K C := by
  unfold oexB at h
  obtain ⟨h, h5⟩ := and2 h
  obtain ⟨h, h4⟩ := and2 h
  obtain ⟨h, h3⟩ := and2 h
  obtain ⟨h1, h2⟩ := and2 h
  refine ⟨?_, of_decide_eq_true h2, of_decide_eq_true h3, of_decide_eq_true h4, h5⟩
  split at h1
  · rename_i t dd cd sl ho
    obtain ⟨q0, q⟩ := and2 h1
    split at q
    · rename_i C' bm k0 k1 k2 k3 n k5 hm hs
      obtain ⟨q, q5⟩ := and2 q
      obtain ⟨q, q4⟩ := and2 q
      obtain ⟨q, q3⟩ := and2 q
      obtain ⟨q1, q2⟩ := and2 q
      have e1 : C' = C := beq_iff_eq.mp q1
      have e2 : n = "ValueError.__new__" := beq_iff_eq.mp q2
      have e0 : t = "type" := beq_iff_eq.mp q0
      subst e0 e1 e2
      obtain ⟨nm, bs, mro, ns, qn, hd, sn, sub, ab, col, del⟩ := cd
      dsimp only at hm q3 q4
      subst hm
      have e3 : del = false := notB q3
      have e4 : hd = true := q4
      subst e3 e4
      have es : sl = #[k0, k1, k2, k3, some (.builtin "ValueError.__new__"), k5] := by
        rw [← hs]
      subst es
      exact ⟨nm, qn, ns, bs, bm, sn, sub, ab, col, dd, k0, k1, k2, k3, k5, ho, q5⟩
    · cases q
  · cases h1
/-- a def's object -/
def fnB (K : PySem.W.Frag) (a : Addr) (ps L : List Str) (B : Scope → List Stmt → Bool) : Bool := match K.lookup a with
  | some ⟨_, _, .func fd, _⟩ => decide (fd.globals = mainGlobals) && fd.closure.isEmpty && decide (fd.builtins = builtinsNs) && decide (fd.defaults = .none) && simpleP ps fd.params && PySem.W.codeIn K fd.code fd.qualname &&
    decide (fd.scope.kind = .function) && !fd.scope.isCoroutine && !fd.scope.isGenerator && decide (L.Nodup) && decide (L.take ps.length = ps) && (ps.all fun x => decide (fd.scope.names.lookup x = some .local) || decide (fd.scope.names.lookup x = some .cell)) && (fd.scope.names.all fun y => decide (y.2 ≠ .free)) && decide (ps.Nodup) &&
    (match fd.body with
    | .stmts body => B fd.scope body
    | _ => false)
  | _ => false
theorem fnB_ok {K : PySem.W.Frag} {a : Addr} {ps L : List Str} {B : Scope → List Stmt → Bool} (h : fnB K a ps L B = true) : ∃ fd oc od osl nm qual params body scope dV kV doc pm an cdv ct, fd = PySem.W.fnOf nm qual params body scope dV kV doc pm an cdv ct ∧ K.lookup a = some ⟨oc, od, .func fd, osl⟩ ∧
    PySem.W.codeIn K cdv qual = true ∧ FnScope L ps scope ∧ simpleP ps params = true ∧ dV = .none ∧ ps.Nodup ∧ B scope body = true := by
  unfold fnB at h
  split at h
  · rename_i oc od fd osl ho
    obtain ⟨nm, qn, pr, bd, sc, gl, cl, df, kd, dc, pm, an, cd, ct, bu⟩ := fd
    obtain ⟨h, c15⟩ := and2 h
    obtain ⟨h, c14⟩ := and2 h
    obtain ⟨h, c13⟩ := and2 h
    obtain ⟨h, c12⟩ := and2 h
    obtain ⟨h, c11⟩ := and2 h
    obtain ⟨h, c10⟩ := and2 h
    obtain ⟨h, c9⟩ := and2 h
    obtain ⟨h, c8⟩ := and2 h
    obtain ⟨h, c7⟩ := and2 h
    obtain ⟨h, c6⟩ := and2 h
    obtain ⟨h, c5⟩ := and2 h
    obtain ⟨h, c4⟩ := and2 h
    obtain ⟨h, c3⟩ := and2 h
    obtain ⟨c1, c2⟩ := and2 h
    have e1 : gl = mainGlobals := of_decide_eq_true c1
    have e2 : cl = [] := List.isEmpty_iff.mp c2
    have e3 : bu = builtinsNs := of_decide_eq_true c3
    have e4 : df = .none := of_decide_eq_true c4
    subst e1 e2 e3 e4
    cases bd with
    | stmts body =>
      refine ⟨_, oc, od, osl, nm, qn, pr, body, sc, .none, kd, dc, pm, an, cd, ct, rfl, ho, c6, ⟨of_decide_eq_true c7, notB c8, notB c9, of_decide_eq_true c10, of_decide_eq_true c11, fun x hx => (Bool.or_eq_true_iff.mp (List.all_eq_true.mp c12 x hx)).imp (fun z => of_decide_eq_true z) (fun z => of_decide_eq_true z), fun y hy => of_decide_eq_true (List.all_eq_true.mp c13 y hy)⟩, c5, rfl, of_decide_eq_true c14, c15⟩
    | _ => cases c15
  · cases h
end G

set_option maxHeartbeats 4000000
/-! The whole tie as one Bool. -/
namespace G
open PySem PySem.Spec PyProof.Rows L2

/-- a law's text, for the evaluator -/
structure Tx where
  fnL : List (Nat × FnDef)
  clsL : List (Nat × ClsDef)
  cnm : List Str
  anm : List Str
  isis : List TyC
  fuel : Nat
  fns : List (Str × (Nat × List Str × List Str))
  exs : List (Str × (Nat × List Str × Str))
  cl : List (Str × Nat)
  fa : List (Str × Nat)
  gv : List (Str × Nat) := []
  glD : List (Nat × D) := []
namespace Tx
variable (T : Tx)
def P : Prog := { fn := fun f => T.fnL.lookup f, clsL := T.clsL, glob := fun g => T.glD.lookup g, isis := T.isis, fuel := T.fuel }
def Γ : Tab := { fn := T.fns.map fun q => (q.1, (q.2.1, q.2.2.1)), cl := T.cl, gv := T.gv, fa := T.fa, xs := T.exs.map fun q => (q.1, (q.2.1, q.2.2.1)), calm := true }
def N (K : PySem.W.Frag) : Nam := { cA := fun c => He.ga K (T.cnm.getD c ""), at_ := fun f => T.anm.getD f "" }
def gloB (K : PySem.W.Frag) (x : Str) : Bool := decide (PySem.W.nsIn K mainGlobals x = some (some (.ref (He.ga K x)))) && !(x == ("__debug__" : Str))
def clsB (K : PySem.W.Frag) (q : Nat × ClsDef) : Bool :=
  (if q.2.isX then xfB K ((T.N K).cA q.1) else (PySem.W.plainGet K ((T.N K).cA q.1) Str.empty && PySem.W.hasDictIn K ((T.N K).cA q.1) && PySem.W.plainOver K ((T.N K).cA q.1) && decide (PySem.W.findIn K (.ref ((T.N K).cA q.1)) "__setattr__" = some (some (.builtin "object.__setattr__"))))) &&
  decide (PySem.W.findIn K (.ref ((T.N K).cA q.1)) "__class__" = some (some (.builtin "object.__class__"))) && decide (PySem.W.mroIn K ((T.N K).cA q.1) (.type "object") = some true) &&
  (q.2.flds.all fun f => decide (PySem.W.findIn K (.ref ((T.N K).cA q.1)) ((T.N K).at_ f) = some none)) &&
  (T.clsL.all fun r => !(q.2.isX && r.2.isX) || decide (PySem.W.exmOne K (.ref ((T.N K).cA q.1)) (.ref ((T.N K).cA r.1)) = some (q.2.anc.contains r.1))) &&
  (T.isis.all fun tc => decide (PySem.W.kitOne K (.ref ((T.N K).cA q.1)) (tycV (T.N K) tc) = some (isT T.P (.own q.1) tc)))
def tyB (K : PySem.W.Frag) (t : Ty) : Bool := T.isis.all fun tc => decide (PySem.W.kitOne K (tyV (T.N K) t) (tycV (T.N K) tc) = some (isT T.P t tc))
def oerrB (K : PySem.W.Frag) : TyC → Bool
  | .oerr n => decide (PySem.W.nsIn K mainGlobals (Str.ofString n) = some none) && decide (bootBuiltins (Str.ofString n) = some (.type n)) && decide (Str.ofString n ≠ "__name__") && !(Str.ofString n == ("__debug__" : Str))
  | _ => true
def fnsB (K : PySem.W.Frag) (q : Str × (Nat × List Str × List Str)) : Bool := gloB K q.1 && PySem.W.keepIn K (.ref (He.ga K q.1)) && (match T.fnL.lookup q.2.1 with
  | some d => decide (d.par = q.2.2.1.length) && decide (d.slots = q.2.2.2.length) && fnB K (He.ga K q.1) q.2.2.1 q.2.2.2 (fun sc body => chkSs T.P q.2.2.2 d.body T.Γ sc body)
  | none => false)
def baseB (K : PySem.W.Frag) (B : Str) : Bool := gloB K B && decide (PySem.W.specialIn K (.ref (He.ga K B)) "__getattribute__" = some (some (.builtin "type.__getattribute__"))) && decide (PySem.W.typeIn K (.ref (He.ga K B)) = some (.type "type")) && PySem.W.readsIn K (He.ga K B) (.type "type") &&
  (match PySem.W.findCls K (.ref (He.ga K B)) (.type "type") "__init__" with
  | some (.val (.builtin n)) => n == "ValueError.__init__"
  | _ => false)
def exsB (K : PySem.W.Frag) (q : Str × (Nat × List Str × Str)) : Bool := gloB K q.1 && decide (T.cnm.getD q.2.1 "" = q.1) && oexB K (He.ga K q.1) && decide (PySem.W.findIn K (.ref (He.ga K q.1)) "__init__" = some (some (.ref (He.ma K (He.ga K q.1) "__init__")))) &&
  decide (PySem.W.typeIn K (.ref (He.ma K (He.ga K q.1) "__init__")) = some (.type "function")) && baseB K q.2.2.2 && (match T.clsL.lookup q.2.1 with
  | some k => decide (q.2.2.1.length = (k.flds.map (T.N K).at_).length) && decide (k.flds.map (T.N K).at_).Nodup && (k.flds.map (T.N K).at_).all (fun f => decide (PySem.W.findIn K (.ref (He.ga K q.1)) f = some none)) &&
    fnB K (He.ma K (He.ga K q.1) "__init__") ("self" :: q.2.2.1) ("self" :: q.2.2.1) (fun sc body => iniB ("self" :: q.2.2.1) sc q.2.2.2 (k.flds.map (T.N K).at_) body)
  | none => false)
/-- a constant of the module -/
def gconB (K : PySem.W.Frag) (q : Str × Nat) : Bool := !(q.1 == ("__debug__" : Str)) && (match PySem.W.nsIn K mainGlobals q.1, T.glD.lookup q.2 with
  | some (some (.int i _)), some (.int j) => decide (i = j)
  | some (some (.str i _)), some (.str j) => decide (i = j)
  | _, _ => false)
def tieB (K : PySem.W.Frag) : Bool := T.gv.all (T.gconB K) && ((K.lookup sysModules).isSome && T.clsL.all (T.clsB K) && [Ty.non, .bool, .int, .str, .tup, .lst, .dct].all (T.tyB K) &&
  decide (PySem.W.specialIn K (.builtin "object.__class__") "__get__" = some (some (.builtin "getset_descriptor.__get__"))) && decide (PySem.W.takesIn K (.builtin "object.__class__") = some true) &&
  freeNs.all (fun x => decide (PySem.W.nsIn K mainGlobals x = some none)) && T.isis.all (oerrB K) && T.cl.all (fun q => decide (T.cnm.getD q.2 "" = q.1) && gloB K q.1) && T.fa.all (fun q => decide (T.anm.getD q.2 "" = q.1)) && T.fns.all (T.fnsB K) && T.exs.all (T.exsB K))
end Tx
section
variable {T : Tx} {K : PySem.W.Frag} {h : Heap} {mg : Str → Option Value}
theorem gloB_ok (X : K.In h) (G : h.Ns mainGlobals mg) {x : Str} (c : Tx.gloB K x = true) : mg x = some (.ref (He.ga K x)) ∧ (x == ("__debug__" : Str)) = false := by
  obtain ⟨c1, c2⟩ := and2 c
  exact ⟨PySem.W.mg_of X G (of_decide_eq_true c1), notB c2⟩
theorem map_lookup {α β : Type} {f : α → β} {x : Str} {b : β} : ∀ {l : List (Str × α)}, (l.map fun q => (q.1, f q.2)).lookup x = some b → ∃ a, (x, a) ∈ l ∧ f a = b
  | [], h => by cases h
  | (k, a) :: l, h => by
    rw [List.map_cons, List.lookup_cons] at h
    cases e : x == k with
    | true =>
      rw [e] at h
      have e : x = k := by simpa using e
      subst e
      exact ⟨a, List.mem_cons_self, Option.some.inj h⟩
    | false =>
      rw [e] at h
      obtain ⟨a', h1, h2⟩ := map_lookup h
      exact ⟨a', List.mem_cons_of_mem _ h1, h2⟩
theorem nat_lookup {α : Type} {c : Nat} {k : α} : ∀ {l : List (Nat × α)}, l.lookup c = some k → (c, k) ∈ l
  | [], h => by cases h
  | (a, b) :: l, h => by
    rw [List.lookup_cons] at h
    cases e : c == a with
    | true =>
      rw [e] at h
      have e : c = a := by simpa using e
      subst e
      cases h
      exact List.mem_cons_self
    | false =>
      rw [e] at h
      exact List.mem_cons_of_mem _ (nat_lookup h)
theorem clsB_ok (c : T.clsL.all (T.clsB K) = true) {i : Nat} {k : ClsDef} (e : T.P.cls i = some k) : T.clsB K (i, k) = true := List.all_eq_true.mp c _ (nat_lookup e)
theorem tie_ok (X : K.In h) (G : h.Ns mainGlobals mg) (c : T.tieB K = true) : ModTie T.Γ T.P (T.N K) K mg := by
  unfold Tx.tieB at c
  obtain ⟨c0, c⟩ := and2 c
  obtain ⟨c, c11⟩ := and2 c
  obtain ⟨c, c10⟩ := and2 c
  obtain ⟨c, c9⟩ := and2 c
  obtain ⟨c, c8⟩ := and2 c
  obtain ⟨c, c7⟩ := and2 c
  obtain ⟨c, c6⟩ := and2 c
  obtain ⟨c, c5⟩ := and2 c
  obtain ⟨c, c4⟩ := and2 c
  obtain ⟨c, c3⟩ := and2 c
  obtain ⟨c1, c2⟩ := and2 c
  have cp : ∀ {i : Nat} {k : ClsDef}, T.P.cls i = some k → _ := fun {i k} e => clsB_ok c2 e
  have tyb : ∀ t : Ty, t ∈ [Ty.non, .bool, .int, .str, .tup, .lst, .dct] → T.tyB K t = true := fun t ht => List.all_eq_true.mp c3 t ht
  refine ⟨rfl, ⟨c1, fun i k e hx => ?_, fun i k e hx => ?_, ⟨of_decide_eq_true c4, of_decide_eq_true c5⟩, fun tc htc t ho => ?_, fun i k f e hf => ?_⟩, ⟨fun x hx => ?_, fun n hn => ?_, fun x i e => ?_, fun x g e => ?_, fun x f e => ?_⟩, fun x f ps e => ?_, fun x i ps e => ?_, fun i k t e hx ht => ?_⟩
  · have b := cp e
    unfold Tx.clsB at b
    obtain ⟨b, b6⟩ := and2 b
    obtain ⟨b, b5⟩ := and2 b
    obtain ⟨b, b4⟩ := and2 b
    obtain ⟨b, b3⟩ := and2 b
    obtain ⟨b1, b2⟩ := and2 b
    have b1 : (if k.isX = true then xfB K ((T.N K).cA i) else (PySem.W.plainGet K ((T.N K).cA i) Str.empty && PySem.W.hasDictIn K ((T.N K).cA i) && PySem.W.plainOver K ((T.N K).cA i) && decide (PySem.W.findIn K (.ref ((T.N K).cA i)) "__setattr__" = some (some (.builtin "object.__setattr__"))))) = true := b1
    rw [hx, if_neg Bool.false_ne_true] at b1
    obtain ⟨d, d4⟩ := and2 b1
    obtain ⟨d, d3⟩ := and2 d
    obtain ⟨d1, d2⟩ := and2 d
    exact ⟨⟨d1, d2, d3, of_decide_eq_true d4⟩, of_decide_eq_true b2, of_decide_eq_true b3⟩
  · have b := cp e
    unfold Tx.clsB at b
    obtain ⟨b, b6⟩ := and2 b
    obtain ⟨b, b5⟩ := and2 b
    obtain ⟨b, b4⟩ := and2 b
    obtain ⟨b, b3⟩ := and2 b
    obtain ⟨b1, b2⟩ := and2 b
    have b1 : (if k.isX = true then xfB K ((T.N K).cA i) else (PySem.W.plainGet K ((T.N K).cA i) Str.empty && PySem.W.hasDictIn K ((T.N K).cA i) && PySem.W.plainOver K ((T.N K).cA i) && decide (PySem.W.findIn K (.ref ((T.N K).cA i)) "__setattr__" = some (some (.builtin "object.__setattr__"))))) = true := b1
    rw [hx, if_pos rfl] at b1
    exact ⟨xfB_ok b1, of_decide_eq_true b2, of_decide_eq_true b3⟩
  · have hm : tc ∈ T.isis := List.contains_iff_mem.mp htc
    have base : ∀ t : Ty, t ∈ [Ty.non, .bool, .int, .str, .tup, .lst, .dct] → PySem.W.kitOne K (tyV (T.N K) t) (tycV (T.N K) tc) = some (isT T.P t tc) := fun t ht => of_decide_eq_true (List.all_eq_true.mp (tyb t ht) tc hm)
    cases t with
    | own i =>
      obtain ⟨k, e⟩ := ho i rfl
      have b := cp e
      unfold Tx.clsB at b
      exact of_decide_eq_true (List.all_eq_true.mp (and2 b).2 tc hm)
    | non => exact base _ (by simp)
    | bool => exact base _ (by simp)
    | int => exact base _ (by simp)
    | str => exact base _ (by simp)
    | tup => exact base _ (by simp)
    | lst => exact base _ (by simp)
    | dct => exact base _ (by simp)
  · have b := cp e
    unfold Tx.clsB at b
    obtain ⟨b, b6⟩ := and2 b
    obtain ⟨b, b5⟩ := and2 b
    obtain ⟨b, b4⟩ := and2 b
    exact of_decide_eq_true (List.all_eq_true.mp b4 f (by simpa using hf))
  · exact PySem.W.mg_none_of X G (of_decide_eq_true (List.all_eq_true.mp c6 x hx))
  · have b : Tx.oerrB K (.oerr n) = true := List.all_eq_true.mp c7 _ hn
    obtain ⟨b, b4⟩ := and2 b
    obtain ⟨b, b3⟩ := and2 b
    obtain ⟨b1, b2⟩ := and2 b
    exact ⟨PySem.W.mg_none_of X G (of_decide_eq_true b1), of_decide_eq_true b2, of_decide_eq_true b3, notB b4⟩
  · have b := List.all_eq_true.mp c8 (x, i) (PySem.mem_of_lookup (show T.cl.lookup x = some i from e))
    obtain ⟨b1, b2⟩ := and2 b
    have b1 : T.cnm.getD i "" = x := of_decide_eq_true b1
    obtain ⟨q1, q2⟩ := gloB_ok X G b2
    refine ⟨?_, q2⟩
    show mg x = some (.ref (He.ga K (T.cnm.getD i "")))
    rw [b1]
    exact q1
  · have b := List.all_eq_true.mp c0 (x, g) (PySem.mem_of_lookup (show T.gv.lookup x = some g from e))
    obtain ⟨b1, b2⟩ := and2 b
    refine ⟨notB b1, ?_⟩
    dsimp only at b2
    split at b2
    · rename_i i t j n1 n2
      have z := of_decide_eq_true b2
      subst z
      refine ⟨_, .int i, PySem.W.mg_of X G n1, ⟨t, rfl⟩, fun d hd F => ?_⟩
      have hd : T.glD.lookup g = some d := hd
      rw [n2] at hd
      cases hd
      exact rfl
    · rename_i i t j n1 n2
      have z := of_decide_eq_true b2
      subst z
      refine ⟨_, .str i, PySem.W.mg_of X G n1, ⟨t, rfl⟩, fun d hd F => ?_⟩
      have hd : T.glD.lookup g = some d := hd
      rw [n2] at hd
      cases hd
      exact rfl
    · cases b2
  · exact of_decide_eq_true (List.all_eq_true.mp c9 (x, f) (PySem.mem_of_lookup (show T.fa.lookup x = some f from e)))
  · obtain ⟨q, hq, e2⟩ := map_lookup (f := fun q : Nat × List Str × List Str => (q.1, q.2.1)) e
    obtain ⟨i, ps', L⟩ := q
    cases e2
    have b := List.all_eq_true.mp c10 _ hq
    unfold Tx.fnsB at b
    obtain ⟨b, b3⟩ := and2 b
    obtain ⟨b1, b2⟩ := and2 b
    obtain ⟨m1, m2⟩ := gloB_ok X G b1
    dsimp only at b3
    split at b3
    · rename_i d hd
      obtain ⟨b3, d3⟩ := and2 b3
      obtain ⟨d1, d2⟩ := and2 b3
      obtain ⟨fd, oc, od, osl, nm, qual, params, body, scope, dV, kV, doc, pm, an, cdv, ct, rfl, lk, hcd, S, sp, dn, nd, hb⟩ := fnB_ok d3
      exact ⟨⟨_, _, ⟨m1, m2, b2, sp, dn, nd⟩, L, d, oc, od, osl, nm, qual, params, body, scope, dV, kV, doc, pm, an, cdv, ct, rfl, lk, hcd, S, hd, of_decide_eq_true d1, of_decide_eq_true d2, hb⟩⟩
    · cases b3
  · obtain ⟨q, hq, e2⟩ := map_lookup (f := fun q : Nat × List Str × Str => (q.1, q.2.1)) e
    obtain ⟨j, ps', B⟩ := q
    cases e2
    have b := List.all_eq_true.mp c11 _ hq
    unfold Tx.exsB at b
    obtain ⟨b, b7⟩ := and2 b
    obtain ⟨b, b6⟩ := and2 b
    obtain ⟨b, b5⟩ := and2 b
    obtain ⟨b, b4⟩ := and2 b
    obtain ⟨b, b3⟩ := and2 b
    obtain ⟨b1, b2⟩ := and2 b
    obtain ⟨m1, m2⟩ := gloB_ok X G b1
    have b2 : T.cnm.getD j "" = x := of_decide_eq_true b2
    have ea : (T.N K).cA j = He.ga K x := by show He.ga K (T.cnm.getD j "") = _; rw [b2]
    dsimp only at b7
    split at b7
    · rename_i k hk
      obtain ⟨b7, d4⟩ := and2 b7
      obtain ⟨b7, d3⟩ := and2 b7
      obtain ⟨d1, d2⟩ := and2 b7
      obtain ⟨fd, oc, od, osl, nm, qual, params, body, scope, dV, kV, doc, pm, an, cdv, ct, rfl, lk, hcd, S, sp, dn, nd, hb⟩ := fnB_ok d4
      unfold Tx.baseB at b6
      obtain ⟨b6, f5⟩ := and2 b6
      obtain ⟨b6, f4⟩ := and2 b6
      obtain ⟨b6, f3⟩ := and2 b6
      obtain ⟨f1, f2⟩ := and2 b6
      obtain ⟨n1, n2⟩ := gloB_ok X G f1
      have f5' : PySem.W.findCls K (.ref (He.ga K B)) (.type "type") "__init__" = some (.val (.builtin "ValueError.__init__")) := by
        split at f5
        · rename_i n en
          have e : n = "ValueError.__init__" := beq_iff_eq.mp f5
          rw [en, e]
        · cases f5
      refine ⟨k, hk, ⟨by rw [ea]; exact m1, m2, He.ma K (He.ga K x) "__init__", PySem.W.fnOf nm qual params body scope dV kV doc pm an cdv ct, ?_⟩⟩
      rw [ea]
      exact ⟨oexB_ok b3, of_decide_eq_true b4, of_decide_eq_true b5, ⟨oc, od, osl, nm, qual, params, body, scope, dV, kV, doc, pm, an, cdv, ct, "self" :: ps', B, He.ga K B, "self", rfl, lk, hcd, S, rfl, sp, dn, hb, ⟨n1, n2, of_decide_eq_true f2, of_decide_eq_true f3, f4, f5'⟩⟩,
        of_decide_eq_true d1, of_decide_eq_true d2, fun f hf => of_decide_eq_true (List.all_eq_true.mp d3 f hf)⟩
    · cases b7
  · have b := cp e
    unfold Tx.clsB at b
    obtain ⟨b, b6⟩ := and2 b
    obtain ⟨b, b5⟩ := and2 b
    unfold isXb at ht
    split at ht
    · rename_i kt et
      have z := List.all_eq_true.mp b5 (t, kt) (nat_lookup et)
      have z : (!(k.isX && kt.isX) || decide (PySem.W.exmOne K (.ref ((T.N K).cA i)) (.ref ((T.N K).cA t)) = some (k.anc.contains t))) = true := z
      rw [hx, ht] at z
      simpa using z
    · cases ht
end
end G

set_option maxHeartbeats 4000000
/-! The head: a law by the evaluator's answer. -/
namespace G
open PySem PySem.Spec PyProof.Rows L2

def noLists (K : PySem.W.Frag) : Bool := K.all fun p => !(p.2.cls == .type "list")
theorem noLists_at {K : PySem.W.Frag} (h : noLists K = true) {a : Addr} {o : Obj} (e : K.lookup a = some o) : o.cls ≠ .type "list" := by
  have m : (a, o) ∈ K := by
    clear h
    induction K with
    | nil => cases e
    | cons p K ih =>
      obtain ⟨b, u⟩ := p
      rw [List.lookup_cons] at e
      cases q : a == b with
      | true =>
        rw [q] at e
        have q : a = b := by simpa using q
        subst q
        cases e
        exact List.mem_cons_self
      | false =>
        rw [q] at e
        exact List.mem_cons_of_mem _ (ih e)
  have z := notB (List.all_eq_true.mp h _ m)
  exact fun q => by
    have z : (o.cls == .type "list") = false := z
    rw [q] at z
    exact absurd z (by decide)
def asX (g : Addr → Option Obj) (n : Nat) : List Addr := (sysModules :: cStatics :: He.asD g n).filter fun a => match g a with
  | some o => !(o.cls == .type "list")
  | none => false
def headB (T : Tx) (K : PySem.W.Frag) : Bool := T.tieB K && noLists K
def obsX (n : Nat) (T : Tx) (g : Addr → Option Obj) : Bool := headB T (He.frG g (asX g n))
def hookX (n : Nat) (T : Tx) : PySem.W.Hook where
  α := Bool
  obs := fun s => obsX n T s.heap.get?
  val := fun _ => true
  says := fun _ h => ∃ K : PySem.W.Frag, K.In h ∧ headB T K = true
  of := fun _ _ e => ⟨_, He.frG_in, e⟩
  keeps := fun _ _ _ ⟨K, hK, c⟩ k => ⟨K, PySem.W.Frag.In.keeps hK k, c⟩
theorem obsX_eq {n : Nat} {T : Tx} {g : Addr → Option Obj} {s : Shared} (h : ∀ a, g a = s.heap.get? a) : obsX n T g = (hookX n T).obs s := by
  rw [show g = s.heap.get? from funext h] <;> rfl
theorem reps_ints {N : Nam} {K : PySem.W.Frag} {F : Hp} : ∀ ns : List Int, Reps N K F (ns.map D.int) (ns.map V.int)
  | [] => trivial
  | n :: ns => ⟨rfl, reps_ints ns⟩
theorem callG {P : Prog} {N : Nam} {Pr : Program} {w : World} {K : PySem.W.Frag} {mg mb : Str → Option Value} {k n f : Nat} {fa a : Addr} {fd : FuncData} {x : Str} {s₁ : Shared} {vs : List Value} {ns : List Int} (KX : K.In s₁.heap) (nl : noLists K = true) (gns : s₁.heap.Ns mainGlobals mg) (bns : s₁.heap.Ns builtinsNs mb)
    (hbb : ∀ y : Str, y ≠ "__name__" → mb y = bootBuiltins y) (lim : s₁.heap.NoLimit) (gen : s₁.gens = #[]) (ha : s₁.heap.get? a = some { cls := .type "list", data := .seq vs.toArray }) (hi : IntsAre vs ns) (hl : ns.length ≤ sizeLine) (hr : Room k callerA)
    (FG : ∀ base : Heap, FnG Pr w K mg base k fa fd [x] (spF N K (callF P n) f 1)) (hbind : ∀ (s : Shared) (u : Value), BindsTo s fd ⟨[u], []⟩ [(x, u)]) (ans : ∃ M, callF P n f [.p (.lst (ns.map D.int))] [] = .ok (.p (.bl true)) M) :
    codeAny (model Pr w) callerA (.call (.ref fa) ⟨[.ref a], []⟩) (fun r s' => r = .ok (.ret (.bool true)) ∧ OldK s₁.heap s'.heap ∧ s'.os = s₁.os ∧ AllBare s'.gens) s₁ := by
  have rv := vals_ints hi
  have nK : K.lookup a = none := by
    cases e : K.lookup a with
    | none => rfl
    | some o =>
      have z := KX a o e
      rw [ha] at z
      cases z
      exact absurd rfl (noLists_at nl e)
  obtain ⟨oa, hoa⟩ : ∃ oa : Obj, oa = { cls := .type "list", data := .seq vs.toArray } := ⟨_, rfl⟩
  rw [← hoa] at ha
  obtain ⟨H, hH⟩ : ∃ H : Hp, H = fun b => if b = a then some (.frz oa (.lst (ns.map V.int))) else none := ⟨_, rfl⟩
  have Ha : H a = some (.frz oa (.lst (ns.map V.int))) := by rw [hH]; exact if_pos rfl
  have Hb : ∀ {b : Addr}, b ≠ a → H b = none := fun {b} q => by rw [hH]; exact if_neg q
  have hok : HOk Pr w H s₁.heap := fun b u e => by
    by_cases q : b = a
    · subst q
      rw [Ha] at e
      cases e
      exact ⟨ha, by rw [List.length_map]; exact hl, vs, _, rv, by rw [ha, hoa]⟩
    · rw [Hb q] at e
      cases e
  have keepB : ∀ {b : Addr} {o : Obj}, s₁.heap.get? b = some o → b ≠ a → (hidT s₁.heap H).get? b = some o := fun e q => hidT_get e (Hb q)
  have nsB : ∀ {b : Addr} {m : Str → Option Value}, s₁.heap.Ns b m → (hidT s₁.heap H).Ns b m := fun {b m} h => by
    obtain ⟨o, es, ep, e, d, r⟩ := h
    refine ⟨o, es, ep, keepB e fun q => ?_, d, r⟩
    rw [q, ha] at e
    cases e
    rw [hoa] at d
    cases d
  have inB : K.In (hidT s₁.heap H) := fun b o e => keepB (KX b o e) fun q => by rw [q, nK] at e; cases e
  have mod : Mod K mg (hidT s₁.heap H) := ⟨inB, nsB gns, ⟨mb, nsB bns, hbb⟩, by
    obtain ⟨mc, h1, h2⟩ := lim
    exact ⟨mc, nsB h1, h2⟩⟩
  have e0 : Env0 Pr w K mg (hidT s₁.heap H) callerA [] s₁ H := ⟨rfl, mod, fun b o e => of_hidT e, Nat.le_of_eq (hidT_size _ _), trivial, fun b hb => absurd (show b ∈ ([] : List Addr) from hb) (by simp), hok, .of_eq gen⟩
  obtain ⟨M, ans⟩ := ans
  have sim : SimM N K [] [] ⟨H, fun _ => none⟩ H := ⟨Xt.refl H, rfl, fun l b c h => by simp at h, List.nodup_nil, (fun b hb => by cases hb), (fun b o e => by cases e)⟩
  have sp : spF N K (callF P n) f 1 [.ref a] H (fun v _ => v = .bl true) fun _ _ _ => False := by
    refine ⟨rfl, [], [], ⟨H, fun _ => none⟩, [.p (.lst (ns.map D.int))], sim, ⟨⟨a, ns.map V.int, rfl, .inr ⟨oa, Ha⟩, reps_ints ns⟩, trivial⟩, ?_⟩
    rw [ans]
    exact fun v H' m' F' s r g => r
  refine codeAny_mono ((FG (hidT s₁.heap H)).run callerA [] s₁ H ⟨[.ref a], []⟩ [.ref a] [.ref a] _ _ hr rfl e0 (hbind s₁ (.ref a)) (.cons rfl .nil) sp) fun r s' h => ?_
  cases r with
  | error e =>
    obtain ⟨_, _, _, _, _, _, _, _, _, _, _, _, z⟩ := h
    exact z.elim
  | ok fl =>
    cases fl with
    | next => exact False.elim h
    | brk => exact False.elim h
    | cont => exact False.elim h
    | ret u =>
      obtain ⟨v, H', os, bare, un, hok', r', q⟩ := h
      have q : v = .bl true := q
      subst q
      have eu : u = Value.bool true := r'
      refine ⟨by rw [eu], OldK.of_keep fun b o e => ?_, os, bare⟩
      by_cases q : b = a
      · subst q
        obtain ⟨z, _⟩ := hok' b _ (un.frzs b oa _ Ha)
        rw [ha] at e
        cases e
        exact z
      · exact un.keep b o e (Hb q) (by intro z; exact absurd (show b ∈ ([] : List Addr) from z) (by simp)) (by simp)
theorem walk_X {l : PySem.W.OpenLaw} {n N0 m f : Nat} {q : Program} {loose : List Str} {XP : (Str → Option Value) → Heap → Prop} {d : DefRec} {x : Str} {T : Tx} (hn : l.most = some n) (hn2 : n ≤ sizeLine) (hdf : d.params.defaults = []) (hd : d.name = ("law" : Str)) (hr : Room (N0 + 3) callerA)
    (hf : T.Γ.fn.lookup ("law" : Str) = some (f, [x])) (ans : ∀ ns : List Int, ns.length ≤ n → ∃ M, callF T.P N0 f [.p (.lst (ns.map D.int))] [] = .ok (.p (.bl true)) M) :
    PySem.W.WalkO q loose XP (hookX m T).says l.row.toRowW d [] (fun f vs => PySem.call f vs) := by
  refine Att.attach_call hn hdf fun w s₀ s₁ mg mb fa o pm cd doc a vs ns G Y ho hdd hcd hmg hobj hints hlen hg => ?_
  obtain ⟨K, KX, hK⟩ := Y
  obtain ⟨h1, h2⟩ := and2 (show (T.tieB K && noLists K) = true from hK)
  have M := tie_ok (T := T) KX G.T.g h1
  obtain ⟨a', fd, ff, g⟩ := fn_level M l.prog w N0 "law" f [x] hf
  have ea : a' = fa := by
    have z := ff.mg
    rw [← hd, hmg] at z
    cases z
    rfl
  subst ea
  refine callG KX h2 G.T.g G.T.b G.T.builtins G.T.nolimit hg hobj hints (Nat.le_trans hlen hn2) hr (fun base => g base) (fun s u => ?_) (ans ns hlen)
  exact BindsTo.of_eq (bind_simple (us := [u]) (ws := []) (ks := []) (perm := []) ff.simp ff.dfl ff.nd (by rfl) rfl)
end G

/-! The evaluator by equations: lazily. -/
namespace G
def SR.andT (z : SR) (k : Env → Mem → SR) : SR := match z with
  | .nx e M => k e M
  | z => z
@[simp] theorem SR.andT_nx (e : Env) (M : Mem) (k : Env → Mem → SR) : (SR.nx e M).andT k = k e M := rfl
@[simp] theorem SR.andT_rt (w : W) (M : Mem) (k : Env → Mem → SR) : (SR.rt w M).andT k = .rt w M := rfl
@[simp] theorem SR.andT_bk (e : Env) (M : Mem) (k : Env → Mem → SR) : (SR.bk e M).andT k = .bk e M := rfl
@[simp] theorem SR.andT_ct (e : Env) (M : Mem) (k : Env → Mem → SR) : (SR.ct e M).andT k = .ct e M := rfl
@[simp] theorem SR.andT_exc (c : Nat) (ns : List Nat) (vs : List D) (e : Env) (M : Mem) (k : Env → Mem → SR) : (SR.exc c ns vs e M).andT k = .exc c ns vs e M := rfl
@[simp] theorem SR.andT_bad (k : Env → Mem → SR) : SR.bad.andT k = .bad := rfl
theorem SR.andT_congr {z z' : SR} {k : Env → Mem → SR} (h : z = z') : z.andT k = z'.andT k := by rw [h]
theorem Res.bind_congr {α β : Type} {r r' : Res α} {f : α → Mem → Res β} (h : r = r') : r.bind f = r'.bind f := by rw [h]
theorem Res.st_congr {α : Type} {env : Env} {r r' : Res α} {f : α → Mem → SR} (h : r = r') : r.st env f = r'.st env f := by rw [h]
@[simp] theorem Res.st_ok {α : Type} (env : Env) (a : α) (M : Mem) (f : α → Mem → SR) : (Res.ok a M).st env f = f a M := rfl
@[simp] theorem Res.st_exc {α : Type} (env : Env) (c : Nat) (ns : List Nat) (vs : List D) (M : Mem) (f : α → Mem → SR) : (Res.exc c ns vs M).st env f = .exc c ns vs env M := rfl
@[simp] theorem Res.st_bad {α : Type} (env : Env) (f : α → Mem → SR) : (Res.bad : Res α).st env f = .bad := rfl
/-- by a test -/
def c3 {α : Type} (o : Option Bool) (a b : Unit → α) (c : α) : α := match o with
  | some true => a ()
  | some false => b ()
  | none => c
@[simp] theorem c3_t {α : Type} (a b : Unit → α) (c : α) : c3 (some true) a b c = a () := rfl
@[simp] theorem c3_f {α : Type} (a b : Unit → α) (c : α) : c3 (some false) a b c = b () := rfl
@[simp] theorem c3_n {α : Type} (a b : Unit → α) (c : α) : c3 none a b c = c := rfl
theorem c3_congr {α : Type} {o o' : Option Bool} {a b : Unit → α} {c : α} (h : o = o') : c3 o a b c = c3 o' a b c := by rw [h]
theorem c3_d {α : Type} (p : Bool) (a b : Unit → α) (c : α) : c3 (some p) a b c = if p = true then a () else b () := by cases p <;> rfl
section
variable (P : Prog) (C : Calls) (env : Env) (M : Mem)
@[simp] theorem ev_var (i : Nat) : ev P C (.var i) env M = Res.of ((getV env i).map (rd M)) M := rfl
@[simp] theorem ev_int (i : Int) : ev P C (.int i) env M = .ok (.p (.int i)) M := rfl
@[simp] theorem ev_str (i : PySem.Str) : ev P C (.str i) env M = .ok (.p (.str i)) M := rfl
@[simp] theorem ev_bl (i : Bool) : ev P C (.bl i) env M = .ok (.p (.bl i)) M := rfl
@[simp] theorem ev_non : ev P C .non env M = .ok (.p .non) M := rfl
@[simp] theorem ev_glob (g : Nat) : ev P C (.glob g) env M = Res.of ((P.glob g).map .p) M := rfl
@[simp] theorem ev_tup (es : List Ex) : ev P C (.tup es) env M = (evs P C es env M).bind fun ws M => .ok (mkTup ws) M := rfl
@[simp] theorem ev_lst (es : List Ex) : ev P C (.lst es) env M = (evs P C es env M).bind fun ws M => Res.of (mkLst ws) M := rfl
@[simp] theorem ev_lstL (es : List Ex) : ev P C (.lstL es) env M = (evs P C es env M).bind fun ws M => .ok (.loc M.length) (M ++ [.lst ws]) := rfl
@[simp] theorem ev_dct (ks vs : List Ex) : ev P C (.dct ks vs) env M = (evs P C ks env M).bind fun ws M => (evs P C vs env M).bind fun us M => match W.pures ws, W.pures us with
    | some a, some b => .ok (.p (.dct a b)) M
    | _, _ => .bad := rfl
@[simp] theorem ev_bin (o : Bop) (a b : Ex) : ev P C (.bin o a b) env M = (ev P C a env M).bind fun x M => (ev P C b env M).bind fun y M => Res.of (binW M o x y) M := rfl
@[simp] theorem ev_neg (a : Ex) : ev P C (.neg a) env M = (ev P C a env M).bind fun x M => match x with
    | .p (.int i) => .ok (.p (.int (-i))) M
    | _ => .bad := rfl
@[simp] theorem ev_not (a : Ex) : ev P C (.not a) env M = (ev P C a env M).bind fun x M => Res.of ((tru M x).map fun b => .p (.bl !b)) M := rfl
@[simp] theorem ev_cmp (o : Cop) (a b : Ex) : ev P C (.cmp o a b) env M = (ev P C a env M).bind fun x M => (ev P C b env M).bind fun y M => Res.of ((cmpW M o x y).map fun b => .p (.bl b)) M := rfl
@[simp] theorem ev_and (a b : Ex) : ev P C (.and a b) env M = (ev P C a env M).bind fun x M => c3 (tru M x) (fun _ => ev P C b env M) (fun _ => .ok x M) .bad := by
  show ((ev P C a env M).bind _) = _
  congr 1
@[simp] theorem ev_or (a b : Ex) : ev P C (.or a b) env M = (ev P C a env M).bind fun x M => c3 (tru M x) (fun _ => .ok x M) (fun _ => ev P C b env M) .bad := by
  show ((ev P C a env M).bind _) = _
  congr 1
@[simp] theorem ev_ite (c a b : Ex) : ev P C (.ite c a b) env M = (ev P C c env M).bind fun x M => c3 (tru M x) (fun _ => ev P C a env M) (fun _ => ev P C b env M) .bad := by
  show ((ev P C c env M).bind _) = _
  congr 1
@[simp] theorem ev_idx (a i : Ex) : ev P C (.idx a i) env M = (ev P C a env M).bind fun x M => (ev P C i env M).bind fun y M => Res.of ((idxW M x y).map (rd M)) M := rfl
@[simp] theorem ev_slc (a : Ex) (lo hi : List Ex) : ev P C (.slc a lo hi) env M = (ev P C a env M).bind fun x M => (evs P C lo env M).bind fun l M => (Res.of (oneInt l) M).bind fun l M => (evs P C hi env M).bind fun h M => (Res.of (oneInt h) M).bind fun h M => Res.of (slcW M x l h) M := rfl
@[simp] theorem ev_att (a : Ex) (f : Nat) : ev P C (.att a f) env M = (ev P C a env M).bind fun x M => Res.of ((attW P M x f).map (rd M)) M := rfl
@[simp] theorem ev_call (f : Nat) (as ks : List Ex) (pm : List Nat) : ev P C (.call f as ks pm) env M = (evs P C as env M).bind fun ws M => (evs P C ks env M).bind fun us M => C f (permW (ws ++ us) pm) M := rfl
@[simp] theorem ev_blt (b : Blt) (as : List Ex) : ev P C (.blt b as) env M = (evs P C as env M).bind fun ws M => Res.of (bltW M b ws) M := rfl
@[simp] theorem ev_mth (m : Mth) (o a : Ex) : ev P C (.mth m o a) env M = (ev P C o env M).bind fun x M => match x with
    | .p (.str s) => (ev P C a env M).bind fun y M => Res.of (mthW m s y) M
    | _ => .bad := rfl
@[simp] theorem ev_fstr (es : List Ex) : ev P C (.fstr es) env M = evJ P C es PySem.Str.empty env M := rfl
@[simp] theorem evJ_nil (acc : PySem.Str) : evJ P C [] acc env M = .ok (.p (.str acc)) M := rfl
@[simp] theorem evJ_cons (e : Ex) (r : List Ex) (acc : PySem.Str) : evJ P C (e :: r) acc env M = (ev P C e env M).bind fun w M => match w with
    | .p (.str s) => if szOk (acc ++ s).length then evJ P C r (acc ++ s) env M else .bad
    | _ => .bad := rfl
@[simp] theorem ev_fmt (a : Ex) : ev P C (.fmt a) env M = (ev P C a env M).bind fun x M => Res.of (fmtW x) M := rfl
@[simp] theorem ev_isi (a : Ex) (cs : List TyC) : ev P C (.isi a cs) env M = (ev P C a env M).bind fun x M => Res.of ((isiW P M x cs).map fun b => .p (.bl b)) M := rfl
@[simp] theorem ev_it (a : Ex) : ev P C (.it a) env M = ev P C a env M := rfl
@[simp] theorem evs_nil : evs P C [] env M = .ok [] M := rfl
@[simp] theorem evs_cons (e : Ex) (r : List Ex) : evs P C (e :: r) env M = (ev P C e env M).bind fun w M => (evs P C r env M).bind fun ws M => .ok (w :: ws) M := rfl
@[simp] theorem exs_nil : exs P C [] env M = .nx env M := rfl
@[simp] theorem exs_cons (s : St) (r : List St) : exs P C (s :: r) env M = (ex P C s env M).andT (exs P C r) := rfl
@[simp] theorem ex_asg (i : Nat) (e : Ex) : ex P C (.asg i e) env M = (ev P C e env M).st env fun w M => .nx (env.set i (some w)) M := rfl
@[simp] theorem ex_asgT (t : Tg) (e : Ex) : ex P C (.asgT t e) env M = (ev P C e env M).st env fun w M => match give t w env with
    | some env' => .nx env' M
    | none => .bad := rfl
@[simp] theorem ex_par (i j : Nat) (a b : Ex) : ex P C (.par i j a b) env M = (ev P C a env M).st env fun x M => (ev P C b env M).st env fun y M => .nx ((env.set i (some x)).set j (some y)) M := rfl
@[simp] theorem ex_setIdx (o i e : Ex) : ex P C (.setIdx o i e) env M = (ev P C e env M).st env fun v M => (ev P C o env M).st env fun a M => (ev P C i env M).st env fun k M => match setCell M a k v with
    | some M' => .nx env M'
    | none => .bad := rfl
@[simp] theorem ex_ifs (c : Ex) (a b : List St) : ex P C (.ifs c a b) env M = (ev P C c env M).st env fun x M => c3 (tru M x) (fun _ => exs P C a env M) (fun _ => exs P C b env M) .bad := by
  show (Res.st env (ev P C c env M) _) = _
  congr 1
@[simp] theorem ex_ret (e : Ex) : ex P C (.ret e) env M = (ev P C e env M).st env fun w M => .rt w M := rfl
@[simp] theorem ex_retN : ex P C .retN env M = .rt (.p .non) M := rfl
@[simp] theorem ex_expr (e : Ex) : ex P C (.expr e) env M = (ev P C e env M).st env fun _ M => .nx env M := rfl
@[simp] theorem ex_pass : ex P C .pass env M = .nx env M := rfl
@[simp] theorem ex_raise (c : Nat) (as ks : List Ex) (pm : List Nat) : ex P C (.raise c as ks pm) env M = (evs P C as env M).st env fun ws M => (evs P C ks env M).st env fun us M =>
    match P.cls c, W.pures (permW (ws ++ us) pm) with
    | some k, some vs => if k.flds.length = vs.length ∧ k.isX = true then .exc c k.flds vs env M else .bad
    | _, _ => .bad := rfl
end
end G

set_option maxHeartbeats 4000000
/-! Lemmas about plain data for pure laws: texts, numbers as rational numbers. -/
namespace G
open PySem PySem.StrLaws
def big : Nat := 2 ^ 1900
theorem big_10 : big ≤ 10 ^ 599 := by decide +kernel
mutual
def dl : D → Nat
  | .non => 4
  | .bl _ => 5
  | .int _ => 600
  | .str s => 10 * s.cps.size + 2
  | .tup xs => dls xs + 3
  | .lst xs => dls xs + 3
  | _ => 4
def dls : List D → Nat
  | [] => 0
  | x :: r => dl x + 2 + dls r
end
mutual
def small : Nat → D → Bool
  | _, .non => true
  | _, .bl _ => true
  | _, .int i => decide (i.natAbs < big)
  | _, .str s => PyData.strOk s
  | n, .tup xs => match n with
    | 0 => false
    | n + 1 => smalls n xs
  | n, .lst xs => match n with
    | 0 => false
    | n + 1 => smalls n xs
  | _, _ => false
def smalls : Nat → List D → Bool
  | _, [] => true
  | n, d :: r => small n d && smalls n r
end
theorem log_of {a k : Nat} (h : a < 2 ^ k) (hk : 0 < k) : a.log2 < k := by
  by_cases z : a = 0
  · subst z
    simpa using hk
  · exact (Nat.log2_lt z).mpr h
mutual
theorem small_show : ∀ (d : D) (n : Nat), small n d = true → showOk n d = true
  | .non, n, h => by cases n <;> rfl
  | .bl _, n, h => by cases n <;> rfl
  | .str _, n, h => by cases n <;> rfl
  | .int i, n, h => by
    have h : i.natAbs < big := by cases n <;> exact of_decide_eq_true h
    have h2 : i.natAbs.log2 < 1900 := log_of h (by decide)
    have h3 : decide (i.natAbs.log2 < 1920) = true := decide_eq_true (by omega)
    cases n <;> exact h3
  | .tup xs, n, h => by
    cases n with
    | zero => cases h
    | succ n => exact smalls_show xs n h
  | .lst xs, n, h => by
    cases n with
    | zero => cases h
    | succ n => exact smalls_show xs n h
  | .dct _ _, n, h => by cases n <;> cases h
  | .obj _ _ _, n, h => by cases n <;> cases h
  | .exc _ _ _, n, h => by cases n <;> cases h
theorem smalls_show : ∀ (ds : List D) (n : Nat), smalls n ds = true → showOks n ds = true
  | [], n, h => by cases n <;> rfl
  | d :: ds, n, h => by
    obtain ⟨h1, h2⟩ := Bool.and_eq_true_iff.mp (show (small n d && smalls n ds) = true by cases n <;> exact h)
    have z : (showOk n d && showOks n ds) = true := by rw [small_show d n h1, smalls_show ds n h2]; rfl
    cases n <;> exact z
end
mutual
theorem small_len : ∀ (d : D) (n : Nat), small n d = true → (toPy d).shown.length ≤ dl d
  | .non, n, h => by
    show (PyData.shown .none).length ≤ 4
    exact Nat.le_of_eq rfl
  | .bl b, n, h => by
    show (PyData.shown (.bool b)).length ≤ 5
    cases b <;> decide
  | .str s, n, h => by
    have h1 : PyData.strOk s = true := by cases n <;> exact h
    have h0 : ∀ c ∈ s.cps.toList, c < 16 ^ 8 := by
      intro c hcm
      have := (Array.all_eq_true_iff_forall_mem.mp h1) c (Array.mem_toList_iff.mp hcm)
      have h2 : c < 0x110000 := by simpa using this
      have e : (16 : Nat) ^ 8 = 4294967296 := by decide
      omega
    have e := reprText_len s h0
    show (PyData.shown (.str s)).length ≤ 10 * s.cps.size + 2
    simp only [PyData.shown]
    exact e
  | .int i, n, h => by
    have h : i.natAbs < big := by cases n <;> exact of_decide_eq_true h
    have e := int_text_length_le10 (k := 599) (by decide) (Nat.lt_of_lt_of_le h big_10)
    show (PyData.shown (.int i)).length ≤ 600
    show (Str.ofString (toString i)).length ≤ 600
    rw [ofString_length]
    exact e
  | .tup xs, n, h => by
    cases n with
    | zero => cases h
    | succ n =>
      have e := tupleText_len_le (PyData.shownAll (toPys xs))
      have e2 := smalls_len xs n h
      show (PyData.shown (.tuple (toPys xs))).length ≤ dls xs + 3
      simp only [PyData.shown]
      omega
  | .lst xs, n, h => by
    cases n with
    | zero => cases h
    | succ n =>
      have e := listText_len_le (PyData.shownAll (toPys xs))
      have e2 := smalls_len xs n h
      show (PyData.shown (.list (toPys xs))).length ≤ dls xs + 3
      simp only [PyData.shown]
      omega
  | .dct _ _, n, h => by cases n <;> cases h
  | .obj _ _ _, n, h => by cases n <;> cases h
  | .exc _ _ _, n, h => by cases n <;> cases h
theorem smalls_len : ∀ (ds : List D) (n : Nat), smalls n ds = true → ((PyData.shownAll (toPys ds)).map (·.length)).sum + 2 * (PyData.shownAll (toPys ds)).length ≤ dls ds
  | [], n, h => Nat.le_refl 0
  | d :: ds, n, h => by
    obtain ⟨h1, h2⟩ := Bool.and_eq_true_iff.mp (show (small n d && smalls n ds) = true by cases n <;> exact h)
    have e1 := small_len d n h1
    have e2 := smalls_len ds n h2
    show (((toPy d).shown :: PyData.shownAll (toPys ds)).map (·.length)).sum + 2 * ((toPy d).shown :: PyData.shownAll (toPys ds)).length ≤ dl d + 2 + dls ds
    simp only [List.map_cons, List.sum_cons, List.length_cons]
    omega
end
theorem repr_ok {d : D} {M : Mem} (h : small 60 d = true) (hl : dl d ≤ 100000) : bltW M .repr [.p d] = some (.p (.str (reprD d))) := by
  show (if showOk 60 d && szOk (reprD d).length then some (W.p (.str (reprD d))) else none) = _
  rw [small_show d 60 h, show szOk (reprD d).length = true from decide_eq_true (Nat.le_trans (small_len d 60 h) hl)]
  rfl
/-! numbers -/
def nd (q : Rat) : D := if q.den = 1 then .int q.num else .tup [.int q.num, .int q.den]
def sz (q : Rat) (k : Nat) : Prop := q.num.natAbs < 2 ^ k ∧ q.den < 2 ^ k
theorem sz_mono {q : Rat} {k l : Nat} (h : sz q k) (hk : k ≤ l) : sz q l :=
  ⟨Nat.lt_of_lt_of_le h.1 (Nat.pow_le_pow_right (by decide) hk), Nat.lt_of_lt_of_le h.2 (Nat.pow_le_pow_right (by decide) hk)⟩
theorem mul_lt_pow {a b k l : Nat} (h1 : a < 2 ^ k) (h2 : b < 2 ^ l) : a * b < 2 ^ (k + l) := by
  rw [Nat.pow_add]
  exact Nat.mul_lt_mul'' h1 h2
theorem den_pos' (q : Rat) : 0 < q.den := q.den_pos
theorem num_eq_divInt {a b : Int} (hb : b ≠ 0) : ((Rat.divInt a b).num, ((Rat.divInt a b).den : Int)) = if 0 < b then (a / (Nat.gcd a.natAbs b.natAbs : Nat), b / (Nat.gcd a.natAbs b.natAbs : Nat)) else (-(a / (Nat.gcd a.natAbs b.natAbs : Nat)), -(b / (Nat.gcd a.natAbs b.natAbs : Nat))) := by
  have hg : b.gcd a = Nat.gcd a.natAbs b.natAbs := Nat.gcd_comm _ _
  have da : ((Nat.gcd a.natAbs b.natAbs : Nat) : Int) ∣ a := Int.ofNat_dvd_left.mpr (Nat.gcd_dvd_left _ _)
  have db : ((Nat.gcd a.natAbs b.natAbs : Nat) : Int) ∣ b := Int.ofNat_dvd_left.mpr (Nat.gcd_dvd_right _ _)
  rw [Rat.num_divInt, Rat.den_divInt, if_neg hb, hg, Int.natCast_ediv]
  by_cases h : 0 < b
  · rw [if_pos h, Int.sign_eq_one_of_pos h, Int.one_mul]
    have e : (b.natAbs : Int) = b := by omega
    rw [e]
  · have h' : b < 0 := by omega
    rw [if_neg h, Int.sign_eq_neg_one_of_neg h', Int.neg_one_mul, Int.neg_ediv_of_dvd da]
    have e : (b.natAbs : Int) = -b := by omega
    rw [e, Int.neg_ediv_of_dvd db]
theorem sz_divInt {a b : Int} {k : Nat} (hb : b ≠ 0) (h1 : a.natAbs < 2 ^ k) (h2 : b.natAbs < 2 ^ k) : sz (Rat.divInt a b) k := by
  have n1 : (Rat.divInt a b).num.natAbs ≤ a.natAbs := by
    rw [Rat.num_divInt]
    have e : (b.sign * a).natAbs = a.natAbs := by
      rw [Int.natAbs_mul, Int.natAbs_sign, if_neg hb, Nat.one_mul]
    calc (b.sign * a / (b.gcd a : Nat)).natAbs ≤ (b.sign * a).natAbs := Int.natAbs_ediv_le_natAbs _ _
      _ = a.natAbs := e
  have n2 : (Rat.divInt a b).den ≤ b.natAbs := by
    rw [Rat.den_divInt, if_neg hb]
    exact Nat.div_le_self _ _
  exact ⟨Nat.lt_of_le_of_lt n1 h1, Nat.lt_of_le_of_lt n2 h2⟩
theorem add_lt_pow {a b k : Nat} (h1 : a < 2 ^ k) (h2 : b < 2 ^ k) : a + b < 2 ^ (k + 1) := by
  rw [Nat.pow_succ]
  omega
theorem sz_add {p q : Rat} {k l : Nat} (h1 : sz p k) (h2 : sz q l) : sz (p + q) (k + l + 1) := by
  have e : p + q = Rat.divInt (p.num * q.den + q.num * p.den) ((p.den * q.den : Nat) : Int) := by
    rw [Rat.add_def', Rat.divInt_ofNat]
  have d0 : ((p.den * q.den : Nat) : Int) ≠ 0 := by
    have := Nat.mul_pos p.den_pos q.den_pos
    omega
  rw [e]
  refine sz_divInt d0 ?_ ?_
  · refine Nat.lt_of_le_of_lt (Int.natAbs_add_le _ _) ?_
    rw [Int.natAbs_mul, Int.natAbs_mul, Int.natAbs_natCast, Int.natAbs_natCast]
    refine add_lt_pow (mul_lt_pow h1.1 h2.2) ?_
    rw [Nat.add_comm k l]
    exact mul_lt_pow h2.1 h1.2
  · rw [Int.natAbs_natCast]
    exact Nat.lt_of_lt_of_le (mul_lt_pow h1.2 h2.2) (Nat.pow_le_pow_right (by decide) (by omega))
theorem sz_mul {p q : Rat} {k l : Nat} (h1 : sz p k) (h2 : sz q l) : sz (p * q) (k + l) := by
  have e : p * q = Rat.divInt (p.num * q.num) ((p.den * q.den : Nat) : Int) := by
    rw [Rat.mul_def', Rat.divInt_ofNat]
  have d0 : ((p.den * q.den : Nat) : Int) ≠ 0 := by
    have := Nat.mul_pos p.den_pos q.den_pos
    omega
  rw [e]
  refine sz_divInt d0 ?_ ?_
  · rw [Int.natAbs_mul]
    exact mul_lt_pow h1.1 h2.1
  · rw [Int.natAbs_natCast]
    exact mul_lt_pow h1.2 h2.2
theorem sz_neg {p : Rat} {k : Nat} (h : sz p k) : sz (-p) k := by
  unfold sz
  rw [Rat.neg_num, Rat.neg_den, Int.natAbs_neg]
  exact h
theorem sz_0 {k : Nat} (hk : 0 < k) : sz 0 k := ⟨by show 0 < 2 ^ k; exact Nat.pow_pos (by decide), by show 1 < 2 ^ k; exact Nat.one_lt_two_pow (by omega)⟩
theorem small_nd {q : Rat} {k n : Nat} (h : sz q k) (hk : k ≤ 1900) : small (n + 1) (nd q) = true := by
  have h1 : q.num.natAbs < big := (sz_mono h hk).1
  have h2 : (q.den : Int).natAbs < big := by rw [Int.natAbs_natCast]; exact (sz_mono h hk).2
  unfold nd
  split
  · exact decide_eq_true h1
  · show (small n (.int q.num) && (small n (.int q.den) && smalls n [])) = true
    have e1 : small n (.int q.num) = true := by cases n <;> exact decide_eq_true h1
    have e2 : small n (.int (q.den : Int)) = true := by cases n <;> exact decide_eq_true h2
    have e3 : smalls n [] = true := by cases n <;> rfl
    rw [e1, e2, e3]
    rfl
theorem dl_nd (q : Rat) : dl (nd q) ≤ 1207 := by
  unfold nd
  split
  · exact (by decide : 600 ≤ 1207)
  · exact (by decide : 600 + 2 + (600 + 2 + 0) + 3 ≤ 1207)
end G

set_option maxHeartbeats 4000000
/-! Texts: cuts, the first of a sign, numbers written and read. -/
namespace G
open PySem PySem.StrLaws PySem.Builtin.Str PySem.NumText
/-- the text of some signs -/
def sl (l : List Nat) : Str := ⟨l.toArray⟩
theorem sl_list (l : List Nat) : (sl l).cps.toList = l := by simp [sl]
theorem sl_of (s : Str) : sl s.cps.toList = s := by cases s; simp [sl]
theorem sl_len (l : List Nat) : (sl l).length = l.length := by simp [sl, Str.length]
theorem len_list (s : Str) : s.cps.toList.length = s.length := by simp [Str.length]
theorem sl_app (a b : List Nat) : sl a ++ sl b = sl (a ++ b) := by
  show (⟨(sl a).cps ++ (sl b).cps⟩ : Str) = _
  simp [sl]
theorem str_ext {a b : Str} (h : a.cps.toList = b.cps.toList) : a = b := by rw [← sl_of a, ← sl_of b, h]
theorem sl_inj {a b : List Nat} (h : sl a = sl b) : a = b := by rw [← sl_list a, ← sl_list b, h]
theorem cut_none (l : List Nat) (n : Nat) : L2.cutS (sl l) none (some (n : Int)) = sl (l.take n) := by
  apply str_ext
  rw [sl_list]
  unfold L2.cutS
  rw [HT.sIx_none, HT.sIx_nat, sl_len, sl_list, List.drop_zero, Nat.sub_zero]
  show (l.take (min n l.length)).toArray.toList = _
  rw [List.toList_toArray]
  by_cases h : n ≤ l.length
  · rw [Nat.min_eq_left h]
  · rw [Nat.min_eq_right (by omega), List.take_of_length_le (Nat.le_refl _), List.take_of_length_le (by omega)]
theorem cut_from (l : List Nat) (n : Nat) : L2.cutS (sl l) (some (n : Int)) none = sl (l.drop n) := by
  apply str_ext
  rw [sl_list]
  unfold L2.cutS
  rw [HT.sIx_none, HT.sIx_nat, sl_len, sl_list]
  show ((l.drop (min n l.length)).take (l.length - min n l.length)).toArray.toList = _
  rw [List.toList_toArray]
  by_cases h : n ≤ l.length
  · rw [Nat.min_eq_left h, List.take_of_length_le (by rw [List.length_drop]; omega)]
  · rw [Nat.min_eq_right (by omega), List.drop_length, List.take_nil, List.drop_eq_nil_of_le (by omega)]
/-! the first of a sign -/
theorem first_cases (l : List Nat) (c : Nat) : (c ∉ l ∧ Txt.find (sl l) ⟨#[c]⟩ = -1 ∧ Txt.partition (sl l) ⟨#[c]⟩ = (sl l, Str.empty, Str.empty)) ∨
    ∃ i : Nat, l[i]? = some c ∧ (∀ k, k < i → l[k]? ≠ some c) ∧ Txt.find (sl l) ⟨#[c]⟩ = (i : Int) ∧ Txt.partition (sl l) ⟨#[c]⟩ = (sl (l.take i), ⟨#[c]⟩, sl (l.drop (i + 1))) := by
  have at1 : ∀ i, At (sl l) ⟨#[c]⟩ (sl l).length i ↔ l[i]? = some c := fun i => by
    have := subAt_one (sl l) c i
    rw [sl_list] at this
    exact this
  rcases occ_head (sl l) ⟨#[c]⟩ 1 (Nat.le_refl 1) with ⟨h0, hn⟩ | ⟨i, r, h0, hi, hn⟩
  · refine .inl ⟨fun hm => ?_, ?_, ?_⟩
    · obtain ⟨i, hi⟩ := List.mem_iff_getElem?.mp hm
      exact hn i ((at1 i).mpr hi)
    · unfold Txt.find
      rw [h0]
    · unfold Txt.partition
      rw [h0]
  · have hi' := (at1 i).mp hi
    have hlt : i < l.length := (List.getElem?_eq_some_iff.mp hi').1
    refine .inr ⟨i, hi', fun k hk e => hn k hk ((at1 k).mpr e), ?_, ?_⟩
    · unfold Txt.find
      rw [h0]
    · have e1 : strSub (sl l) 0 i = sl (l.take i) := by
        apply str_ext
        rw [strSub_toList, sl_list, sl_list, List.drop_zero, Nat.sub_zero]
      have e2 : strSub (sl l) (i + 1) (sl l).length = sl (l.drop (i + 1)) := by
        apply str_ext
        rw [strSub_toList, sl_list, sl_list, sl_len, List.take_of_length_le (by rw [List.length_drop]; omega)]
      unfold Txt.partition
      rw [h0, ← e1, ← e2]
      rfl
/-! a number's signs -/
def digs (l : List Nat) : Bool := l.all fun c => decide (48 ≤ c ∧ c ≤ 57)
/-- without its minus -/
def bare (l : List Nat) : List Nat := match l with
  | 45 :: r => r
  | l => l
def intOf (l : List Nat) : Option Int :=
  if bare l = [] ∨ 60 < (bare l).length ∨ digs (bare l) = false then none
  else if (bare l).head? = some 48 ∧ l ≠ [48] then none
  else intText? (sl l)
theorem all_digits {l : List Nat} (h : digs l = true) : AllDigits l := fun c hc => by
  have := List.all_eq_true.mp h c hc
  simpa using this
theorem val_lt : ∀ (l : List Nat) (a k : Nat), digs l = true → a < 10 ^ k → l.foldl (fun acc c => acc * 10 + (c - 48)) a < 10 ^ (k + l.length)
  | [], a, k, _, h => h
  | c :: l, a, k, hd, h => by
    have hd : (decide (48 ≤ c ∧ c ≤ 57) && digs l) = true := hd
    rw [Bool.and_eq_true] at hd
    have hc : 48 ≤ c ∧ c ≤ 57 := by simpa using hd.1
    rw [List.foldl_cons, List.length_cons]
    have := val_lt l (a * 10 + (c - 48)) (k + 1) hd.2 (by rw [Nat.pow_succ]; omega)
    rw [show k + (l.length + 1) = k + 1 + l.length by omega]
    exact this
theorem int_some {l : List Nat} (h0 : bare l ≠ []) (h1 : (bare l).length ≤ 60) (h2 : digs (bare l) = true) : ∃ i : Int, intText? (sl l) = some i ∧ i.natAbs < 10 ^ 60 := by
  have hv : digitsVal (bare l) < 10 ^ 60 := by
    have := val_lt (bare l) 0 0 h2 (by decide)
    exact Nat.lt_of_lt_of_le this (Nat.pow_le_pow_right (by decide) (by omega))
  by_cases hm : ∃ r, l = 45 :: r
  · obtain ⟨r, rfl⟩ := hm
    exact ⟨_, intText_neg (sl_list _) (all_digits h2) h0 (by rw [sl_len, List.length_cons]; have : r.length ≤ 60 := h1; omega), by rw [Int.natAbs_neg]; exact hv⟩
  · have hb : bare l = l := by
      unfold bare
      split
      · exact absurd ⟨_, rfl⟩ hm
      · rfl
    rw [hb] at h0 h1 h2 hv
    exact ⟨_, intText_digits (by rw [sl_list]; exact all_digits h2) (by rw [sl_list]; exact h0) (by rw [sl_len]; omega), by rw [sl_list]; exact hv⟩
theorem intOf_lt {l : List Nat} {i : Int} (h : intOf l = some i) : i.natAbs < 10 ^ 60 := by
  unfold intOf at h
  split at h
  · cases h
  · rename_i h1
    split at h
    · cases h
    · have a1 : bare l ≠ [] := fun z => h1 (.inl z)
      have a2 : (bare l).length ≤ 60 := Nat.le_of_not_lt fun z => h1 (.inr (.inl z))
      have a3 : digs (bare l) = true := by
        cases z : digs (bare l) with
        | true => rfl
        | false => exact absurd (.inr (.inr z)) h1
      obtain ⟨j, e, hj⟩ := int_some a1 a2 a3
      rw [e] at h
      cases h
      exact hj
/-! a number, written -/
def dg (m : Nat) : List Nat := (Nat.toDigits 10 m).map Char.toNat
def wr (i : Int) : List Nat := if 0 ≤ i then dg i.natAbs else 45 :: dg i.natAbs
theorem dg_step {m : Nat} (h : ¬ m < 10) : dg m = dg (m / 10) ++ dg (m % 10) := by
  have hm : m % 10 < 10 := Nat.mod_lt m (by decide)
  have t : Nat.toDigits 10 (m / 10) ++ Nat.toDigits 10 (m % 10) = Nat.toDigits 10 (10 * (m / 10) + m % 10) := Nat.toDigits_append_toDigits (by decide) (by omega) hm
  rw [Nat.div_add_mod] at t
  unfold dg
  rw [← t, List.map_append]
theorem dg_small {m : Nat} (h : m < 10) : dg m = [48 + m] := by
  unfold dg
  rw [Nat.toDigits_of_lt_base h]
  have : m = 0 ∨ m = 1 ∨ m = 2 ∨ m = 3 ∨ m = 4 ∨ m = 5 ∨ m = 6 ∨ m = 7 ∨ m = 8 ∨ m = 9 := by omega
  rcases this with rfl | rfl | rfl | rfl | rfl | rfl | rfl | rfl | rfl | rfl <;> rfl
theorem dg_facts : ∀ (k m : Nat), m < 10 ^ (k + 1) → dg m ≠ [] ∧ (dg m).length ≤ k + 1 ∧ digs (dg m) = true ∧ ((dg m).head? = some 48 → m = 0)
  | k, m, h => by
    by_cases hm : m < 10
    · rw [dg_small hm]
      refine ⟨by simp, by simp, ?_, fun e => ?_⟩
      · show (decide (48 ≤ 48 + m ∧ 48 + m ≤ 57) && true) = true
        rw [decide_eq_true (by omega)]
        rfl
      · simp at e
        omega
    · cases k with
      | zero => simp at h; omega
      | succ k =>
        have h1 : m / 10 < 10 ^ (k + 1) := by
          rw [Nat.pow_succ] at h
          exact (Nat.div_lt_iff_lt_mul (by decide)).mpr h
        obtain ⟨a1, a2, a3, a4⟩ := dg_facts k (m / 10) h1
        have hl : m % 10 < 10 := Nat.mod_lt m (by decide)
        rw [dg_step hm, dg_small hl]
        refine ⟨by simp, by rw [List.length_append]; simp; omega, ?_, fun e => ?_⟩
        · unfold digs at a3 ⊢
          rw [List.all_append, a3]
          show (true && (decide (48 ≤ 48 + m % 10 ∧ 48 + m % 10 ≤ 57) && true)) = true
          rw [decide_eq_true (by omega)]
          rfl
        · have : (dg (m / 10)).head? = some 48 := by
            cases hd : dg (m / 10) with
            | nil => exact absurd hd a1
            | cons x xs =>
              rw [hd] at e
              simpa using e
          have := a4 this
          omega
theorem toString_nat (m : Nat) : Str.ofString (toString ((m : Nat) : Int)) = sl (dg m) := by
  apply str_ext
  rw [sl_list]
  exact PySem.W.KIN.signs_num m
theorem toString_wr (i : Int) : Str.ofString (toString i) = sl (wr i) := by
  cases i with
  | ofNat m =>
    have : wr (Int.ofNat m) = dg m := by
      unfold wr
      rw [if_pos (show (0 : Int) ≤ Int.ofNat m from Int.natCast_nonneg m)]
      rfl
    rw [this]
    exact toString_nat m
  | negSucc m =>
    have e : wr (Int.negSucc m) = 45 :: dg (m + 1) := by
      unfold wr
      rw [if_neg (by omega)]
      rfl
    rw [e]
    apply str_ext
    rw [sl_list]
    have h := PySem.W.KIN.signs_num (m + 1)
    rw [PyProof.Rows.signs_ofString] at h ⊢
    show ("-" ++ Nat.repr (m + 1)).toList.map Char.toNat = _
    have h2 : (Nat.repr (m + 1)).toList.map Char.toNat = (Nat.toDigits 10 (m + 1)).map Char.toNat := h
    rw [String.toList_append, List.map_append, h2]
    rfl
theorem bare_dg {m : Nat} (h : m < 10 ^ 60) : bare (dg m) = dg m := by
  obtain ⟨a1, a2, a3, a4⟩ := dg_facts 59 m h
  unfold bare
  split
  · rename_i r e
    rw [e] at a3
    exact absurd a3 (by simp [digs])
  · rfl
theorem intOf_wr {i : Int} (h : i.natAbs < 10 ^ 60) : intOf (wr i) = some i := by
  obtain ⟨a1, a2, a3, a4⟩ := dg_facts 59 i.natAbs h
  have hb : bare (wr i) = dg i.natAbs := by
    unfold wr
    split
    · exact bare_dg h
    · rfl
  have c1 : ¬ (bare (wr i) = [] ∨ 60 < (bare (wr i)).length ∨ digs (bare (wr i)) = false) := by
    rw [hb]
    rintro (z | z | z)
    · exact a1 z
    · omega
    · rw [a3] at z; cases z
  have c2 : ¬ ((bare (wr i)).head? = some 48 ∧ wr i ≠ [48]) := by
    rw [hb]
    rintro ⟨z1, z2⟩
    have z3 := a4 z1
    apply z2
    have : i = 0 := by omega
    subst this
    rfl
  unfold intOf
  rw [if_neg c1, if_neg c2]
  by_cases hi : 0 ≤ i
  · have e : wr i = dg i.natAbs := by unfold wr; rw [if_pos hi]
    rw [e, intText_digits (by rw [sl_list]; exact all_digits a3) (by rw [sl_list]; exact a1) (by rw [sl_len]; omega), sl_list]
    have v := PySem.W.KIN.val_back i.natAbs
    have v : digitsVal (dg i.natAbs) = i.natAbs := v
    rw [v]
    congr 1
    omega
  · have e : wr i = 45 :: dg i.natAbs := by unfold wr; rw [if_neg hi]
    rw [e, intText_neg (sl_list _) (all_digits a3) a1 (by rw [sl_len, List.length_cons]; omega)]
    have v : digitsVal (dg i.natAbs) = i.natAbs := PySem.W.KIN.val_back i.natAbs
    rw [v]
    congr 1
    omega
theorem no_bar {i : Int} (h : i.natAbs < 10 ^ 60) : 47 ∉ wr i := by
  obtain ⟨a1, a2, a3, a4⟩ := dg_facts 59 i.natAbs h
  have k : 47 ∉ dg i.natAbs := fun z => by
    have := List.all_eq_true.mp a3 47 z
    simp at this
  unfold wr
  split
  · exact k
  · intro z
    rcases List.mem_cons.mp z with z | z
    · cases z
    · exact k z
theorem wr_len {i : Int} (h : i.natAbs < 10 ^ 60) : (wr i).length ≤ 61 := by
  obtain ⟨a1, a2, a3, a4⟩ := dg_facts 59 i.natAbs h
  unfold wr
  split
  · omega
  · rw [List.length_cons]; omega
end G

set_option maxHeartbeats 0
namespace K04
open G
def b_is_integer : List G.St := [
  .ret (.and (.isi (.var 0) [.int]) (.not (.isi (.var 0) [.bool])))]
def b_is_within : List G.St := [
  .ifs (.not (.call 0 [(.var 0)] [] [])) [.ret (.bl false)] [],
  .ret (.and (.or (.cmp .is (.var 1) .non) (.cmp .le (.var 1) (.var 0))) (.or (.cmp .is (.var 2) .non) (.cmp .le (.var 0) (.var 2))))]
def b_is_list : List G.St := [
  .ret (.isi (.var 0) [.list, .tuple])]
def b_common : List G.St := [
  .par 0 1 (.blt .abs [(.var 0)]) (.blt .abs [(.var 1)]),
  .while_ (.cmp .gt (.var 1) (.int 0)) [.par 0 1 (.var 1) (.bin .mod (.var 0) (.var 1))],
  .ret (.var 0)]
def b_is_number : List G.St := [
  .ifs (.call 0 [(.var 0)] [] []) [.ret (.bl true)] [],
  .ifs (.or (.not (.call 2 [(.var 0)] [] [])) (.or (.cmp .ne (.blt .len [(.var 0)]) (.int 2)) (.not (.call 0 [(.idx (.var 0) (.int 0))] [] [])))) [.ret (.bl false)] [],
  .ret (.and (.call 1 [(.idx (.var 0) (.int 1)), (.int 2), .non] [] []) (.cmp .eq (.call 3 [(.idx (.var 0) (.int 0)), (.idx (.var 0) (.int 1))] [] []) (.int 1)))]
def b_kept : List G.St := [
  .ret (.ite (.isi (.var 0) [.list, .tuple]) (.blt .tuple [(.var 0)]) (.var 0))]
def b_need_number : List G.St := [
  .ifs (.not (.call 4 [(.var 0)] [] [])) [.raise 1 [(.var 1)] [] []] [],
  .ret (.call 5 [(.var 0)] [] [])]
def b_integer_in : List G.St := [
  .asg 1 (.ite (.cmp .eq (.slc (.var 0) [] [(.int 1)]) (.str "-")) (.slc (.var 0) [(.int 1)] []) (.var 0)),
  .ifs (.or (.cmp .eq (.var 1) (.str "")) (.or (.cmp .gt (.blt .len [(.var 1)]) (.glob 1)) (.not (.blt .all [(.comp (.cmp .inn (.var 2) (.glob 0)) [2] (.nm 2) (.it (.var 1)) [])])))) [.ret .non] [],
  .ifs (.and (.cmp .eq (.idx (.var 1) (.int 0)) (.str "0")) (.cmp .ne (.var 0) (.str "0"))) [.ret .non] [],
  .ret (.blt .int [(.var 0)])]
def b_number_in : List G.St := [
  .asgT (.tp [.nm 2, .nm 3, .nm 4]) (.mth .partition (.var 0) (.glob 2)),
  .ifs (.cmp .eq (.var 3) (.str "")) [.ret (.call 7 [(.var 0)] [] [])] [],
  .asg 1 (.tup [(.call 7 [(.var 2)] [] []), (.call 7 [(.var 4)] [] [])]),
  .ret (.ite (.and (.cmp .isn (.idx (.var 1) (.int 0)) .non) (.and (.cmp .isn (.idx (.var 1) (.int 1)) .non) (.call 4 [(.var 1)] [] []))) (.var 1) .non)]
def b_halves : List G.St := [
  .ret (.ite (.isi (.var 0) [.int]) (.tup [(.var 0), (.int 1)]) (.tup [(.idx (.var 0) (.int 0)), (.idx (.var 0) (.int 1))]))]
def b_text_in : List G.St := [
  .asgT (.tp [.nm 1, .nm 2]) (.call 9 [(.var 0)] [] []),
  .ret (.ite (.cmp .eq (.var 2) (.int 1)) (.blt .str [(.var 1)]) (.fstr [(.fmt (.var 1)), (.str "/"), (.fmt (.var 2))]))]
def b_number_text : List G.St := [
  .ret (.call 10 [(.call 6 [(.var 0), (.str "value")] [] [])] [] [])]
def b_number_of : List G.St := [
  .asg 1 (.ite (.isi (.var 0) [.str]) (.call 8 [(.var 0)] [] []) .non),
  .ifs (.cmp .is (.var 1) .non) [.raise 2 [(.int 0), (.int 0)] [] []] [],
  .ret (.var 1)]
def b_l_jar : List G.St := [
  .ret (.lstL [(.comp (.blt .int [(.var 1)]) [1] (.nm 1) (.it (.slc (.var 0) [] [(.int 57)])) []), (.int 0), (.int 0)])]
def b_l_pour : List G.St := [
  .ifs (.cmp .gt (.idx (.var 0) (.int 2)) (.int 0)) [.asg 5 (.blt .int [(.idx (.var 0) (.int 2))]), .setIdx (.var 0) (.int 2) (.bin .fdiv (.var 5) (.var 1)), .ret (.bin .mod (.blt .int [(.var 5)]) (.var 1))] [],
  .asg 2 (.idx (.var 0) (.int 1)),
  .setIdx (.var 0) (.int 1) (.bin .add (.var 2) (.int 1)),
  .asg 3 (.bin .add (.bin .mul (.int 108203) (.var 2)) (.int 8179)),
  .ifs (.cmp .ne (.idx (.var 0) (.int 0)) (.lst [])) [.asg 3 (.idx (.idx (.var 0) (.int 0)) (.bin .mod (.blt .int [(.var 2)]) (.blt .len [(.idx (.var 0) (.int 0))])))] [],
  .ifs (.and (.cmp .lt (.var 2) (.blt .len [(.idx (.var 0) (.int 0))])) (.cmp .ge (.blt .abs [(.var 3)]) (.bin .pow (.int 10) (.int 18)))) [.asg 5 (.bin .add (.bin .mul (.int 2) (.bin .sub (.blt .abs [(.blt .int [(.var 3)])]) (.bin .pow (.int 10) (.int 18)))) (.blt .int [(.cmp .lt (.var 3) (.int 0))])), .setIdx (.var 0) (.int 2) (.bin .fdiv (.var 5) (.var 1)), .ret (.bin .mod (.blt .int [(.var 5)]) (.var 1))] [],
  .asg 4 (.bin .mod (.blt .int [(.bin .pow (.bin .add (.bin .add (.bin .mod (.blt .int [(.var 3)]) (.int 2147483563)) (.bin .mul (.int 85199) (.var 2))) (.int 8179)) (.int 5))]) (.int 2147483579)),
  .asg 4 (.bin .mod (.blt .int [(.bin .pow (.bin .add (.bin .add (.bin .mul (.var 4) (.bin .add (.bin .mul (.int 2) (.var 2)) (.int 8179))) (.bin .mul (.bin .mul (.int 108203) (.var 2)) (.var 2))) (.int 85199)) (.int 3))]) (.int 2147483549)),
  .ret (.bin .mod (.blt .int [(.bin .fdiv (.var 4) (.int 64))]) (.var 1))]
def b_l_pick : List G.St := [
  .ret (.idx (.var 1) (.call 14 [(.var 0), (.blt .len [(.var 1)])] [] []))]
def b_l_alone : List G.St := [
  .par 0 1 (.blt .abs [(.var 0)]) (.blt .abs [(.var 1)]),
  .while_ (.cmp .gt (.var 1) (.int 0)) [.par 0 1 (.var 1) (.bin .mod (.blt .int [(.var 0)]) (.var 1))],
  .ret (.cmp .eq (.var 0) (.int 1))]
def b_l_figures : List G.St := [
  .asg 1 (.ite (.cmp .eq (.slc (.var 0) [] [(.int 1)]) (.str "-")) (.slc (.var 0) [(.int 1)] []) (.var 0)),
  .ifs (.or (.cmp .eq (.var 1) (.str "")) (.or (.cmp .gt (.blt .len [(.var 1)]) (.int 60)) (.not (.blt .all [(.comp (.cmp .inn (.var 2) (.str "0123456789")) [2] (.nm 2) (.it (.var 1)) [])])))) [.ret .non] [],
  .ifs (.and (.cmp .eq (.idx (.var 1) (.int 0)) (.str "0")) (.cmp .ne (.var 0) (.str "0"))) [.ret .non] [],
  .ret (.blt .int [(.var 0)])]
def b_l_read : List G.St := [
  .asg 1 (.mth .find (.var 0) (.str "/")),
  .ifs (.cmp .lt (.var 1) (.int 0)) [.asg 2 (.call 17 [(.var 0)] [] []), .ret (.ite (.cmp .isn (.var 2) .non) (.lst [(.var 2)]) (.tup [(.str "BadText"), (.int 0), (.int 0)]))] [],
  .par 3 4 (.call 17 [(.slc (.var 0) [] [(.var 1)])] [] []) (.call 17 [(.slc (.var 0) [(.bin .add (.var 1) (.int 1))] [])] [] []),
  .ifs (.or (.cmp .is (.var 3) .non) (.or (.cmp .is (.var 4) .non) (.or (.cmp .lt (.var 4) (.int 2)) (.not (.call 16 [(.var 3), (.var 4)] [] []))))) [.ret (.tup [(.str "BadText"), (.int 0), (.int 0)])] [],
  .ret (.lst [(.tup [(.var 3), (.var 4)])])]
def b_l_told : List G.St := [
  .asg 1 .non,
  .try_ [.asg 1 (.lst [(.call 12 [(.var 0)] [] [])])] [(2, some 2), (0, some 2)] [[.asg 1 (.tup [(.str "BadText"), (.att (.var 2) 1), (.att (.var 2) 2)])], [.asg 1 (.tup [(.str "other")])]],
  .ret (.var 1)]
def b_l_refused : List G.St := [
  .asg 1 .non,
  .try_ [.asg 1 (.call 11 [(.var 0)] [] [])] [(1, some 2)] [[.ret (.cmp .eq (.att (.var 2) 0) (.str "value"))]],
  .ret (.cmp .is (.var 1) (.bl false))]
def b_l_value : List G.St := [
  .asg 1 (.call 15 [(.var 0), (.lst [(.int 3), (.int 11), (.int 200), (.bin .pow (.int 10) (.int 9)), (.bin .sub (.bin .pow (.int 10) (.int 30)) (.int 1)), (.bin .sub (.bin .pow (.int 10) (.int 60)) (.int 1))])] [] []),
  .asg 2 (.bin .sub (.call 14 [(.var 0), (.bin .add (.bin .mul (.int 2) (.var 1)) (.int 1))] [] []) (.var 1)),
  .asg 3 (.bin .add (.int 1) (.call 14 [(.var 0), (.var 1)] [] [])),
  .ifs (.or (.cmp .eq (.call 14 [(.var 0), (.int 2)] [] []) (.int 0)) (.or (.cmp .eq (.var 3) (.int 1)) (.not (.call 16 [(.var 2), (.var 3)] [] [])))) [.ret (.var 2)] [],
  .ret (.tup [(.var 2), (.var 3)])]
def b_l_written : List G.St := [
  .ret (.ite (.isi (.var 0) [.int]) (.blt .str [(.var 0)]) (.bin .add (.bin .add (.blt .str [(.idx (.var 0) (.int 0))]) (.str "/")) (.blt .str [(.idx (.var 0) (.int 1))])))]
def b_l_bent : List G.St := [
  .asg 2 (.call 14 [(.var 0), (.bin .add (.blt .len [(.var 1)]) (.int 1))] [] []),
  .asg 3 (.call 15 [(.var 0), (.lst [(.str "0"), (.str "1"), (.str "2"), (.str "6"), (.str "9"), (.str "-"), (.str "/"), (.str " "), (.str "+"), (.str "_"), (.str "a"), (.str ".")])] [] []),
  .asg 4 (.call 14 [(.var 0), (.int 3)] [] []),
  .ifs (.cmp .eq (.var 4) (.int 0)) [.ret (.bin .add (.bin .add (.slc (.var 1) [] [(.var 2)]) (.var 3)) (.slc (.var 1) [(.var 2)] []))] [],
  .ret (.ite (.cmp .eq (.var 4) (.int 1)) (.bin .add (.slc (.var 1) [] [(.var 2)]) (.slc (.var 1) [(.bin .add (.var 2) (.int 1))] [])) (.bin .add (.bin .add (.slc (.var 1) [] [(.var 2)]) (.var 3)) (.slc (.var 1) [(.bin .add (.var 2) (.int 1))] [])))]
def b_law : List G.St := [
  .asg 1 (.call 13 [(.var 0)] [] []),
  .for_ (.nm 2) (.rng1 (.int 8)) [.asg 7 (.call 21 [(.var 1)] [] []), .asg 6 (.call 22 [(.var 7)] [] []), .asg 8 (.ite (.isi (.var 7) [.tuple]) (.blt .list [(.var 7)]) (.var 7)), .ifs (.or (.cmp .ne (.blt .repr [(.lst [(.call 11 [(.var 7)] [] []), (.call 11 [] [(.var 8)] [0])])]) (.blt .repr [(.lst [(.var 6), (.var 6)])])) (.cmp .ne (.blt .repr [(.call 19 [(.var 6)] [] [])]) (.blt .repr [(.lst [(.var 7)])]))) [.ret (.bl false)] [], .asg 9 (.call 23 [(.var 1), (.var 6)] [] []), .ifs (.cmp .ne (.blt .repr [(.call 19 [(.var 9)] [] [])]) (.blt .repr [(.call 18 [(.var 9)] [] [])])) [.ret (.bl false)] []],
  .for_ (.nm 3) (.it (.tup [.non, (.bl true), (.int 7), (.lst [(.str "7")]), (.tup [(.str "7")]), (.dct [(.str "7")] [(.int 7)])])) [.ifs (.cmp .ne (.call 19 [(.var 3)] [] []) (.tup [(.str "BadText"), (.int 0), (.int 0)])) [.ret (.bl false)] []],
  .asg 4 (.call 15 [(.var 1), (.lst [.non, (.str "7"), (.bl false), (.tup [(.int 4), (.int 2)]), (.tup [(.int 1), (.int 1)]), (.lst [(.int 1), (.int 0)]), (.tup [(.int 1), (.int 2), (.int 3)])])] [] []),
  .asg 5 (.call 15 [(.var 1), (.lst [(.str "1_0"), (.str "7/1_1"), (.str "1
"), (.str " 1"), (.str "+1"), (.str "1/-2"), (.str "--1")])] [] []),
  .for_ (.nm 6) (.it (.tup [(.str ""), (.str "7 "), (.var 5)])) [.ifs (.cmp .ne (.call 19 [(.var 6)] [] []) (.tup [(.str "BadText"), (.int 0), (.int 0)])) [.ret (.bl false)] []],
  .ret (.call 20 [(.var 4)] [] [])]
def T : Tx where
  fnL := [(0, ⟨1, 1, true, b_is_integer⟩),
    (1, ⟨3, 3, true, b_is_within⟩),
    (2, ⟨1, 1, true, b_is_list⟩),
    (3, ⟨2, 2, true, b_common⟩),
    (4, ⟨1, 1, true, b_is_number⟩),
    (5, ⟨1, 1, true, b_kept⟩),
    (6, ⟨2, 2, true, b_need_number⟩),
    (7, ⟨1, 3, true, b_integer_in⟩),
    (8, ⟨1, 5, true, b_number_in⟩),
    (9, ⟨1, 1, true, b_halves⟩),
    (10, ⟨1, 3, true, b_text_in⟩),
    (11, ⟨1, 1, true, b_number_text⟩),
    (12, ⟨1, 2, true, b_number_of⟩),
    (13, ⟨1, 2, false, b_l_jar⟩),
    (14, ⟨2, 6, true, b_l_pour⟩),
    (15, ⟨2, 2, true, b_l_pick⟩),
    (16, ⟨2, 2, true, b_l_alone⟩),
    (17, ⟨1, 3, true, b_l_figures⟩),
    (18, ⟨1, 5, true, b_l_read⟩),
    (19, ⟨1, 3, true, b_l_told⟩),
    (20, ⟨1, 3, true, b_l_refused⟩),
    (21, ⟨1, 4, true, b_l_value⟩),
    (22, ⟨1, 1, true, b_l_written⟩),
    (23, ⟨2, 5, true, b_l_bent⟩),
    (24, ⟨1, 10, true, b_law⟩)]
  clsL := [(0, ⟨[0], [], true⟩), (1, ⟨[1, 0], [0], true⟩), (2, ⟨[2, 0], [1, 2], true⟩)]
  cnm := [(PySem.Str.ofString "PlayError"), (PySem.Str.ofString "BadNumber"), (PySem.Str.ofString "BadText")]
  anm := [(PySem.Str.ofString "part"), (PySem.Str.ofString "line"), (PySem.Str.ofString "item")]
  isis := [.bool, .int, .list, .tuple, .str]
  fuel := 100000000000000000000000000000000000000000000000000000000000000000000000000000000000000000000000000000000000000000000000000000000000000000000000000000000000000000000000000000000000000000000000000000000000000000000000000000000000000000000000000000000000000000000000000000000000000000000000000000000000000000000000000000000000000000000000000000000000000000000000000000000000000000000000000000000000000000000000000000000000000000000000000000000000000000000000000000000000000000000000000000000000000000000000000000000000000000000000000000000000000000000000000000000000000000000000000000000000000000000000000000000000000000000000000000000000000000000000000000000000000000000000000000000000000000000000000000000000000000000000000000000000000000000000000000000000000000000000000000000000000000000000000000000000000000000000000000000000000000000000000000000000000000000000000000000000000000000000000000000000000000000000000000000000000000000000000000000000000000000000000000000000000000000000000000000000000000000000000000000000000000000000000000000000000000000000000000000000000000000000000000000000000000000000000000000000000000000000000000000000000000000000000000000000000000000000000000000000000000000000000000000000000000000000000000000000000000000000000000000000000000000000000000000000000000000000000000000000000000000000000000000000000000000000000000000000000000000000000000000000000000000000000000000000000000000000000000000000000000000000000000000000000000000000000000000000000000000000000000000000000000000000000000000000000000000000000000000000000000000000000000000000000000000000000000000000000000000000000000000000000000000000000000000000000000000000000000000000000000000000000000000000000000000000000000000000000000000000000000000000000000000000000000000000000000000000000000000000000000000000000000000000000000000000000000000000000000000000000000000000000000000000000000000000000000000000000000000000000000000000000000000000000000000000000000000000000000000000000000000000000000000000000000000
  fns := [((PySem.Str.ofString "is_integer"), (0, [(PySem.Str.ofString "value")], [(PySem.Str.ofString "value")])),
    ((PySem.Str.ofString "is_within"), (1, [(PySem.Str.ofString "value"), (PySem.Str.ofString "least"), (PySem.Str.ofString "most")], [(PySem.Str.ofString "value"), (PySem.Str.ofString "least"), (PySem.Str.ofString "most")])),
    ((PySem.Str.ofString "is_list"), (2, [(PySem.Str.ofString "value")], [(PySem.Str.ofString "value")])),
    ((PySem.Str.ofString "common"), (3, [(PySem.Str.ofString "one"), (PySem.Str.ofString "other")], [(PySem.Str.ofString "one"), (PySem.Str.ofString "other")])),
    ((PySem.Str.ofString "is_number"), (4, [(PySem.Str.ofString "value")], [(PySem.Str.ofString "value")])),
    ((PySem.Str.ofString "kept"), (5, [(PySem.Str.ofString "number")], [(PySem.Str.ofString "number")])),
    ((PySem.Str.ofString "need_number"), (6, [(PySem.Str.ofString "value"), (PySem.Str.ofString "part")], [(PySem.Str.ofString "value"), (PySem.Str.ofString "part")])),
    ((PySem.Str.ofString "integer_in"), (7, [(PySem.Str.ofString "item")], [(PySem.Str.ofString "item"), (PySem.Str.ofString "figures"), (PySem.Str.ofString "sign")])),
    ((PySem.Str.ofString "number_in"), (8, [(PySem.Str.ofString "item")], [(PySem.Str.ofString "item"), (PySem.Str.ofString "pair"), (PySem.Str.ofString "above"), (PySem.Str.ofString "bar"), (PySem.Str.ofString "below")])),
    ((PySem.Str.ofString "halves"), (9, [(PySem.Str.ofString "number")], [(PySem.Str.ofString "number")])),
    ((PySem.Str.ofString "text_in"), (10, [(PySem.Str.ofString "number")], [(PySem.Str.ofString "number"), (PySem.Str.ofString "above"), (PySem.Str.ofString "under")])),
    ((PySem.Str.ofString "number_text"), (11, [(PySem.Str.ofString "value")], [(PySem.Str.ofString "value")])),
    ((PySem.Str.ofString "number_of"), (12, [(PySem.Str.ofString "text")], [(PySem.Str.ofString "text"), (PySem.Str.ofString "found")])),
    ((PySem.Str.ofString "_law_jar"), (13, [(PySem.Str.ofString "_law_script")], [(PySem.Str.ofString "_law_script"), (PySem.Str.ofString "_law_cell")])),
    ((PySem.Str.ofString "_law_pour"), (14, [(PySem.Str.ofString "_law_jar_here"), (PySem.Str.ofString "_law_many")], [(PySem.Str.ofString "_law_jar_here"), (PySem.Str.ofString "_law_many"), (PySem.Str.ofString "_law_turn"), (PySem.Str.ofString "_law_cell"), (PySem.Str.ofString "_law_mixed"), (PySem.Str.ofString "_law_left")])),
    ((PySem.Str.ofString "_law_pick"), (15, [(PySem.Str.ofString "_law_jar_here"), (PySem.Str.ofString "_law_some")], [(PySem.Str.ofString "_law_jar_here"), (PySem.Str.ofString "_law_some")])),
    ((PySem.Str.ofString "_law_alone"), (16, [(PySem.Str.ofString "_law_one"), (PySem.Str.ofString "_law_other")], [(PySem.Str.ofString "_law_one"), (PySem.Str.ofString "_law_other")])),
    ((PySem.Str.ofString "_law_figures"), (17, [(PySem.Str.ofString "_law_word")], [(PySem.Str.ofString "_law_word"), (PySem.Str.ofString "_law_bare"), (PySem.Str.ofString "_law_sign")])),
    ((PySem.Str.ofString "_law_read"), (18, [(PySem.Str.ofString "_law_word")], [(PySem.Str.ofString "_law_word"), (PySem.Str.ofString "_law_at"), (PySem.Str.ofString "_law_number"), (PySem.Str.ofString "_law_above"), (PySem.Str.ofString "_law_below")])),
    ((PySem.Str.ofString "_law_told"), (19, [(PySem.Str.ofString "_law_word")], [(PySem.Str.ofString "_law_word"), (PySem.Str.ofString "_law_told_here"), (PySem.Str.ofString "error")])),
    ((PySem.Str.ofString "_law_refused"), (20, [(PySem.Str.ofString "_law_value_here")], [(PySem.Str.ofString "_law_value_here"), (PySem.Str.ofString "_law_told_here"), (PySem.Str.ofString "error")])),
    ((PySem.Str.ofString "_law_value"), (21, [(PySem.Str.ofString "_law_jar_here")], [(PySem.Str.ofString "_law_jar_here"), (PySem.Str.ofString "_law_most"), (PySem.Str.ofString "_law_above"), (PySem.Str.ofString "_law_below")])),
    ((PySem.Str.ofString "_law_written"), (22, [(PySem.Str.ofString "_law_number")], [(PySem.Str.ofString "_law_number")])),
    ((PySem.Str.ofString "_law_bent"), (23, [(PySem.Str.ofString "_law_jar_here"), (PySem.Str.ofString "_law_word")], [(PySem.Str.ofString "_law_jar_here"), (PySem.Str.ofString "_law_word"), (PySem.Str.ofString "_law_at"), (PySem.Str.ofString "_law_sign"), (PySem.Str.ofString "_law_way")])),
    ((PySem.Str.ofString "law"), (24, [(PySem.Str.ofString "_law_script")], [(PySem.Str.ofString "_law_script"), (PySem.Str.ofString "_law_jar_here"), (PySem.Str.ofString "_law_turn"), (PySem.Str.ofString "_law_value_here"), (PySem.Str.ofString "_law_bad"), (PySem.Str.ofString "_law_odd"), (PySem.Str.ofString "_law_word"), (PySem.Str.ofString "_law_number"), (PySem.Str.ofString "_law_listed"), (PySem.Str.ofString "_law_bent_here")]))]
  exs := [((PySem.Str.ofString "BadNumber"), (1, [(PySem.Str.ofString "part")], (PySem.Str.ofString "PlayError"))), ((PySem.Str.ofString "BadText"), (2, [(PySem.Str.ofString "line"), (PySem.Str.ofString "item")], (PySem.Str.ofString "PlayError")))]
  cl := [((PySem.Str.ofString "PlayError"), 0), ((PySem.Str.ofString "BadNumber"), 1), ((PySem.Str.ofString "BadText"), 2)]
  fa := [((PySem.Str.ofString "part"), 0), ((PySem.Str.ofString "line"), 1), ((PySem.Str.ofString "item"), 2)]
  gv := [((PySem.Str.ofString "FIGURES"), 0), ((PySem.Str.ofString "MOST_FIGURES"), 1), ((PySem.Str.ofString "BAR"), 2)]
  glD := [(0, .str "0123456789"), (1, .int 60), (2, .str "/")]
-- law at 35
def lawAt : Nat := 35
def loose : List PySem.Str := [(PySem.Str.ofString "PlayError"), (PySem.Str.ofString "BadNumber"), (PySem.Str.ofString "BadText"), (PySem.Str.ofString "is_integer"), (PySem.Str.ofString "is_within"), (PySem.Str.ofString "is_list"), (PySem.Str.ofString "common"), (PySem.Str.ofString "is_number"), (PySem.Str.ofString "kept"), (PySem.Str.ofString "need_number"), (PySem.Str.ofString "BAR"), (PySem.Str.ofString "FIGURES"), (PySem.Str.ofString "MOST_FIGURES"), (PySem.Str.ofString "integer_in"), (PySem.Str.ofString "number_in"), (PySem.Str.ofString "halves"), (PySem.Str.ofString "text_in"), (PySem.Str.ofString "number_text"), (PySem.Str.ofString "number_of"), (PySem.Str.ofString "_law_jar"), (PySem.Str.ofString "_law_pour"), (PySem.Str.ofString "_law_pick"), (PySem.Str.ofString "_law_alone"), (PySem.Str.ofString "_law_figures"), (PySem.Str.ofString "_law_read"), (PySem.Str.ofString "_law_told"), (PySem.Str.ofString "_law_refused"), (PySem.Str.ofString "_law_value"), (PySem.Str.ofString "_law_written"), (PySem.Str.ofString "_law_bent")]

end K04

set_option maxHeartbeats 4000000
namespace K04
open G
abbrev Pr : Prog := T.P
theorem call_s {n f : Nat} {d : FnDef} {ws : List W} {M : Mem} (h : Pr.fn f = some d) (hl : ws.length = d.par) : callF Pr (n + 1) f ws M = fnR d.pop M (exs Pr (callF Pr n) d.body (ws.map some ++ List.replicate (d.slots - d.par) none) M) := by
  show (match Pr.fn f with
    | some d => if ws.length = d.par then fnR d.pop M (exs Pr (callF Pr n) d.body (ws.map some ++ List.replicate (d.slots - d.par) none) M) else .bad
    | none => .bad) = _
  rw [h]
  exact if_pos hl
def deck (cs : List Int) (t l : Int) : Cell := .lst [.p (.lst (cs.map D.int)), .p (.int t), .p (.int l)]
theorem log_ok {m : Int} (h : 0 < m ∧ m ≤ 10000000000000000000000000000000000000000000000000000000000000000000000) : m.natAbs.log2 < 9000 := by
  have h1 : m.natAbs < 2 ^ 240 := by
    have : m.natAbs ≤ 10000000000000000000000000000000000000000000000000000000000000000000000 := by omega
    exact Nat.lt_of_le_of_lt this (by decide)
  by_cases z : m.natAbs = 0
  · rw [z]; decide
  · exact Nat.lt_of_lt_of_le ((Nat.log2_lt z).mpr h1) (by decide)
theorem popR_same (M : Mem) (w : W) (M' : Mem) (h : M'.length = M.length) : popR M w M' = .ok w M' := if_pos h
theorem c3_if {α : Type} {p : Prop} [Decidable p] (a b : Unit → α) (c : α) : c3 (some (decide p)) a b c = if p then a () else b () := by
  by_cases h : p
  · simp [h]
  · simp [h]
theorem mul_l {i j : Int} (h : small64 i = true) : mulOk i j = true := by unfold mulOk; rw [h]; rfl
theorem small_of {i : Int} (h : -(2 ^ 64) < i ∧ i < 2 ^ 64) : small64 i = true := by unfold small64; rw [decide_eq_true h.1, decide_eq_true h.2]; rfl
def tail : List G.St := b_l_pour.drop 6
def mix1 (t c : Int) : Int := (c % 2147483563 + 85199 * t + 8179) ^ 5 % 2147483579
def mix2 (t m : Int) : Int := (m * (2 * t + 8179) + 108203 * t * t + 85199) ^ 3 % 2147483549
def mix (many t c : Int) : Int := mix2 t (mix1 t c) / 64 % many
theorem deal_tail {C : Calls} {t c many : Int} {x4 x5 : Option W} {M : Mem} (ht : 0 ≤ t ∧ t ≤ 2000) (hm : 0 < many ∧ many ≤ 10000000000000000000000000000000000000000000000000000000000000000000000) :
    exs Pr C tail [some (.loc 0), some (.p (.int many)), some (.p (.int t)), some (.p (.int c)), x4, x5] M = .rt (.p (.int (mix many t c))) M := by
  have m1 : mulOk 85199 t = true := mul_l (by decide)
  have m2 : mulOk 2 t = true := mul_l (by decide)
  have m3 : mulOk 108203 t = true := mul_l (by decide)
  have m4 : mulOk (108203 * t) t = true := mul_l (small_of (by omega))
  have r1 : 0 ≤ mix1 t c ∧ mix1 t c < 2147483579 := ⟨Int.emod_nonneg _ (by decide), Int.emod_lt_of_pos _ (by decide)⟩
  have m5 : mulOk (mix1 t c) (2 * t + 8179) = true := mul_l (small_of (by omega))
  have p1 : (c % 2147483563 + 85199 * t + 8179).natAbs < 18446744073709551616 := by omega
  have tt : 0 ≤ t * t ∧ t * t ≤ 4000000 := by
    constructor
    · exact Int.mul_nonneg ht.1 ht.1
    · have := Int.mul_le_mul ht.2 ht.2 ht.1 (by decide)
      omega
  have b2 : 0 ≤ mix1 t c * (2 * t + 8179) ∧ mix1 t c * (2 * t + 8179) ≤ 2147483579 * 12179 := by
    constructor
    · exact Int.mul_nonneg r1.1 (by omega)
    · have h1 : mix1 t c ≤ 2147483579 := by omega
      have h2 : 2 * t + 8179 ≤ 12179 := by omega
      have := Int.mul_le_mul h1 h2 (by omega) (by omega)
      omega
  have e3 : 108203 * t * t = 108203 * (t * t) := by rw [Int.mul_assoc]
  have p2 : (mix1 t c * (2 * t + 8179) + 108203 * t * t + 85199).natAbs < 18446744073709551616 := by rw [e3]; omega
  have l64 : Nat.log2 64 < 9000 := by decide
  have e1 : (c % 2147483563 + 85199 * t + 8179) ^ 5 % 2147483579 = mix1 t c := rfl
  have e2 : (mix1 t c * (2 * t + 8179) + 108203 * t * t + 85199) ^ 3 % 2147483549 = mix2 t (mix1 t c) := rfl
  show exs Pr C [_, _, _] _ _ = _
  simp [getV, rd, bltW, binW, binD, W.view, m1, m2, m3, m4, m5, p1, p2, e1, e2, hm.1, mix, l64]
/-- one number from the deck -/
theorem deal_run {n : Nat} {cs : List Int} {t l many : Int} (ht : 0 ≤ t ∧ t ≤ 2000) (hl : 0 ≤ l) (hm : 0 < many ∧ many ≤ 10000000000000000000000000000000000000000000000000000000000000000000000) :
    ∃ r t' l', callF Pr (n + 1) 14 [.loc 0, .p (.int many)] [deck cs t l] = .ok (.p (.int r)) [deck cs t' l'] ∧ 0 ≤ r ∧ r < many ∧ 0 ≤ t' ∧ t' ≤ t + 1 ∧ 0 ≤ l' := by
  have hlog := log_ok hm
  rw [call_s (d := ⟨2, 6, true, b_l_pour⟩) rfl rfl]
  by_cases h : 0 < l
  · refine ⟨l % many, t, l / many, ?_, Int.emod_nonneg _ (by omega), Int.emod_lt_of_pos _ hm.1, ht.1, by omega, Int.ediv_nonneg hl (by omega)⟩
    unfold b_l_pour
    simp [getV, rd, deck, idxW, W.items, at?, ixI, cmpW, isNon, W.view, W.pures, cmpD, tru, truD, bltW, binW, binD, setCell, h, hm.1, hlog, fnR, popR]
  · have l0 : l = 0 := by omega
    subst l0
    have m3 : mulOk 108203 t = true := mul_l (by decide)
    have fin : ∀ c : Int, 0 ≤ mix many t c ∧ mix many t c < many := fun c => ⟨Int.emod_nonneg _ (by omega), Int.emod_lt_of_pos _ hm.1⟩
    have nt : ¬ t < 0 := by omega
    have endL : ∀ {c : Int} {x4 x5 : Option W}, fnR true [deck cs t 0] (exs Pr (callF Pr n) tail [some (.loc 0), some (.p (.int many)), some (.p (.int t)), some (.p (.int c)), x4, x5] [deck cs (t + 1) 0]) = .ok (.p (.int (mix many t c))) [deck cs (t + 1) 0] := fun {c x4 x5} => by
      rw [deal_tail ht hm]; rfl
    by_cases hc : cs = []
    · subst hc
      refine ⟨mix many t (108203 * t + 8179), t + 1, 0, ?_, (fin _).1, (fin _).2, by omega, by omega, Int.le_refl 0⟩
      rw [← endL (c := 108203 * t + 8179) (x4 := none) (x5 := none)]
      show fnR true _ (exs Pr (callF Pr n) (_ :: _ :: _ :: _ :: _ :: _ :: tail) _ _) = _
      simp [getV, rd, idxW, W.items, at?, ixI, cmpW, isNon, W.view, W.pures, cmpD, tru, truD, bltW, binW, binD, setCell, h, hm.1, hlog, deck, m3, mkLst, eqD, eqP, plain, plains, nrm, nrms, nt]
    · have hcl : 0 < (cs.length : Int) := by
        have := List.length_pos_iff.mpr hc
        omega
      have hcn : 0 < cs.length := List.length_pos_iff.mpr hc
      have k1 := Int.emod_nonneg t (show (cs.length : Int) ≠ 0 by omega)
      have k2 := Int.emod_lt_of_pos t hcl
      obtain ⟨c, hcc⟩ : ∃ c, cs[(t % (cs.length : Int)).toNat]? = some c := ⟨cs[(t % (cs.length : Int)).toNat]'(by omega), List.getElem?_eq_getElem (by omega)⟩
      have hat : at? (cs.map (W.p ∘ D.int)) (t % (cs.length : Int)) = some (.p (.int c)) := by
        unfold at? ixI
        rw [List.length_map, if_pos k1, if_pos k2]
        show (cs.map (W.p ∘ D.int))[(t % (cs.length : Int)).toNat]? = _
        rw [List.getElem?_map, hcc]; rfl
      have pl : ∀ ks : List Int, plains 59 (ks.map D.int) = true := fun ks => by
        induction ks with
        | nil => rfl
        | cons k ks ih => exact ih
      have ne : eqD (.lst (cs.map D.int)) (.lst []) = some false := by
        show eqP _ _ = _
        unfold eqP
        rw [show plain 60 (.lst (cs.map D.int)) = true from pl cs, show plain 60 (.lst []) = true from rfl]
        cases cs with
        | nil => exact absurd rfl hc
        | cons k ks => simp [nrm, nrms]
      have a0 : ∀ (a b c : W), at? [a, b, c] 0 = some a := fun a b c => rfl
      have a1 : ∀ (a b c : W), at? [a, b, c] 1 = some b := fun a b c => rfl
      have a2 : ∀ (a b c : W), at? [a, b, c] 2 = some c := fun a b c => rfl
      by_cases hq : t < (cs.length : Int) ∧ 1000000000000000000 ≤ (if c < 0 then -c else c)
      · obtain ⟨q1, q2⟩ := hq
        have ml : ∀ z : Int, mulOk 2 z = true := fun z => mul_l (by decide)
        refine ⟨(2 * ((if c < 0 then -c else c) - 1000000000000000000) + (if c < 0 then 1 else 0)) % many, t + 1, (2 * ((if c < 0 then -c else c) - 1000000000000000000) + (if c < 0 then 1 else 0)) / many, ?_, Int.emod_nonneg _ (by omega), Int.emod_lt_of_pos _ hm.1, by omega, by omega, Int.ediv_nonneg (by split <;> omega) (by omega)⟩
        show fnR true _ (exs Pr (callF Pr n) (_ :: _ :: _ :: _ :: _ :: _ :: tail) _ _) = _
        simp [getV, rd, idxW, W.items, a0, a1, a2, hat, ne, cmpW, isNon, W.view, W.pures, cmpD, tru, truD, bltW, binW, binD, setCell, h, hm.1, hlog, deck, m3, mkLst, hcl, hcn, q1, q2, ml, fnR, popR]
      · refine ⟨mix many t c, t + 1, 0, ?_, (fin _).1, (fin _).2, by omega, by omega, Int.le_refl 0⟩
        rw [← endL (c := c) (x4 := none) (x5 := none)]
        show fnR true _ (exs Pr (callF Pr n) (_ :: _ :: _ :: _ :: _ :: _ :: tail) _ _) = _
        by_cases q1 : t < (cs.length : Int)
        · have q2 : ¬ 1000000000000000000 ≤ (if c < 0 then -c else c) := fun z => hq ⟨q1, z⟩
          simp [getV, rd, idxW, W.items, a0, a1, a2, hat, ne, cmpW, isNon, W.view, W.pures, cmpD, tru, truD, bltW, binW, binD, setCell, h, hm.1, hlog, deck, m3, mkLst, hcl, hcn, q1, q2]
        · simp [getV, rd, idxW, W.items, a0, a1, a2, hat, ne, cmpW, isNon, W.view, W.pures, cmpD, tru, truD, bltW, binW, binD, setCell, h, hm.1, hlog, deck, m3, mkLst, hcl, hcn, q1]
theorem compL_ints {step : W → Mem → Res (Option W)} {M : Mem} (h : ∀ i : Int, step (.p (.int i)) M = .ok (some (.p (.int i))) M) : ∀ (cs : List Int) (acc : List W), compL step (cs.map fun i => W.p (.int i)) acc M = .ok (acc.reverse ++ cs.map fun i => W.p (.int i)) M
  | [], acc => by simp [compL]
  | c :: cs, acc => by
    show (step (.p (.int c)) M).bind _ = _
    rw [h c, Res.bind_ok]
    show compL step (cs.map fun i => W.p (.int i)) (.p (.int c) :: acc) M = _
    rw [compL_ints h cs]
    simp
theorem pures_ints : ∀ cs : List Int, W.pures (cs.map fun i => W.p (.int i)) = some (cs.map D.int)
  | [] => rfl
  | c :: cs => by
    show (match W.pures (cs.map fun i => W.p (.int i)) with | some ds => some (D.int c :: ds) | none => none) = _
    rw [pures_ints cs]
    rfl
theorem deck_run {n : Nat} {ns : List Int} : callF Pr (n + 1) 13 [.p (.lst (ns.map D.int))] [] = .ok (.loc 0) [deck (ns.take (min 57 ns.length)) 0 0] := by
  rw [call_s (d := ⟨1, 2, false, b_l_jar⟩) rfl rfl]
  have e1 : ev Pr (callF Pr n) (.comp (.blt .int [.var 1]) [1] (.nm 1) (.it (.slc (.var 0) [] [.int 57])) []) [some (.p (.lst (ns.map D.int))), none] [] = .ok (.p (.lst ((ns.take (min 57 ns.length)).map D.int))) [] := by
    rw [ev_comp]
    have e2 : ev Pr (callF Pr n) (.it (.slc (.var 0) [] [.int 57])) [some (.p (.lst (ns.map D.int))), none] [] = .ok (.p (.lst ((ns.take (min 57 ns.length)).map D.int))) [] := by
      simp [getV, rd, oneInt, slcW, W.view, cutL, cutPt, List.map_take]
    rw [e2, Res.bind_ok]
    have e3 : iterW (.p (.lst ((ns.take (min 57 ns.length)).map D.int))) = some ((ns.take (min 57 ns.length)).map fun i => W.p (.int i)) := by
      show some (((ns.take (min 57 ns.length)).map D.int).map W.p) = _
      rw [List.map_map]; rfl
    rw [e3]
    show ((compL _ ((ns.take (min 57 ns.length)).map fun i => W.p (.int i)) [] []).noX.bind _) = _
    rw [compL_ints (fun i => by rfl)]
    show Res.of (mkLst ([].reverse ++ (ns.take (min 57 ns.length)).map fun i => W.p (.int i))) [] = _
    have e4 : mkLst (([] : List W).reverse ++ (ns.take (min 57 ns.length)).map fun i => W.p (.int i)) = some (.p (.lst ((ns.take (min 57 ns.length)).map D.int))) := by
      unfold mkLst
      rw [List.reverse_nil, List.nil_append, pures_ints]; rfl
    rw [e4]; rfl
  show fnR false [] (exs Pr (callF Pr n) [.ret (.lstL [_, .int 0, .int 0])] [some (.p (.lst (ns.map D.int))), none] []) = _
  rw [exs_cons, ex_ret, ev_lstL, evs_cons, e1]
  rfl
theorem pick_run {n : Nat} {cs : List Int} {t l : Int} {ds : List D} (ht : 0 ≤ t ∧ t ≤ 2000) (hl : 0 ≤ l) (h0 : 0 < ds.length) (h1 : ds.length ≤ 1000) :
    ∃ d t' l', callF Pr (n + 2) 15 [.loc 0, .p (.lst ds)] [deck cs t l] = .ok (.p d) [deck cs t' l'] ∧ d ∈ ds ∧ 0 ≤ t' ∧ t' ≤ t + 1 ∧ 0 ≤ l' := by
  obtain ⟨r, t', l', e, r1, r2, q1, q2, q3⟩ := deal_run (n := n) (cs := cs) (many := (ds.length : Int)) ht hl ⟨by omega, by omega⟩
  have hr : r.toNat < ds.length := by omega
  refine ⟨ds[r.toNat], t', l', ?_, List.getElem_mem hr, q1, q2, q3⟩
  rw [call_s (d := ⟨2, 2, true, b_l_pick⟩) rfl rfl]
  have e1 : evs Pr (callF Pr (n + 1)) [.var 0, .blt .len [.var 1]] [some (.loc 0), some (.p (.lst ds))] [deck cs t l] = .ok [.loc 0, .p (.int (ds.length : Int))] [deck cs t l] := by
    simp [getV, rd, bltW, W.items, deck]
  have e2 : ev Pr (callF Pr (n + 1)) (.call 14 [.var 0, .blt .len [.var 1]] [] []) [some (.loc 0), some (.p (.lst ds))] [deck cs t l] = .ok (.p (.int r)) [deck cs t' l'] := by
    rw [ev_call, e1]
    exact e
  have e3 : idxW [deck cs t' l'] (.p (.lst ds)) (.p (.int r)) = some (.p ds[r.toNat]) := by
    show at? (ds.map W.p) r = _
    unfold at? ixI
    rw [List.length_map, if_pos r1, if_pos (by omega)]
    show (ds.map W.p)[r.toNat]? = _
    rw [List.getElem?_map, List.getElem?_eq_getElem hr]; rfl
  show fnR true _ (exs Pr _ [.ret (.idx (.var 1) (.call 14 [.var 0, .blt .len [.var 1]] [] []))] _ _) = _
  rw [exs_cons, ex_ret, ev_idx]
  have e4 : ev Pr (callF Pr (n + 1)) (.var 1) [some (.loc 0), some (.p (.lst ds))] [deck cs t l] = .ok (.p (.lst ds)) [deck cs t l] := rfl
  show fnR true _ (((Res.bind (ev Pr (callF Pr (n + 1)) (.var 1) [some (.loc 0), some (.p (.lst ds))] [deck cs t l]) _).st _ _).andT _) = _
  rw [e4, Res.bind_ok]
  show fnR true _ (((Res.bind (ev Pr (callF Pr (n + 1)) (.call 14 [.var 0, .blt .len [.var 1]] [] []) [some (.loc 0), some (.p (.lst ds))] [deck cs t l]) _).st _ _).andT _) = _
  rw [e2, Res.bind_ok, e3]
  rfl
end K04

set_option maxHeartbeats 4000000
namespace K04
open G
def bnd : Nat := T.fuel
theorem bnd_lt : bnd < 2 ^ 8000 := by decide +kernel
theorem lt_bnd : 2 ^ 5000 ≤ bnd := by decide +kernel
theorem bnd_of {a k : Nat} (h : a < 2 ^ k) (hk : k ≤ 5000) : a < bnd := Nat.lt_of_lt_of_le h (Nat.le_trans (Nat.pow_le_pow_right (by decide) hk) lt_bnd)
theorem while_s {test : Env → Mem → Res W} {body : Env → Mem → SR} {n : Nat} {env env' : Env} {M M' : Mem} (h1 : test env M = .ok (.p (.bl true)) M) (h2 : body env M = .nx env' M') : whileL test body (n + 1) env M = whileL test body n env' M' := by
  conv => lhs; unfold whileL
  rw [h1]
  dsimp only [tru, truD, W.view]
  rw [h2]
theorem gcd_loop {test : Env → Mem → Res W} {body : Env → Mem → SR} {M : Mem} {e : Nat → Nat → Env} (ht : ∀ a b : Nat, test (e a b) M = .ok (.p (.bl (decide (0 < b)))) M)
    (hb : ∀ a b : Nat, 0 < b → b.log2 < 9000 → body (e a b) M = .nx (e b (a % b)) M) : ∀ n a b : Nat, b < n → b < bnd → whileL test body n (e a b) M = .nx (e (Nat.gcd a b) 0) M
  | 0, a, b, h1, h2 => by omega
  | n + 1, a, b, h1, h2 => by
    have t := ht a b
    by_cases h : 0 < b
    · have p2 := Nat.mod_lt a h
      have i1 := gcd_loop ht hb n b (a % b) (by omega) (by omega)
      have hg : Nat.gcd a b = Nat.gcd b (a % b) := by
        rw [Nat.gcd_comm a b, Nat.gcd_rec b a, Nat.gcd_comm]
      have hlog : b.log2 < 9000 := Nat.lt_trans (log_of (Nat.lt_trans h2 bnd_lt) (by decide)) (by decide)
      rw [decide_eq_true h] at t
      rw [while_s t (hb a b h hlog), hg]
      exact i1
    · have hb : b = 0 := by omega
      subst hb
      unfold whileL
      rw [t, Nat.gcd_zero_right]
      rfl
theorem absN (a : Int) : (if a < 0 then -a else a) = (a.natAbs : Int) := by split <;> omega
theorem common_run {n : Nat} {a b : Int} {M : Mem} (hb : b.natAbs < bnd) : callF Pr (n + 1) 3 [.p (.int a), .p (.int b)] M = .ok (.p (.int (Nat.gcd a.natAbs b.natAbs))) M := by
  rw [call_s (d := ⟨2, 2, true, b_common⟩) rfl rfl]
  show fnR true M (exs Pr (callF Pr n) [.par 0 1 (.blt .abs [(.var 0)]) (.blt .abs [(.var 1)]), .while_ (.cmp .gt (.var 1) (.int 0)) [.par 0 1 (.var 1) (.bin .mod (.var 0) (.var 1))], .ret (.var 0)] [some (.p (.int a)), some (.p (.int b))] M) = _
  have e1 : ex Pr (callF Pr n) (.par 0 1 (.blt .abs [(.var 0)]) (.blt .abs [(.var 1)])) [some (.p (.int a)), some (.p (.int b))] M = .nx [some (.p (.int a.natAbs)), some (.p (.int b.natAbs))] M := by
    simp only [ex_par, ev_blt, evs_cons, evs_nil, ev_var, getV, rd, bltW, Res.bind_ok, Res.of_some, Option.map_some, Res.st_ok, List.getElem?_cons_zero, List.getElem?_cons_succ, absN]
    rfl
  have e2 : ex Pr (callF Pr n) (.while_ (.cmp .gt (.var 1) (.int 0)) [.par 0 1 (.var 1) (.bin .mod (.var 0) (.var 1))]) [some (.p (.int a.natAbs)), some (.p (.int b.natAbs))] M = .nx [some (.p (.int (Nat.gcd a.natAbs b.natAbs))), some (.p (.int 0))] M :=
    gcd_loop (test := ev Pr (callF Pr n) (.cmp .gt (.var 1) (.int 0))) (body := exs Pr (callF Pr n) [.par 0 1 (.var 1) (.bin .mod (.var 0) (.var 1))]) (M := M) (e := fun a b => [some (.p (.int a)), some (.p (.int b))]) (fun a b => by simp [getV, rd, cmpW, isNon, W.view, cmpD]) (fun a b h hlog => by simp [getV, rd, binW, binD, W.view, h, hlog]) bnd a.natAbs b.natAbs hb hb
  rw [exs_cons, e1, SR.andT_nx, exs_cons, e2]
  show fnR true M (.rt (.p (.int (Nat.gcd a.natAbs b.natAbs))) M) = _
  exact popR_same _ _ _ rfl
/-! what the law draws -/
mutual
def okV : D → Bool
  | .obj _ _ _ => false
  | .exc _ _ _ => false
  | .int i => decide (i.natAbs < bnd)
  | .tup xs => decide (xs.length ≤ 100) && okVs xs
  | .lst xs => decide (xs.length ≤ 100) && okVs xs
  | _ => true
def okVs : List D → Bool
  | [] => true
  | x :: r => okV x && okVs r
end
theorem okVs_mem : ∀ {xs : List D}, okVs xs = true → ∀ x ∈ xs, okV x = true
  | [], _, x, h => by cases h
  | y :: r, h, x, hx => by
    have h : (okV y && okVs r) = true := h
    rw [Bool.and_eq_true] at h
    rcases List.mem_cons.mp hx with rfl | hx
    · exact h.1
    · exact okVs_mem h.2 x hx
def whole : D → Bool
  | .int _ => true
  | _ => false
def some_ : D → Bool
  | .lst _ => true
  | .tup _ => true
  | _ => false
theorem is_integer_run {n : Nat} {d : D} {M : Mem} (h : okV d = true) : callF Pr (n + 1) 0 [.p d] M = .ok (.p (.bl (whole d))) M := by
  refine Eq.trans ?_ (popR_same M (.p (.bl (whole d))) M rfl)
  cases d <;> first | rfl | cases h
theorem is_list_run {n : Nat} {d : D} {M : Mem} (h : okV d = true) : callF Pr (n + 1) 2 [.p d] M = .ok (.p (.bl (some_ d))) M := by
  refine Eq.trans ?_ (popR_same M (.p (.bl (some_ d))) M rfl)
  cases d <;> first | rfl | cases h
/-! bounds -/
def bb : D → Bool
  | .non => true
  | .int _ => true
  | _ => false
def loB (i : Int) : D → Bool
  | .int l => decide (l ≤ i)
  | _ => true
def hiB (i : Int) : D → Bool
  | .int m => decide (i ≤ m)
  | _ => true
def within (d lo hi : D) : Bool := match d with
  | .int i => (loB i lo) && (hiB i hi)
  | _ => false
theorem bounds_ev {C : Calls} {env : Env} {M : Mem} {v a b : Nat} {i : Int} {lo hi : D} (h1 : bb lo = true) (h2 : bb hi = true) (hv : getV env v = some (.p (.int i))) (ha : getV env a = some (.p lo)) (hb : getV env b = some (.p hi)) :
    ev Pr C (.and (.or (.cmp .is (.var a) .non) (.cmp .le (.var a) (.var v))) (.or (.cmp .is (.var b) .non) (.cmp .le (.var v) (.var b)))) env M = .ok (.p (.bl (within (.int i) lo hi))) M := by
  have e1 : ev Pr C (.var v) env M = .ok (.p (.int i)) M := by rw [ev_var, hv]; rfl
  have e2 : ev Pr C (.var a) env M = .ok (.p lo) M := by rw [ev_var, ha]; rfl
  have e3 : ev Pr C (.var b) env M = .ok (.p hi) M := by rw [ev_var, hb]; rfl
  have f1 : ev Pr C (.or (.cmp .is (.var a) .non) (.cmp .le (.var a) (.var v))) env M = .ok (.p (.bl (loB i lo))) M := by
    rw [ev_or, ev_cmp, e2, Res.bind_ok, ev_non, Res.bind_ok]
    cases lo <;> first | cases h1 | skip
    · rfl
    · show ev Pr C (.cmp .le (.var a) (.var v)) env M = _
      rw [ev_cmp, e2, Res.bind_ok, e1, Res.bind_ok]
      rfl
  have f2 : ev Pr C (.or (.cmp .is (.var b) .non) (.cmp .le (.var v) (.var b))) env M = .ok (.p (.bl (hiB i hi))) M := by
    rw [ev_or, ev_cmp, e3, Res.bind_ok, ev_non, Res.bind_ok]
    cases hi <;> first | cases h2 | skip
    · rfl
    · show ev Pr C (.cmp .le (.var v) (.var b)) env M = _
      rw [ev_cmp, e1, Res.bind_ok, e3, Res.bind_ok]
      rfl
  rw [ev_and, f1, Res.bind_ok, f2]
  show c3 (some (loB i lo)) _ _ _ = _
  have w : within (.int i) lo hi = ((loB i lo) && (hiB i hi)) := rfl
  rw [w]
  generalize loB i lo = p
  cases p <;> rfl
theorem within_run {n : Nat} {d lo hi : D} {M : Mem} (h : okV d = true) (h1 : bb lo = true) (h2 : bb hi = true) : callF Pr (n + 2) 1 [.p d, .p lo, .p hi] M = .ok (.p (.bl (within d lo hi))) M := by
  refine Eq.trans ?_ (popR_same M (.p (.bl (within d lo hi))) M rfl)
  rw [call_s (d := ⟨3, 3, true, b_is_within⟩) rfl rfl]
  have e1 : ev Pr (callF Pr (n + 1)) (.not (.call 0 [(.var 0)] [] [])) [some (.p d), some (.p lo), some (.p hi)] M = .ok (.p (.bl (!whole d))) M := by
    rw [ev_not]
    have e : ev Pr (callF Pr (n + 1)) (.call 0 [(.var 0)] [] []) [some (.p d), some (.p lo), some (.p hi)] M = callF Pr (n + 1) 0 [.p d] M := rfl
    rw [e, is_integer_run h]
    rfl
  show fnR true M (exs Pr (callF Pr (n + 1)) b_is_within [some (.p d), some (.p lo), some (.p hi)] M) = _
  unfold b_is_within
  rw [exs_cons, ex_ifs, e1, Res.st_ok]
  cases d <;> try (first | rfl | cases h)
  show fnR true M (exs Pr (callF Pr (n + 1)) [.ret _] _ M) = _
  rw [exs_cons, ex_ret, bounds_ev h1 h2 rfl rfl rfl]
  rfl
def pairN : List D → Bool
  | [.int a, .int b] => decide (2 ≤ b) && decide (Nat.gcd a.natAbs b.natAbs = 1)
  | _ => false
def pairP : List D → Bool
  | .int a :: _ => decide (0 ≤ a)
  | _ => false
def num : D → Bool
  | .int _ => true
  | .tup xs => pairN xs
  | .lst xs => pairN xs
  | _ => false
def wei : D → Bool
  | .int i => decide (0 ≤ i)
  | .tup xs => pairN xs && pairP xs
  | .lst xs => pairN xs && pairP xs
  | _ => false
def its : D → List D
  | .tup xs => xs
  | .lst xs => xs
  | _ => []
theorem cost_le (P : Prop) : True := trivial
section
variable {C : Calls} {M : Mem}
theorem fin_t (b : Bool) : fnR true M (.rt (.p (.bl b)) M) = .ok (.p (.bl b)) M := popR_same M _ M rfl
/-- a row of two whole numbers, or none -/
theorem two_cases (xs : List D) : (∃ a b, xs = [.int a, .int b]) ∨ (pairN xs = false ∧ (xs.length = 2 → ∃ x y, xs = [x, y] ∧ (whole x = false ∨ whole y = false))) := by
  cases xs with
  | nil => exact .inr ⟨rfl, fun h => by cases h⟩
  | cons x r =>
    cases r with
    | nil => exact .inr ⟨by cases x <;> rfl, fun h => by cases h⟩
    | cons y r =>
      cases r with
      | cons z r => exact .inr ⟨by cases x <;> cases y <;> rfl, fun h => by simp at h⟩
      | nil =>
        cases x with
        | int a =>
          cases y with
          | int b => exact .inl ⟨a, b, rfl⟩
          | _ => exact .inr ⟨rfl, fun _ => ⟨_, _, rfl, .inr rfl⟩⟩
        | _ => exact .inr ⟨by cases y <;> rfl, fun _ => ⟨_, _, rfl, .inl rfl⟩⟩
end
theorem is_number_row {C : Calls} {M : Mem} {d : D} {xs : List D} (hd : d = .tup xs ∨ d = .lst xs) (h : okV d = true) (c0 : ∀ x, okV x = true → C 0 [.p x] M = .ok (.p (.bl (whole x))) M)
    (c2 : ∀ x, okV x = true → C 2 [.p x] M = .ok (.p (.bl (some_ x))) M)
    (c1 : ∀ b : Int, b.natAbs < bnd → C 1 [.p (.int b), .p (.int 2), .p .non] M = .ok (.p (.bl (decide (2 ≤ b)))) M)
    (c1x : ∀ y, okV y = true → whole y = false → C 1 [.p y, .p (.int 2), .p .non] M = .ok (.p (.bl false)) M)
    (c3 : ∀ a b : Int, b.natAbs < bnd → C 3 [.p (.int a), .p (.int b)] M = .ok (.p (.int (Nat.gcd a.natAbs b.natAbs))) M) :
    exs Pr C b_is_number [some (.p d)] M = .rt (.p (.bl (pairN xs))) M := by
  have hx : okVs xs = true := by
    rcases hd with rfl | rfl <;> exact (Bool.and_eq_true _ _ ▸ (show (decide (xs.length ≤ 100) && okVs xs) = true from h)).2
  have hw : whole d = false := by rcases hd with rfl | rfl <;> rfl
  have i0 : W.items M (.p d) = some (xs.map W.p) := by rcases hd with rfl | rfl <;> rfl
  have e1 : ev Pr C (.call 0 [(.var 0)] [] []) [some (.p d)] M = .ok (.p (.bl false)) M := by
    rw [← hw, ← c0 d h]; rfl
  have hs : some_ d = true := by rcases hd with rfl | rfl <;> rfl
  have e2 : ev Pr C (.not (.call 2 [(.var 0)] [] [])) [some (.p d)] M = .ok (.p (.bl false)) M := by
    rw [ev_not]
    show (C 2 [.p d] M).bind _ = _
    rw [c2 d h, hs]; rfl
  have e3 : ev Pr C (.cmp .ne (.blt .len [(.var 0)]) (.int 2)) [some (.p d)] M = .ok (.p (.bl (decide (xs.length ≠ 2)))) M := by
    have q : bltW M .len [.p d] = some (.p (.int (xs.length : Int))) := by
      rcases hd with rfl | rfl <;> simp [bltW, W.items]
    have q1 : ev Pr C (.blt .len [(.var 0)]) [some (.p d)] M = .ok (.p (.int (xs.length : Int))) M := by
      rw [ev_blt]
      show Res.of (bltW M .len [.p d]) M = _
      rw [q]; rfl
    rw [ev_cmp, q1]
    simp [cmpW, W.view, cmpD, eqD, eqP, plain, nrm]
    by_cases q2 : xs.length = 2
    · simp [q2]
    · have : ¬ (xs.length : Int) = 2 := by omega
      simp [q2, this]
  unfold b_is_number
  rw [exs_cons, ex_ifs, e1, Res.st_ok]
  show exs Pr C [_, _] _ M = _
  rw [exs_cons, ex_ifs, ev_or, e2, Res.bind_ok]
  show ((Res.st _ (ev Pr C (.or (.cmp .ne (.blt .len [(.var 0)]) (.int 2)) (.not (.call 0 [(.idx (.var 0) (.int 0))] [] []))) [some (.p d)] M) _).andT _) = _
  rw [ev_or, e3, Res.bind_ok]
  have at0 : ∀ x y : D, xs = [x, y] → ev Pr C (.idx (.var 0) (.int 0)) [some (.p d)] M = .ok (.p x) M := fun x y q => by
    subst q
    rcases hd with rfl | rfl <;> rfl
  have at1 : ∀ x y : D, xs = [x, y] → ev Pr C (.idx (.var 0) (.int 1)) [some (.p d)] M = .ok (.p y) M := fun x y q => by
    subst q
    rcases hd with rfl | rfl <;> rfl
  have w0 : ∀ x y : D, xs = [x, y] → ev Pr C (.not (.call 0 [(.idx (.var 0) (.int 0))] [] [])) [some (.p d)] M = .ok (.p (.bl (!whole x))) M := fun x y q => by
    rw [ev_not, ev_call, evs_cons, at0 x y q, Res.bind_ok, evs_nil, Res.bind_ok, Res.bind_ok, evs_nil, Res.bind_ok]
    show (C 0 [.p x] M).bind _ = _
    rw [c0 x (okVs_mem hx x (by rw [q]; simp))]
    rfl
  have w1 : ∀ x y : D, xs = [x, y] → ∀ v, C 1 [.p y, .p (.int 2), .p .non] M = .ok (.p (.bl v)) M → ev Pr C (.call 1 [(.idx (.var 0) (.int 1)), (.int 2), .non] [] []) [some (.p d)] M = .ok (.p (.bl v)) M := fun x y q v hv => by
    rw [ev_call, evs_cons, at1 x y q, Res.bind_ok, ← hv]
    rfl
  rcases two_cases xs with ⟨a, b, q⟩ | ⟨q, r⟩
  · have hl : decide (xs.length ≠ 2) = false := by rw [q]; rfl
    have hb : b.natAbs < bnd := of_decide_eq_true (show okV (.int b) = true from okVs_mem hx _ (by rw [q]; simp))
    rw [hl]
    show ((Res.st _ (ev Pr C (.not (.call 0 [(.idx (.var 0) (.int 0))] [] [])) [some (.p d)] M) _).andT _) = _
    rw [w0 _ _ q]
    show exs Pr C [.ret _] _ M = _
    rw [exs_cons, ex_ret, ev_and, w1 _ _ q _ (c1 b hb), Res.bind_ok]
    have e9 : ev Pr C (.cmp .eq (.call 3 [(.idx (.var 0) (.int 0)), (.idx (.var 0) (.int 1))] [] []) (.int 1)) [some (.p d)] M = .ok (.p (.bl (decide (Nat.gcd a.natAbs b.natAbs = 1)))) M := by
      have e8 : ev Pr C (.call 3 [(.idx (.var 0) (.int 0)), (.idx (.var 0) (.int 1))] [] []) [some (.p d)] M = .ok (.p (.int (Nat.gcd a.natAbs b.natAbs))) M := by
        rw [ev_call, evs_cons, at0 _ _ q, Res.bind_ok, evs_cons, at1 _ _ q, Res.bind_ok, ← c3 a b hb]
        rfl
      rw [ev_cmp, e8]
      simp [cmpW, isNon, W.view, cmpD, eqD, eqP, plain, nrm]
      omega
    have q9 : pairN xs = (decide (2 ≤ b) && decide (Nat.gcd a.natAbs b.natAbs = 1)) := by rw [q]; rfl
    rw [q9]
    by_cases z : 2 ≤ b
    · rw [decide_eq_true z]
      show ((Res.st _ (ev Pr C (.cmp .eq (.call 3 [(.idx (.var 0) (.int 0)), (.idx (.var 0) (.int 1))] [] []) (.int 1)) [some (.p d)] M) _).andT _) = _
      rw [e9]
      rfl
    · rw [decide_eq_false z]
      rfl
  · rw [q]
    by_cases hl : xs.length = 2
    · obtain ⟨x, y, q, z⟩ := r hl
      have hl : decide (xs.length ≠ 2) = false := by rw [q]; rfl
      rw [hl]
      show ((Res.st _ (ev Pr C (.not (.call 0 [(.idx (.var 0) (.int 0))] [] [])) [some (.p d)] M) _).andT _) = _
      rw [w0 _ _ q]
      cases hx0 : whole x
      · rfl
      · rw [hx0] at z
        have z : whole y = false := by simpa using z
        show exs Pr C [.ret _] _ M = _
        rw [exs_cons, ex_ret, ev_and, w1 _ _ q _ (c1x y (okVs_mem hx y (by rw [q]; simp)) z), Res.bind_ok]
        rfl
    · rw [decide_eq_true hl]
      rfl
theorem is_number_run {n : Nat} {d : D} {M : Mem} (h : okV d = true) : callF Pr (n + 3) 4 [.p d] M = .ok (.p (.bl (num d))) M := by
  have c0 : ∀ x, okV x = true → callF Pr (n + 2) 0 [.p x] M = .ok (.p (.bl (whole x))) M := fun x hx => is_integer_run hx
  have c2 : ∀ x, okV x = true → callF Pr (n + 2) 2 [.p x] M = .ok (.p (.bl (some_ x))) M := fun x hx => is_list_run hx
  have c1 : ∀ b : Int, b.natAbs < bnd → callF Pr (n + 2) 1 [.p (.int b), .p (.int 2), .p .non] M = .ok (.p (.bl (decide (2 ≤ b)))) M := fun b hb => by
    rw [within_run (n := n) (show okV (.int b) = true from decide_eq_true hb) rfl rfl]
    simp [within, loB, hiB]
  have c1x : ∀ y, okV y = true → whole y = false → callF Pr (n + 2) 1 [.p y, .p (.int 2), .p .non] M = .ok (.p (.bl false)) M := fun y hy hw => by
    rw [within_run (n := n) hy rfl rfl]
    cases y <;> first | rfl | cases hw
  have c3 : ∀ a b : Int, b.natAbs < bnd → callF Pr (n + 2) 3 [.p (.int a), .p (.int b)] M = .ok (.p (.int (Nat.gcd a.natAbs b.natAbs))) M := fun a b hb => common_run hb
  rw [call_s (d := ⟨1, 1, true, b_is_number⟩) rfl rfl]
  show fnR true M (exs Pr (callF Pr (n + 2)) b_is_number [some (.p d)] M) = _
  generalize callF Pr (n + 2) = C at *
  have e1 : ev Pr C (.call 0 [(.var 0)] [] []) [some (.p d)] M = .ok (.p (.bl (whole d))) M := by rw [← c0 d h]; rfl
  have e2 : ev Pr C (.not (.call 2 [(.var 0)] [] [])) [some (.p d)] M = .ok (.p (.bl (!some_ d))) M := by
    rw [ev_not]
    show (C 2 [.p d] M).bind _ = _
    rw [c2 d h]; rfl
  rw [← fin_t (num d)]
  cases d with
  | tup xs => rw [is_number_row (.inl rfl) h c0 c2 c1 c1x c3]; rfl
  | lst xs => rw [is_number_row (.inr rfl) h c0 c2 c1 c1x c3]; rfl
  | obj => cases h
  | exc => cases h
  | int i =>
    unfold b_is_number
    rw [exs_cons, ex_ifs, e1]
    rfl
  | _ =>
    unfold b_is_number
    rw [exs_cons, ex_ifs, e1, Res.st_ok]
    show fnR true M (exs Pr C [_, _] _ M) = _
    rw [exs_cons, ex_ifs, ev_or, e2]
    rfl
theorem pures_p : ∀ ds : List D, W.pures (ds.map W.p) = some ds
  | [] => rfl
  | d :: ds => by
    show (match W.pures (ds.map W.p) with | some ds => some (d :: ds) | none => none) = _
    rw [pures_p ds]
theorem mkLst_p (ds : List D) : mkLst (ds.map W.p) = some (.p (.lst ds)) := by
  unfold mkLst
  rw [pures_p]; rfl
theorem mkTup_p (ds : List D) : mkTup (ds.map W.p) = .p (.tup ds) := by
  unfold mkTup
  rw [pures_p]
theorem bls_map (f : D → Bool) : ∀ ds : List D, D.bls (ds.map fun x => .bl (f x)) = some (ds.map f)
  | [] => rfl
  | d :: ds => by
    show ((D.bls (ds.map fun x => .bl (f x))).map (f d :: ·)) = _
    rw [bls_map f ds]; rfl
theorem compL_map {step : W → Mem → Res (Option W)} {M : Mem} {f : D → Bool} : ∀ (ds : List D) (acc : List W), (∀ x ∈ ds, step (.p x) M = .ok (some (.p (.bl (f x)))) M) →
    compL step (ds.map W.p) acc M = .ok (acc.reverse ++ (ds.map fun x => D.bl (f x)).map W.p) M
  | [], acc, _ => by simp [compL]
  | d :: ds, acc, h => by
    show (step (.p d) M).bind _ = _
    rw [h d (by simp), Res.bind_ok]
    show compL step (ds.map W.p) (.p (.bl (f d)) :: acc) M = _
    rw [compL_map ds _ fun x hx => h x (by simp [hx])]
    simp
theorem comp_all {C : Calls} {env : Env} {M : Mem} {elt it : G.Ex} {s : Nat} {w : W} {ds : List D} (f : D → Bool) (hit : ev Pr C it env M = .ok w M) (hw : iterW w = some (ds.map W.p))
    (hel : ∀ x ∈ ds, ev Pr C elt ((env.set s none).set s (some (.p x))) M = .ok (.p (.bl (f x))) M) :
    ev Pr C (.blt .all [.comp elt [s] (.nm s) it []]) env M = .ok (.p (.bl (ds.all f))) M := by
  have e : ev Pr C (.comp elt [s] (.nm s) it []) env M = .ok (.p (.lst (ds.map fun x => .bl (f x)))) M := by
    rw [ev_comp, hit, Res.bind_ok, hw]
    show ((compL _ (ds.map W.p) [] M).noX.bind _) = _
    rw [compL_map (f := f) ds [] fun x hx => ?_]
    · show Res.of (mkLst (List.reverse [] ++ (ds.map fun x => D.bl (f x)).map W.p)) M = _
      rw [List.reverse_nil, List.nil_append, mkLst_p]
      rfl
    · show (Res.bind (ev Pr C elt ((env.set s none).set s (some (.p x))) M) fun v M => .ok (some v) M) = _
      rw [hel x hx]
      rfl
  rw [ev_blt, evs_cons, e]
  show Res.of ((D.bls (ds.map fun x => .bl (f x))).map fun bs => W.p (.bl (bs.all id))) M = _
  rw [bls_map]
  show Res.ok (W.p (.bl ((ds.map f).all id))) M = _
  rw [List.all_map]
  rfl
theorem fix_its {d : D} (h : some_ d = true) : iterW (.p d) = some ((its d).map W.p) := by
  cases d <;> first | rfl | cases h
theorem len_its {d : D} {M : Mem} (h : some_ d = true) : bltW M .len [.p d] = some (.p (.int ((its d).length : Int))) := by
  cases d <;> first | (simp [bltW, W.items, its]; done) | cases h
theorem ok_its {d : D} (h : okV d = true) : ∀ x ∈ its d, okV x = true := by
  cases d with
  | tup xs => exact okVs_mem (Bool.and_eq_true _ _ ▸ (show (decide (xs.length ≤ 100) && okVs xs) = true from h)).2
  | lst xs => exact okVs_mem (Bool.and_eq_true _ _ ▸ (show (decide (xs.length ≤ 100) && okVs xs) = true from h)).2
  | _ => exact fun x hx => by cases hx
theorem len_ok {d : D} (h : okV d = true) : (its d).length ≤ 100 := by
  cases d with
  | tup xs => exact of_decide_eq_true (Bool.and_eq_true _ _ ▸ (show (decide (xs.length ≤ 100) && okVs xs) = true from h)).1
  | lst xs => exact of_decide_eq_true (Bool.and_eq_true _ _ ▸ (show (decide (xs.length ≤ 100) && okVs xs) = true from h)).1
  | _ => exact Nat.zero_le _
theorem len_cmp {C : Calls} {env : Env} {M : Mem} {a b : Nat} {d : D} {m : Int} (h : some_ d = true) (ha : getV env a = some (.p d)) (hb : getV env b = some (.p (.int m))) :
    ev Pr C (.cmp .eq (.blt .len [(.var a)]) (.var b)) env M = .ok (.p (.bl (decide (((its d).length : Int) = m)))) M := by
  have e1 : ev Pr C (.var a) env M = .ok (.p d) M := by rw [ev_var, ha]; rfl
  have e2 : ev Pr C (.var b) env M = .ok (.p (.int m)) M := by rw [ev_var, hb]; rfl
  rw [ev_cmp, ev_blt, evs_cons, e1, Res.bind_ok, evs_nil, Res.bind_ok, Res.bind_ok, len_its h, Res.of_some, Res.bind_ok, e2, Res.bind_ok]
  simp [cmpW, W.view, cmpD, eqD, eqP, plain, nrm]
def row (d : D) (m : Int) : Bool := some_ d && (decide (((its d).length : Int) = m) && (its d).all num)
end K04

set_option maxHeartbeats 4000000
namespace K04
open G
theorem fin_d (d : D) {M : Mem} : fnR true M (.rt (.p d) M) = .ok (.p d) M := popR_same M _ M rfl
theorem halves_run {n : Nat} {q : Rat} {M : Mem} : callF Pr (n + 1) 9 [.p (nd q)] M = .ok (.p (.tup [.int q.num, .int q.den])) M := by
  rw [← fin_d, call_s (d := ⟨1, 1, true, b_halves⟩) rfl rfl]
  unfold nd
  by_cases h : q.den = 1
  · rw [if_pos h, h]
    rfl
  · rw [if_neg h]
    rfl
/-- what stands for a number: its form, or its pair as a list -/
def isN (d : D) (q : Rat) : Prop := d = nd q ∨ (q.den ≠ 1 ∧ d = .lst [.int q.num, .int q.den])
theorem pairN_q {q : Rat} (h : q.den ≠ 1) : pairN [.int q.num, .int q.den] = true := by
  show (decide ((2 : Int) ≤ q.den) && decide (Nat.gcd q.num.natAbs (q.den : Int).natAbs = 1)) = true
  have h1 := q.den_pos
  rw [decide_eq_true (by omega : (2 : Int) ≤ q.den), Int.natAbs_natCast, decide_eq_true q.reduced]
  rfl
theorem num_isN {d : D} {q : Rat} (h : isN d q) : num d = true := by
  rcases h with rfl | ⟨h, rfl⟩
  · unfold nd
    split
    · rfl
    · rename_i h
      exact pairN_q h
  · exact pairN_q h
theorem okV_isN {d : D} {q : Rat} (h : isN d q) (hs : sz q 2000) : okV d = true := by
  have i1 : okV (.int q.num) = true := decide_eq_true (bnd_of hs.1 (by decide))
  have i2 : okV (.int q.den) = true := decide_eq_true (by rw [Int.natAbs_natCast]; exact bnd_of hs.2 (by decide))
  have k : (decide ((2 : Nat) ≤ 100) && (okV (.int q.num) && (okV (.int q.den) && true))) = true := by rw [i1, i2]; rfl
  rcases h with rfl | ⟨h, rfl⟩
  · unfold nd
    split
    · exact i1
    · exact k
  · exact k
theorem kept_run {n : Nat} {d : D} {q : Rat} {M : Mem} (h : isN d q) : callF Pr (n + 1) 5 [.p d] M = .ok (.p (nd q)) M := by
  rw [← fin_d, call_s (d := ⟨1, 1, true, b_kept⟩) rfl rfl]
  rcases h with rfl | ⟨h, rfl⟩
  · unfold nd
    split <;> rfl
  · unfold nd
    rw [if_neg h]
    rfl
theorem fin_x {c : Nat} {ns : List Nat} {vs : List D} {env : Env} {M : Mem} : fnR true M (.exc c ns vs env M) = .exc c ns vs M := by
  show (if true && decide (M.length < M.length) then _ else _) = _
  simp
section
variable {n : Nat} {d d1 d2 : D} {p q : Rat} {x : PySem.Str} {M : Mem}
theorem need_number_run (h : isN d q) (hs : sz q 2000) : callF Pr (n + 4) 6 [.p d, .p (.str x)] M = .ok (.p (nd q)) M := by
  rw [← fin_d, call_s (d := ⟨2, 2, true, b_need_number⟩) rfl rfl]
  show fnR true M (exs Pr (callF Pr (n + 3)) b_need_number [some (.p d), some (.p (.str x))] M) = _
  have e1 : ev Pr (callF Pr (n + 3)) (.not (.call 4 [(.var 0)] [] [])) [some (.p d), some (.p (.str x))] M = .ok (.p (.bl false)) M := by
    rw [ev_not]
    show (callF Pr (n + 3) 4 [.p d] M).bind _ = _
    rw [is_number_run (okV_isN h hs), num_isN h]
    rfl
  have e2 : ev Pr (callF Pr (n + 3)) (.call 5 [(.var 0)] [] []) [some (.p d), some (.p (.str x))] M = .ok (.p (nd q)) M := by rw [← kept_run (n := n + 2) h]; rfl
  unfold b_need_number
  rw [exs_cons, ex_ifs, e1]
  show fnR true M (exs Pr (callF Pr (n + 3)) [.ret _] _ M) = _
  rw [exs_cons, ex_ret, e2]
  rfl
theorem need_number_bad (h : okV d = true) (hn : num d = false) : callF Pr (n + 4) 6 [.p d, .p (.str x)] M = .exc 1 [0] [.str x] M := by
  rw [call_s (d := ⟨2, 2, true, b_need_number⟩) rfl rfl]
  show fnR true M (exs Pr (callF Pr (n + 3)) b_need_number [some (.p d), some (.p (.str x))] M) = _
  have e1 : ev Pr (callF Pr (n + 3)) (.not (.call 4 [(.var 0)] [] [])) [some (.p d), some (.p (.str x))] M = .ok (.p (.bl true)) M := by
    rw [ev_not]
    show (callF Pr (n + 3) 4 [.p d] M).bind _ = _
    rw [is_number_run h, hn]
    rfl
  unfold b_need_number
  rw [exs_cons, ex_ifs, e1]
  exact fin_x (env := [some (.p d), some (.p (.str x))])
end
theorem eqI {M : Mem} {a b : Int} : cmpW M .eq (.p (.int a)) (.p (.int b)) = some (decide (a = b)) := by
  show eqD (.int a) (.int b) = _
  simp [eqD, eqP, plain, nrm]
theorem ne_str {s : PySem.Str} {M : Mem} : cmpW M .ne (.p (.str s)) (.p (.str s)) = some false := by
  show (eqD (.str s) (.str s)).map (!·) = _
  simp [eqD]
theorem eq_str {s : PySem.Str} {M : Mem} : cmpW M .eq (.p (.str s)) (.p (.str s)) = some true := by
  show eqD (.str s) (.str s) = _
  simp [eqD]
theorem ne_same {d : D} {M : Mem} (h : plain 60 d = true) : cmpW M .ne (.p d) (.p d) = some false := by
  show (eqD d d).map (!·) = _
  have e : eqD d d = some true := by
    cases d with
    | str s => simp [eqD]
    | _ =>
      show eqP _ _ = _
      unfold eqP
      rw [h]
      simp
  rw [e]; rfl
theorem eq_same {d : D} {M : Mem} (h : plain 60 d = true) : cmpW M .eq (.p d) (.p d) = some true := by
  show eqD d d = _
  cases d with
  | str s => simp [eqD]
  | _ =>
    show eqP _ _ = _
    unfold eqP
    rw [h]
    simp
theorem exs_one {C : Calls} {s : G.St} {env : Env} {M : Mem} : exs Pr C [s] env M = ex Pr C s env M := by
  rw [exs_cons]
  cases ex Pr C s env M <;> rfl
theorem if_skip {C : Calls} {c : G.Ex} {a : List G.St} {env : Env} {M M' : Mem} (h : ev Pr C c env M = .ok (.p (.bl false)) M') : ex Pr C (.ifs c a []) env M = .nx env M' := by
  rw [ex_ifs, h]; rfl
/-! texts -/
theorem s_minus : ("-" : PySem.Str) = sl [45] := by rfl
theorem s_empty : ("" : PySem.Str) = sl [] := by rfl
theorem s_zero : ("0" : PySem.Str) = sl [48] := by rfl
theorem s_bar : ("/" : PySem.Str) = ⟨#[47]⟩ := by rfl
def figs : List Nat := [48, 49, 50, 51, 52, 53, 54, 55, 56, 57]
theorem s_figs : ("0123456789" : PySem.Str) = sl figs := by rfl
theorem eqS {M : Mem} {a b : List Nat} : cmpW M .eq (.p (.str (sl a))) (.p (.str (sl b))) = some (decide (a = b)) := by
  show eqD (.str (sl a)) (.str (sl b)) = _
  have : decide (sl a = sl b) = decide (a = b) := decide_eq_decide.mpr ⟨sl_inj, fun h => by rw [h]⟩
  show some (decide (sl a = sl b)) = _
  rw [this]
theorem neS {M : Mem} {a b : List Nat} : cmpW M .ne (.p (.str (sl a))) (.p (.str (sl b))) = some (!decide (a = b)) := by
  have e := eqS (M := M) (a := a) (b := b)
  have e : eqD (.str (sl a)) (.str (sl b)) = some (decide (a = b)) := e
  show (eqD (.str (sl a)) (.str (sl b))).map (!·) = _
  rw [e]; rfl
theorem sz_sl {l : List Nat} (h : l.length ≤ 1000) : szOk (sl l).length = true := decide_eq_true (by rw [sl_len]; omega)
section
variable {C : Calls} {env : Env} {M : Mem} {l : List Nat}
theorem cutL_ev {v : Nat} {n : Nat} {e : G.Ex} (h : getV env v = some (.p (.str (sl l)))) (he : ev Pr C e env M = .ok (.p (.int (n : Int))) M) (hl : l.length ≤ 1000) : ev Pr C (.slc (.var v) [] [e]) env M = .ok (.p (.str (sl (l.take n)))) M := by
  have k : slcW M (.p (.str (sl l))) none (some (n : Int)) = some (.p (.str (sl (l.take n)))) := by
    show (if szOk (sl l).length then some (W.p (.str (L2.cutS (sl l) none (some (n : Int))))) else none) = _
    rw [sz_sl hl, cut_none]
    rfl
  have v : ev Pr C (.var v) env M = .ok (.p (.str (sl l))) M := by rw [ev_var, h]; rfl
  rw [ev_slc, v, Res.bind_ok, evs_nil, Res.bind_ok, show oneInt [] = some none from rfl, Res.of_some, Res.bind_ok, evs_cons, he, Res.bind_ok, evs_nil, Res.bind_ok, Res.bind_ok, show oneInt [.p (.int (n : Int))] = some (some (n : Int)) from rfl, Res.of_some, Res.bind_ok, k]
  rfl
theorem cutR_ev {v : Nat} {n : Nat} {e : G.Ex} (h : getV env v = some (.p (.str (sl l)))) (he : ev Pr C e env M = .ok (.p (.int (n : Int))) M) (hl : l.length ≤ 1000) : ev Pr C (.slc (.var v) [e] []) env M = .ok (.p (.str (sl (l.drop n)))) M := by
  have k : slcW M (.p (.str (sl l))) (some (n : Int)) none = some (.p (.str (sl (l.drop n)))) := by
    show (if szOk (sl l).length then some (W.p (.str (L2.cutS (sl l) (some (n : Int)) none))) else none) = _
    rw [sz_sl hl, cut_from]
    rfl
  have v : ev Pr C (.var v) env M = .ok (.p (.str (sl l))) M := by rw [ev_var, h]; rfl
  rw [ev_slc, v, Res.bind_ok, evs_cons, he, Res.bind_ok, evs_nil, Res.bind_ok, Res.bind_ok, show oneInt [.p (.int (n : Int))] = some (some (n : Int)) from rfl, Res.of_some, Res.bind_ok, evs_nil, Res.bind_ok, show oneInt [] = some none from rfl, Res.of_some, Res.bind_ok, k]
  rfl
theorem bare_take (l : List Nat) : bare l = if l.take 1 = [45] then l.drop 1 else l := by
  cases l with
  | nil => rfl
  | cons c r =>
    by_cases h : c = 45
    · subst h
      rw [if_pos (show List.take 1 (45 :: r) = [45] from rfl)]
      rfl
    · rw [if_neg (by simpa using h)]
      unfold bare
      split
      · rename_i e
        cases e
        exact absurd rfl h
      · rfl
theorem strip_ev (h : getV env 0 = some (.p (.str (sl l)))) (hl : l.length ≤ 1000) : ev Pr C (.ite (.cmp .eq (.slc (.var 0) [] [(.int 1)]) (.str "-")) (.slc (.var 0) [(.int 1)] []) (.var 0)) env M = .ok (.p (.str (sl (bare l)))) M := by
  rw [ev_ite, ev_cmp, cutL_ev (n := 1) h rfl hl, Res.bind_ok, ev_str, Res.bind_ok, s_minus, eqS, bare_take]
  by_cases z : l.take 1 = [45]
  · rw [decide_eq_true z, if_pos z]
    exact cutR_ev (n := 1) h rfl hl
  · rw [decide_eq_false z, if_neg z]
    show ev Pr C (.var 0) env M = _
    rw [ev_var, h]
    rfl
theorem mem_figs (c : Nat) : decide (c ∈ figs) = decide (48 ≤ c ∧ c ≤ 57) := decide_eq_decide.mpr (by
  unfold figs
  simp
  omega)
theorem digits_ev {cE : G.Ex} {s : Nat} (hc : ∀ (env : Env) (M : Mem), ev Pr C cE env M = .ok (.p (.str (sl figs))) M) {b : List Nat} (h : getV env 1 = some (.p (.str (sl b)))) (hs : s < env.length) (hl : b.length ≤ 1000) :
    ev Pr C (.blt .all [(.comp (.cmp .inn (.var s) cE) [s] (.nm s) (.it (.var 1)) [])]) env M = .ok (.p (.bl (digs b))) M := by
  have e := comp_all (C := C) (env := env) (M := M) (s := s) (elt := .cmp .inn (.var s) cE) (it := .it (.var 1)) (w := .p (.str (sl b))) (ds := b.map fun c => D.str ⟨#[c]⟩) (fun d => match d with
    | .str x => (match x.cps.toList with
      | [c] => decide (48 ≤ c ∧ c ≤ 57)
      | _ => false)
    | _ => false) (by
      show ev Pr C (.var 1) env M = _
      rw [ev_var, h]; rfl) (by
      show (if szOk (sl b).length then some ((sl b).cps.toList.map fun c => W.p (.str ⟨#[c]⟩)) else none) = _
      rw [sz_sl hl, sl_list, List.map_map]
      rfl) fun x hx => by
    obtain ⟨c, hc', rfl⟩ := List.mem_map.mp hx
    have v : getV ((env.set s none).set s (some (.p (.str ⟨#[c]⟩)))) s = some (.p (.str ⟨#[c]⟩)) := by
      unfold getV
      rw [List.getElem?_set_self (by rw [List.length_set]; exact hs)]
    have v2 : ev Pr C (.var s) ((env.set s none).set s (some (.p (.str ⟨#[c]⟩)))) M = .ok (.p (.str ⟨#[c]⟩)) M := by rw [ev_var, v]; rfl
    have k : cmpW M .inn (.p (.str ⟨#[c]⟩)) (.p (.str (sl figs))) = some (decide (48 ≤ c ∧ c ≤ 57)) := by
      show (if decide ((⟨#[c]⟩ : PySem.Str) = ⟨#[c]⟩) then some (decide (c ∈ (sl figs).cps.toList)) else none) = _
      rw [decide_eq_true rfl, sl_list, mem_figs]
      rfl
    rw [ev_cmp, v2, Res.bind_ok, hc, Res.bind_ok, k]
    rfl
  rw [e]
  congr 3
  unfold digs
  rw [List.all_map]
  rfl
def optD : Option Int → D
  | none => .non
  | some i => .int i
def bodyI (xE cE : G.Ex) : List G.St := [.asg 1 (.ite (.cmp .eq (.slc (.var 0) [] [(.int 1)]) (.str "-")) (.slc (.var 0) [(.int 1)] []) (.var 0)),
  .ifs (.or (.cmp .eq (.var 1) (.str "")) (.or (.cmp .gt (.blt .len [(.var 1)]) xE) (.not (.blt .all [(.comp (.cmp .inn (.var 2) cE) [2] (.nm 2) (.it (.var 1)) [])])))) [.ret .non] [],
  .ifs (.and (.cmp .eq (.idx (.var 1) (.int 0)) (.str "0")) (.cmp .ne (.var 0) (.str "0"))) [.ret .non] [],
  .ret (.blt .int [(.var 0)])]
theorem int_body {xE cE : G.Ex} (hx : ∀ (env : Env) (M : Mem), ev Pr C xE env M = .ok (.p (.int 60)) M) (hc : ∀ (env : Env) (M : Mem), ev Pr C cE env M = .ok (.p (.str (sl figs))) M) (hl : l.length ≤ 600) :
    exs Pr C (bodyI xE cE) [some (.p (.str (sl l))), none, none] M = .rt (.p (optD (intOf l))) M := by
  have hb : (bare l).length ≤ 600 := by
    rw [bare_take]
    split
    · rw [List.length_drop]; omega
    · exact hl
  obtain ⟨env, he⟩ : ∃ env : Env, env = [some (.p (.str (sl l))), some (.p (.str (sl (bare l)))), none] := ⟨_, rfl⟩
  have v0 : ev Pr C (.var 0) env M = .ok (.p (.str (sl l))) M := by rw [he]; rfl
  have v1 : ev Pr C (.var 1) env M = .ok (.p (.str (sl (bare l)))) M := by rw [he]; rfl
  have c1 : ev Pr C (.or (.cmp .eq (.var 1) (.str "")) (.or (.cmp .gt (.blt .len [(.var 1)]) xE) (.not (.blt .all [(.comp (.cmp .inn (.var 2) cE) [2] (.nm 2) (.it (.var 1)) [])])))) env M = .ok (.p (.bl (decide (bare l = [] ∨ 60 < (bare l).length ∨ digs (bare l) = false)))) M := by
    have k1 : ev Pr C (.cmp .eq (.var 1) (.str "")) env M = .ok (.p (.bl (decide (bare l = [])))) M := by
      rw [ev_cmp, v1, Res.bind_ok, ev_str, Res.bind_ok, s_empty, eqS]; rfl
    have k2 : ev Pr C (.cmp .gt (.blt .len [(.var 1)]) xE) env M = .ok (.p (.bl (decide (60 < (bare l).length)))) M := by
      have z : bltW M .len [.p (.str (sl (bare l)))] = some (.p (.int ((bare l).length : Int))) := by
        show (if (sl (bare l)).length ≤ 100000 then some (W.p (.int ((sl (bare l)).length : Int))) else none) = _
        rw [sl_len, if_pos (by omega)]
      rw [ev_cmp, ev_blt, evs_cons, v1, Res.bind_ok, evs_nil, Res.bind_ok, Res.bind_ok, z, Res.of_some, Res.bind_ok, hx, Res.bind_ok]
      have z2 : cmpW M .gt (.p (.int ((bare l).length : Int))) (.p (.int 60)) = some (decide (60 < (bare l).length)) := by
        show some (decide ((60 : Int) < ((bare l).length : Int))) = _
        congr 1
        exact decide_eq_decide.mpr (by omega)
      rw [z2]
      rfl
    have k3 : ev Pr C (.not (.blt .all [(.comp (.cmp .inn (.var 2) cE) [2] (.nm 2) (.it (.var 1)) [])])) env M = .ok (.p (.bl (!digs (bare l)))) M := by
      rw [ev_not, digits_ev hc (by rw [he]; rfl) (by rw [he]; exact (by decide : 2 < 3)) (by omega)]
      rfl
    rw [ev_or, k1, Res.bind_ok]
    by_cases z1 : bare l = []
    · rw [decide_eq_true z1, decide_eq_true (.inl z1)]
      rfl
    · rw [decide_eq_false z1]
      show ev Pr C (.or (.cmp .gt (.blt .len [(.var 1)]) xE) (.not (.blt .all [(.comp (.cmp .inn (.var 2) cE) [2] (.nm 2) (.it (.var 1)) [])]))) env M = _
      rw [ev_or, k2, Res.bind_ok]
      by_cases z2 : 60 < (bare l).length
      · rw [decide_eq_true z2, decide_eq_true (.inr (.inl z2))]
        rfl
      · rw [decide_eq_false z2]
        show ev Pr C (.not (.blt .all [(.comp (.cmp .inn (.var 2) cE) [2] (.nm 2) (.it (.var 1)) [])])) env M = _
        rw [k3]
        cases z3 : digs (bare l) with
        | true =>
          rw [decide_eq_false (by rintro (h | h | h); exact z1 h; exact z2 h; cases h)]
          rfl
        | false =>
          rw [decide_eq_true (.inr (.inr rfl))]
          rfl
  unfold bodyI
  rw [exs_cons, ex_asg, strip_ev rfl (by omega)]
  show exs Pr C [_, _, _] [some (.p (.str (sl l))), some (.p (.str (sl (bare l)))), none] M = _
  rw [← he, exs_cons, ex_ifs, c1, Res.st_ok]
  unfold intOf
  by_cases z : bare l = [] ∨ 60 < (bare l).length ∨ digs (bare l) = false
  · rw [decide_eq_true z, if_pos z]
    rfl
  · rw [decide_eq_false z, if_neg z]
    have a1 : bare l ≠ [] := fun y => z (.inl y)
    have a2 : (bare l).length ≤ 60 := Nat.le_of_not_lt fun y => z (.inr (.inl y))
    have a3 : digs (bare l) = true := by
      cases y : digs (bare l) with
      | true => rfl
      | false => exact absurd (.inr (.inr y)) z
    obtain ⟨c, r, hcr⟩ : ∃ c r, bare l = c :: r := by
      cases y : bare l with
      | nil => exact absurd y a1
      | cons c r => exact ⟨c, r, rfl⟩
    have k1 : ev Pr C (.cmp .eq (.idx (.var 1) (.int 0)) (.str "0")) env M = .ok (.p (.bl (decide ((bare l).head? = some 48)))) M := by
      have z1 : idxW M (.p (.str (sl (bare l)))) (.p (.int 0)) = some (.p (.str (sl [c]))) := by
        show (if szOk (sl (bare l)).length then (at? (sl (bare l)).cps.toList 0).map fun c => W.p (.str ⟨#[c]⟩) else none) = _
        rw [sz_sl (by omega), sl_list, hcr]
        have z2 : at? (c :: r) (0 : Int) = some c := by
          unfold at? ixI
          rw [if_pos (by decide), if_pos (by rw [List.length_cons]; omega)]
          rfl
        rw [z2]
        rfl
      rw [ev_cmp, ev_idx, v1, Res.bind_ok, ev_int, Res.bind_ok, z1, Option.map_some, Res.of_some, Res.bind_ok]
      show Res.of ((cmpW M .eq (.p (.str (sl [c]))) (.p (.str "0"))).map fun b => W.p (.bl b)) M = _
      rw [s_zero, eqS, hcr]
      have : decide ([c] = [48]) = decide ((c :: r).head? = some 48) := decide_eq_decide.mpr (by simp)
      rw [this]
      rfl
    have k2 : ev Pr C (.cmp .ne (.var 0) (.str "0")) env M = .ok (.p (.bl (!decide (l = [48])))) M := by
      rw [ev_cmp, v0, Res.bind_ok, ev_str, Res.bind_ok, s_zero, neS]
      rfl
    have c2 : ev Pr C (.and (.cmp .eq (.idx (.var 1) (.int 0)) (.str "0")) (.cmp .ne (.var 0) (.str "0"))) env M = .ok (.p (.bl (decide ((bare l).head? = some 48 ∧ l ≠ [48])))) M := by
      rw [ev_and, k1, Res.bind_ok]
      by_cases y : (bare l).head? = some 48
      · rw [decide_eq_true y]
        show ev Pr C (.cmp .ne (.var 0) (.str "0")) env M = _
        rw [k2]
        by_cases y2 : l = [48]
        · rw [decide_eq_true y2, decide_eq_false (fun h => h.2 y2)]; rfl
        · rw [decide_eq_false y2, decide_eq_true ⟨y, y2⟩]; rfl
      · rw [decide_eq_false y, decide_eq_false (fun h => y h.1)]
        rfl
    show exs Pr C [_, _] env M = _
    rw [exs_cons, ex_ifs, c2, Res.st_ok]
    by_cases y : (bare l).head? = some 48 ∧ l ≠ [48]
    · rw [decide_eq_true y, if_pos y]
      rfl
    · rw [decide_eq_false y, if_neg y]
      obtain ⟨i, e, hi⟩ := int_some a1 a2 a3
      show exs Pr C [.ret _] env M = _
      have k : bltW M .int [.p (.str (sl l))] = some (.p (.int i)) := by
        show (if decide ((sl l).length ≤ 640) then (PySem.intText? (sl l)).map fun i => W.p (.int i) else none) = _
        rw [decide_eq_true (by rw [sl_len]; omega), e]
        rfl
      rw [exs_cons, ex_ret, ev_blt, evs_cons, v0, Res.bind_ok, evs_nil, Res.bind_ok, Res.bind_ok, k, e]
      rfl
end
theorem integer_in_run {n : Nat} {l : List Nat} {M : Mem} (hl : l.length ≤ 600) : callF Pr (n + 1) 7 [.p (.str (sl l))] M = .ok (.p (optD (intOf l))) M := by
  rw [← fin_d, call_s (d := ⟨1, 3, true, b_integer_in⟩) rfl rfl]
  show fnR true M (exs Pr (callF Pr n) (bodyI (.glob 1) (.glob 0)) [some (.p (.str (sl l))), none, none] M) = _
  rw [int_body (fun _ _ => rfl) (fun _ _ => rfl) hl]
theorem figures_run {n : Nat} {l : List Nat} {M : Mem} (hl : l.length ≤ 600) : callF Pr (n + 1) 17 [.p (.str (sl l))] M = .ok (.p (optD (intOf l))) M := by
  rw [← fin_d, call_s (d := ⟨1, 3, true, b_l_figures⟩) rfl rfl]
  show fnR true M (exs Pr (callF Pr n) (bodyI (.int 60) (.str "0123456789")) [some (.p (.str (sl l))), none, none] M) = _
  rw [int_body (fun _ _ => rfl) (fun _ _ => rfl) hl]
end K04

set_option maxHeartbeats 4000000
namespace K04
open G
theorem l_alone_run {n : Nat} {a b : Int} {M : Mem} (hb : b.natAbs < bnd) : callF Pr (n + 1) 16 [.p (.int a), .p (.int b)] M = .ok (.p (.bl (decide (Nat.gcd a.natAbs b.natAbs = 1)))) M := by
  rw [← fin_d, call_s (d := ⟨2, 2, true, b_l_alone⟩) rfl rfl]
  show fnR true M (exs Pr (callF Pr n) [.par 0 1 (.blt .abs [(.var 0)]) (.blt .abs [(.var 1)]), .while_ (.cmp .gt (.var 1) (.int 0)) [.par 0 1 (.var 1) (.bin .mod (.blt .int [(.var 0)]) (.var 1))], .ret (.cmp .eq (.var 0) (.int 1))] [some (.p (.int a)), some (.p (.int b))] M) = _
  have e1 : ex Pr (callF Pr n) (.par 0 1 (.blt .abs [(.var 0)]) (.blt .abs [(.var 1)])) [some (.p (.int a)), some (.p (.int b))] M = .nx [some (.p (.int a.natAbs)), some (.p (.int b.natAbs))] M := by
    simp only [ex_par, ev_blt, evs_cons, evs_nil, ev_var, getV, rd, bltW, Res.bind_ok, Res.of_some, Option.map_some, Res.st_ok, List.getElem?_cons_zero, List.getElem?_cons_succ, absN]
    rfl
  have e2 : ex Pr (callF Pr n) (.while_ (.cmp .gt (.var 1) (.int 0)) [.par 0 1 (.var 1) (.bin .mod (.blt .int [(.var 0)]) (.var 1))]) [some (.p (.int a.natAbs)), some (.p (.int b.natAbs))] M = .nx [some (.p (.int (Nat.gcd a.natAbs b.natAbs))), some (.p (.int 0))] M :=
    gcd_loop (test := ev Pr (callF Pr n) (.cmp .gt (.var 1) (.int 0))) (body := exs Pr (callF Pr n) [.par 0 1 (.var 1) (.bin .mod (.blt .int [(.var 0)]) (.var 1))]) (M := M) (e := fun a b => [some (.p (.int a)), some (.p (.int b))]) (fun a b => by simp [getV, rd, cmpW, isNon, W.view, cmpD]) (fun a b h hlog => by simp [getV, rd, binW, binD, bltW, W.view, h, hlog]) bnd a.natAbs b.natAbs hb hb
  have e3 : ∀ g : Nat, ev Pr (callF Pr n) (.cmp .eq (.var 0) (.int 1)) [some (.p (.int g)), some (.p (.int 0))] M = .ok (.p (.bl (decide (g = 1)))) M := fun g => by
    simp [getV, rd, cmpW, isNon, W.view, cmpD, eqD, eqP, plain, nrm]
    omega
  rw [exs_cons, e1, SR.andT_nx, exs_cons, e2, SR.andT_nx, exs_cons, ex_ret, e3]
  rfl
/-- two words, one number -/
def resP (a b : List Nat) : D := match intOf a, intOf b with
  | some x, some y => if pairN [.int x, .int y] = true then .tup [.int x, .int y] else .non
  | _, _ => .non
def resN (l : List Nat) : D := if PySem.Txt.find (sl l) ⟨#[47]⟩ < 0 then optD (intOf l) else resP (l.take (PySem.Txt.find (sl l) ⟨#[47]⟩).toNat) (l.drop ((PySem.Txt.find (sl l) ⟨#[47]⟩).toNat + 1))
theorem resP_some {a b : List Nat} {x y : Int} (h1 : intOf a = some x) (h2 : intOf b = some y) : resP a b = if pairN [.int x, .int y] = true then .tup [.int x, .int y] else .non := by
  unfold resP
  rw [h1, h2]
theorem resP_none1 {a b : List Nat} (h1 : intOf a = none) : resP a b = .non := by
  unfold resP
  rw [h1]
theorem resP_none2 {a b : List Nat} {x : Int} (h1 : intOf a = some x) (h2 : intOf b = none) : resP a b = .non := by
  unfold resP
  rw [h1, h2]
theorem bnd60 : 10 ^ 60 ≤ bnd := by decide +kernel
theorem okInt {l : List Nat} {i : Int} (h : intOf l = some i) : okV (.int i) = true := decide_eq_true (Nat.lt_of_lt_of_le (intOf_lt h) bnd60)
theorem isn_ev {C : Calls} {env : Env} {M : Mem} {e : G.Ex} {d : D} (h : ev Pr C e env M = .ok (.p d) M) : ev Pr C (.cmp .isn e .non) env M = .ok (.p (.bl (!isNon (.p d)))) M := by
  rw [ev_cmp, h]
  rfl
theorem is_ev {C : Calls} {env : Env} {M : Mem} {e : G.Ex} {d : D} (h : ev Pr C e env M = .ok (.p d) M) : ev Pr C (.cmp .is e .non) env M = .ok (.p (.bl (isNon (.p d)))) M := by
  rw [ev_cmp, h]
  rfl
theorem number_in_run {n : Nat} {l : List Nat} {M : Mem} (hl : l.length ≤ 600) : callF Pr (n + 4) 8 [.p (.str (sl l))] M = .ok (.p (resN l)) M := by
  rw [← fin_d, call_s (d := ⟨1, 5, true, b_number_in⟩) rfl rfl]
  show fnR true M (exs Pr (callF Pr (n + 3)) b_number_in [some (.p (.str (sl l))), none, none, none, none] M) = _
  have gp : ev Pr (callF Pr (n + 3)) (.mth .partition (.var 0) (.glob 2)) [some (.p (.str (sl l))), none, none, none, none] M = .ok (.p (.tup [.str (PySem.Txt.partition (sl l) ⟨#[47]⟩).1, .str (PySem.Txt.partition (sl l) ⟨#[47]⟩).2.1, .str (PySem.Txt.partition (sl l) ⟨#[47]⟩).2.2])) M := by
    rw [ev_mth]
    show Res.of (mthW .partition (sl l) (.p (.str ⟨#[47]⟩))) M = _
    show Res.of (if !((⟨#[47]⟩ : PySem.Str).length == 0) && szOk (sl l).length then _ else none) M = _
    rw [sz_sl (by omega)]
    rfl
  unfold b_number_in
  rcases first_cases l 47 with ⟨hm, hf, hp⟩ | ⟨i, hi, hk, hf, hp⟩
  · rw [hp] at gp
    have g0 : ex Pr (callF Pr (n + 3)) (.asgT (.tp [.nm 2, .nm 3, .nm 4]) (.mth .partition (.var 0) (.glob 2))) [some (.p (.str (sl l))), none, none, none, none] M = .nx [some (.p (.str (sl l))), none, some (.p (.str (sl l))), some (.p (.str PySem.Str.empty)), some (.p (.str PySem.Str.empty))] M := by
      rw [ex_asgT, gp]
      rfl
    rw [exs_cons, g0, SR.andT_nx]
    have k : ev Pr (callF Pr (n + 3)) (.call 7 [(.var 0)] [] []) [some (.p (.str (sl l))), none, some (.p (.str (sl l))), some (.p (.str PySem.Str.empty)), some (.p (.str PySem.Str.empty))] M = .ok (.p (optD (intOf l))) M := by
      rw [← integer_in_run (n := n + 2) hl]; rfl
    have c : ev Pr (callF Pr (n + 3)) (.cmp .eq (.var 3) (.str "")) [some (.p (.str (sl l))), none, some (.p (.str (sl l))), some (.p (.str PySem.Str.empty)), some (.p (.str PySem.Str.empty))] M = .ok (.p (.bl true)) M := by
      rw [ev_cmp]
      show Res.of ((cmpW M .eq (.p (.str (sl []))) (.p (.str (sl [])))).map fun b => W.p (.bl b)) M = _
      rw [eqS]
      rfl
    have r : resN l = optD (intOf l) := by
      unfold resN
      rw [hf, if_pos (by decide)]
    rw [exs_cons, ex_ifs, c, Res.st_ok]
    show fnR true M ((exs Pr (callF Pr (n + 3)) [.ret _] _ M).andT _) = _
    rw [exs_cons, ex_ret, k, r]
    rfl
  · rw [hp] at gp
    have hlt : i < l.length := (List.getElem?_eq_some_iff.mp hi).1
    have g0 : ex Pr (callF Pr (n + 3)) (.asgT (.tp [.nm 2, .nm 3, .nm 4]) (.mth .partition (.var 0) (.glob 2))) [some (.p (.str (sl l))), none, none, none, none] M = .nx [some (.p (.str (sl l))), none, some (.p (.str (sl (l.take i)))), some (.p (.str (sl [47]))), some (.p (.str (sl (l.drop (i + 1)))))] M := by
      rw [ex_asgT, gp]
      rfl
    rw [exs_cons, g0, SR.andT_nx]
    have c : ev Pr (callF Pr (n + 3)) (.cmp .eq (.var 3) (.str "")) [some (.p (.str (sl l))), none, some (.p (.str (sl (l.take i)))), some (.p (.str (sl [47]))), some (.p (.str (sl (l.drop (i + 1)))))] M = .ok (.p (.bl false)) M := by
      rw [ev_cmp]
      show Res.of ((cmpW M .eq (.p (.str (sl [47]))) (.p (.str (sl [])))).map fun b => W.p (.bl b)) M = _
      rw [eqS]
      rfl
    have k1 : ev Pr (callF Pr (n + 3)) (.call 7 [(.var 2)] [] []) [some (.p (.str (sl l))), none, some (.p (.str (sl (l.take i)))), some (.p (.str (sl [47]))), some (.p (.str (sl (l.drop (i + 1)))))] M = .ok (.p (optD (intOf (l.take i)))) M := by
      rw [← integer_in_run (n := n + 2) (by rw [List.length_take]; omega)]; rfl
    have k2 : ev Pr (callF Pr (n + 3)) (.call 7 [(.var 4)] [] []) [some (.p (.str (sl l))), none, some (.p (.str (sl (l.take i)))), some (.p (.str (sl [47]))), some (.p (.str (sl (l.drop (i + 1)))))] M = .ok (.p (optD (intOf (l.drop (i + 1))))) M := by
      rw [← integer_in_run (n := n + 2) (by rw [List.length_drop]; omega)]; rfl
    have r : resN l = resP (l.take i) (l.drop (i + 1)) := by
      unfold resN
      rw [hf, if_neg (by omega), Int.toNat_natCast]
    rw [exs_cons, ex_ifs, c]
    show fnR true M (exs Pr (callF Pr (n + 3)) [_, _] _ M) = _
    rw [exs_cons, ex_asg, ev_tup, evs_cons, k1, Res.bind_ok, evs_cons, k2, r]
    cases e1 : intOf (l.take i) with
    | none =>
      rw [resP_none1 e1]
      rfl
    | some x =>
      cases e2 : intOf (l.drop (i + 1)) with
      | none =>
        rw [resP_none2 e1 e2]
        rfl
      | some y =>
        rw [resP_some e1 e2]
        have o1 := okInt e1
        have o2 := okInt e2
        have op : okV (.tup [.int x, .int y]) = true := by
          show (decide ((2 : Nat) ≤ 100) && (okV (.int x) && (okV (.int y) && true))) = true
          rw [o1, o2]; rfl
        show fnR true M (exs Pr (callF Pr (n + 3)) [.ret _] [some (.p (.str (sl l))), some (.p (.tup [.int x, .int y])), some (.p (.str (sl (l.take i)))), some (.p (.str (sl [47]))), some (.p (.str (sl (l.drop (i + 1)))))] M) = _
        have k3 : ev Pr (callF Pr (n + 3)) (.call 4 [(.var 1)] [] []) [some (.p (.str (sl l))), some (.p (.tup [.int x, .int y])), some (.p (.str (sl (l.take i)))), some (.p (.str (sl [47]))), some (.p (.str (sl (l.drop (i + 1)))))] M = .ok (.p (.bl (pairN [.int x, .int y]))) M := by
          have := is_number_run (n := n) (M := M) op
          have e : num (.tup [.int x, .int y]) = pairN [.int x, .int y] := rfl
          rw [e] at this
          rw [← this]; rfl
        rw [exs_cons, ex_ret, ev_ite, ev_and, isn_ev (d := .int x) rfl, Res.bind_ok]
        show fnR true M ((Res.st _ (Res.bind (ev Pr (callF Pr (n + 3)) (.and _ _) _ M) _) _).andT _) = _
        rw [ev_and, isn_ev (d := .int y) rfl, Res.bind_ok]
        show fnR true M ((Res.st _ (Res.bind (ev Pr (callF Pr (n + 3)) (.call 4 [(.var 1)] [] []) _ M) _) _).andT _) = _
        rw [k3]
        cases pairN [.int x, .int y] <;> rfl
def BT : D := .tup [.str "BadText", .int 0, .int 0]
def toldD (d : D) : D := match d with
  | .non => BT
  | d => .lst [d]
/-- what a value is read as -/
def fD : D → D
  | .str s => resN s.cps.toList
  | _ => .non
theorem number_of_run {n : Nat} {d : D} {M : Mem} (hd : okV d = true) (hl : ∀ s, d = .str s → s.length ≤ 600) : callF Pr (n + 5) 12 [.p d] M = if fD d = .non then .exc 2 [1, 2] [.int 0, .int 0] M else .ok (.p (fD d)) M := by
  rw [call_s (d := ⟨1, 2, true, b_number_of⟩) rfl rfl]
  show fnR true M (exs Pr (callF Pr (n + 4)) b_number_of [some (.p d), none] M) = _
  have e1 : ev Pr (callF Pr (n + 4)) (.ite (.isi (.var 0) [.str]) (.call 8 [(.var 0)] [] []) .non) [some (.p d), none] M = .ok (.p (fD d)) M := by
    rw [ev_ite]
    cases d with
    | str s =>
      have h := hl s rfl
      have e : callF Pr (n + 4) 8 [.p (.str s)] M = .ok (.p (resN s.cps.toList)) M := by
        have := number_in_run (n := n) (l := s.cps.toList) (M := M) (by rw [len_list]; exact h)
        rw [sl_of] at this
        exact this
      exact Eq.trans rfl e
    | obj => cases hd
    | exc => cases hd
    | _ => rfl
  unfold b_number_of
  rw [exs_cons, ex_asg, e1]
  show fnR true M (exs Pr (callF Pr (n + 4)) [_, _] [some (.p d), some (.p (fD d))] M) = _
  have e2 : ev Pr (callF Pr (n + 4)) (.cmp .is (.var 1) .non) [some (.p d), some (.p (fD d))] M = .ok (.p (.bl (isNon (.p (fD d))))) M := is_ev rfl
  rw [exs_cons, ex_ifs, e2, Res.st_ok]
  by_cases z : fD d = .non
  · rw [if_pos z, z]
    exact fin_x (env := [some (.p d), some (.p .non)])
  · rw [if_neg z]
    have i : isNon (.p (fD d)) = false := by
      cases q : fD d with
      | non => exact absurd q z
      | _ => rfl
    rw [i]
    exact fin_d (fD d)
theorem told_run {n : Nat} {d : D} {M : Mem} (hd : okV d = true) (hl : ∀ s, d = .str s → s.length ≤ 600) : callF Pr (n + 6) 19 [.p d] M = .ok (.p (toldD (fD d))) M := by
  rw [← fin_d, call_s (d := ⟨1, 3, true, b_l_told⟩) rfl rfl]
  show fnR true M (exs Pr (callF Pr (n + 5)) [.asg 1 .non, .try_ [.asg 1 (.lst [(.call 12 [(.var 0)] [] [])])] [(2, some 2), (0, some 2)] [[.asg 1 (.tup [(.str "BadText"), (.att (.var 2) 1), (.att (.var 2) 2)])], [.asg 1 (.tup [(.str "other")])]], .ret (.var 1)] [some (.p d), none, none] M) = _
  have e := number_of_run (n := n) (M := M) hd hl
  have g : ev Pr (callF Pr (n + 5)) (.call 12 [(.var 0)] [] []) [some (.p d), some (.p .non), none] M = callF Pr (n + 5) 12 [.p d] M := rfl
  rw [exs_cons]
  show fnR true M (exs Pr (callF Pr (n + 5)) [_, _] [some (.p d), some (.p .non), none] M) = _
  by_cases z : fD d = .non
  · rw [if_pos z] at e
    have b : exs Pr (callF Pr (n + 5)) [.asg 1 (.lst [(.call 12 [(.var 0)] [] [])])] [some (.p d), some (.p .non), none] M = .exc 2 [1, 2] [.int 0, .int 0] [some (.p d), some (.p .non), none] M := by
      rw [exs_one, ex_asg, ev_lst, evs_cons, g, e]
      rfl
    have b2 : ex Pr (callF Pr (n + 5)) (.try_ [.asg 1 (.lst [(.call 12 [(.var 0)] [] [])])] [(2, some 2), (0, some 2)] [[.asg 1 (.tup [(.str "BadText"), (.att (.var 2) 1), (.att (.var 2) 2)])], [.asg 1 (.tup [(.str "other")])]]) [some (.p d), some (.p .non), none] M = .nx [some (.p d), some (.p BT), none] M := by
      show (match exs Pr (callF Pr (n + 5)) [.asg 1 (.lst [(.call 12 [(.var 0)] [] [])])] [some (.p d), some (.p .non), none] M with
        | .exc c ns vs env' M' => _
        | z => z) = _
      rw [b]
      rfl
    rw [exs_cons, b2, z]
    rfl
  · rw [if_neg z] at e
    have b : exs Pr (callF Pr (n + 5)) [.asg 1 (.lst [(.call 12 [(.var 0)] [] [])])] [some (.p d), some (.p .non), none] M = .nx [some (.p d), some (.p (.lst [fD d])), none] M := by
      rw [exs_one, ex_asg, ev_lst, evs_cons, g, e]
      rfl
    have b2 : ex Pr (callF Pr (n + 5)) (.try_ [.asg 1 (.lst [(.call 12 [(.var 0)] [] [])])] [(2, some 2), (0, some 2)] [[.asg 1 (.tup [(.str "BadText"), (.att (.var 2) 1), (.att (.var 2) 2)])], [.asg 1 (.tup [(.str "other")])]]) [some (.p d), some (.p .non), none] M = .nx [some (.p d), some (.p (.lst [fD d])), none] M := by
      show (match exs Pr (callF Pr (n + 5)) [.asg 1 (.lst [(.call 12 [(.var 0)] [] [])])] [some (.p d), some (.p .non), none] M with
        | .exc c ns vs env' M' => _
        | z => z) = _
      rw [b]
    have t : toldD (fD d) = .lst [fD d] := by
      unfold toldD
      split
      · rename_i q
        exact absurd q z
      · rfl
    rw [exs_cons, b2, t]
    rfl
theorem told_str {n : Nat} {l : List Nat} {M : Mem} (hl : l.length ≤ 600) : callF Pr (n + 6) 19 [.p (.str (sl l))] M = .ok (.p (toldD (resN l))) M := by
  have e := told_run (n := n) (d := .str (sl l)) (M := M) rfl (fun s h => by cases h; rw [sl_len]; exact hl)
  have f : fD (.str (sl l)) = resN l := by
    show resN (sl l).cps.toList = _
    rw [sl_list]
  rw [f] at e
  exact e
/-! the law's own reading -/
theorem opt_non (o : Option Int) : isNon (.p (optD o)) = o.isNone := by cases o <;> rfl
theorem read_run {n : Nat} {l : List Nat} {M : Mem} (hl : l.length ≤ 600) : callF Pr (n + 2) 18 [.p (.str (sl l))] M = .ok (.p (toldD (resN l))) M := by
  rw [← fin_d, call_s (d := ⟨1, 5, true, b_l_read⟩) rfl rfl]
  show fnR true M (exs Pr (callF Pr (n + 1)) b_l_read [some (.p (.str (sl l))), none, none, none, none] M) = _
  have gf : ev Pr (callF Pr (n + 1)) (.mth .find (.var 0) (.str "/")) [some (.p (.str (sl l))), none, none, none, none] M = .ok (.p (.int (PySem.Txt.find (sl l) ⟨#[47]⟩))) M := by
    rw [ev_mth]
    rfl
  unfold b_l_read
  rw [exs_cons, ex_asg, gf]
  rcases first_cases l 47 with ⟨hm, hf, hp⟩ | ⟨i, hi, hk, hf, hp⟩
  · rw [hf]
    have r : resN l = optD (intOf l) := by
      unfold resN
      rw [hf, if_pos (by decide)]
    show fnR true M (exs Pr (callF Pr (n + 1)) [_, _, _, _] [some (.p (.str (sl l))), some (.p (.int (-1))), none, none, none] M) = _
    have c : ev Pr (callF Pr (n + 1)) (.cmp .lt (.var 1) (.int 0)) [some (.p (.str (sl l))), some (.p (.int (-1))), none, none, none] M = .ok (.p (.bl true)) M := rfl
    have k : ev Pr (callF Pr (n + 1)) (.call 17 [(.var 0)] [] []) [some (.p (.str (sl l))), some (.p (.int (-1))), none, none, none] M = .ok (.p (optD (intOf l))) M := by rw [← figures_run (n := n) hl]; rfl
    rw [exs_cons, ex_ifs, c, Res.st_ok]
    show fnR true M ((exs Pr (callF Pr (n + 1)) [_, _] _ M).andT _) = _
    rw [exs_cons, ex_asg, k, r]
    cases intOf l <;> rfl
  · rw [hf]
    have hlt : i < l.length := (List.getElem?_eq_some_iff.mp hi).1
    have r : resN l = resP (l.take i) (l.drop (i + 1)) := by
      unfold resN
      rw [hf, if_neg (by omega), Int.toNat_natCast]
    obtain ⟨env, he⟩ : ∃ env : Env, env = [some (.p (.str (sl l))), some (.p (.int (i : Int))), none, none, none] := ⟨_, rfl⟩
    have g0 : ([some (W.p (.str (sl l))), none, none, none, none] : Env).set 1 (some (W.p (.int (i : Int)))) = env := by rw [he]; rfl
    rw [Res.st_ok, SR.andT_nx, g0]
    have v1 : ev Pr (callF Pr (n + 1)) (.var 1) env M = .ok (.p (.int (i : Int))) M := by rw [he]; rfl
    have c : ev Pr (callF Pr (n + 1)) (.cmp .lt (.var 1) (.int 0)) env M = .ok (.p (.bl false)) M := by
      rw [ev_cmp, v1]
      show Res.of (some (W.p (.bl (decide ((i : Int) < 0))))) M = _
      rw [decide_eq_false (by omega)]
      rfl
    have s1 : ev Pr (callF Pr (n + 1)) (.slc (.var 0) [] [(.var 1)]) env M = .ok (.p (.str (sl (l.take i)))) M := cutL_ev (by rw [he]; rfl) v1 (by omega)
    have s2 : ev Pr (callF Pr (n + 1)) (.slc (.var 0) [(.bin .add (.var 1) (.int 1))] []) env M = .ok (.p (.str (sl (l.drop (i + 1))))) M := by
      refine cutR_ev (n := i + 1) (by rw [he]; rfl) ?_ (by omega)
      rw [ev_bin, v1]
      rfl
    have k1 : ev Pr (callF Pr (n + 1)) (.call 17 [(.slc (.var 0) [] [(.var 1)])] [] []) env M = .ok (.p (optD (intOf (l.take i)))) M := by
      rw [ev_call, evs_cons, s1, ← figures_run (n := n) (by rw [List.length_take]; omega)]; rfl
    have k2 : ev Pr (callF Pr (n + 1)) (.call 17 [(.slc (.var 0) [(.bin .add (.var 1) (.int 1))] [])] [] []) env M = .ok (.p (optD (intOf (l.drop (i + 1))))) M := by
      rw [ev_call, evs_cons, s2, ← figures_run (n := n) (by rw [List.length_drop]; omega)]; rfl
    rw [exs_cons, if_skip c, SR.andT_nx, exs_cons, ex_par, k1, Res.st_ok, k2, Res.st_ok, SR.andT_nx, r, he]
    show fnR true M (exs Pr (callF Pr (n + 1)) [_, _] [some (.p (.str (sl l))), some (.p (.int (i : Int))), none, some (.p (optD (intOf (l.take i)))), some (.p (optD (intOf (l.drop (i + 1)))))] M) = _
    cases e1 : intOf (l.take i) with
    | none =>
      rw [resP_none1 e1]
      rfl
    | some x =>
      cases e2 : intOf (l.drop (i + 1)) with
      | none =>
        rw [resP_none2 e1 e2]
        rfl
      | some y =>
        rw [resP_some e1 e2]
        have hy : y.natAbs < bnd := Nat.lt_of_lt_of_le (intOf_lt e2) bnd60
        obtain ⟨env2, he2⟩ : ∃ env : Env, env = [some (.p (.str (sl l))), some (.p (.int (i : Int))), none, some (.p (.int x)), some (.p (.int y))] := ⟨_, rfl⟩
        show fnR true M (exs Pr (callF Pr (n + 1)) [_, _] [some (.p (.str (sl l))), some (.p (.int (i : Int))), none, some (.p (.int x)), some (.p (.int y))] M) = _
        rw [← he2]
        have c3 : ev Pr (callF Pr (n + 1)) (.cmp .is (.var 3) .non) env2 M = .ok (.p (.bl false)) M := by rw [he2]; rfl
        have c4 : ev Pr (callF Pr (n + 1)) (.cmp .is (.var 4) .non) env2 M = .ok (.p (.bl false)) M := by rw [he2]; rfl
        have c5 : ev Pr (callF Pr (n + 1)) (.cmp .lt (.var 4) (.int 2)) env2 M = .ok (.p (.bl (decide (y < 2)))) M := by rw [he2]; rfl
        have c6 : ev Pr (callF Pr (n + 1)) (.not (.call 16 [(.var 3), (.var 4)] [] [])) env2 M = .ok (.p (.bl (!decide (Nat.gcd x.natAbs y.natAbs = 1)))) M := by
          rw [ev_not, he2]
          show (callF Pr (n + 1) 16 [.p (.int x), .p (.int y)] M).bind _ = _
          rw [l_alone_run hy]
          rfl
        have pn : pairN [.int x, .int y] = (decide (2 ≤ y) && decide (Nat.gcd x.natAbs y.natAbs = 1)) := rfl
        have cc : ev Pr (callF Pr (n + 1)) (.or (.cmp .is (.var 3) .non) (.or (.cmp .is (.var 4) .non) (.or (.cmp .lt (.var 4) (.int 2)) (.not (.call 16 [(.var 3), (.var 4)] [] []))))) env2 M = .ok (.p (.bl (!pairN [.int x, .int y]))) M := by
          rw [ev_or, c3, Res.bind_ok]
          show ev Pr (callF Pr (n + 1)) (.or _ _) env2 M = _
          rw [ev_or, c4, Res.bind_ok]
          show ev Pr (callF Pr (n + 1)) (.or _ _) env2 M = _
          rw [ev_or, c5, Res.bind_ok, pn]
          by_cases z : y < 2
          · rw [decide_eq_true z, decide_eq_false (by omega)]
            rfl
          · rw [decide_eq_false z, decide_eq_true (by omega)]
            show ev Pr (callF Pr (n + 1)) (.not _) env2 M = _
            rw [c6]
            rfl
        rw [exs_cons, ex_ifs, cc, Res.st_ok]
        cases pairN [.int x, .int y] with
        | true =>
          rw [he2]
          rfl
        | false => rfl
end K04

set_option maxHeartbeats 4000000
namespace K04
open G
def written (q : Rat) : List Nat := if q.den = 1 then wr q.num else wr q.num ++ 47 :: wr q.den
def sm (q : Rat) : Prop := q.num.natAbs < 10 ^ 60 ∧ q.den < 10 ^ 60
theorem p60 : (10 : Nat) ^ 60 < 2 ^ 200 := by decide +kernel
theorem sm_sz {q : Rat} (h : sm q) : sz q 200 := ⟨Nat.lt_trans h.1 p60, Nat.lt_trans h.2 p60⟩
theorem den_abs60 {q : Rat} (h : sm q) : (q.den : Int).natAbs < 10 ^ 60 := by rw [Int.natAbs_natCast]; exact h.2
theorem written_len {q : Rat} (h : sm q) : (written q).length ≤ 123 := by
  have h1 := wr_len h.1
  have h2 := wr_len (den_abs60 h)
  unfold written
  split
  · omega
  · rw [List.length_append, List.length_cons]; omega
theorem str_int {i : Int} {M : Mem} (h : i.natAbs < 10 ^ 60) : bltW M .str [.p (.int i)] = some (.p (.str (sl (wr i)))) := by
  have e : bltW M .str [.p (.int i)] = if decide (i.natAbs.log2 < 1920) then some (.p (.str (PySem.Str.ofString (toString i)))) else none := rfl
  rw [e, decide_eq_true (Nat.lt_trans (log_of (Nat.lt_trans h p60) (by decide)) (by decide)), toString_wr]
  rfl
theorem fmt_int {i : Int} (h : i.natAbs < 10 ^ 60) : fmtW (.p (.int i)) = some (.p (.str (sl (wr i)))) := by
  have e : fmtW (.p (.int i)) = if decide (i.natAbs.log2 < 1920) then some (.p (.str (PySem.Str.ofString (toString i)))) else none := rfl
  rw [e, decide_eq_true (Nat.lt_trans (log_of (Nat.lt_trans h p60) (by decide)) (by decide)), toString_wr]
  rfl
theorem text_in_run {n : Nat} {q : Rat} {M : Mem} (h : sm q) : callF Pr (n + 2) 10 [.p (nd q)] M = .ok (.p (.str (sl (written q)))) M := by
  rw [← fin_d, call_s (d := ⟨1, 3, true, b_text_in⟩) rfl rfl]
  show fnR true M (exs Pr (callF Pr (n + 1)) b_text_in [some (.p (nd q)), none, none] M) = _
  have g0 : ex Pr (callF Pr (n + 1)) (.asgT (.tp [.nm 1, .nm 2]) (.call 9 [(.var 0)] [] [])) [some (.p (nd q)), none, none] M = .nx [some (.p (nd q)), some (.p (.int q.num)), some (.p (.int q.den))] M := by
    have g : ev Pr (callF Pr (n + 1)) (.call 9 [(.var 0)] [] []) [some (.p (nd q)), none, none] M = .ok (.p (.tup [.int q.num, .int q.den])) M := by rw [← halves_run (n := n)]; rfl
    rw [ex_asgT, g]
    rfl
  obtain ⟨env, he⟩ : ∃ env : Env, env = [some (.p (nd q)), some (.p (.int q.num)), some (.p (.int q.den))] := ⟨_, rfl⟩
  rw [← he] at g0
  have v1 : ev Pr (callF Pr (n + 1)) (.var 1) env M = .ok (.p (.int q.num)) M := by rw [he]; rfl
  have v2 : ev Pr (callF Pr (n + 1)) (.var 2) env M = .ok (.p (.int q.den)) M := by rw [he]; rfl
  have c : ev Pr (callF Pr (n + 1)) (.cmp .eq (.var 2) (.int 1)) env M = .ok (.p (.bl (decide (q.den = 1)))) M := by
    rw [ev_cmp, v2, Res.bind_ok, ev_int, Res.bind_ok, eqI]
    have : decide ((q.den : Int) = 1) = decide (q.den = 1) := decide_eq_decide.mpr (by omega)
    rw [this]
    rfl
  unfold b_text_in written
  rw [exs_cons, g0, SR.andT_nx, exs_cons, ex_ret, ev_ite, c, Res.bind_ok]
  by_cases z : q.den = 1
  · rw [decide_eq_true z, if_pos z]
    show fnR true M ((Res.st env (ev Pr (callF Pr (n + 1)) (.blt .str [(.var 1)]) env M) _).andT _) = _
    rw [ev_blt, evs_cons, v1, Res.bind_ok, evs_nil, Res.bind_ok, Res.bind_ok, str_int h.1]
    rfl
  · rw [decide_eq_false z, if_neg z]
    have w1 := wr_len h.1
    have w2 := wr_len (den_abs60 h)
    have f1 : ev Pr (callF Pr (n + 1)) (.fmt (.var 1)) env M = .ok (.p (.str (sl (wr q.num)))) M := by
      rw [ev_fmt, v1, Res.bind_ok, fmt_int h.1]; rfl
    have f2 : ev Pr (callF Pr (n + 1)) (.fmt (.var 2)) env M = .ok (.p (.str (sl (wr q.den)))) M := by
      rw [ev_fmt, v2, Res.bind_ok, fmt_int (den_abs60 h)]; rfl
    have e0 : PySem.Str.empty = sl [] := by rfl
    show fnR true M ((Res.st env (ev Pr (callF Pr (n + 1)) (.fstr [(.fmt (.var 1)), (.str "/"), (.fmt (.var 2))]) env M) _).andT _) = _
    have key : ev Pr (callF Pr (n + 1)) (.fstr [(.fmt (.var 1)), (.str "/"), (.fmt (.var 2))]) env M = .ok (.p (.str (sl (wr q.num ++ 47 :: wr q.den)))) M := by
      rw [ev_fstr, evJ_cons, f1, Res.bind_ok, e0]
      show (if szOk (sl [] ++ sl (wr q.num)).length then evJ Pr (callF Pr (n + 1)) [(.str "/"), (.fmt (.var 2))] (sl [] ++ sl (wr q.num)) env M else .bad) = _
      rw [sl_app, List.nil_append, sz_sl (by omega)]
      show evJ Pr (callF Pr (n + 1)) [(.str "/"), (.fmt (.var 2))] (sl (wr q.num)) env M = _
      rw [evJ_cons, ev_str, Res.bind_ok]
      show (if szOk (sl (wr q.num) ++ sl [47]).length then evJ Pr (callF Pr (n + 1)) [(.fmt (.var 2))] (sl (wr q.num) ++ sl [47]) env M else .bad) = _
      rw [sl_app, sz_sl (by rw [List.length_append]; simp; omega)]
      show evJ Pr (callF Pr (n + 1)) [(.fmt (.var 2))] (sl (wr q.num ++ [47])) env M = _
      rw [evJ_cons, f2, Res.bind_ok]
      show (if szOk (sl (wr q.num ++ [47]) ++ sl (wr q.den)).length then evJ Pr (callF Pr (n + 1)) [] (sl (wr q.num ++ [47]) ++ sl (wr q.den)) env M else .bad) = _
      rw [sl_app, sz_sl (by rw [List.length_append, List.length_append]; simp; omega), List.append_assoc]
      rfl
    rw [key]
    rfl
theorem number_text_run {n : Nat} {d : D} {q : Rat} {M : Mem} (hd : isN d q) (h : sm q) : callF Pr (n + 5) 11 [.p d] M = .ok (.p (.str (sl (written q)))) M := by
  rw [← fin_d, call_s (d := ⟨1, 1, true, b_number_text⟩) rfl rfl]
  have e : ev Pr (callF Pr (n + 4)) (.call 6 [(.var 0), (.str "value")] [] []) [some (.p d)] M = .ok (.p (nd q)) M := by rw [← need_number_run (n := n) (x := "value") hd (sz_mono (sm_sz h) (by decide))]; rfl
  show fnR true M (exs Pr (callF Pr (n + 4)) [.ret _] [some (.p d)] M) = _
  rw [exs_cons, ex_ret, ev_call, evs_cons, e]
  show fnR true M ((Res.st _ (callF Pr (n + 4) 10 [.p (nd q)] M) _).andT _) = _
  rw [text_in_run h]
  rfl
theorem number_text_bad {n : Nat} {d : D} {M : Mem} (h : okV d = true) (hn : num d = false) : callF Pr (n + 5) 11 [.p d] M = .exc 1 [0] [.str "value"] M := by
  rw [call_s (d := ⟨1, 1, true, b_number_text⟩) rfl rfl]
  have e : ev Pr (callF Pr (n + 4)) (.call 6 [(.var 0), (.str "value")] [] []) [some (.p d)] M = .exc 1 [0] [.str "value"] M := by rw [← need_number_bad (n := n) (x := "value") h hn]; rfl
  show fnR true M (exs Pr (callF Pr (n + 4)) [.ret _] [some (.p d)] M) = _
  rw [exs_cons, ex_ret, ev_call, evs_cons, e]
  exact fin_x
theorem refused_run {n : Nat} {d : D} {M : Mem} (h : okV d = true) (hn : num d = false) : callF Pr (n + 6) 20 [.p d] M = .ok (.p (.bl true)) M := by
  rw [← fin_d, call_s (d := ⟨1, 3, true, b_l_refused⟩) rfl rfl]
  show fnR true M (exs Pr (callF Pr (n + 5)) [.asg 1 .non, .try_ [.asg 1 (.call 11 [(.var 0)] [] [])] [(1, some 2)] [[.ret (.cmp .eq (.att (.var 2) 0) (.str "value"))]], .ret (.cmp .is (.var 1) (.bl false))] [some (.p d), none, none] M) = _
  have g : ev Pr (callF Pr (n + 5)) (.call 11 [(.var 0)] [] []) [some (.p d), some (.p .non), none] M = .exc 1 [0] [.str "value"] M := by rw [← number_text_bad (n := n) h hn]; rfl
  have b : exs Pr (callF Pr (n + 5)) [.asg 1 (.call 11 [(.var 0)] [] [])] [some (.p d), some (.p .non), none] M = .exc 1 [0] [.str "value"] [some (.p d), some (.p .non), none] M := by
    rw [exs_one, ex_asg, g]
    rfl
  have b2 : ex Pr (callF Pr (n + 5)) (.try_ [.asg 1 (.call 11 [(.var 0)] [] [])] [(1, some 2)] [[.ret (.cmp .eq (.att (.var 2) 0) (.str "value"))]]) [some (.p d), some (.p .non), none] M = .rt (.p (.bl true)) M := by
    show (match exs Pr (callF Pr (n + 5)) [.asg 1 (.call 11 [(.var 0)] [] [])] [some (.p d), some (.p .non), none] M with
      | .exc c ns vs env' M' => _
      | z => z) = _
    rw [b]
    have k : exs Pr (callF Pr (n + 5)) [.ret (.cmp .eq (.att (.var 2) 0) (.str "value"))] [some (.p d), some (.p .non), some (.p (.exc 1 [0] [.str "value"]))] M = .rt (.p (.bl true)) M := by
      have a : ev Pr (callF Pr (n + 5)) (.att (.var 2) 0) [some (.p d), some (.p .non), some (.p (.exc 1 [0] [.str "value"]))] M = .ok (.p (.str "value")) M := rfl
      rw [exs_one, ex_ret, ev_cmp, a, Res.bind_ok, ev_str, Res.bind_ok, eq_str]
      rfl
    show (match exs Pr (callF Pr (n + 5)) [.ret (.cmp .eq (.att (.var 2) 0) (.str "value"))] [some (.p d), some (.p .non), some (.p (.exc 1 [0] [.str "value"]))] M with
      | .nx e M => SR.nx (setO e (some 2) none) M
      | .bk e M => .bk (setO e (some 2) none) M
      | .ct e M => .ct (setO e (some 2) none) M
      | .rt w M => .rt w M
      | _ => .bad) = _
    rw [k]
  rw [exs_cons]
  show fnR true M (exs Pr (callF Pr (n + 5)) [_, _] [some (.p d), some (.p .non), none] M) = _
  rw [exs_cons, b2]
  rfl
theorem l_written_run {n : Nat} {q : Rat} {M : Mem} (h : sm q) : callF Pr (n + 1) 22 [.p (nd q)] M = .ok (.p (.str (sl (written q)))) M := by
  rw [← fin_d, call_s (d := ⟨1, 1, true, b_l_written⟩) rfl rfl]
  show fnR true M (exs Pr (callF Pr n) b_l_written [some (.p (nd q))] M) = _
  unfold b_l_written written
  rw [exs_cons, ex_ret, ev_ite]
  by_cases z : q.den = 1
  · have e : nd q = .int q.num := by unfold nd; rw [if_pos z]
    rw [e, if_pos z]
    show fnR true M ((Res.st _ (ev Pr (callF Pr n) (.blt .str [(.var 0)]) [some (.p (.int q.num))] M) _).andT _) = _
    have v : ev Pr (callF Pr n) (.var 0) [some (.p (.int q.num))] M = .ok (.p (.int q.num)) M := rfl
    rw [ev_blt, evs_cons, v, Res.bind_ok, evs_nil, Res.bind_ok, Res.bind_ok, str_int h.1]
    rfl
  · have e : nd q = .tup [.int q.num, .int q.den] := by unfold nd; rw [if_neg z]
    rw [e, if_neg z]
    have w1 := wr_len h.1
    have w2 := wr_len (den_abs60 h)
    have v0 : ev Pr (callF Pr n) (.idx (.var 0) (.int 0)) [some (.p (.tup [.int q.num, .int q.den]))] M = .ok (.p (.int q.num)) M := rfl
    have v1 : ev Pr (callF Pr n) (.idx (.var 0) (.int 1)) [some (.p (.tup [.int q.num, .int q.den]))] M = .ok (.p (.int q.den)) M := rfl
    have s0 : ev Pr (callF Pr n) (.blt .str [(.idx (.var 0) (.int 0))]) [some (.p (.tup [.int q.num, .int q.den]))] M = .ok (.p (.str (sl (wr q.num)))) M := by
      rw [ev_blt, evs_cons, v0, Res.bind_ok, evs_nil, Res.bind_ok, Res.bind_ok, str_int h.1]; rfl
    have s1 : ev Pr (callF Pr n) (.blt .str [(.idx (.var 0) (.int 1))]) [some (.p (.tup [.int q.num, .int q.den]))] M = .ok (.p (.str (sl (wr q.den)))) M := by
      rw [ev_blt, evs_cons, v1, Res.bind_ok, evs_nil, Res.bind_ok, Res.bind_ok, str_int (den_abs60 h)]; rfl
    have ad : ∀ a b : List Nat, a.length ≤ 400 → b.length ≤ 400 → binW M .add (.p (.str (sl a))) (.p (.str (sl b))) = some (.p (.str (sl (a ++ b)))) := fun a b ha hb => by
      show (if szOk ((sl a).length + (sl b).length) then some (D.str (sl a ++ sl b)) else none).map W.p = _
      rw [show szOk ((sl a).length + (sl b).length) = true from decide_eq_true (by rw [sl_len, sl_len]; omega), sl_app]
      rfl
    show fnR true M ((Res.st _ (ev Pr (callF Pr n) (.bin .add (.bin .add (.blt .str [(.idx (.var 0) (.int 0))]) (.str "/")) (.blt .str [(.idx (.var 0) (.int 1))])) _ M) _).andT _) = _
    have sb : ("/" : PySem.Str) = sl [47] := by rfl
    rw [ev_bin, ev_bin, s0, Res.bind_ok, ev_str, Res.bind_ok, sb, ad _ _ (by omega) (by decide), Res.of_some, Res.bind_ok, s1, Res.bind_ok, ad _ _ (by rw [List.length_append]; simp; omega) (by omega), List.append_assoc]
    rfl
theorem no_bar' {l r : List Nat} (h : 47 ∉ l) {i : Nat} (hi : (l ++ 47 :: r)[i]? = some 47) (hk : ∀ k, k < i → (l ++ 47 :: r)[k]? ≠ some 47) : i = l.length := by
  by_cases z : i < l.length
  · rw [List.getElem?_append_left z] at hi
    exact absurd (List.mem_iff_getElem?.mpr ⟨i, hi⟩) h
  · by_cases y : l.length < i
    · have := hk l.length y
      rw [List.getElem?_append_right (Nat.le_refl _), Nat.sub_self] at this
      exact absurd rfl this
    · omega
theorem resN_written {q : Rat} (h : sm q) : resN (written q) = nd q := by
  unfold written
  by_cases z : q.den = 1
  · rw [if_pos z]
    have e : nd q = .int q.num := by unfold nd; rw [if_pos z]
    rcases first_cases (wr q.num) 47 with ⟨hm, hf, hp⟩ | ⟨i, hi, hk, hf, hp⟩
    · unfold resN
      rw [hf, if_pos (by decide), intOf_wr h.1, e]
      rfl
    · exact absurd (List.mem_iff_getElem?.mpr ⟨i, hi⟩) (no_bar h.1)
  · rw [if_neg z]
    have e : nd q = .tup [.int q.num, .int q.den] := by unfold nd; rw [if_neg z]
    rcases first_cases (wr q.num ++ 47 :: wr q.den) 47 with ⟨hm, hf, hp⟩ | ⟨i, hi, hk, hf, hp⟩
    · exact absurd (List.mem_append_right _ List.mem_cons_self) hm
    · have hi' := no_bar' (no_bar h.1) hi hk
      unfold resN
      rw [hf, if_neg (by omega), Int.toNat_natCast, hi']
      have t1 : (wr q.num ++ 47 :: wr q.den).take (wr q.num).length = wr q.num := List.take_left
      have t2 : (wr q.num ++ 47 :: wr q.den).drop ((wr q.num).length + 1) = wr q.den := by
        rw [← List.drop_drop, List.drop_left]
        rfl
      rw [t1, t2, resP_some (intOf_wr h.1) (intOf_wr (den_abs60 h)), if_pos (pairN_q z), e]
end K04

set_option maxHeartbeats 4000000
namespace K04
open G
theorem num60 : (10 : Nat) ^ 60 = 1000000000000000000000000000000000000000000000000000000000000 := by decide +kernel
theorem value_run {n : Nat} {cs : List Int} {t l : Int} (ht : 0 ≤ t ∧ t ≤ 1990) (hl : 0 ≤ l) :
    ∃ (q : Rat) (t' l' : Int), callF Pr (n + 3) 21 [.loc 0] [deck cs t l] = .ok (.p (nd q)) [deck cs t' l'] ∧ sm q ∧ 0 ≤ t' ∧ t' ≤ t + 4 ∧ 0 ≤ l' := by
  obtain ⟨d, t1, l1, e1, hd, p1, p2, p3⟩ := pick_run (n := n) (cs := cs) (t := t) (l := l) (ds := [.int 3, .int 11, .int 200, .int 1000000000, .int 999999999999999999999999999999, .int 999999999999999999999999999999999999999999999999999999999999]) ⟨ht.1, by omega⟩ hl (by decide) (by decide)
  obtain ⟨m, rfl, m0, m1⟩ : ∃ m : Int, d = .int m ∧ 0 < m ∧ m ≤ 999999999999999999999999999999999999999999999999999999999999 := by
    simp at hd
    rcases hd with rfl | rfl | rfl | rfl | rfl | rfl <;> exact ⟨_, rfl, by decide, by decide⟩
  obtain ⟨r, t2, l2, e2, r0, r1, q1, q2, q3⟩ := deal_run (n := n + 1) (cs := cs) (t := t1) (l := l1) (many := 2 * m + 1) ⟨p1, by omega⟩ p3 ⟨by omega, by omega⟩
  obtain ⟨s, t3, l3, e3, s0, s1, u1, u2, u3⟩ := deal_run (n := n + 1) (cs := cs) (t := t2) (l := l2) (many := m) ⟨q1, by omega⟩ q3 ⟨by omega, by omega⟩
  obtain ⟨w, t4, l4, e4, w0, w1, v1, v2, v3⟩ := deal_run (n := n + 1) (cs := cs) (t := t3) (l := l3) (many := 2) ⟨u1, by omega⟩ u3 ⟨by decide, by decide⟩
  have ha : (r - m).natAbs < 10 ^ 60 := by rw [num60]; omega
  have hb : (1 + s).natAbs < 10 ^ 60 := by rw [num60]; omega
  obtain ⟨env, he⟩ : ∃ env : Env, env = [some (.loc 0), some (.p (.int m)), some (.p (.int (r - m))), some (.p (.int (1 + s)))] := ⟨_, rfl⟩
  have c0 : ev Pr (callF Pr (n + 2)) (.cmp .eq (.call 14 [(.var 0), (.int 2)] [] []) (.int 0)) env [deck cs t3 l3] = .ok (.p (.bl (decide (w = 0)))) [deck cs t4 l4] := by
    have g : ev Pr (callF Pr (n + 2)) (.call 14 [(.var 0), (.int 2)] [] []) env [deck cs t3 l3] = .ok (.p (.int w)) [deck cs t4 l4] := by rw [← e4, he]; rfl
    rw [ev_cmp, g, Res.bind_ok, ev_int, Res.bind_ok, eqI]
    rfl
  have c1 : ev Pr (callF Pr (n + 2)) (.cmp .eq (.var 3) (.int 1)) env [deck cs t4 l4] = .ok (.p (.bl (decide (1 + s = 1)))) [deck cs t4 l4] := by
    have g : ev Pr (callF Pr (n + 2)) (.var 3) env [deck cs t4 l4] = .ok (.p (.int (1 + s))) [deck cs t4 l4] := by rw [he]; rfl
    rw [ev_cmp, g, Res.bind_ok, ev_int, Res.bind_ok, eqI]
    rfl
  have c2 : ev Pr (callF Pr (n + 2)) (.not (.call 16 [(.var 2), (.var 3)] [] [])) env [deck cs t4 l4] = .ok (.p (.bl (!decide (Nat.gcd (r - m).natAbs (1 + s).natAbs = 1)))) [deck cs t4 l4] := by
    rw [ev_not, he]
    show (callF Pr (n + 2) 16 [.p (.int (r - m)), .p (.int (1 + s))] [deck cs t4 l4]).bind _ = _
    rw [l_alone_run (Nat.lt_of_lt_of_le hb bnd60)]
    rfl
  have key : ∃ q : Rat, exs Pr (callF Pr (n + 2)) [.ifs (.or (.cmp .eq (.call 14 [(.var 0), (.int 2)] [] []) (.int 0)) (.or (.cmp .eq (.var 3) (.int 1)) (.not (.call 16 [(.var 2), (.var 3)] [] [])))) [.ret (.var 2)] [], .ret (.tup [(.var 2), (.var 3)])] env [deck cs t3 l3] = .rt (.p (nd q)) [deck cs t4 l4] ∧ sm q := by
    have one : ∃ q : Rat, nd q = .int (r - m) ∧ sm q := by
      refine ⟨((r - m : Int) : Rat), ?_, ?_, ?_⟩
      · unfold nd
        rw [Rat.den_intCast, Rat.num_intCast]
        rfl
      · rw [Rat.num_intCast]; exact ha
      · rw [Rat.den_intCast]; decide +kernel
    obtain ⟨q0, n0, sm0⟩ := one
    have whole : ∀ {C : Calls}, exs Pr C [.ret (.var 2)] env [deck cs t4 l4] = .rt (.p (nd q0)) [deck cs t4 l4] := fun {C} => by
      rw [n0, he]; rfl
    rw [exs_cons, ex_ifs, ev_or, c0, Res.bind_ok]
    by_cases z1 : w = 0
    · refine ⟨q0, ?_, sm0⟩
      rw [decide_eq_true z1]
      show (exs Pr (callF Pr (n + 2)) [.ret (.var 2)] env [deck cs t4 l4]).andT _ = _
      rw [whole]
      rfl
    · rw [decide_eq_false z1]
      show ∃ q, (Res.st env (ev Pr (callF Pr (n + 2)) (.or (.cmp .eq (.var 3) (.int 1)) (.not (.call 16 [(.var 2), (.var 3)] [] []))) env [deck cs t4 l4]) _).andT _ = _ ∧ _
      rw [ev_or, c1, Res.bind_ok]
      by_cases z2 : 1 + s = 1
      · refine ⟨q0, ?_, sm0⟩
        rw [decide_eq_true z2]
        show (exs Pr (callF Pr (n + 2)) [.ret (.var 2)] env [deck cs t4 l4]).andT _ = _
        rw [whole]
        rfl
      · rw [decide_eq_false z2]
        show ∃ q, (Res.st env (ev Pr (callF Pr (n + 2)) (.not (.call 16 [(.var 2), (.var 3)] [] [])) env [deck cs t4 l4]) _).andT _ = _ ∧ _
        rw [c2]
        by_cases z3 : Nat.gcd (r - m).natAbs (1 + s).natAbs = 1
        · have hs : ((1 + s).natAbs : Int) = 1 + s := by omega
          refine ⟨⟨r - m, (1 + s).natAbs, by omega, z3⟩, ?_, ha, hb⟩
          have en : nd ⟨r - m, (1 + s).natAbs, by omega, z3⟩ = .tup [.int (r - m), .int (1 + s)] := by
            unfold nd
            rw [if_neg (show ¬ (1 + s).natAbs = 1 by omega)]
            show D.tup [.int (r - m), .int ((1 + s).natAbs : Int)] = _
            rw [hs]
          rw [decide_eq_true z3, en, he]
          rfl
        · refine ⟨q0, ?_, sm0⟩
          rw [decide_eq_false z3]
          show (exs Pr (callF Pr (n + 2)) [.ret (.var 2)] env [deck cs t4 l4]).andT _ = _
          rw [whole]
          rfl
  obtain ⟨q, hq, smq⟩ := key
  refine ⟨q, t4, l4, ?_, smq, v1, by omega, v3⟩
  rw [call_s (d := ⟨1, 4, true, b_l_value⟩) rfl rfl]
  show fnR true _ (exs Pr (callF Pr (n + 2)) b_l_value [some (.loc 0), none, none, none] _) = _
  unfold b_l_value
  have f1 : ev Pr (callF Pr (n + 2)) (.call 15 [(.var 0), (.lst [(.int 3), (.int 11), (.int 200), (.bin .pow (.int 10) (.int 9)), (.bin .sub (.bin .pow (.int 10) (.int 30)) (.int 1)), (.bin .sub (.bin .pow (.int 10) (.int 60)) (.int 1))])] [] []) [some (.loc 0), none, none, none] [deck cs t l] = .ok (.p (.int m)) [deck cs t1 l1] := by
    rw [← e1]; rfl
  have f2 : ev Pr (callF Pr (n + 2)) (.bin .sub (.call 14 [(.var 0), (.bin .add (.bin .mul (.int 2) (.var 1)) (.int 1))] [] []) (.var 1)) [some (.loc 0), some (.p (.int m)), none, none] [deck cs t1 l1] = .ok (.p (.int (r - m))) [deck cs t2 l2] := by
    have g1 : ev Pr (callF Pr (n + 2)) (.bin .add (.bin .mul (.int 2) (.var 1)) (.int 1)) [some (.loc 0), some (.p (.int m)), none, none] [deck cs t1 l1] = .ok (.p (.int (2 * m + 1))) [deck cs t1 l1] := by
      have m2 : mulOk 2 m = true := mul_l (by decide)
      simp [getV, rd, binW, binD, W.view, m2]
    have g2 : evs Pr (callF Pr (n + 2)) [(.var 0), (.bin .add (.bin .mul (.int 2) (.var 1)) (.int 1))] [some (.loc 0), some (.p (.int m)), none, none] [deck cs t1 l1] = .ok [.loc 0, .p (.int (2 * m + 1))] [deck cs t1 l1] := by
      rw [evs_cons]
      show (Res.bind (Res.ok (W.loc 0) [deck cs t1 l1]) _) = _
      rw [Res.bind_ok, evs_cons, g1]
      rfl
    have g3 : ev Pr (callF Pr (n + 2)) (.call 14 [(.var 0), (.bin .add (.bin .mul (.int 2) (.var 1)) (.int 1))] [] []) [some (.loc 0), some (.p (.int m)), none, none] [deck cs t1 l1] = .ok (.p (.int r)) [deck cs t2 l2] := by
      rw [ev_call, g2, ← e2]
      rfl
    rw [ev_bin, g3]
    rfl
  have f3 : ev Pr (callF Pr (n + 2)) (.bin .add (.int 1) (.call 14 [(.var 0), (.var 1)] [] [])) [some (.loc 0), some (.p (.int m)), some (.p (.int (r - m))), none] [deck cs t2 l2] = .ok (.p (.int (1 + s))) [deck cs t3 l3] := by
    have g : ev Pr (callF Pr (n + 2)) (.call 14 [(.var 0), (.var 1)] [] []) [some (.loc 0), some (.p (.int m)), some (.p (.int (r - m))), none] [deck cs t2 l2] = .ok (.p (.int s)) [deck cs t3 l3] := by rw [← e3]; rfl
    rw [ev_bin, ev_int, Res.bind_ok, g]
    rfl
  have g1 : ([some (W.loc 0), none, none, none] : Env).set 1 (some (.p (.int m))) = [some (.loc 0), some (.p (.int m)), none, none] := rfl
  have g2 : ([some (W.loc 0), some (.p (.int m)), none, none] : Env).set 2 (some (.p (.int (r - m)))) = [some (.loc 0), some (.p (.int m)), some (.p (.int (r - m))), none] := rfl
  have g3 : ([some (W.loc 0), some (.p (.int m)), some (.p (.int (r - m))), none] : Env).set 3 (some (.p (.int (1 + s)))) = env := by rw [he]; rfl
  rw [exs_cons, ex_asg, f1, Res.st_ok, SR.andT_nx, g1, exs_cons, ex_asg, f2, Res.st_ok, SR.andT_nx, g2, exs_cons, ex_asg, f3, Res.st_ok, SR.andT_nx, g3, hq]
  rfl
theorem ad_str {M : Mem} (a b : List Nat) (ha : a.length ≤ 400) (hb : b.length ≤ 400) : binW M .add (.p (.str (sl a))) (.p (.str (sl b))) = some (.p (.str (sl (a ++ b)))) := by
  show (if szOk ((sl a).length + (sl b).length) then some (D.str (sl a ++ sl b)) else none).map W.p = _
  rw [show szOk ((sl a).length + (sl b).length) = true from decide_eq_true (by rw [sl_len, sl_len]; omega), sl_app]
  rfl
def signs : List D := [.str "0", .str "1", .str "2", .str "6", .str "9", .str "-", .str "/", .str " ", .str "+", .str "_", .str "a", .str "."]
theorem bent_run {n : Nat} {cs : List Int} {t l : Int} {x : List Nat} (hx : x.length ≤ 200) (ht : 0 ≤ t ∧ t ≤ 1990) (hl : 0 ≤ l) :
    ∃ (y : List Nat) (t' l' : Int), callF Pr (n + 3) 23 [.loc 0, .p (.str (sl x))] [deck cs t l] = .ok (.p (.str (sl y))) [deck cs t' l'] ∧ y.length ≤ 401 ∧ 0 ≤ t' ∧ t' ≤ t + 3 ∧ 0 ≤ l' := by
  obtain ⟨k, t1, l1, e1, k0, k1, p1, p2, p3⟩ := deal_run (n := n + 1) (cs := cs) (t := t) (l := l) (many := (x.length : Int) + 1) ⟨ht.1, by omega⟩ hl ⟨by omega, by omega⟩
  obtain ⟨d, t2, l2, e2, hd, q1, q2, q3⟩ := pick_run (n := n) (cs := cs) (t := t1) (l := l1) (ds := signs) ⟨p1, by omega⟩ p3 (by decide) (by decide)
  obtain ⟨w, t3, l3, e3, w0, w1, r1, r2, r3⟩ := deal_run (n := n + 1) (cs := cs) (t := t2) (l := l2) (many := 3) ⟨q1, by omega⟩ q3 ⟨by decide, by decide⟩
  obtain ⟨sg, rfl, hsg⟩ : ∃ sg : List Nat, d = .str (sl sg) ∧ sg.length = 1 := by
    simp [signs] at hd
    rcases hd with rfl | rfl | rfl | rfl | rfl | rfl | rfl | rfl | rfl | rfl | rfl | rfl
    · exact ⟨[48], rfl, rfl⟩
    · exact ⟨[49], rfl, rfl⟩
    · exact ⟨[50], rfl, rfl⟩
    · exact ⟨[54], rfl, rfl⟩
    · exact ⟨[57], rfl, rfl⟩
    · exact ⟨[45], rfl, rfl⟩
    · exact ⟨[47], rfl, rfl⟩
    · exact ⟨[32], rfl, rfl⟩
    · exact ⟨[43], rfl, rfl⟩
    · exact ⟨[95], rfl, rfl⟩
    · exact ⟨[97], rfl, rfl⟩
    · exact ⟨[46], rfl, rfl⟩
  obtain ⟨i, rfl⟩ : ∃ i : Nat, k = (i : Int) := ⟨k.toNat, by omega⟩
  obtain ⟨env, he⟩ : ∃ env : Env, env = [some (.loc 0), some (.p (.str (sl x))), some (.p (.int (i : Int))), some (.p (.str (sl sg))), some (.p (.int w))] := ⟨_, rfl⟩
  have hv1 : getV env 1 = some (.p (.str (sl x))) := by rw [he]; rfl
  have v2 : ev Pr (callF Pr (n + 2)) (.var 2) env [deck cs t3 l3] = .ok (.p (.int (i : Int))) [deck cs t3 l3] := by rw [he]; rfl
  have v21 : ev Pr (callF Pr (n + 2)) (.bin .add (.var 2) (.int 1)) env [deck cs t3 l3] = .ok (.p (.int ((i + 1 : Nat) : Int))) [deck cs t3 l3] := by rw [ev_bin, v2]; rfl
  have v3 : ev Pr (callF Pr (n + 2)) (.var 3) env [deck cs t3 l3] = .ok (.p (.str (sl sg))) [deck cs t3 l3] := by rw [he]; rfl
  have v4 : ev Pr (callF Pr (n + 2)) (.var 4) env [deck cs t3 l3] = .ok (.p (.int w)) [deck cs t3 l3] := by rw [he]; rfl
  have s1 : ev Pr (callF Pr (n + 2)) (.slc (.var 1) [] [(.var 2)]) env [deck cs t3 l3] = .ok (.p (.str (sl (x.take i)))) [deck cs t3 l3] := cutL_ev hv1 v2 (by omega)
  have s2 : ev Pr (callF Pr (n + 2)) (.slc (.var 1) [(.var 2)] []) env [deck cs t3 l3] = .ok (.p (.str (sl (x.drop i)))) [deck cs t3 l3] := cutR_ev hv1 v2 (by omega)
  have s3 : ev Pr (callF Pr (n + 2)) (.slc (.var 1) [(.bin .add (.var 2) (.int 1))] []) env [deck cs t3 l3] = .ok (.p (.str (sl (x.drop (i + 1))))) [deck cs t3 l3] := cutR_ev hv1 v21 (by omega)
  have lt1 : (x.take i).length ≤ 200 := by rw [List.length_take]; omega
  have lt2 : (x.drop i).length ≤ 200 := by rw [List.length_drop]; omega
  have lt3 : (x.drop (i + 1)).length ≤ 200 := by rw [List.length_drop]; omega
  have c4 : ∀ k : Int, ev Pr (callF Pr (n + 2)) (.cmp .eq (.var 4) (.int k)) env [deck cs t3 l3] = .ok (.p (.bl (decide (w = k)))) [deck cs t3 l3] := fun k => by
    rw [ev_cmp, v4, Res.bind_ok, ev_int, Res.bind_ok, eqI]
    rfl
  have key : ∃ y : List Nat, exs Pr (callF Pr (n + 2)) [.ifs (.cmp .eq (.var 4) (.int 0)) [.ret (.bin .add (.bin .add (.slc (.var 1) [] [(.var 2)]) (.var 3)) (.slc (.var 1) [(.var 2)] []))] [], .ret (.ite (.cmp .eq (.var 4) (.int 1)) (.bin .add (.slc (.var 1) [] [(.var 2)]) (.slc (.var 1) [(.bin .add (.var 2) (.int 1))] [])) (.bin .add (.bin .add (.slc (.var 1) [] [(.var 2)]) (.var 3)) (.slc (.var 1) [(.bin .add (.var 2) (.int 1))] [])))] env [deck cs t3 l3] = .rt (.p (.str (sl y))) [deck cs t3 l3] ∧ y.length ≤ 401 := by
    rw [exs_cons, ex_ifs, c4, Res.st_ok]
    by_cases z : w = 0
    · refine ⟨(x.take i ++ sg) ++ x.drop i, ?_, by rw [List.length_append, List.length_append]; omega⟩
      rw [decide_eq_true z]
      show (exs Pr (callF Pr (n + 2)) [.ret _] env _).andT _ = _
      rw [exs_one, ex_ret, ev_bin, ev_bin, s1, Res.bind_ok, v3, Res.bind_ok, ad_str _ _ (by omega) (by omega), Res.of_some, Res.bind_ok, s2, Res.bind_ok, ad_str _ _ (by rw [List.length_append]; omega) (by omega)]
      rfl
    · rw [decide_eq_false z]
      show ∃ y, exs Pr (callF Pr (n + 2)) [.ret _] env _ = _ ∧ _
      rw [exs_one, ex_ret, ev_ite, c4, Res.bind_ok]
      by_cases z2 : w = 1
      · refine ⟨x.take i ++ x.drop (i + 1), ?_, by rw [List.length_append]; omega⟩
        rw [decide_eq_true z2]
        show Res.st env (ev Pr (callF Pr (n + 2)) (.bin .add _ _) env _) _ = _
        rw [ev_bin, s1, Res.bind_ok, s3, Res.bind_ok, ad_str _ _ (by omega) (by omega)]
        rfl
      · refine ⟨(x.take i ++ sg) ++ x.drop (i + 1), ?_, by rw [List.length_append, List.length_append]; omega⟩
        rw [decide_eq_false z2]
        show Res.st env (ev Pr (callF Pr (n + 2)) (.bin .add _ _) env _) _ = _
        rw [ev_bin, ev_bin, s1, Res.bind_ok, v3, Res.bind_ok, ad_str _ _ (by omega) (by omega), Res.of_some, Res.bind_ok, s3, Res.bind_ok, ad_str _ _ (by rw [List.length_append]; omega) (by omega)]
        rfl
  obtain ⟨y, hy, ly⟩ := key
  refine ⟨y, t3, l3, ?_, ly, r1, by omega, r3⟩
  rw [call_s (d := ⟨2, 5, true, b_l_bent⟩) rfl rfl]
  show fnR true _ (exs Pr (callF Pr (n + 2)) b_l_bent [some (.loc 0), some (.p (.str (sl x))), none, none, none] _) = _
  unfold b_l_bent
  have f1 : ev Pr (callF Pr (n + 2)) (.call 14 [(.var 0), (.bin .add (.blt .len [(.var 1)]) (.int 1))] [] []) [some (.loc 0), some (.p (.str (sl x))), none, none, none] [deck cs t l] = .ok (.p (.int (i : Int))) [deck cs t1 l1] := by
    have a0 : ev Pr (callF Pr (n + 2)) (.var 0) [some (.loc 0), some (.p (.str (sl x))), none, none, none] [deck cs t l] = .ok (.loc 0) [deck cs t l] := rfl
    have a1 : ev Pr (callF Pr (n + 2)) (.var 1) [some (.loc 0), some (.p (.str (sl x))), none, none, none] [deck cs t l] = .ok (.p (.str (sl x))) [deck cs t l] := rfl
    have z : bltW [deck cs t l] .len [.p (.str (sl x))] = some (.p (.int (x.length : Int))) := by
      show (if (sl x).length ≤ 100000 then some (W.p (.int ((sl x).length : Int))) else none) = _
      rw [sl_len, if_pos (by omega)]
    have a2 : ev Pr (callF Pr (n + 2)) (.bin .add (.blt .len [(.var 1)]) (.int 1)) [some (.loc 0), some (.p (.str (sl x))), none, none, none] [deck cs t l] = .ok (.p (.int ((x.length : Int) + 1))) [deck cs t l] := by
      rw [ev_bin, ev_blt, evs_cons, a1, Res.bind_ok, evs_nil, Res.bind_ok, Res.bind_ok, z]
      rfl
    rw [ev_call, evs_cons, a0, Res.bind_ok, evs_cons, a2, ← e1]
    rfl
  have f2 : ∀ a4 : Option W, ev Pr (callF Pr (n + 2)) (.call 15 [(.var 0), (.lst [(.str "0"), (.str "1"), (.str "2"), (.str "6"), (.str "9"), (.str "-"), (.str "/"), (.str " "), (.str "+"), (.str "_"), (.str "a"), (.str ".")])] [] []) [some (.loc 0), some (.p (.str (sl x))), some (.p (.int (i : Int))), none, none] [deck cs t1 l1] = .ok (.p (.str (sl sg))) [deck cs t2 l2] := fun a4 => by
    rw [← e2]; rfl
  have f3 : ev Pr (callF Pr (n + 2)) (.call 14 [(.var 0), (.int 3)] [] []) [some (.loc 0), some (.p (.str (sl x))), some (.p (.int (i : Int))), some (.p (.str (sl sg))), none] [deck cs t2 l2] = .ok (.p (.int w)) [deck cs t3 l3] := by
    rw [← e3]; rfl
  have g1 : ([some (W.loc 0), some (.p (.str (sl x))), none, none, none] : Env).set 2 (some (.p (.int (i : Int)))) = [some (.loc 0), some (.p (.str (sl x))), some (.p (.int (i : Int))), none, none] := rfl
  have g2 : ([some (W.loc 0), some (.p (.str (sl x))), some (.p (.int (i : Int))), none, none] : Env).set 3 (some (.p (.str (sl sg)))) = [some (.loc 0), some (.p (.str (sl x))), some (.p (.int (i : Int))), some (.p (.str (sl sg))), none] := rfl
  have g3 : ([some (W.loc 0), some (.p (.str (sl x))), some (.p (.int (i : Int))), some (.p (.str (sl sg))), none] : Env).set 4 (some (.p (.int w))) = env := by rw [he]; rfl
  rw [exs_cons, ex_asg, f1, Res.st_ok, SR.andT_nx, g1, exs_cons, ex_asg, f2 none, Res.st_ok, SR.andT_nx, g2, exs_cons, ex_asg, f3, Res.st_ok, SR.andT_nx, g3, hy]
  rfl
end K04

set_option maxHeartbeats 4000000
namespace K04
open G
/-! what is told and written has short, true representations -/
theorem dg_lt {m : Nat} (h : m < 10 ^ 60) : ∀ c ∈ dg m, c < 0x110000 := by
  have e := (dg_facts 59 m h).2.2.1
  unfold digs at e
  rw [List.all_eq_true] at e
  intro c hc
  have := of_decide_eq_true (e c hc)
  omega
theorem wr_lt {i : Int} (h : i.natAbs < 10 ^ 60) : ∀ c ∈ wr i, c < 0x110000 := by
  unfold wr
  split
  · exact dg_lt h
  · intro c hc
    rcases List.mem_cons.mp hc with rfl | hc
    · decide
    · exact dg_lt h c hc
theorem written_ok {q : Rat} (h : sm q) : PySem.PyData.strOk (sl (written q)) = true := by
  have k : ∀ c ∈ written q, c < 0x110000 := by
    unfold written
    split
    · exact wr_lt h.1
    · intro c hc
      rcases List.mem_append.mp hc with hc | hc
      · exact wr_lt h.1 c hc
      · rcases List.mem_cons.mp hc with rfl | hc
        · decide
        · exact wr_lt (den_abs60 h) c hc
  unfold PySem.PyData.strOk
  rw [← Array.all_toList, sl_list, List.all_eq_true]
  intro c hc
  exact decide_eq_true (k c hc)
theorem resN_cases (l : List Nat) : resN l = .non ∨ (∃ i : Int, resN l = .int i ∧ i.natAbs < 10 ^ 60) ∨ (∃ x y : Int, resN l = .tup [.int x, .int y] ∧ x.natAbs < 10 ^ 60 ∧ y.natAbs < 10 ^ 60) := by
  unfold resN
  split
  · cases e : intOf l with
    | none => exact .inl rfl
    | some i => exact .inr (.inl ⟨i, rfl, intOf_lt e⟩)
  · unfold resP
    split
    · rename_i x y e1 e2
      split
      · exact .inr (.inr ⟨x, y, rfl, intOf_lt e1, intOf_lt e2⟩)
      · exact .inl rfl
    · exact .inl rfl
theorem big60 : 10 ^ 60 ≤ big := by decide +kernel
theorem small_int {n : Nat} {i : Int} (h : i.natAbs < 10 ^ 60) : small n (.int i) = true := by
  have : decide (i.natAbs < big) = true := decide_eq_true (Nat.lt_of_lt_of_le h big60)
  cases n <;> exact this
theorem told_small (l : List Nat) : small 60 (toldD (resN l)) = true ∧ dl (toldD (resN l)) ≤ 2000 := by
  rcases resN_cases l with e | ⟨i, e, h⟩ | ⟨x, y, e, h1, h2⟩
  · rw [e]; exact ⟨by decide +kernel, by decide +kernel⟩
  · rw [e]
    refine ⟨?_, (by decide : 600 + 2 + 0 + 3 ≤ 2000)⟩
    show (small 59 (.int i) && smalls 59 []) = true
    rw [small_int h]; rfl
  · rw [e]
    refine ⟨?_, (by decide : (600 + 2 + (600 + 2 + 0) + 3) + 2 + 0 + 3 ≤ 2000)⟩
    show ((small 58 (.int x) && (small 58 (.int y) && smalls 58 [])) && smalls 59 []) = true
    rw [small_int h1, small_int h2]; rfl
theorem nd_small {q : Rat} (h : sm q) : small 60 (.lst [nd q]) = true ∧ dl (.lst [nd q]) ≤ 2000 := by
  refine ⟨?_, ?_⟩
  · show (small (58 + 1) (nd q) && smalls 59 []) = true
    rw [small_nd (sm_sz h) (by decide)]; rfl
  · show dl (nd q) + 2 + 0 + 3 ≤ 2000
    have := dl_nd q
    omega
theorem toldD_nd (q : Rat) : toldD (nd q) = .lst [nd q] := by
  unfold nd
  split <;> rfl
theorem two_small {s : List Nat} (h : PySem.PyData.strOk (sl s) = true) (hl : s.length ≤ 123) : small 60 (.lst [.str (sl s), .str (sl s)]) = true ∧ dl (.lst [.str (sl s), .str (sl s)]) ≤ 100000 := by
  refine ⟨?_, ?_⟩
  · show (PySem.PyData.strOk (sl s) && (PySem.PyData.strOk (sl s) && true)) = true
    rw [h]; rfl
  · show (10 * (sl s).cps.size + 2) + 2 + ((10 * (sl s).cps.size + 2) + 2 + 0) + 3 ≤ 100000
    have : (sl s).cps.size = s.length := sl_len s
    omega
/-! the first loop -/
def cE : G.Ex := .or (.cmp .ne (.blt .repr [(.lst [(.call 11 [(.var 7)] [] []), (.call 11 [] [(.var 8)] [0])])]) (.blt .repr [(.lst [(.var 6), (.var 6)])])) (.cmp .ne (.blt .repr [(.call 19 [(.var 6)] [] [])]) (.blt .repr [(.lst [(.var 7)])]))
def cF : G.Ex := .cmp .ne (.blt .repr [(.call 19 [(.var 9)] [] [])]) (.blt .repr [(.call 18 [(.var 9)] [] [])])
def bodyL : List G.St := [.asg 7 (.call 21 [(.var 1)] [] []), .asg 6 (.call 22 [(.var 7)] [] []), .asg 8 (.ite (.isi (.var 7) [.tuple]) (.blt .list [(.var 7)]) (.var 7)), .ifs cE [.ret (.bl false)] [], .asg 9 (.call 23 [(.var 1), (.var 6)] [] []), .ifs cF [.ret (.bl false)] []]
def E (x : W) (a2 a6 a7 a8 a9 : Option W) : Env := [some x, some (.loc 0), a2, none, none, none, a6, a7, a8, a9]
theorem listed_ev {C : Calls} {x : W} {a2 a6 a8 a9 : Option W} {q : Rat} {M : Mem} : ∃ d, isN d q ∧ ev Pr C (.ite (.isi (.var 7) [.tuple]) (.blt .list [(.var 7)]) (.var 7)) (E x a2 a6 (some (.p (nd q))) a8 a9) M = .ok (.p d) M := by
  by_cases z : q.den = 1
  · have e : nd q = .int q.num := by unfold nd; rw [if_pos z]
    refine ⟨nd q, .inl rfl, ?_⟩
    rw [e]; rfl
  · have e : nd q = .tup [.int q.num, .int q.den] := by unfold nd; rw [if_neg z]
    refine ⟨.lst [.int q.num, .int q.den], .inr ⟨z, rfl⟩, ?_⟩
    rw [e]; rfl
theorem cE_ev {x : W} {a2 a9 : Option W} {q : Rat} {d : D} {M : Mem} (h : sm q) (hd : isN d q) : ev Pr (callF Pr 6) cE (E x a2 (some (.p (.str (sl (written q))))) (some (.p (nd q))) (some (.p d)) a9) M = .ok (.p (.bl false)) M := by
  obtain ⟨env, he⟩ : ∃ env : Env, env = E x a2 (some (.p (.str (sl (written q))))) (some (.p (nd q))) (some (.p d)) a9 := ⟨_, rfl⟩
  have w := written_len h
  obtain ⟨s1, s2⟩ := two_small (written_ok h) w
  obtain ⟨s3, s4⟩ := nd_small h
  have v6 : ev Pr (callF Pr 6) (.var 6) env M = .ok (.p (.str (sl (written q)))) M := by rw [he]; rfl
  have v7 : ev Pr (callF Pr 6) (.var 7) env M = .ok (.p (nd q)) M := by rw [he]; rfl
  have k1 : ev Pr (callF Pr 6) (.call 11 [(.var 7)] [] []) env M = .ok (.p (.str (sl (written q)))) M := by
    rw [← number_text_run (n := 1) (M := M) (.inl rfl : isN (nd q) q) h, he]; rfl
  have k2 : ev Pr (callF Pr 6) (.call 11 [] [(.var 8)] [0]) env M = .ok (.p (.str (sl (written q)))) M := by
    rw [← number_text_run (n := 1) (M := M) hd h, he]; rfl
  have k3 : ev Pr (callF Pr 6) (.call 19 [(.var 6)] [] []) env M = .ok (.p (.lst [nd q])) M := by
    have := told_str (n := 0) (M := M) (l := written q) (by omega)
    rw [resN_written h, toldD_nd] at this
    rw [← this, he]; rfl
  have l1 : ev Pr (callF Pr 6) (.lst [(.call 11 [(.var 7)] [] []), (.call 11 [] [(.var 8)] [0])]) env M = .ok (.p (.lst [.str (sl (written q)), .str (sl (written q))])) M := by
    rw [ev_lst, evs_cons, k1, Res.bind_ok, evs_cons, k2, Res.bind_ok, evs_nil]; rfl
  have l2 : ev Pr (callF Pr 6) (.lst [(.var 6), (.var 6)]) env M = .ok (.p (.lst [.str (sl (written q)), .str (sl (written q))])) M := by
    rw [ev_lst, evs_cons, v6, Res.bind_ok, evs_cons, v6, Res.bind_ok, evs_nil]; rfl
  have l3 : ev Pr (callF Pr 6) (.lst [(.var 7)]) env M = .ok (.p (.lst [nd q])) M := by
    rw [ev_lst, evs_cons, v7, Res.bind_ok, evs_nil]; rfl
  have r : ∀ (e : G.Ex) (d : D), ev Pr (callF Pr 6) e env M = .ok (.p d) M → small 60 d = true → dl d ≤ 100000 → ev Pr (callF Pr 6) (.blt .repr [e]) env M = .ok (.p (.str (reprD d))) M := fun e d h1 h2 h3 => by
    rw [ev_blt, evs_cons, h1, Res.bind_ok, evs_nil, Res.bind_ok, Res.bind_ok, repr_ok h2 h3]; rfl
  unfold cE
  rw [← he, ev_or, ev_cmp, r _ _ l1 s1 s2, Res.bind_ok, r _ _ l2 s1 s2, Res.bind_ok, ne_str]
  show ev Pr (callF Pr 6) (.cmp .ne _ _) env M = _
  rw [ev_cmp, r _ _ k3 s3 (by omega), Res.bind_ok, r _ _ l3 s3 (by omega), Res.bind_ok, ne_str]
  rfl
theorem cF_ev {x : W} {a2 a6 a7 a8 : Option W} {y : List Nat} {M : Mem} (h : y.length ≤ 600) : ev Pr (callF Pr 6) cF (E x a2 a6 a7 a8 (some (.p (.str (sl y))))) M = .ok (.p (.bl false)) M := by
  obtain ⟨env, he⟩ : ∃ env : Env, env = E x a2 a6 a7 a8 (some (.p (.str (sl y)))) := ⟨_, rfl⟩
  obtain ⟨s1, s2⟩ := told_small y
  have k1 : ev Pr (callF Pr 6) (.call 19 [(.var 9)] [] []) env M = .ok (.p (toldD (resN y))) M := by
    rw [← told_str (n := 0) (M := M) h, he]; rfl
  have k2 : ev Pr (callF Pr 6) (.call 18 [(.var 9)] [] []) env M = .ok (.p (toldD (resN y))) M := by
    rw [← read_run (n := 4) (M := M) h, he]; rfl
  have r : ∀ (e : G.Ex) (d : D), ev Pr (callF Pr 6) e env M = .ok (.p d) M → small 60 d = true → dl d ≤ 100000 → ev Pr (callF Pr 6) (.blt .repr [e]) env M = .ok (.p (.str (reprD d))) M := fun e d h1 h2 h3 => by
    rw [ev_blt, evs_cons, h1, Res.bind_ok, evs_nil, Res.bind_ok, Res.bind_ok, repr_ok h2 h3]; rfl
  unfold cF
  rw [← he, ev_cmp, r _ _ k1 s1 (by omega), Res.bind_ok, r _ _ k2 s1 (by omega), Res.bind_ok, ne_str]
  rfl
theorem one_run {x : W} {a2 a6 a7 a8 a9 : Option W} {cs : List Int} {t l : Int} (ht : 0 ≤ t) (htc : t + 7 ≤ 1990) (hl : 0 ≤ l) : ∃ (b6 b7 b8 b9 : Option W) (t' l' : Int), exs Pr (callF Pr 6) bodyL (E x a2 a6 a7 a8 a9) [deck cs t l] = .nx (E x a2 b6 b7 b8 b9) [deck cs t' l'] ∧ 0 ≤ t' ∧ t' ≤ t + 7 ∧ 0 ≤ l' := by
  obtain ⟨q, t1, l1, e1, h, p1, p2, p3⟩ := value_run (n := 3) (cs := cs) (t := t) (l := l) ⟨ht, by omega⟩ hl
  have w := written_len h
  obtain ⟨y, t2, l2, e2, ly, q1, q2, q3⟩ := bent_run (n := 3) (cs := cs) (t := t1) (l := l1) (x := written q) (by omega) ⟨p1, by omega⟩ p3
  obtain ⟨d, hd, e3⟩ := listed_ev (C := callF Pr 6) (x := x) (a2 := a2) (a6 := some (.p (.str (sl (written q))))) (a8 := a8) (a9 := a9) (q := q) (M := [deck cs t1 l1])
  refine ⟨some (.p (.str (sl (written q)))), some (.p (nd q)), some (.p d), some (.p (.str (sl y))), t2, l2, ?_, q1, by omega, q3⟩
  have f1 : ev Pr (callF Pr 6) (.call 21 [(.var 1)] [] []) (E x a2 a6 a7 a8 a9) [deck cs t l] = .ok (.p (nd q)) [deck cs t1 l1] := by rw [← e1]; rfl
  have f2 : ev Pr (callF Pr 6) (.call 22 [(.var 7)] [] []) (E x a2 a6 (some (.p (nd q))) a8 a9) [deck cs t1 l1] = .ok (.p (.str (sl (written q)))) [deck cs t1 l1] := by rw [← l_written_run (n := 5) h]; rfl
  have f3 : ev Pr (callF Pr 6) (.call 23 [(.var 1), (.var 6)] [] []) (E x a2 (some (.p (.str (sl (written q))))) (some (.p (nd q))) (some (.p d)) a9) [deck cs t1 l1] = .ok (.p (.str (sl y))) [deck cs t2 l2] := by rw [← e2]; rfl
  have g1 : (E x a2 a6 a7 a8 a9).set 7 (some (.p (nd q))) = E x a2 a6 (some (.p (nd q))) a8 a9 := rfl
  have g2 : (E x a2 a6 (some (.p (nd q))) a8 a9).set 6 (some (.p (.str (sl (written q))))) = E x a2 (some (.p (.str (sl (written q))))) (some (.p (nd q))) a8 a9 := rfl
  have g3 : (E x a2 (some (.p (.str (sl (written q))))) (some (.p (nd q))) a8 a9).set 8 (some (.p d)) = E x a2 (some (.p (.str (sl (written q))))) (some (.p (nd q))) (some (.p d)) a9 := rfl
  have g4 : (E x a2 (some (.p (.str (sl (written q))))) (some (.p (nd q))) (some (.p d)) a9).set 9 (some (.p (.str (sl y)))) = E x a2 (some (.p (.str (sl (written q))))) (some (.p (nd q))) (some (.p d)) (some (.p (.str (sl y)))) := rfl
  unfold bodyL
  rw [exs_cons, ex_asg, f1, Res.st_ok, SR.andT_nx, g1, exs_cons, ex_asg, f2, Res.st_ok, SR.andT_nx, g2, exs_cons, ex_asg, e3, Res.st_ok, SR.andT_nx, g3, exs_cons, if_skip (cE_ev h hd), SR.andT_nx, exs_cons, ex_asg, f3, Res.st_ok, SR.andT_nx, g4, exs_one]
  exact if_skip (cF_ev (by omega))
theorem loop_run {cs : List Int} {x : W} : ∀ (is : List W) (a2 a6 a7 a8 a9 : Option W) (t l : Int), 0 ≤ t → t + 7 * (is.length : Int) ≤ 1990 → 0 ≤ l →
    ∃ (b2 b6 b7 b8 b9 : Option W) (t' l' : Int), forL (fun w env M => match give (.nm 2) w env with
      | some env' => exs Pr (callF Pr 6) bodyL env' M
      | none => .bad) is (E x a2 a6 a7 a8 a9) [deck cs t l] = .nx (E x b2 b6 b7 b8 b9) [deck cs t' l'] ∧ 0 ≤ t' ∧ t' ≤ t + 7 * (is.length : Int) ∧ 0 ≤ l'
  | [], a2, a6, a7, a8, a9, t, l, h0, h1, hl => ⟨a2, a6, a7, a8, a9, t, l, rfl, h0, by simp, hl⟩
  | i :: is, a2, a6, a7, a8, a9, t, l, h0, h1, hl => by
    have hz : ((i :: is).length : Int) = is.length + 1 := by simp
    obtain ⟨b6, b7, b8, b9, t', l', e, r1, r2, r3⟩ := one_run (cs := cs) (t := t) (l := l) (x := x) (a2 := some i) (a6 := a6) (a7 := a7) (a8 := a8) (a9 := a9) h0 (by omega) hl
    obtain ⟨c2, c6, c7, c8, c9, t2, l2, e2, s1, s2, s3⟩ := loop_run (cs := cs) (x := x) is (some i) b6 b7 b8 b9 t' l' r1 (by omega) r3
    refine ⟨c2, c6, c7, c8, c9, t2, l2, ?_, s1, by omega, s3⟩
    show (match exs Pr (callF Pr 6) bodyL (E x (some i) a6 a7 a8 a9) [deck cs t l] with
      | .nx env M => _
      | .ct env M => _
      | .bk env M => _
      | z => z) = _
    rw [e]
    exact e2
/-! values that are no words -/
def bodyB (v : Nat) : List G.St := [.ifs (.cmp .ne (.call 19 [(.var v)] [] []) (.tup [(.str "BadText"), (.int 0), (.int 0)])) [.ret (.bl false)] []]
def putO (env : Env) (v : Nat) : Option W → Env
  | some w => env.set v (some w)
  | none => env
theorem skip_loop {v : Nat} {M : Mem} : ∀ (ds : List D) (env : Env), v < env.length → (∀ d ∈ ds, callF Pr 6 19 [.p d] M = .ok (.p BT) M) → ∃ w, forL (fun w env M => match give (.nm v) w env with
      | some env' => exs Pr (callF Pr 6) (bodyB v) env' M
      | none => .bad) (ds.map W.p) env M = .nx (putO env v w) M
  | [], env, _, _ => ⟨none, rfl⟩
  | d :: ds, env, hv, h => by
    have hg : getV (env.set v (some (.p d))) v = some (.p d) := by
      unfold getV
      rw [List.getElem?_set_self hv] <;> rfl
    have e0 : ev Pr (callF Pr 6) (.var v) (env.set v (some (.p d))) M = .ok (.p d) M := by
      rw [ev_var, hg]
      rfl
    have e1 : ev Pr (callF Pr 6) (.call 19 [(.var v)] [] []) (env.set v (some (.p d))) M = .ok (.p BT) M := by
      rw [ev_call, evs_cons, e0, Res.bind_ok, evs_nil, Res.bind_ok, Res.bind_ok, ← h d List.mem_cons_self] <;> rfl
    have e2 : ev Pr (callF Pr 6) (.cmp .ne (.call 19 [(.var v)] [] []) (.tup [(.str "BadText"), (.int 0), (.int 0)])) (env.set v (some (.p d))) M = .ok (.p (.bl false)) M := by
      have e3 : ev Pr (callF Pr 6) (.tup [(.str "BadText"), (.int 0), (.int 0)]) (env.set v (some (.p d))) M = .ok (.p BT) M := rfl
      rw [ev_cmp, e1, Res.bind_ok, e3, Res.bind_ok, ne_same (by decide +kernel)] <;> rfl
    have e4 : exs Pr (callF Pr 6) (bodyB v) (env.set v (some (.p d))) M = .nx (env.set v (some (.p d))) M := by
      unfold bodyB
      rw [exs_one]
      exact if_skip e2
    obtain ⟨w, e5⟩ := skip_loop ds (env.set v (some (.p d))) (by rw [List.length_set]; exact hv) (fun x hx => h x (List.mem_cons_of_mem _ hx))
    refine ⟨some (w.getD (.p d)), ?_⟩
    show (match exs Pr (callF Pr 6) (bodyB v) (env.set v (some (.p d))) M with
      | .nx env M => _
      | .ct env M => _
      | .bk env M => _
      | z => z) = _
    rw [e4]
    refine Eq.trans e5 ?_
    cases w with
    | none => rfl
    | some w => show SR.nx ((env.set v (some (.p d))).set v (some w)) M = _; rw [List.set_set]; rfl
def oddD : List D := [.str "1_0", .str "7/1_1", .str "1\n", .str " 1", .str "+1", .str "1/-2", .str "--1"]
def badD : List D := [.non, .str "7", .bl false, .tup [.int 4, .int 2], .tup [.int 1, .int 1], .lst [.int 1, .int 0], .tup [.int 1, .int 2, .int 3]]
theorem odd_told {M : Mem} : ∀ d ∈ .str "" :: .str "7 " :: oddD, callF Pr 6 19 [.p d] M = .ok (.p BT) M := by
  intro d hd
  have k : ∀ s : PySem.Str, s.length ≤ 600 → resN s.cps.toList = .non → callF Pr 6 19 [.p (.str s)] M = .ok (.p BT) M := fun s h1 h2 => by
    have := told_run (n := 0) (d := .str s) (M := M) rfl (fun s' h => by cases h; exact h1)
    have f : fD (.str s) = .non := h2
    rw [f] at this
    exact this
  simp [oddD] at hd
  rcases hd with rfl | rfl | rfl | rfl | rfl | rfl | rfl | rfl | rfl <;> exact k _ (by decide +kernel) (by decide +kernel)
def noD : List D := [.non, .bl true, .int 7, .lst [.str "7"], .tup [.str "7"], .dct [.str "7"] [.int 7]]
theorem no_told {M : Mem} : ∀ d ∈ noD, callF Pr 6 19 [.p d] M = .ok (.p BT) M := by
  intro d hd
  have k : ∀ d : D, okV d = true → fD d = .non → (∀ s, d ≠ .str s) → callF Pr 6 19 [.p d] M = .ok (.p BT) M := fun d h1 h2 h3 => by
    have := told_run (n := 0) (d := d) (M := M) h1 (fun s' h => absurd h (h3 s'))
    rw [h2] at this
    exact this
  simp [noD] at hd
  rcases hd with rfl | rfl | rfl | rfl | rfl | rfl <;> exact k _ (by decide +kernel) rfl (fun s h => by cases h)
theorem b_law_eq : b_law = [.asg 1 (.call 13 [(.var 0)] [] []), .for_ (.nm 2) (.rng1 (.int 8)) bodyL,
  .for_ (.nm 3) (.it (.tup [.non, (.bl true), (.int 7), (.lst [(.str "7")]), (.tup [(.str "7")]), (.dct [(.str "7")] [(.int 7)])])) (bodyB 3),
  .asg 4 (.call 15 [(.var 1), (.lst [.non, (.str "7"), (.bl false), (.tup [(.int 4), (.int 2)]), (.tup [(.int 1), (.int 1)]), (.lst [(.int 1), (.int 0)]), (.tup [(.int 1), (.int 2), (.int 3)])])] [] []),
  .asg 5 (.call 15 [(.var 1), (.lst [(.str "1_0"), (.str "7/1_1"), (.str "1\n"), (.str " 1"), (.str "+1"), (.str "1/-2"), (.str "--1")])] [] []),
  .for_ (.nm 6) (.it (.tup [(.str ""), (.str "7 "), (.var 5)])) (bodyB 6),
  .ret (.call 20 [(.var 4)] [] [])] := rfl
def z10 (x : W) : Env := [some x, none, none, none, none, none, none, none, none, none]
def F (x : W) (b2 a3 a4 a5 a6 b7 b8 b9 : Option W) : Env := [some x, some (.loc 0), b2, a3, a4, a5, a6, b7, b8, b9]
section
variable {x : W} {b2 a3 a4 a5 a6 b6 b7 b8 b9 : Option W} {d : D} {M M' : Mem}
theorem g1 {z : SR} (h : forL (fun w env M => match give (.nm 2) w env with
      | some env' => exs Pr (callF Pr 6) bodyL env' M
      | none => .bad) (rngW 0 8) (E x b2 a6 b7 b8 b9) M = z) : ex Pr (callF Pr 6) (.for_ (.nm 2) (.rng1 (.int 8)) bodyL) (E x b2 a6 b7 b8 b9) M = z := Eq.trans rfl h
theorem g2 {env : Env} {z : SR} (h : forL (fun w env M => match give (.nm 3) w env with
      | some env' => exs Pr (callF Pr 6) (bodyB 3) env' M
      | none => .bad) (noD.map W.p) env M = z) : ex Pr (callF Pr 6) (.for_ (.nm 3) (.it (.tup [.non, (.bl true), (.int 7), (.lst [(.str "7")]), (.tup [(.str "7")]), (.dct [(.str "7")] [(.int 7)])])) (bodyB 3)) env M = z := by
  rw [← h]; rfl
theorem g3 {cs : List Int} {t l t' l' : Int} (h : callF Pr 6 15 [.loc 0, .p (.lst badD)] [deck cs t l] = .ok (.p d) [deck cs t' l']) : ev Pr (callF Pr 6) (.call 15 [(.var 1), (.lst [.non, (.str "7"), (.bl false), (.tup [(.int 4), (.int 2)]), (.tup [(.int 1), (.int 1)]), (.lst [(.int 1), (.int 0)]), (.tup [(.int 1), (.int 2), (.int 3)])])] [] []) (F x b2 a3 a4 a5 a6 b7 b8 b9) [deck cs t l] = .ok (.p d) [deck cs t' l'] := by rw [← h]; rfl
theorem g4 {cs : List Int} {t l t' l' : Int} (h : callF Pr 6 15 [.loc 0, .p (.lst oddD)] [deck cs t l] = .ok (.p d) [deck cs t' l']) : ev Pr (callF Pr 6) (.call 15 [(.var 1), (.lst [(.str "1_0"), (.str "7/1_1"), (.str "1\n"), (.str " 1"), (.str "+1"), (.str "1/-2"), (.str "--1")])] [] []) (F x b2 a3 a4 a5 a6 b7 b8 b9) [deck cs t l] = .ok (.p d) [deck cs t' l'] := by rw [← h]; rfl
theorem g5 {z : SR} (h : forL (fun w env M => match give (.nm 6) w env with
      | some env' => exs Pr (callF Pr 6) (bodyB 6) env' M
      | none => .bad) ([D.str "", D.str "7 ", d].map W.p) (F x b2 a3 a4 (some (.p d)) a6 b7 b8 b9) M = z) : ex Pr (callF Pr 6) (.for_ (.nm 6) (.it (.tup [(.str ""), (.str "7 "), (.var 5)])) (bodyB 6)) (F x b2 a3 a4 (some (.p d)) a6 b7 b8 b9) M = z := by rw [← h]; rfl
theorem g6 (h : callF Pr 6 20 [.p d] M = .ok (.p (.bl true)) M) : ev Pr (callF Pr 6) (.call 20 [(.var 4)] [] []) (F x b2 a3 (some (.p d)) a5 a6 b7 b8 b9) M = .ok (.p (.bl true)) M := by rw [← h]; rfl
end
theorem ans : ∀ ns : List Int, ns.length ≤ 63 → ∃ M, callF T.P 7 24 [.p (.lst (ns.map D.int))] [] = .ok (.p (.bl true)) M := by
  intro ns hn
  obtain ⟨cs, hcs⟩ : ∃ cs, cs = ns.take (min 57 ns.length) := ⟨_, rfl⟩
  obtain ⟨x, hx⟩ : ∃ x : W, x = .p (.lst (ns.map D.int)) := ⟨_, rfl⟩
  obtain ⟨b2, b6, b7, b8, b9, t1, l1, e1, p1, p2, p3⟩ := loop_run (cs := cs) (x := x) (rngW 0 8) none none none none none 0 0 (by decide) (by decide) (by decide)
  have p2' : t1 ≤ 56 := Int.le_trans p2 (by decide)
  obtain ⟨d4, t2, l2, e2, hd4, q1, q2, q3⟩ := pick_run (n := 4) (cs := cs) (t := t1) (l := l1) (ds := badD) ⟨p1, by omega⟩ p3 (by decide) (by decide)
  obtain ⟨d5, t3, l3, e3, hd5, r1, r2, r3⟩ := pick_run (n := 4) (cs := cs) (t := t2) (l := l2) (ds := oddD) ⟨q1, by omega⟩ q3 (by decide) (by decide)
  obtain ⟨w3, f3⟩ := skip_loop (v := 3) (M := [deck cs t1 l1]) noD (E x b2 b6 b7 b8 b9) (show 3 < 10 by decide) no_told
  obtain ⟨a3, ha3⟩ : ∃ a3 : Option W, putO (E x b2 b6 b7 b8 b9) 3 w3 = F x b2 a3 none none b6 b7 b8 b9 := by
    cases w3 with
    | none => exact ⟨none, rfl⟩
    | some w => exact ⟨some w, rfl⟩
  rw [ha3] at f3
  obtain ⟨w6, f6⟩ := skip_loop (v := 6) (M := [deck cs t3 l3]) [.str "", .str "7 ", d5] (F x b2 a3 (some (.p d4)) (some (.p d5)) b6 b7 b8 b9) (show 6 < 10 by decide) (fun d hd => odd_told d (by
    rcases List.mem_cons.mp hd with rfl | hd
    · exact List.mem_cons_self
    rcases List.mem_cons.mp hd with rfl | hd
    · exact List.mem_cons_of_mem _ List.mem_cons_self
    · rw [List.mem_singleton.mp hd]
      exact List.mem_cons_of_mem _ (List.mem_cons_of_mem _ hd5)))
  obtain ⟨a6, ha6⟩ : ∃ a6 : Option W, putO (F x b2 a3 (some (.p d4)) (some (.p d5)) b6 b7 b8 b9) 6 w6 = F x b2 a3 (some (.p d4)) (some (.p d5)) a6 b7 b8 b9 := by
    cases w6 with
    | none => exact ⟨b6, rfl⟩
    | some w => exact ⟨some w, rfl⟩
  rw [ha6] at f6
  have h4 : okV d4 = true ∧ num d4 = false := by
    simp [badD] at hd4
    rcases hd4 with rfl | rfl | rfl | rfl | rfl | rfl | rfl <;> exact ⟨by decide +kernel, by decide +kernel⟩
  refine ⟨[], ?_⟩
  have g0 : ev Pr (callF Pr 6) (.call 13 [(.var 0)] [] []) (z10 x) [] = .ok (.loc 0) [deck cs 0 0] := by
    rw [hcs, hx]
    exact deck_run (n := 5)
  rw [← hx]
  clear hcs hx hn
  show callF Pr (6 + 1) 24 _ _ = _
  rw [call_s (d := ⟨1, 10, true, b_law⟩) rfl rfl]
  show fnR true [] (exs Pr (callF Pr 6) b_law (z10 x) []) = _
  have s1 : (z10 x).set 1 (some (.loc 0)) = E x none none none none none := rfl
  have s4 : (F x b2 a3 none none b6 b7 b8 b9).set 4 (some (.p d4)) = F x b2 a3 (some (.p d4)) none b6 b7 b8 b9 := rfl
  have s5 : (F x b2 a3 (some (.p d4)) none b6 b7 b8 b9).set 5 (some (.p d5)) = F x b2 a3 (some (.p d4)) (some (.p d5)) b6 b7 b8 b9 := rfl
  rw [b_law_eq, exs_cons, ex_asg, g0, Res.st_ok, SR.andT_nx, s1, exs_cons, g1 e1, SR.andT_nx, exs_cons, g2 f3, SR.andT_nx, exs_cons, ex_asg, g3 e2, Res.st_ok, SR.andT_nx, s4, exs_cons, ex_asg, g4 e3, Res.st_ok, SR.andT_nx, s5, exs_cons, g5 f6, SR.andT_nx, exs_one, ex_ret, g6 (refused_run (n := 0) h4.1 h4.2)]
  rfl
open PySem PySem.Spec PyProof.Rows L2 G
abbrev R : PySem.W.OpenRow := PySem.W.OpenLaw.row PySem.Challenge.rw_planless_k04_numbers_written_and_read
abbrev hk : PySem.W.Hook := hookX 4 T
def ob (s : PySem.W.SharedT) : Bool := obsX 4 T (HandSHeadRun.getT s)
theorem ob_eq (s : PySem.W.SharedT) : ob s = hk.obs s.abs := obsX_eq (HandSHeadRun.getT_eq s)
theorem run (w : World) : HandSHeadRun.RunEq R (PySem.W.view R.prog [lawAt]) hk ob 10000 loose w := by
  intro os
  kernel_rfl
end K04
open PySem PySem.W PySem.Calls PyProof.Rows G
theorem PySem.Challenge.cw_planless_k04_numbers_written_and_read_holds : PySem.Challenge.rw_planless_k04_numbers_written_and_read.Holds := by
  w_on; o_law
  refine HandSHeadRun.head_any (r := K04.R) (q := view K04.R.prog [K04.lawAt]) (H := K04.hk) (ob := K04.ob) (M := 10000) (loose := K04.loose) (d := HandSHeadRun.topDef K04.R.prog K04.lawAt) (kwd := []) K04.ob_eq
    (by kernel_rfl) (fun s => by kernel_rfl) K04.run (by kernel_rfl) (by kernel_rfl) (by kernel_rfl) (by rfl) (by first | assumption | decide +kernel) (by decide +kernel) ⟨rfl, rfl, rfl, rfl, rfl, by decide +kernel⟩ ?hw ?hc
  case hw => w_witness2
  case hc =>
    exact walk_X (l := PySem.Challenge.rw_planless_k04_numbers_written_and_read) (n := 63) (N0 := 7) (m := 4) (f := 24) (x := "_law_script") (T := K04.T) rfl (by decide) (by kernel_rfl) (by kernel_rfl) ⟨rfl, by decide, by decide⟩ (by rfl) K04.ans

