import PyProof.Rows.All
import Wide.All
import OpenK.AllK
import Wide.FinOn
import PyProof.InstEq
import PyProof.InstNe
import KE.KTypeName
import HandS.ForMost
import HandS.Text
import HandS.ForExc
import HandS.ExcInit
import HandS.ExcIs
import HandS.IsInst
import HandS.ExcField
import HandS.Flow
import HandS.Wide
import HandS.Iter
import HandS.Zip
import HandS.TupAny
import KE.KExcIs
import HandS.RaiseMore
import HandS.Small
import HandS.SortInts
import PyProof.ReprRoads
import HandS.TryOnly
import HandS.Star
import KE.GoesComp
import KE.GoesRaise
import KE.KAsSuite
import HandS.FStr
import KE.KCallOwn
import HandS.HeadHook1
import HandS.Ends
import HandS.HeadHook2
import HandS.Head0
import HandS.Head1
import HandS.Head2
import HandS.HeadEnd
import KE.KIntText
import PyProof.Rows.StrSplitJoin
import PySem.Challenge.RW_planless_k06_texts_of_programs_bent_anyw
set_option Elab.async false
set_option linter.all false
set_option maxRecDepth 1000000
set_option maxHeartbeats 0
set_option maxHeartbeats 1000000
/-! Instances of own classes: ==, != by an own __eq__, truth by an own __bool__, the class's name. -/
namespace PySem.W
open PySem PySem.Calls PyProof.Rows
section
variable {prog : Program} {w : World} {A : Around} {E : Value → Shared → Prop} {s : Shared} {K : Frag} {x C L f : Addr} {h₀ : Heap} {m : Str → Option Value} {ox : Obj} {od : Option Obj} {name : Str} {b tb : Value}
theorem ifBound_B {M : Model} {id : String} {args : List Value} {T : String} {Q : Option Value → Shared → Prop} (X : K.In s.heap) (I : InstAt s.heap x ox C od) (hs : findIn K (.ref C) name = some (some (.builtin id))) (S : Slot T name id)
    (h : wpAny M A (call (.builtin id) (.ref x :: args)) (fun v => Q (some v)) E s) : wpAny M A (callSpecialIfBound? (.ref x) name args) Q E s := by
  simp only [callSpecialIfBound?, bindSpecialIfBound?]
  refine wpAny_holding (wpAny_bind (wpAny_bind (wpAny_bind (I.type.here ((looks_findIn X hs).here ?_)))))
  simp only [S.bind]
  refine wpAny_bind (wpAny_askSetting (wpAny_ite ?_))
  have fin : wpAny M A (call (.builtin id) ([.ref x] ++ args) >>= fun v => pure (some v)) Q E s := wpAny_bind (wpAny_mono h (fun v s' h' => wpAny_pure h') fun _ _ h' => h')
  split
  · exact wpAny_bind (wpAny_pure (wpAny_pure fin))
  · exact wpAny_tryCatch (wpAny_bind (wpAny_pure (wpAny_pure fin)))
/-- a comparison's two ways -/
def TryC (M : Model) (A : Around) (E : Value → Shared → Prop) (s : Shared) (a : Value) (name : Str) (b : Value) (Q : Value → Shared → Prop) : Prop := wpAny M A (tryCompare a name b) (fun r s' => ∃ v, r = some v ∧ Q v s') E s
theorem tryE {Q : Value → Shared → Prop} (X : K.In s.heap) (I : InstAt s.heap x ox C od) (hs : findIn K (.ref C) "__eq__" = some (some (.ref f))) (hf : isFn K (.ref f) = true)
    (h : wpAny (model prog w) A (call (.ref f) [.ref x, b]) (fun v s' => ∃ r, v = .bool r ∧ Q (.bool r) s') E s) : TryC (model prog w) A E s (.ref x) "__eq__" b Q := by
  unfold TryC tryCompare
  refine wpAny_bind (ifBound_K X I hs hf (wpAny_mono h (fun v s' hv => ?_) fun _ _ e => e))
  obtain ⟨r, rfl, q⟩ := hv
  exact wpAny_pure ⟨_, rfl, q⟩
theorem neBody {Q : Fin → Shared → Prop} (hu : A.units < cLine) (X : K.In s.heap) (I : InstAt s.heap x ox C od) (hs : findIn K (.ref C) "__eq__" = some (some (.ref f))) (hf : isFn K (.ref f) = true)
    (h : wpAny (model prog w) A (call (.ref f) [.ref x, b]) (fun v s' => ∃ r, v = .bool r ∧ Q (.done (.ret (.bool (!r)))) s') E s) : wpAny (model prog w) A (Builtin.«object.__ne__» ⟨[.ref x, b], []⟩) Q E s := by
  unfold Builtin.«object.__ne__»
  repeat (first
    | with_reducible refine wpAny_cRoomFor hu ?_
    | (refine wpAny_bind (m := callSpecialIfBound? (.ref x) (Str.ofString "__eq__") [b])
        (ifBound_K X I hs hf (wpAny_mono h (fun r s' hr => by
          obtain ⟨k, rfl, hq⟩ := hr
          repeat (first | exact hq | exact wpAny_pure hq | exact wpAny_truthy_bool hq | (refine wpAny_bind (m := truthy (.bool _)) (wpAny_truthy_bool ?_)) | wp_step)) fun _ _ e => e)))
    | wp_step)
theorem checkNe {M : Model} {Q : Unit → Shared → Prop} (X : K.In s.heap) (I : InstAt s.heap x ox C od) (ho : subIn K (.ref C) (.type "object") = some true) (hq : Q () s) : wpAny M A (checkBuiltinCall "object.__ne__" ⟨[.ref x, b], []⟩) Q E s := by
  have ha : argsOk "object.__ne__" ⟨[.ref x, b], []⟩ := F.cmpArgs_ne _ _
  simp only [checkBuiltinCall, F.cmpKind_ne, F.cmpSplit_ne]
  refine wpAny_bind ?_
  unfold isInstance
  refine wpAny_bind (I.type.here ?_)
  refine (looks_subIn X ho).here ?_
  cases hsig : Manifest.signature? "object.__ne__" with
  | none => exact wpAny_pure hq
  | some sig =>
    simp only [argsOk, hsig] at ha
    have h2 : Bind.checkArgs "object.__ne__" sig ⟨[.ref x, b], []⟩ = pure () := ha
    show wpAny M A (Bind.checkArgs "object.__ne__" sig ⟨[.ref x, b], []⟩) Q E _
    rw [h2]; exact wpAny_pure hq
theorem tryN {Q : Value → Shared → Prop} (hu : A.units + 1 < cLine) (X : K.In s.heap) (I : InstAt s.heap x ox C od) (hn : findIn K (.ref C) "__ne__" = some (some (.builtin "object.__ne__"))) (ho : subIn K (.ref C) (.type "object") = some true)
    (hs : findIn K (.ref C) "__eq__" = some (some (.ref f))) (hf : isFn K (.ref f) = true)
    (h : wpAny (model prog w) A.in1 (call (.ref f) [.ref x, b]) (fun v s' => ∃ r, v = .bool r ∧ Q (.bool (!r)) s') E s) : TryC (model prog w) A E s (.ref x) "__ne__" b Q := by
  unfold TryC tryCompare
  refine wpAny_bind (ifBound_B X I hn F.cmp_object.ne (wpAny_call (codeAny_call_builtin F.cmp_object.ne.plain F.cmpEntry_ne (checkNe X I ho (neBody (A := A.in1) hu X I hs hf (wpAny_mono h (fun v s' hv => ?_) fun _ _ e => e))))))
  obtain ⟨r, rfl, q⟩ := hv
  first | exact ⟨r, rfl, wpAny_pure ⟨_, rfl, q⟩⟩ | exact ⟨r, rfl, wpAny_pure (wpAny_pure ⟨_, rfl, q⟩)⟩
/-- the left one is asked -/
theorem rc_left {op : CmpOp} {Q : Value → Shared → Prop} (hu : A.units < cLine) (F : Fr h₀ L s.heap m) (X₀ : K.In h₀) (I : InstAt s.heap x ox C od) (hb : Looks (model prog w) s.heap (typeOf b) tb) (hn : notFirst K C tb = true)
    (h : TryC (model prog w) A E s (.ref x) (cmpInfo op).2.1 b Q) : wpAny (model prog w) A (richCompare op (.ref x) b) Q E s := by
  have X := X₀.keeps F.keep
  unfold richCompare
  simp only [oneThing_ref]
  refine wpAny_holding (wpAny_bind (wpAny_cRoomFor hu ?_))
  refine wpAny_bind (I.type.here (wpAny_bind (hb.here ?_)))
  split
  · rename_i q
    have e : subIn K tb (.ref C) = some false := by
      rcases Bool.or_eq_true_iff.mp hn with e | e
      · rw [beq_iff_eq.mp e] at q; simp at q
      · exact beq_iff_eq.mp e
    refine wpAny_bind ((looks_subIn X e).here ?_)
    simp only [Bool.false_eq_true, if_false]
    refine wpAny_bind (wpAny_mono h (fun r s' z => ?_) fun _ _ e => e)
    obtain ⟨v, rfl, hq⟩ := z
    exact wpAny_pure hq
  · refine wpAny_bind (wpAny_pure ?_)
    simp only [Bool.false_eq_true, if_false]
    refine wpAny_bind (wpAny_mono h (fun r s' z => ?_) fun _ _ e => e)
    obtain ⟨v, rfl, hq⟩ := z
    exact wpAny_pure hq
/-- the right one is of a class below the left one's: it is asked first -/
theorem rc_right {op : CmpOp} {Q : Value → Shared → Prop} {y D : Addr} {oy : Obj} {oe : Option Obj} (hu : A.units < cLine) (F : Fr h₀ L s.heap m) (X₀ : K.In h₀) (I : InstAt s.heap x ox C od) (J : InstAt s.heap y oy D oe) (ne : C ≠ D) (hs : subIn K (.ref D) (.ref C) = some true)
    (h : TryC (model prog w) A E s (.ref y) (cmpInfo op).2.2 (.ref x) Q) : wpAny (model prog w) A (richCompare op (.ref x) (.ref y)) Q E s := by
  have X := X₀.keeps F.keep
  unfold richCompare
  simp only [oneThing_ref]
  refine wpAny_holding (wpAny_bind (wpAny_cRoomFor hu ?_))
  refine wpAny_bind (I.type.here (wpAny_bind (J.type.here ?_)))
  rw [if_pos (by simp [ne])]
  refine wpAny_bind ((looks_subIn X hs).here ?_)
  rw [if_pos rfl]
  refine wpAny_bind (wpAny_mono h (fun r s' z => ?_) fun _ _ e => e)
  obtain ⟨v, rfl, hq⟩ := z
  exact wpAny_bind (wpAny_rule (wpAny_pure hq))
end
end PySem.W

/-! The evaluator: programs of a small part of Python over plain data. No model here. -/
namespace G
open PySem (Str)

/-- plain data: what never changes -/
inductive D where
  | non | bl (b : Bool) | int (i : Int) | str (s : Str)
  | tup (xs : List D) | lst (xs : List D)
  | dct (ks vs : List D)
  | obj (c : Nat) (ns : List Nat) (vs : List D)
  | exc (c : Nat) (ns : List Nat) (vs : List D)
  deriving Inhabited
mutual
def D.beq : D → D → Bool
  | .non, .non => true
  | .bl a, .bl b => a == b
  | .int a, .int b => decide (a = b)
  | .str a, .str b => decide (a = b)
  | .tup a, .tup b => D.beqs a b
  | .lst a, .lst b => D.beqs a b
  | .dct k v, .dct k' v' => D.beqs k k' && D.beqs v v'
  | .obj c n v, .obj c' n' v' => decide (c = c') && decide (n = n') && D.beqs v v'
  | .exc c n v, .exc c' n' v' => decide (c = c') && decide (n = n') && D.beqs v v'
  | _, _ => false
def D.beqs : List D → List D → Bool
  | [], [] => true
  | a :: as, b :: bs => D.beq a b && D.beqs as bs
  | _, _ => false
end
mutual
theorem D.beq_iff : ∀ a b : D, D.beq a b = true ↔ a = b
  | .non, b => by cases b <;> simp [D.beq]
  | .bl a, b => by cases b <;> simp [D.beq]
  | .int a, b => by cases b <;> simp [D.beq]
  | .str a, b => by cases b <;> simp [D.beq]
  | .tup a, b => by cases b <;> simp [D.beq, D.beqs_iff a]
  | .lst a, b => by cases b <;> simp [D.beq, D.beqs_iff a]
  | .dct k v, b => by cases b <;> simp [D.beq, D.beqs_iff k, D.beqs_iff v]
  | .obj c n v, b => by cases b <;> simp [D.beq, D.beqs_iff v, and_assoc]
  | .exc c n v, b => by cases b <;> simp [D.beq, D.beqs_iff v, and_assoc]
theorem D.beqs_iff : ∀ a b : List D, D.beqs a b = true ↔ a = b
  | [], b => by cases b <;> simp [D.beqs]
  | a :: as, b => by cases b <;> simp [D.beqs, D.beq_iff a, D.beqs_iff as]
end
instance : DecidableEq D := fun a b => if h : D.beq a b = true then isTrue ((D.beq_iff a b).mp h) else isFalse fun e => h ((D.beq_iff a b).mpr e)
/-- a value: plain, a place of the memory, a tuple of such -/
inductive W where
  | p (d : D) | loc (l : Nat) | tp (ws : List W)
  deriving Inhabited
mutual
def W.beq : W → W → Bool
  | .p a, .p b => decide (a = b)
  | .loc a, .loc b => decide (a = b)
  | .tp a, .tp b => W.beqs a b
  | _, _ => false
def W.beqs : List W → List W → Bool
  | [], [] => true
  | a :: as, b :: bs => W.beq a b && W.beqs as bs
  | _, _ => false
end
mutual
theorem W.beq_iff : ∀ a b : W, W.beq a b = true ↔ a = b
  | .p a, b => by cases b <;> simp [W.beq]
  | .loc a, b => by cases b <;> simp [W.beq]
  | .tp a, b => by cases b <;> simp [W.beq, W.beqs_iff a]
theorem W.beqs_iff : ∀ a b : List W, W.beqs a b = true ↔ a = b
  | [], b => by cases b <;> simp [W.beqs]
  | a :: as, b => by cases b <;> simp [W.beqs, W.beq_iff a, W.beqs_iff as]
end
instance : DecidableEq W := fun a b => if h : W.beq a b = true then isTrue ((W.beq_iff a b).mp h) else isFalse fun e => h ((W.beq_iff a b).mpr e)
inductive Cell where
  | lst (ws : List W) | ins (c : Nat) (ns : List Nat) (ws : List W) | dic (ks : List D) (ws : List W) | fz (d : D)
  deriving Inhabited, DecidableEq
abbrev Mem := List Cell
abbrev Env := List (Option W)
inductive Res (α : Type) where
  | ok (a : α) (M : Mem) | exc (c : Nat) (ns : List Nat) (vs : List D) (M : Mem) | bad
inductive SR where
  | nx (env : Env) (M : Mem) | rt (w : W) (M : Mem) | bk (env : Env) (M : Mem) | ct (env : Env) (M : Mem)
  | exc (c : Nat) (ns : List Nat) (vs : List D) (env : Env) (M : Mem) | bad

def Res.bind {α β : Type} : Res α → (α → Mem → Res β) → Res β
  | .ok a M, f => f a M
  | .exc c ns vs M, _ => .exc c ns vs M
  | .bad, _ => .bad
@[simp] theorem Res.bind_ok {α β : Type} (a : α) (M : Mem) (f : α → Mem → Res β) : (Res.ok a M).bind f = f a M := rfl
@[simp] theorem Res.bind_exc {α β : Type} (c ns vs) (M : Mem) (f : α → Mem → Res β) : (Res.exc c ns vs M : Res α).bind f = .exc c ns vs M := rfl
@[simp] theorem Res.bind_bad {α β : Type} (f : α → Mem → Res β) : (Res.bad : Res α).bind f = .bad := rfl
def Res.of {α : Type} (o : Option α) (M : Mem) : Res α := match o with
  | some a => .ok a M
  | none => .bad
@[simp] theorem Res.of_some {α : Type} (a : α) (M : Mem) : Res.of (some a) M = .ok a M := rfl
@[simp] theorem Res.of_none {α : Type} (M : Mem) : (Res.of none M : Res α) = .bad := rfl

inductive Bop where
  | add | sub | mul | fdiv | mod | pow
  deriving DecidableEq
inductive Cop where
  | eq | ne | lt | le | gt | ge | is | isn | inn | nin
  deriving DecidableEq
inductive Blt where
  | len | int | abs | tuple | list | bool | repr | all | any | sum | max | min | sorted | str
  deriving DecidableEq
inductive Mth where
  | partition | find | split | join
  deriving DecidableEq
inductive TyC where
  | own (c : Nat) | int | bool | str | list | tuple | dict | verr | oerr (n : String)
  deriving DecidableEq

/-- a target: a name, or targets in brackets -/
inductive Tg where
  | nm (i : Nat) | tp (ts : List Tg)
mutual
def Tg.vars : Tg → List Nat
  | .nm i => [i]
  | .tp ts => Tg.varsL ts
def Tg.varsL : List Tg → List Nat
  | [] => []
  | t :: ts => Tg.vars t ++ Tg.varsL ts
end
inductive Ex where
  | var (i : Nat) | frz (i : Nat)
  | int (i : Int) | str (s : Str) | bl (b : Bool) | non
  | glob (g : Nat)
  | tup (es : List Ex) | lst (es : List Ex) | lstL (es : List Ex)
  | dct (ks vs : List Ex)
  | bin (o : Bop) (a b : Ex) | neg (a : Ex) | not (a : Ex)
  | cmp (o : Cop) (a b : Ex)
  | and (a b : Ex) | or (a b : Ex) | ite (c a b : Ex)
  | idx (a i : Ex) | slc (a : Ex) (lo hi : List Ex)
  | att (a : Ex) (f : Nat)
  | mth (m : Mth) (o a : Ex)
  | fstr (es : List Ex) | fmt (a : Ex)
  | call (f : Nat) (args : List Ex) (kws : List Ex) (perm : List Nat)
  | blt (b : Blt) (args : List Ex)
  | isi (a : Ex) (cs : List TyC)
  | comp (elt : Ex) (own : List Nat) (t : Tg) (it : Ex) (ifs : List Ex)
  | compX (elt : Ex) (own : List Nat) (t : Tg) (it : Ex) (ifs : List Ex)
  | new (c f : Nat) (as ks : List Ex) (perm : List Nat)
  | mc (c f : Nat) (o : Ex) (as : List Ex)
  | scl (c f : Nat) (as : List Ex)
  | fz (a : Ex) | eqO (ng : Bool) (a b : Ex) | strO (c f : Nat) (a : Ex)
  | lstS (ss : List Bool) (es : List Ex)
  | splL (o a : Ex)
  | it (a : Ex) | rng1 (a : Ex) | rng2 (a b : Ex) | enum (a : Ex) | zip (a b : Ex)
inductive St where
  | asg (i : Nat) (e : Ex)
  | asgT (t : Tg) (e : Ex)
  | par (i j : Nat) (a b : Ex)
  | setIdx (o i e : Ex)
  | swp (o i j : Ex)
  | setA (o : Ex) (f : Nat) (e : Ex)
  | ifs (c : Ex) (a b : List St)
  | for_ (t : Tg) (it : Ex) (body : List St)
  | while_ (c : Ex) (body : List St)
  | ret (e : Ex) | retN
  | expr (e : Ex)
  | app (o e : Ex)
  | raise (c : Nat) (args kws : List Ex) (perm : List Nat)
  | try_ (body : List St) (hcs : List (Nat × Option Nat)) (suites : List (List St))
  | pass | brk | cnt

structure FnDef where
  par : Nat
  slots : Nat
  pop : Bool
  body : List St
/-- a class of the text: those above it (and it), its instances' attributes, whether it is an exception's -/
structure ClsDef where
  anc : List Nat
  flds : List Nat
  isX : Bool
structure Prog where
  fn : Nat → Option FnDef
  clsL : List (Nat × ClsDef)
  glob : Nat → Option D
  isis : List TyC
  fuel : Nat
  eqf : Nat → Option Nat
def Prog.cls (P : Prog) (c : Nat) : Option ClsDef := P.clsL.lookup c
abbrev Calls := Nat → List W → Mem → Res W

/-! ### values -/
def W.pures : List W → Option (List D)
  | [] => some []
  | .p d :: r => match W.pures r with
    | some ds => some (d :: ds)
    | none => none
  | _ :: _ => none
def W.items (M : Mem) : W → Option (List W)
  | .p (.tup ds) => some (ds.map .p)
  | .p (.lst ds) => some (ds.map .p)
  | .p _ => none
  | .tp ws => some ws
  | .loc l => match M[l]? with
    | some (.lst ws) => some ws
    | some (.fz (.lst ds)) => some (ds.map .p)
    | _ => none
/-- a value as plain data, read now -/
def W.view (M : Mem) : W → Option D
  | .p d => some d
  | .tp _ => none
  | .loc l => match M[l]? with
    | some (.lst ws) => (W.pures ws).map .lst
    | some (.fz d) => some d
    | _ => none
def mkTup (ws : List W) : W := match W.pures ws with
  | some ds => .p (.tup ds)
  | none => .tp ws
def mkLst (ws : List W) : Option W := (W.pures ws).map fun ds => .p (.lst ds)
def D.ints : List D → Option (List Int)
  | [] => some []
  | .int i :: r => (D.ints r).map (i :: ·)
  | _ :: _ => none
def D.bls : List D → Option (List Bool)
  | [] => some []
  | .bl i :: r => (D.bls r).map (i :: ·)
  | _ :: _ => none
def W.bls : List W → Option (List Bool)
  | [] => some []
  | .p (.bl b) :: r => (W.bls r).map (b :: ·)
  | _ :: _ => none
def truD : D → Option Bool
  | .non => some false
  | .bl b => some b
  | .int i => some (i != 0)
  | .str s => if s.length ≤ 100000 then some (s.length != 0) else none
  | .tup xs => some !xs.isEmpty
  | .lst xs => some !xs.isEmpty
  | _ => none
def tru (M : Mem) (w : W) : Option Bool := match w with
  | .p d => truD d
  | .tp ws => some !ws.isEmpty
  | .loc l => match M[l]? with
    | some (.lst ws) => some !ws.isEmpty
    | some (.fz (.lst ds)) => some !ds.isEmpty
    | _ => none
/-! Python's == of plain data: True is 1 -/
mutual
def nrm : D → D
  | .bl b => .int (if b then 1 else 0)
  | .tup xs => .tup (nrms xs)
  | .lst xs => .lst (nrms xs)
  | d => d
def nrms : List D → List D
  | [] => []
  | d :: r => nrm d :: nrms r
end
mutual
def plain : Nat → D → Bool
  | _, .non => true
  | _, .bl _ => true
  | _, .int _ => true
  | _, .str s => PySem.PyData.strOk s
  | n, .tup xs => match n with
    | 0 => false
    | n + 1 => plains n xs
  | n, .lst xs => match n with
    | 0 => false
    | n + 1 => plains n xs
  | _, _ => false
def plains : Nat → List D → Bool
  | _, [] => true
  | n, d :: r => plain n d && plains n r
end
def eqP (a b : D) : Option Bool := if plain 60 a && plain 60 b then some (decide (nrm a = nrm b)) else none
def eqD (a b : D) : Option Bool := match a, b with
  | .str x, .str y => some (decide (x = y))
  | a, b => eqP a b
def flat : D → Bool
  | .non | .bl _ | .int _ | .str _ => true
  | _ => false
def isNon : W → Bool
  | .p .non => true
  | _ => false
def memD (d : D) (ds : List D) : Option Bool := if flat d && ds.all flat then some (decide (nrm d ∈ nrms ds)) else none
/-- one sign in a text -/
def sgnB (x z : Str) : Option Bool := match x.cps.toList with
  | [c] => if decide (x = ⟨#[c]⟩) then some (decide (c ∈ z.cps.toList)) else none
  | _ => none
def cmpD (o : Cop) (a b : D) : Option Bool := match o, a, b with
  | .eq, a, b => eqD a b
  | .ne, a, b => (eqD a b).map (!·)
  | .lt, .int i, .int j => some (decide (i < j))
  | .le, .int i, .int j => some (decide (i ≤ j))
  | .gt, .int i, .int j => some (decide (j < i))
  | .ge, .int i, .int j => some (decide (j ≤ i))
  | .inn, .str x, .str z => (match x.cps.toList with
    | [c] => if decide (x = ⟨#[c]⟩) then some (decide (c ∈ z.cps.toList)) else none
    | _ => none)
  | .nin, .str x, .str z => (sgnB x z).map (!·)
  | .inn, d, .tup ds => memD d ds
  | .inn, d, .lst ds => memD d ds
  | .nin, d, .tup ds => (memD d ds).map (!·)
  | .nin, d, .lst ds => (memD d ds).map (!·)
  | _, _, _ => none
/-- how long a list is -/
def lstN (M : Mem) : W → Option Nat
  | .p (.lst ds) => some ds.length
  | .loc l => match M[l]? with
    | some (.lst ws) => some ws.length
    | some (.fz (.lst ds)) => some ds.length
    | _ => none
  | _ => none
/-- lists that are not as long as one another -/
def lenW (M : Mem) (o : Cop) (a b : W) : Option Bool := match lstN M a, lstN M b with
  | some n, some k => if n = k then none else match o with
    | .eq => some false
    | .ne => some true
    | _ => none
  | _, _ => none
def cmpW (M : Mem) (o : Cop) (a b : W) : Option Bool := match o with
  | .is => if isNon b then some (isNon a) else none
  | .isn => if isNon b then some (!isNon a) else none
  | o => match a.view M, b.view M with
    | some x, some y => match cmpD o x y with
      | some k => some k
      | none => lenW M o a b
    | _, _ => lenW M o a b
def small64 (i : Int) : Bool := decide (-(2 ^ 64) < i) && decide (i < 2 ^ 64)
def mulOk (i j : Int) : Bool := small64 i || small64 j || decide (i.natAbs.log2 + j.natAbs.log2 < 1000000)
def szOk (n : Nat) : Bool := decide (n ≤ 100000)
def binD (o : Bop) (a b : D) : Option D := match o, a, b with
  | .add, .int i, .int j => some (.int (i + j))
  | .add, .str x, .str y => if szOk (x.length + y.length) then some (.str (x ++ y)) else none
  | .add, .tup x, .tup y => if szOk (x.length + y.length) then some (.tup (x ++ y)) else none
  | .add, .lst x, .lst y => if szOk (x.length + y.length) then some (.lst (x ++ y)) else none
  | .sub, .int i, .int j => some (.int (i - j))
  | .mul, .int i, .int j => if mulOk i j then some (.int (i * j)) else none
  | .mul, .str x, .int n => if decide (1 ≤ n) && decide (n ≤ 1000) && szOk (x.length * n.toNat) then some (.str (PySem.Txt.mul x n)) else none
  | .fdiv, .int i, .int j => if decide (0 < j) && decide (j.natAbs.log2 < 9000) then some (.int (i / j)) else none
  | .mod, .int i, .int j => if decide (0 < j) then some (.int (i % j)) else none
  | .pow, .int i, .int j => if decide (0 ≤ j) && decide (j ≤ 1000000) && decide (i.natAbs < 2 ^ 64) then some (.int (i ^ j.toNat)) else none
  | _, _, _ => none
def binW (M : Mem) (o : Bop) (a b : W) : Option W := match a.view M, b.view M with
  | some x, some y => (binD o x y).map .p
  | _, _ => none
def ixI (n : Nat) (i : Int) : Option Nat := if 0 ≤ i then (if i < n then some i.toNat else none) else if -(n : Int) ≤ i then some (i + n).toNat else none
def at? {α : Type} (xs : List α) (i : Int) : Option α := (ixI xs.length i).bind fun j => xs[j]?
def idxW (M : Mem) (a i : W) : Option W := match i with
  | .p (.int k) => match a with
    | .p (.str z) => if szOk z.length then (at? z.cps.toList k).map fun c => .p (.str ⟨#[c]⟩) else none
    | a => match a.items M with
      | some ws => at? ws k
      | none => none
  | _ => none
def cutPt (n d : Nat) : Option Int → Nat
  | none => d
  | some v => if v < 0 then (v + (n : Int)).toNat else min v.toNat n
def cutL {α : Type} (xs : List α) (lo hi : Option Int) : List α := (xs.drop (cutPt xs.length 0 lo)).take (cutPt xs.length xs.length hi - cutPt xs.length 0 lo)
def oneInt : List W → Option (Option Int)
  | [] => some none
  | [.p (.int i)] => some (some i)
  | _ => none
def slcW (M : Mem) (a : W) (l h : Option Int) : Option W := match a.view M with
  | some (.str z) => if szOk z.length then some (.p (.str (L2.cutS z l h))) else none
  | some (.lst ds) => some (.p (.lst (cutL ds l h)))
  | some (.tup ds) => some (.p (.tup (cutL ds l h)))
  | _ => none
def lookF {α : Type} (f : Nat) : List Nat → List α → Option α
  | n :: ns, v :: vs => if n = f then some v else lookF f ns vs
  | _, _ => none
/-- an attribute of the class's instances -/
def fldOk (P : Prog) (c f : Nat) (isX : Bool) : Bool := match P.cls c with
  | some k => k.flds.contains f && (k.isX == isX)
  | none => false
def attW (P : Prog) (M : Mem) (a : W) (f : Nat) : Option W := match a with
  | .p (.obj c ns vs) => if fldOk P c f false then (lookF f ns vs).map .p else none
  | .p (.exc c ns vs) => if fldOk P c f true then (lookF f ns vs).map .p else none
  | .loc l => match M[l]? with
    | some (.ins c ns ws) => if fldOk P c f false then lookF f ns ws else none
    | some (.fz (.obj c ns vs)) => if fldOk P c f false then (lookF f ns vs).map .p else none
    | _ => none
  | _ => none
inductive Ty where
  | non | bool | int | str | tup | lst | dct | own (c : Nat)
def ownTy (P : Prog) (c : Nat) (isX : Bool) : Option Ty := match P.cls c with
  | some k => if k.isX == isX then some (.own c) else none
  | none => none
def tyD (P : Prog) : D → Option Ty
  | .non => some .non
  | .bl _ => some .bool
  | .int _ => some .int
  | .str _ => some .str
  | .tup _ => some .tup
  | .lst _ => some .lst
  | .dct _ _ => some .dct
  | .obj c _ _ => ownTy P c false
  | .exc c _ _ => ownTy P c true
def tyW (P : Prog) (M : Mem) : W → Option Ty
  | .p d => tyD P d
  | .tp _ => some .tup
  | .loc l => match M[l]? with
    | some (.lst _) => some .lst
    | some (.fz d) => tyD P d
    | some (.ins c _ _) => ownTy P c false
    | some (.dic _ _) => some .dct
    | none => none
def isT (P : Prog) : Ty → TyC → Bool
  | .int, .int => true
  | .bool, .int => true
  | .bool, .bool => true
  | .str, .str => true
  | .lst, .list => true
  | .tup, .tuple => true
  | .dct, .dict => true
  | .own c, .own c' => match P.cls c with
    | some k => k.anc.contains c'
    | none => false
  | .own c, .verr => match P.cls c with
    | some k => k.isX
    | none => false
  | _, _ => false
def isiW (P : Prog) (M : Mem) (a : W) (cs : List TyC) : Option Bool := (tyW P M a).map fun t => cs.any (isT P t)
def enumW : Nat → List W → List W
  | _, [] => []
  | k, w :: r => mkTup [.p (.int k), w] :: enumW (k + 1) r
def zipW : List W → List W → List W
  | a :: r, b :: s => mkTup [a, b] :: zipW r s
  | _, _ => []
def rngW (lo hi : Int) : List W := (List.range (hi - lo).toNat).map fun (k : Nat) => .p (.int (lo + k))
/- the text of plain data -/
mutual
def toPy : D → PySem.PyData
  | .bl b => .bool b
  | .int i => .int i
  | .str s => .str s
  | .tup xs => .tuple (toPys xs)
  | .lst xs => .list (toPys xs)
  | .dct ks vs => .dict ((toPys ks).zip (toPys vs))
  | _ => .none
def toPys : List D → List PySem.PyData
  | [] => []
  | d :: r => toPy d :: toPys r
end
mutual
def showOk : Nat → D → Bool
  | _, .non => true
  | _, .bl _ => true
  | _, .int i => decide (i.natAbs.log2 < 1920)
  | _, .str _ => true
  | n, .tup xs => match n with
    | 0 => false
    | n + 1 => showOks n xs
  | n, .lst xs => match n with
    | 0 => false
    | n + 1 => showOks n xs
  | n, .dct ks vs => match n with
    | 0 => false
    | n + 1 => showOks n ks && showOks n vs && decide (ks.length = vs.length)
  | _, _ => false
def showOks : Nat → List D → Bool
  | _, [] => true
  | n, d :: r => showOk n d && showOks n r
end
def reprD (d : D) : Str := (toPy d).shown
def ins (x : Int) : List Int → List Int
  | [] => [x]
  | y :: r => if x ≤ y then x :: y :: r else y :: ins x r
def isort : List Int → List Int
  | [] => []
  | x :: r => ins x (isort r)
def bltW (M : Mem) (b : Blt) (as : List W) : Option W := match b, as with
  | .len, [a] => match a with
    | .p (.str s) => if s.length ≤ 100000 then some (.p (.int s.length)) else none
    | a => (a.items M).map fun ws => .p (.int ws.length)
  | .int, [.p (.int i)] => some (.p (.int i))
  | .int, [.p (.bl b)] => some (.p (.int (if b then 1 else 0)))
  | .abs, [.p (.int i)] => some (.p (.int (if i < 0 then -i else i)))
  | .tuple, [a] => (a.items M).map mkTup
  | .list, [a] => (a.items M).bind mkLst
  | .int, [.p (.str s)] => if decide (s.length ≤ 640) then (PySem.intText? s).map fun i => .p (.int i) else none
  | .str, [.p (.int i)] => if decide (i.natAbs.log2 < 1920) then some (.p (.str (toString i))) else none
  | .str, [.p (.str s)] => some (.p (.str s))
  | .bool, [.p (.bl b)] => some (.p (.bl b))
  | .bool, [.p (.int i)] => some (.p (.bl (i != 0)))
  | .repr, [a] => match a.view M with
    | some d => if showOk 60 d && szOk (reprD d).length then some (.p (.str (reprD d))) else none
    | none => none
  | .all, [a] => match a.view M with
    | some (.lst ds) => (D.bls ds).map fun bs => .p (.bl (bs.all id))
    | _ => none
  | .any, [a] => match a.view M with
    | some (.lst ds) => (D.bls ds).map fun bs => .p (.bl (bs.any id))
    | _ => none
  | .sum, [a] => match a.view M with
    | some (.lst ds) => (D.ints ds).map fun is => .p (.int is.sum)
    | _ => none
  | .sorted, [a] => match a.view M with
    | some (.lst ds) => (D.ints ds).map fun is => .p (.lst ((isort is).map D.int))
    | _ => none
  | .max, [.p (.int i), .p (.int j)] => some (.p (.int (if j > i then j else i)))
  | .min, [.p (.int i), .p (.int j)] => some (.p (.int (if j < i then j else i)))
  | _, _ => none
def D.strs : List D → Option (List Str)
  | [] => some []
  | .str i :: r => (D.strs r).map (i :: ·)
  | _ :: _ => none
/-- a text's methods -/
def mthW (m : Mth) (s : Str) (y : W) : Option W := match m, y with
  | .partition, .p (.str b) => if !(b.length == 0) && szOk s.length then some (.p (.tup [.str (PySem.Txt.partition s b).1, .str (PySem.Txt.partition s b).2.1, .str (PySem.Txt.partition s b).2.2])) else none
  | .find, .p (.str b) => some (.p (.int (PySem.Txt.find s b)))
  | .split, .p (.str b) => if !(b.length == 0) && szOk s.length then some (.p (.lst ((PySem.Txt.split s b).map D.str))) else none
  | .join, .p (.lst ds) => match D.strs ds with
    | some ys => if szOk ((ys.map (·.length)).sum + ys.length * s.length) then some (.p (.str (PySem.Txt.join s ys))) else none
    | none => none
  | .join, .p (.tup ds) => match D.strs ds with
    | some ys => if szOk ((ys.map (·.length)).sum + ys.length * s.length) then some (.p (.str (PySem.Txt.join s ys))) else none
    | none => none
  | _, _ => none
def fmtW : W → Option W
  | .p (.int i) => if decide (i.natAbs.log2 < 1920) then some (.p (.str (toString i))) else none
  | .p (.str s) => if szOk s.length then some (.p (.str s)) else none
  | _ => none
/-- what is walked through must not change meanwhile -/
def fixW : W → Option (List W)
  | .p (.tup ds) => some (ds.map .p)
  | .p (.lst ds) => some (ds.map .p)
  | .tp ws => some ws
  | _ => none
/-- what is walked through: texts, too -/
def iterW : W → Option (List W)
  | .p (.str z) => if szOk z.length then some (z.cps.toList.map fun c => .p (.str ⟨#[c]⟩)) else none
  | w => fixW w
def lstW : W → Option (List W)
  | .p (.lst ds) => some (ds.map .p)
  | _ => none
def tupW : W → Option (List W)
  | .p (.tup ds) => some (ds.map .p)
  | .tp ws => some ws
  | _ => none
def zipItems (a b : W) : Option (List W × List W) := match lstW a, lstW b with
  | some x, some y => some (x, y)
  | _, _ => match tupW a, tupW b with
    | some x, some y => some (x, y)
    | _, _ => none
def Res.noX {α : Type} : Res α → Res α
  | .exc _ _ _ _ => .bad
  | r => r
@[simp] theorem Res.noX_ok {α : Type} (a : α) (M : Mem) : (Res.ok a M).noX = .ok a M := rfl
@[simp] theorem Res.noX_bad {α : Type} : (Res.bad : Res α).noX = .bad := rfl
@[simp] theorem Res.noX_exc {α : Type} (c ns vs) (M : Mem) : (Res.exc c ns vs M : Res α).noX = .bad := rfl
def getV (env : Env) (i : Nat) : Option W := match env[i]? with
  | some (some w) => some w
  | _ => none
def rd (M : Mem) (w : W) : W := match w with
  | .loc l => match M[l]? with
    | some (.fz d) => .p d
    | _ => w
  | w => w
/- what stands at a place, from now on fixed -/
mutual
def frzW : Nat → Mem → W → Option (D × Mem)
  | _, M, .p d => some (d, M)
  | 0, _, _ => none
  | n + 1, M, .tp ws => (frzWs n M ws).map fun r => (.tup r.1, r.2)
  | n + 1, M, .loc l => match M[l]? with
    | some (.fz d) => some (d, M)
    | some (.lst ws) => match frzWs n M ws with
      | some (ds, M') => if M'[l]? = some (.lst ws) then some (.lst ds, M'.set l (.fz (.lst ds))) else none
      | none => none
    | some (.ins c ns ws) => match frzWs n M ws with
      | some (ds, M') => if M'[l]? = some (.ins c ns ws) then some (.obj c ns ds, M'.set l (.fz (.obj c ns ds))) else none
      | none => none
    | _ => none
def frzWs : Nat → Mem → List W → Option (List D × Mem)
  | _, M, [] => some ([], M)
  | 0, _, _ => none
  | n + 1, M, w :: r => match frzW n M w with
    | some (d, M') => (frzWs n M' r).map fun r => (d :: r.1, r.2)
    | none => none
end
def wipeE (env : Env) : List Nat → Env
  | [] => env
  | i :: is => (wipeE env is).set i none
/- a name, or names, are given an item -/
mutual
def give : Tg → W → Env → Option Env
  | .nm i, w, env => some (env.set i (some w))
  | .tp ts, w, env => match fixW w with
    | some ws => if ws.length = ts.length then gives ts ws env else none
    | none => none
def gives : List Tg → List W → Env → Option Env
  | [], [], env => some env
  | t :: ts, w :: ws, env => match give t w env with
    | some e => gives ts ws e
    | none => none
  | _, _, _ => none
end
def compL (step : W → Mem → Res (Option W)) : List W → List W → Mem → Res (List W)
  | [], acc, M => .ok acc.reverse M
  | w :: r, acc, M => (step w M).bind fun o M' => match o with
    | some v => compL step r (v :: acc) M'
    | none => compL step r acc M'
/-- a clause's test, where there is one -/
def truA (M : Mem) : List W → Option Bool
  | [] => some true
  | [w] => tru M w
  | _ => none
/-- an own instance's class -/
def ownC (P : Prog) (M : Mem) (w : W) : Option Nat := match tyW P M w with
  | some (.own c) => match P.cls c with
    | some k => if k.isX then none else some c
    | none => none
  | _ => none
/-- an instance of the class c, with its attributes alone -/
def insB (P : Prog) (M : Mem) (c : Nat) : W → Bool
  | .p (.obj c' ns _) => decide (c' = c) && ns.all (fun g => fldOk P c g false)
  | .loc l => match M[l]? with
    | some (.ins c' ns _) => decide (c' = c) && ns.all (fun g => fldOk P c g false)
    | some (.fz (.obj c' ns _)) => decide (c' = c) && ns.all (fun g => fldOk P c g false)
    | _ => false
  | _ => false
/-- whose own == is asked, of what -/
def eqAsk (P : Prog) (M : Mem) (x y : W) : Option (Nat × List W) := match ownC P M x with
  | some c => match tyW P M y with
    | some (.own c') => match P.cls c' with
      | some k' => if k'.isX then none else if c ≠ c' ∧ k'.anc.contains c = true then (P.eqf c).bind fun _ => (P.eqf c').map fun f => (f, [y, x]) else (P.eqf c).map fun f => (f, [x, y])
      | none => none
    | some .tup => (P.eqf c).map fun f => (f, [x, y])
    | some .str => (P.eqf c).map fun f => (f, [x, y])
    | some .non => (P.eqf c).map fun f => (f, [x, y])
    | _ => none
  | none => none
/-- starred items among others -/
def starW (M : Mem) : List Bool → List W → Option (List W)
  | [], [] => some []
  | false :: ss, w :: ws => (starW M ss ws).map (w :: ·)
  | true :: ss, w :: ws => match fixW w with
    | some us => (starW M ss ws).map (us ++ ·)
    | none => none
  | _, _ => none
def permW (ws : List W) : List Nat → List W
  | [] => ws
  | is => is.map fun i => ws.getD i default

section
variable (P : Prog) (C : Calls)
mutual
def ev : Ex → Env → Mem → Res W
  | .var i, env, M => Res.of ((getV env i).map (rd M)) M
  | .frz i, env, M => match getV env i with
    | some w => match frzW 30000 M w with
      | some (d, M') => .ok (.p d) M'
      | none => .bad
    | none => .bad
  | .int i, _, M => .ok (.p (.int i)) M
  | .str s, _, M => .ok (.p (.str s)) M
  | .bl b, _, M => .ok (.p (.bl b)) M
  | .non, _, M => .ok (.p .non) M
  | .glob g, _, M => Res.of ((P.glob g).map .p) M
  | .tup es, env, M => (evs es env M).bind fun ws M => .ok (mkTup ws) M
  | .lst es, env, M => (evs es env M).bind fun ws M => Res.of (mkLst ws) M
  | .lstL es, env, M => (evs es env M).bind fun ws M => .ok (.loc M.length) (M ++ [.lst ws])
  | .dct ks vs, env, M => (evs ks env M).bind fun ws M => (evs vs env M).bind fun us M => match W.pures ws, W.pures us with
    | some a, some b => .ok (.p (.dct a b)) M
    | _, _ => .bad
  | .bin o a b, env, M => (ev a env M).bind fun x M => (ev b env M).bind fun y M => Res.of (binW M o x y) M
  | .neg a, env, M => (ev a env M).bind fun x M => match x with
    | .p (.int i) => .ok (.p (.int (-i))) M
    | _ => .bad
  | .not a, env, M => (ev a env M).bind fun x M => Res.of ((tru M x).map fun b => .p (.bl !b)) M
  | .cmp o a b, env, M => (ev a env M).bind fun x M => (ev b env M).bind fun y M => Res.of ((cmpW M o x y).map fun b => .p (.bl b)) M
  | .and a b, env, M => (ev a env M).bind fun x M => match tru M x with
    | some true => ev b env M
    | some false => .ok x M
    | none => .bad
  | .or a b, env, M => (ev a env M).bind fun x M => match tru M x with
    | some true => .ok x M
    | some false => ev b env M
    | none => .bad
  | .ite c a b, env, M => (ev c env M).bind fun x M => match tru M x with
    | some true => ev a env M
    | some false => ev b env M
    | none => .bad
  | .idx a i, env, M => (ev a env M).bind fun x M => (ev i env M).bind fun y M => Res.of ((idxW M x y).map (rd M)) M
  | .slc a lo hi, env, M => (ev a env M).bind fun x M => (evs lo env M).bind fun l M => (Res.of (oneInt l) M).bind fun l M => (evs hi env M).bind fun h M => (Res.of (oneInt h) M).bind fun h M => Res.of (slcW M x l h) M
  | .att a f, env, M => (ev a env M).bind fun x M => Res.of ((attW P M x f).map (rd M)) M
  | .mth m o a, env, M => (ev o env M).bind fun x M => match x with
    | .p (.str s) => (ev a env M).bind fun y M => Res.of (mthW m s y) M
    | _ => .bad
  | .fstr es, env, M => evJ es PySem.Str.empty env M
  | .fmt a, env, M => (ev a env M).bind fun x M => Res.of (fmtW x) M
  | .call f as ks perm, env, M => (evs as env M).bind fun ws M => (evs ks env M).bind fun us M => C f (permW (ws ++ us) perm) M
  | .blt b as, env, M => (evs as env M).bind fun ws M => Res.of (bltW M b ws) M
  | .isi a cs, env, M => (ev a env M).bind fun x M => Res.of ((isiW P M x cs).map fun b => .p (.bl b)) M
  | .comp elt own t it ifs, env, M => (ev it env M).bind fun x M => match iterW x with
    | some ws => (compL (fun w M => match give t w (wipeE env own) with
        | some e => (evs ifs e M).bind fun bs M => match truA M bs with
          | some true => (ev elt e M).bind fun v M => .ok (some v) M
          | some false => .ok none M
          | none => .bad
        | none => .bad) ws [] M).noX.bind fun vs M => Res.of (mkLst vs) M
    | none => .bad
  | .compX elt own t it ifs, env, M => (ev it env M).bind fun x M => match iterW x with
    | some ws => (compL (fun w M => match give t w (wipeE env own) with
        | some e => (evs ifs e M).noX.bind fun bs M => match truA M bs with
          | some true => (ev elt e M).bind fun v M => .ok (some v) M
          | some false => .ok none M
          | none => .bad
        | none => .bad) ws [] M).bind fun vs M => Res.of (mkLst vs) M
    | none => .bad
  | .new c f as ks perm, env, M => (evs as env M).bind fun ws M => (evs ks env M).bind fun us M =>
    (C f (.loc M.length :: permW (ws ++ us) perm) (M ++ [.ins c [] []])).bind fun w M' => match w with
      | .p .non => .ok (.loc M.length) M'
      | _ => .bad
  | .mc c f o as, env, M => (ev o env M).bind fun x M => if insB P M c x then (evs as env M).bind fun ws M => C f (x :: ws) M else .bad
  | .scl _ f as, env, M => (evs as env M).bind fun ws M => C f ws M
  | .fz a, env, M => (ev a env M).bind fun x M => match frzW 30000 M x with
    | some r => .ok (.p r.1) r.2
    | none => .bad
  | .eqO ng a b, env, M => (ev a env M).bind fun x M => (ev b env M).bind fun y M => match eqAsk P M x y with
    | some q => (C q.1 q.2 M).noX.bind fun w M' => match w with
      | .p (.bl r) => .ok (.p (.bl (if ng then !r else r))) M'
      | _ => .bad
    | none => .bad
  | .strO c f a, env, M => (ev a env M).bind fun x M => if insB P M c x then (C f [x] M).noX.bind fun w M' => match w with
      | .p (.str z) => .ok (.p (.str z)) M'
      | _ => .bad
    else .bad
  | .lstS ss es, env, M => (evs es env M).noX.bind fun ws M => match starW M ss ws with
    | some us => if szOk us.length then Res.of (mkLst us) M else .bad
    | none => .bad
  | .splL o a, env, M => (ev o env M).bind fun x M => match x with
    | .p (.str z) => (ev a env M).bind fun y M => match y with
      | .p (.str b) => if !(b.length == 0) && szOk z.length then .ok (.loc M.length) (M ++ [.lst ((PySem.Txt.split z b).map fun t => .p (.str t))]) else .bad
      | _ => .bad
    | _ => .bad
  | .it a, env, M => ev a env M
  | .rng1 a, env, M => (ev a env M).bind fun x M => match x with
    | .p (.int n) => if szOk n.natAbs then .ok (.tp (rngW 0 n)) M else .bad
    | _ => .bad
  | .rng2 a b, env, M => (ev a env M).bind fun x M => (ev b env M).bind fun y M => match x, y with
    | .p (.int l), .p (.int n) => if szOk l.natAbs && szOk n.natAbs then .ok (.tp (rngW l n)) M else .bad
    | _, _ => .bad
  | .enum a, env, M => (ev a env M).bind fun x M => match lstW x with
    | some ws => .ok (.tp (enumW 0 ws)) M
    | none => .bad
  | .zip a b, env, M => (ev a env M).bind fun x M => (ev b env M).bind fun y M => match zipItems x y with
    | some r => .ok (.tp (zipW r.1 r.2)) M
    | none => .bad
def evs : List Ex → Env → Mem → Res (List W)
  | [], _, M => .ok [] M
  | e :: r, env, M => (ev e env M).bind fun w M => (evs r env M).bind fun ws M => .ok (w :: ws) M
def evJ : List Ex → Str → Env → Mem → Res W
  | [], acc, _, M => .ok (.p (.str acc)) M
  | e :: r, acc, env, M => (ev e env M).bind fun w M => match w with
    | .p (.str s) => if szOk (acc ++ s).length then evJ r (acc ++ s) env M else .bad
    | _ => .bad
end

def forL (step : W → Env → Mem → SR) : List W → Env → Mem → SR
  | [], env, M => .nx env M
  | w :: r, env, M => match step w env M with
    | .nx env' M' => forL step r env' M'
    | .ct env' M' => forL step r env' M'
    | .bk env' M' => .nx env' M'
    | z => z
def whileL (test : Env → Mem → Res W) (body : Env → Mem → SR) : Nat → Env → Mem → SR
  | 0, _, _ => .bad
  | n + 1, env, M => match test env M with
    | .ok x M' => match tru M' x with
      | some true => match body env M' with
        | .nx env' M'' => whileL test body n env' M''
        | .ct env' M'' => whileL test body n env' M''
        | .bk env' M'' => .nx env' M''
        | z => z
      | some false => .nx env M'
      | none => .bad
    | .exc c ns vs M' => .exc c ns vs env M'
    | .bad => .bad
def Res.st {α : Type} (env : Env) (r : Res α) (f : α → Mem → SR) : SR := match r with
  | .ok a M => f a M
  | .exc c ns vs M => .exc c ns vs env M
  | .bad => .bad
def setCell (M : Mem) (o i v : W) : Option Mem := match o, i with
  | .loc l, .p (.int k) => match M[l]? with
    | some (.lst ws) => if 0 ≤ k ∧ k.toNat < ws.length then some (M.set l (.lst (ws.set k.toNat v))) else none
    | _ => none
  | _, _ => none
def isLst (M : Mem) : W → Bool
  | .loc l => match M[l]? with
    | some (.lst _) => true
    | _ => false
  | _ => false
def appCell (M : Mem) (o v : W) : Option Mem := match o with
  | .loc l => match M[l]? with
    | some (.lst ws) => if szOk (ws.length + 1) then some (M.set l (.lst (ws ++ [v]))) else none
    | _ => none
  | _ => none
def swpCell (M : Mem) (o i j : W) : Option Mem := match o, i, j with
  | .loc l, .p (.int a), .p (.int b) => match M[l]? with
    | some (.lst ws) => if 0 ≤ a ∧ a.toNat < ws.length ∧ 0 ≤ b ∧ b.toNat < ws.length then match ws[a.toNat]?, ws[b.toNat]? with
      | some x, some y => some (M.set l (.lst ((ws.set a.toNat (rd M y)).set b.toNat (rd M x))))
      | _, _ => none
      else none
    | _ => none
  | _, _, _ => none
/-- an attribute is stored -/
def putA (f : Nat) (v : W) : List Nat → List W → List Nat × List W
  | n :: ns, w :: ws => if n = f then (n :: ns, v :: ws) else ((n :: (putA f v ns ws).1), (w :: (putA f v ns ws).2))
  | _, _ => ([f], [v])
def attCell (P : Prog) (M : Mem) (o : W) (f : Nat) (v : W) : Option Mem := match o with
  | .loc l => match M[l]? with
    | some (.ins c ns ws) => if fldOk P c f false && ns.all (fun g => fldOk P c g false) && decide (ns.length < 900) && decide (ns.Nodup) then some (M.set l (.ins c (putA f v ns ws).1 (putA f v ns ws).2)) else none
    | _ => none
  | _ => none
def setO (env : Env) (s : Option Nat) (w : Option W) : Env := match s with
  | some i => env.set i w
  | none => env
mutual
def ex : St → Env → Mem → SR
  | .asg i e, env, M => (ev P C e env M).st env fun w M => .nx (env.set i (some w)) M
  | .asgT is e, env, M => (ev P C e env M).st env fun w M => match give is w env with
    | some env' => .nx env' M
    | none => .bad
  | .par i j a b, env, M => (ev P C a env M).st env fun x M => (ev P C b env M).st env fun y M => .nx ((env.set i (some x)).set j (some y)) M
  | .setIdx o i e, env, M => (ev P C e env M).st env fun v M => (ev P C o env M).st env fun a M => (ev P C i env M).st env fun k M => match setCell M a k v with
    | some M' => .nx env M'
    | none => .bad
  | .swp o i j, env, M => (ev P C o env M).st env fun a M => (ev P C i env M).st env fun x M => (ev P C j env M).st env fun y M => match swpCell M a x y with
    | some M' => .nx env M'
    | none => .bad
  | .setA o f e, env, M => (ev P C e env M).st env fun v M => (ev P C o env M).st env fun a M => match attCell P M a f v with
    | some M' => .nx env M'
    | none => .bad
  | .ifs c a b, env, M => (ev P C c env M).st env fun x M => match tru M x with
    | some true => exs a env M
    | some false => exs b env M
    | none => .bad
  | .for_ t it body, env, M => (ev P C it env M).st env fun x M => match iterW x with
    | some ws => forL (fun w env M => match give t w env with
      | some env' => exs body env' M
      | none => .bad) ws env M
    | none => .bad
  | .while_ c body, env, M => whileL (ev P C c) (exs body) P.fuel env M
  | .ret e, env, M => (ev P C e env M).st env fun w M => .rt w M
  | .retN, _, M => .rt (.p .non) M
  | .expr e, env, M => (ev P C e env M).st env fun _ M => .nx env M
  | .app o e, env, M => (ev P C o env M).st env fun a M => if isLst M a then (ev P C e env M).st env fun v M => match appCell M a v with
    | some M' => .nx env M'
    | none => .bad
    else .bad
  | .raise c as ks perm, env, M => (evs P C as env M).st env fun ws M => (evs P C ks env M).st env fun us M =>
    match P.cls c, W.pures (permW (ws ++ us) perm) with
    | some k, some vs => if k.flds.length = vs.length ∧ k.isX = true then .exc c k.flds vs env M else .bad
    | _, _ => .bad
  | .try_ body hcs suites, env, M => match exs body env M with
    | .exc c ns vs env' M' => exh hcs suites c ns vs env' M'
    | z => z
  | .pass, env, M => .nx env M
  | .brk, env, M => .bk env M
  | .cnt, env, M => .ct env M
def exs : List St → Env → Mem → SR
  | [], env, M => .nx env M
  | s :: r, env, M => match ex s env M with
    | .nx env' M' => exs r env' M'
    | z => z
def exh (hcs : List (Nat × Option Nat)) : List (List St) → Nat → List Nat → List D → Env → Mem → SR
  | s :: r, c, ns, vs, env, M => match hcs with
    | (t, slot) :: hr => match P.cls c with
      | some k => if k.isX = false then .bad else if k.anc.contains t then match exs s (setO env slot (some (.p (.exc c ns vs)))) M with
          | .nx e M => .nx (setO e slot none) M
          | .bk e M => .bk (setO e slot none) M
          | .ct e M => .ct (setO e slot none) M
          | .rt w M => .rt w M
          | _ => .bad
        else exh hr r c ns vs env M
      | none => .bad
    | [] => .bad
  | [], c, ns, vs, env, M => .exc c ns vs env M
end
end
/-! ### calls -/
mutual
def belowW (n : Nat) : W → Bool
  | .p _ => true
  | .loc l => decide (l < n)
  | .tp ws => belowWs n ws
def belowWs (n : Nat) : List W → Bool
  | [] => true
  | w :: r => belowW n w && belowWs n r
end
def belowC (n : Nat) : Cell → Bool
  | .lst ws => belowWs n ws
  | .ins _ _ ws => belowWs n ws
  | .dic _ ws => belowWs n ws
  | .fz _ => true
/-- the places that a call has made go with it -/
def popR (M : Mem) (w : W) (M' : Mem) : Res W :=
  if M'.length = M.length then .ok w M'
  else if belowW M.length w && (M'.take M.length).all (belowC M.length) then .ok w (M'.take M.length) else .bad
def fnR (pop : Bool) (M : Mem) : SR → Res W
  | .nx _ M' => if pop then popR M (.p .non) M' else .ok (.p .non) M'
  | .rt w M' => if pop then popR M w M' else .ok w M'
  | .exc c ns vs _ M' => if pop && decide (M.length < M'.length) then (if (M'.take M.length).all (belowC M.length) then .exc c ns vs (M'.take M.length) else .bad) else .exc c ns vs M'
  | _ => .bad
def callF (P : Prog) : Nat → Calls
  | 0 => fun _ _ _ => .bad
  | n + 1 => fun f ws M => match P.fn f with
    | some d => if ws.length = d.par then fnR d.pop M (exs P (callF P n) d.body (ws.map some ++ List.replicate (d.slots - d.par) none) M) else .bad
    | none => .bad
end G

set_option maxHeartbeats 4000000
/-! What stands for what: plain data, places, the frame's names. -/
namespace G
open PySem PySem.Spec PyProof.Rows L2

/-- where the text's classes stand, how attributes are called -/
structure Nam where
  cA : Nat → Addr
  at_ : Nat → Str
  fA : Nat → Addr
def keyD : Key → D
  | .inl i => .int i
  | .inr s => .str s
/-- an exception that was caught, at a: its class, its dict -/
def excHO (C : Addr) (d : Option Addr) (a : Addr) : HO := .ext fun h => ∃ oe vs, h.get? a = some oe ∧ Zc (.ref C) d oe ∧ oe.data = .fields vs

/-- an instance's dict holds these attributes alone -/
def FsOk (N : Nam) (ns : List Nat) (fs : List (Str × V)) : Prop := fs.length ≤ ns.length ∧ ∀ p ∈ fs, ∃ n ∈ ns, N.at_ n = p.1
section
variable (N : Nam) (K : PySem.W.Frag) (F : Hp)
mutual
def Rep : D → V → Prop
  | .non, v => v = .non
  | .bl b, v => v = .bl b
  | .int i, v => v = .int i
  | .str s, v => v = .str s
  | .tup xs, v => ∃ a ys, v = .ref a ∧ SqT K F a ys ∧ Reps xs ys
  | .lst xs, v => ∃ a ys, v = .ref a ∧ Rd F a (.lst ys) ∧ Reps xs ys
  | .dct ks vs, v => ∃ a kvs, v = .ref a ∧ F a = some (.dK kvs) ∧ ks = kvs.map (fun q => keyD q.1) ∧ Reps vs (kvs.map (·.2))
  | .obj c ns vs, v => ∃ a dx fs, v = .ref a ∧ F a = some (.ins (N.cA c) dx fs) ∧ RepF ns vs (fun f => fs.lookup f) ∧ FsOk N ns fs
  | .exc c ns vs, v => ∃ a d fs, v = .ref a ∧ F a = some (excHO (N.cA c) (some d) a) ∧ F d = some (.xd fs) ∧ RepF ns vs (fun f => fs.lookup f)
def Reps : List D → List V → Prop
  | [], [] => True
  | d :: ds, v :: vs => Rep d v ∧ Reps ds vs
  | _, _ => False
def RepF : List Nat → List D → (Str → Option V) → Prop
  | [], [], _ => True
  | n :: ns, d :: ds, L => (∃ v, L (N.at_ n) = some v ∧ Rep d v) ∧ RepF ns ds L
  | _, _, _ => False
end
mutual
def RepW (m : List Addr) : W → V → Prop
  | .p d, v => Rep N K F d v
  | .loc l, v => ∃ a, m[l]? = some a ∧ v = .ref a
  | .tp ws, v => ∃ a ys, v = .ref a ∧ SqT K F a ys ∧ RepWs m ws ys
def RepWs (m : List Addr) : List W → List V → Prop
  | [], [] => True
  | w :: ws, v :: vs => RepW m w v ∧ RepWs m ws vs
  | _, _ => False
end
def RepWF (m : List Addr) : List Nat → List W → (Str → Option V) → Prop
  | [], [], _ => True
  | n :: ns, w :: ws, L => (∃ v, L (N.at_ n) = some v ∧ RepW N K F m w v) ∧ RepWF m ns ws L
  | _, _, _ => False
def CellOk (m : List Addr) (H : Hp) (a : Addr) : Cell → Prop
  | .lst ws => F a = none ∧ ∃ ys, H a = some (.lst ys) ∧ RepWs N K F m ws ys
  | .ins c ns ws => F a = none ∧ ∃ dx fs, H a = some (.ins (N.cA c) dx fs) ∧ RepWF N K F m ns ws (fun f => fs.lookup f) ∧ FsOk N ns fs
  | .dic ks ws => F a = none ∧ ∃ kvs, H a = some (.dK kvs) ∧ ks = kvs.map (fun q => keyD q.1) ∧ RepWs N K F m ws (kvs.map (·.2))
  | .fz d => Rep N K F d (.ref a)
end
def Xt (F F' : Hp) : Prop := ∀ a o, F a = some o → F' a = some o
theorem Xt.refl (F : Hp) : Xt F F := fun _ _ h => h
theorem Xt.trans {F F1 F2 : Hp} (a : Xt F F1) (b : Xt F1 F2) : Xt F F2 := fun x o h => b x o (a x o h)
theorem Xt.new {F : Hp} {p : Addr} {o : HO} (h : F p = none) : Xt F (upd F p o) := fun a u e => by
  rw [upd_ne (ne_of_none e h)]; exact e
theorem Xt.rd {F F' : Hp} {a : Addr} {u : HO} (e : Xt F F') (h : Rd F a u) : Rd F' a u := by
  rcases h with h | ⟨o, h⟩
  · exact .inl (e _ _ h)
  · exact .inr ⟨o, e _ _ h⟩
theorem Xt.sqL {K : PySem.W.Frag} {F F' : Hp} {a : Addr} {xs : List V} (e : Xt F F') (h : SqL K F a xs) : SqL K F' a xs := h.imp e.rd id
theorem Xt.sqT {K : PySem.W.Frag} {F F' : Hp} {a : Addr} {xs : List V} (e : Xt F F') (h : SqT K F a xs) : SqT K F' a xs := h.imp e.rd id

/-- what is fixed from now on; what is held apart -/
structure Fx where
  f : Hp
  g : Hp
instance : Coe Fx Hp := ⟨Fx.f⟩
abbrev Fx.put (F : Fx) (p : Addr) (o : HO) : Fx := ⟨upd F.f p o, F.g⟩
structure SimM (N : Nam) (K : PySem.W.Frag) (m : List Addr) (M : Mem) (F : Fx) (H : Hp) : Prop where
  sub : Xt F.f H
  len : m.length = M.length
  cell : ∀ (l : Nat) (a : Addr) (c : Cell), m[l]? = some a → M[l]? = some c → CellOk N K F m H a c
  nd : m.Nodup
  live : ∀ a ∈ m, H a ≠ none
  apart : ∀ a o, F.g a = some o → H a = some o ∧ a ∉ m ∧ F.f a = none
def Gr (m : List Addr) (F : Fx) (m' : List Addr) (F' : Fx) : Prop := (∃ r, m' = m ++ r) ∧ Xt F.f F'.f ∧ F'.g = F.g
theorem Gr.refl (m : List Addr) (F : Fx) : Gr m F m F := ⟨⟨[], by simp⟩, Xt.refl F, rfl⟩
theorem Gr.trans {m m1 m2 : List Addr} {F F1 F2 : Fx} (a : Gr m F m1 F1) (b : Gr m1 F1 m2 F2) : Gr m F m2 F2 := by
  obtain ⟨⟨r, rfl⟩, e, q⟩ := a
  obtain ⟨⟨r', rfl⟩, e', q'⟩ := b
  exact ⟨⟨r ++ r', by simp⟩, e.trans e', q'.trans q⟩
/-- the same, whatever is held apart -/
def Gx (m : List Addr) (F : Fx) (m' : List Addr) (F' : Fx) : Prop := (∃ r, m' = m ++ r) ∧ Xt F.f F'.f
theorem Gr.x {m m' : List Addr} {F F' : Fx} (g : Gr m F m' F') : Gx m F m' F' := ⟨g.1, g.2.1⟩
instance {m m' : List Addr} {F F' : Fx} : Coe (Gr m F m' F') (Gx m F m' F') := ⟨Gr.x⟩
theorem Gx.refl (m : List Addr) (F : Fx) : Gx m F m F := (Gr.refl m F).x
theorem Gx.trans {m m1 m2 : List Addr} {F F1 F2 : Fx} (a : Gx m F m1 F1) (b : Gx m1 F1 m2 F2) : Gx m F m2 F2 := by
  obtain ⟨⟨r, rfl⟩, e⟩ := a
  obtain ⟨⟨r', rfl⟩, e'⟩ := b
  exact ⟨⟨r ++ r', by simp⟩, e.trans e'⟩
theorem Gx.ex {m m' : List Addr} {F F' : Fx} (g : Gx m F m' F') : Xt F.f F'.f := g.2
theorem Gr.ex {m m' : List Addr} {F F' : Fx} (g : Gr m F m' F') : Xt F.f F'.f := g.2.1
theorem Gx.at {m m' : List Addr} {F F' : Fx} (g : Gx m F m' F') {l : Nat} {a : Addr} (h : m[l]? = some a) : m'[l]? = some a := by
  obtain ⟨⟨r, rfl⟩, _⟩ := g
  have hl : l < m.length := (List.getElem?_eq_some_iff.mp h).1
  rw [List.getElem?_append_left hl]; exact h

section
variable {N : Nam} {K : PySem.W.Frag} {F F' : Hp}
mutual
theorem Rep.mono (e : Xt F F') : ∀ (d : D) (v : V), Rep N K F d v → Rep N K F' d v
  | .non, v, h => h
  | .bl b, v, h => h
  | .int i, v, h => h
  | .str s, v, h => h
  | .tup xs, v, h => by
    obtain ⟨a, ys, h1, h2, h3⟩ := h
    exact ⟨a, ys, h1, e.sqT h2, Reps.mono e xs ys h3⟩
  | .lst xs, v, h => by
    obtain ⟨a, ys, h1, h2, h3⟩ := h
    exact ⟨a, ys, h1, e.rd h2, Reps.mono e xs ys h3⟩
  | .dct ks vs, v, h => by
    obtain ⟨a, kvs, h1, h2, h3, h4⟩ := h
    exact ⟨a, kvs, h1, e _ _ h2, h3, Reps.mono e vs _ h4⟩
  | .obj c ns vs, v, h => by
    obtain ⟨a, dx, fs, h1, h2, h3, h4⟩ := h
    exact ⟨a, dx, fs, h1, e _ _ h2, RepF.mono e ns vs _ h3, h4⟩
  | .exc c ns vs, v, h => by
    obtain ⟨a, d, fs, h1, h2, h3, h4⟩ := h
    exact ⟨a, d, fs, h1, e _ _ h2, e _ _ h3, RepF.mono e ns vs _ h4⟩
theorem Reps.mono (e : Xt F F') : ∀ (ds : List D) (vs : List V), Reps N K F ds vs → Reps N K F' ds vs
  | [], [], _ => trivial
  | d :: ds, v :: vs, h => ⟨Rep.mono e d v h.1, Reps.mono e ds vs h.2⟩
  | [], _ :: _, h => h
  | _ :: _, [], h => h
theorem RepF.mono (e : Xt F F') : ∀ (ns : List Nat) (ds : List D) (L : Str → Option V), RepF N K F ns ds L → RepF N K F' ns ds L
  | [], [], _, _ => trivial
  | n :: ns, d :: ds, L, h => by
    obtain ⟨⟨v, h1, h2⟩, h3⟩ := h
    exact ⟨⟨v, h1, Rep.mono e d v h2⟩, RepF.mono e ns ds L h3⟩
  | [], _ :: _, _, h => h
  | _ :: _, [], _, h => h
end
section
variable {m m' : List Addr} {F F' : Fx}
mutual
theorem RepW.mono (g : Gx m F m' F') : ∀ (w : W) (v : V), RepW N K F m w v → RepW N K F' m' w v
  | .p d, v, h => Rep.mono g.ex d v h
  | .loc l, v, h => by
    obtain ⟨a, h1, h2⟩ := h
    exact ⟨a, g.at h1, h2⟩
  | .tp ws, v, h => by
    obtain ⟨a, ys, h1, h2, h3⟩ := h
    exact ⟨a, ys, h1, g.ex.sqT h2, RepWs.mono g ws ys h3⟩
theorem RepWs.mono (g : Gx m F m' F') : ∀ (ws : List W) (vs : List V), RepWs N K F m ws vs → RepWs N K F' m' ws vs
  | [], [], _ => trivial
  | w :: ws, v :: vs, h => ⟨RepW.mono g w v h.1, RepWs.mono g ws vs h.2⟩
  | [], _ :: _, h => h
  | _ :: _, [], h => h
end
theorem RepWF.mono (g : Gx m F m' F') : ∀ (ns : List Nat) (ws : List W) (L : Str → Option V), RepWF N K F m ns ws L → RepWF N K F' m' ns ws L
  | [], [], _, _ => trivial
  | n :: ns, d :: ds, L, h => by
    obtain ⟨⟨v, h1, h2⟩, h3⟩ := h
    exact ⟨⟨v, h1, RepW.mono g d v h2⟩, RepWF.mono g ns ds L h3⟩
  | [], _ :: _, _, h => h
  | _ :: _, [], _, h => h
end
variable {m m' : List Addr}
theorem Reps.length : ∀ {ds : List D} {vs : List V}, Reps N K F ds vs → ds.length = vs.length
  | [], [], _ => rfl
  | _ :: _, _ :: _, h => by simp [Reps.length h.2]
  | [], _ :: _, h => h.elim
  | _ :: _, [], h => h.elim
theorem RepWs.length : ∀ {ds : List W} {vs : List V}, RepWs N K F m ds vs → ds.length = vs.length
  | [], [], _ => rfl
  | _ :: _, _ :: _, h => by simp [RepWs.length h.2]
  | [], _ :: _, h => h.elim
  | _ :: _, [], h => h.elim
theorem RepWs.p : ∀ {ds : List D} {vs : List V}, Reps N K F ds vs → RepWs N K F m (ds.map .p) vs
  | [], [], _ => trivial
  | _ :: _, _ :: _, h => ⟨h.1, RepWs.p h.2⟩
  | [], _ :: _, h => h.elim
  | _ :: _, [], h => h.elim
theorem RepWs.pures : ∀ {ws : List W} {ds : List D} {vs : List V}, RepWs N K F m ws vs → W.pures ws = some ds → Reps N K F ds vs
  | [], ds, [], _, e => by cases e; trivial
  | w :: ws, ds, v :: vs, h, e => by
    cases w with
    | p d =>
      have e1 : (match W.pures ws with | some ds => some (d :: ds) | none => none) = some ds := e
      cases q : W.pures ws with
      | none => rw [q] at e1; cases e1
      | some es => rw [q] at e1; cases e1; exact ⟨h.1, RepWs.pures h.2 q⟩
    | loc l => cases e
    | tp us => cases e
  | [], _, _ :: _, h, _ => h.elim
  | _ :: _, _, [], h, _ => h.elim
theorem RepWs.get : ∀ {ws : List W} {vs : List V} {i : Nat} {w : W}, RepWs N K F m ws vs → ws[i]? = some w → ∃ v, vs[i]? = some v ∧ RepW N K F m w v
  | w :: ws, v :: vs, 0, x, h, e => by simp at e; subst e; exact ⟨v, rfl, h.1⟩
  | w :: ws, v :: vs, i + 1, x, h, e => by
    obtain ⟨u, h1, h2⟩ := RepWs.get (i := i) h.2 (by simpa using e)
    exact ⟨u, by simpa using h1, h2⟩
  | [], [], _, _, _, e => by simp at e
  | [], _ :: _, _, _, h, _ => h.elim
  | _ :: _, [], _, _, h, _ => h.elim
theorem RepWs.append : ∀ {ws us : List W} {vs xs : List V}, RepWs N K F m ws vs → RepWs N K F m us xs → RepWs N K F m (ws ++ us) (vs ++ xs)
  | [], _, [], _, _, h => h
  | _ :: _, _, _ :: _, _, h, h' => ⟨h.1, RepWs.append h.2 h'⟩
  | [], _, _ :: _, _, h, _ => h.elim
  | _ :: _, _, [], _, h, _ => h.elim
theorem Reps.append : ∀ {ws us : List D} {vs xs : List V}, Reps N K F ws vs → Reps N K F us xs → Reps N K F (ws ++ us) (vs ++ xs)
  | [], _, [], _, _, h => h
  | _ :: _, _, _ :: _, _, h, h' => ⟨h.1, Reps.append h.2 h'⟩
  | [], _, _ :: _, _, h, _ => h.elim
  | _ :: _, _, [], _, h, _ => h.elim
theorem Reps.drop : ∀ {ws : List D} {vs : List V} (n : Nat), Reps N K F ws vs → Reps N K F (ws.drop n) (vs.drop n)
  | [], [], n, _ => by simp [Reps]
  | _ :: _, _ :: _, 0, h => h
  | _ :: _, _ :: _, n + 1, h => by simpa using Reps.drop n h.2
  | [], _ :: _, _, h => h.elim
  | _ :: _, [], _, h => h.elim
theorem Reps.take : ∀ {ws : List D} {vs : List V} (n : Nat), Reps N K F ws vs → Reps N K F (ws.take n) (vs.take n)
  | [], [], n, _ => by simp [Reps]
  | _ :: _, _ :: _, 0, h => trivial
  | _ :: _, _ :: _, n + 1, h => ⟨h.1, Reps.take n h.2⟩
  | [], _ :: _, _, h => h.elim
  | _ :: _, [], _, h => h.elim
theorem RepWs.set : ∀ {ws : List W} {vs : List V} {w : W} {v : V} (i : Nat), RepWs N K F m ws vs → RepW N K F m w v → RepWs N K F m (ws.set i w) (vs.set i v)
  | [], [], _, _, _, _, _ => trivial
  | _ :: _, _ :: _, _, _, 0, h, h' => ⟨h', h.2⟩
  | _ :: _, _ :: _, _, _, i + 1, h, h' => ⟨h.1, RepWs.set i h.2 h'⟩
  | [], _ :: _, _, _, _, h, _ => h.elim
  | _ :: _, [], _, _, _, h, _ => h.elim
theorem RepWs.tup {ws : List W} {vs : List V} {a : Addr} (h : RepWs N K F m ws vs) (q : SqT K F a vs) : RepW N K F m (mkTup ws) (.ref a) := by
  unfold mkTup
  cases e : W.pures ws with
  | some ds => exact ⟨a, vs, rfl, q, h.pures e⟩
  | none => exact ⟨a, vs, rfl, q, h⟩
/-- an attribute -/
theorem RepWF.look : ∀ {ns : List Nat} {ws : List W} {L : Str → Option V} {f : Nat} {w : W}, RepWF N K F m ns ws L → lookF f ns ws = some w → ∃ v, L (N.at_ f) = some v ∧ RepW N K F m w v
  | n :: ns, u :: us, L, f, w, h, e => by
    have e1 : (if n = f then some u else lookF f ns us) = some w := e
    by_cases q : n = f
    · rw [if_pos q] at e1; cases e1; subst q; exact h.1
    · rw [if_neg q] at e1; exact RepWF.look h.2 e1
  | [], [], _, _, _, _, e => by cases e
  | [], _ :: _, _, _, _, h, _ => h.elim
  | _ :: _, [], _, _, _, h, _ => h.elim
theorem RepF.look : ∀ {ns : List Nat} {ws : List D} {L : Str → Option V} {f : Nat} {w : D}, RepF N K F ns ws L → lookF f ns ws = some w → ∃ v, L (N.at_ f) = some v ∧ Rep N K F w v
  | n :: ns, u :: us, L, f, w, h, e => by
    have e1 : (if n = f then some u else lookF f ns us) = some w := e
    by_cases q : n = f
    · rw [if_pos q] at e1; cases e1; subst q; exact h.1
    · rw [if_neg q] at e1; exact RepF.look h.2 e1
  | [], [], _, _, _, _, e => by cases e
  | [], _ :: _, _, _, _, h, _ => h.elim
  | _ :: _, [], _, _, _, h, _ => h.elim
end

/-- the values of attributes, in a row -/
theorem RepWF.vals {N : Nam} {K : PySem.W.Frag} {F : Hp} {m : List Addr} {L : Str → Option V} : ∀ {ns : List Nat} {ws : List W}, RepWF N K F m ns ws L → (RepWs N K F m ws (ns.map fun n => (L (N.at_ n)).getD .non) ∧ ∀ {F' : Hp} (ds : List D), Reps N K F' ds (ns.map fun n => (L (N.at_ n)).getD .non) → RepF N K F' ns ds L)
  | [], [], _ => ⟨trivial, fun {F'} ds h => by
    cases ds with
    | nil => trivial
    | cons _ _ => exact h.elim⟩
  | n :: ns, w :: ws, h => by
    obtain ⟨⟨v, h1, h2⟩, h3⟩ := h
    obtain ⟨k1, k2⟩ := RepWF.vals h3
    refine ⟨⟨show RepW N K F m w ((L (N.at_ n)).getD .non) by rw [h1]; exact h2, k1⟩, fun {F'} ds r => ?_⟩
    cases ds with
    | nil => exact r.elim
    | cons d ds =>
      obtain ⟨r1, r2⟩ := r
      have r1 : Rep N K F' d ((L (N.at_ n)).getD .non) := r1
      rw [h1] at r1
      exact ⟨⟨v, h1, r1⟩, k2 ds r2⟩
  | [], _ :: _, h => h.elim
  | _ :: _, [], h => h.elim
/-! ### the memory and the heap -/
section
variable {N : Nam} {K : PySem.W.Frag} {F F' : Fx} {H H' : Hp} {m m' : List Addr} {M : Mem}
theorem CellOk.mono (g : Gx m F m' F') {a : Addr} (hF : F.f a = none → F'.f a = none) (hH : H a = H' a) : ∀ {c : Cell}, CellOk N K F m H a c → CellOk N K F' m' H' a c
  | .lst ws, h => by
    obtain ⟨h0, ys, h1, h2⟩ := h
    exact ⟨hF h0, ys, hH ▸ h1, RepWs.mono g _ _ h2⟩
  | .ins c ns ws, h => by
    obtain ⟨h0, dx, fs, h1, h2, h3⟩ := h
    exact ⟨hF h0, dx, fs, hH ▸ h1, RepWF.mono g _ _ _ h2, h3⟩
  | .dic ks ws, h => by
    obtain ⟨h0, kvs, h1, h2, h3⟩ := h
    exact ⟨hF h0, kvs, hH ▸ h1, h2, RepWs.mono g _ _ h3⟩
  | .fz d, h => Rep.mono g.ex _ _ h
/-- a new fixed object -/
theorem SimM.new {p : Addr} {o : HO} (s : SimM N K m M F H) (hp : H p = none) : SimM N K m M (F.put p o) (upd H p o) ∧ Gr m F m (F.put p o) := by
  have fp : F.f p = none := by
    cases e : F.f p with
    | none => rfl
    | some u => rw [s.sub _ _ e] at hp; cases hp
  have g : Gr m F m (F.put p o) := ⟨⟨[], by simp⟩, Xt.new fp, rfl⟩
  refine ⟨⟨fun a u e => ?_, s.len, fun l a c h1 h2 => ?_, s.nd, fun a ha => ?_, fun a u e => ?_⟩, g⟩
  · have e : upd F.f p o a = some u := e
    by_cases q : a = p
    · subst q; rw [upd_same] at e ⊢; exact e
    · rw [upd_ne q] at e ⊢; exact s.sub _ _ e
  · have na : a ≠ p := fun q => s.live a (List.mem_of_getElem? h1) (q ▸ hp)
    exact (s.cell l a c h1 h2).mono g (fun z => by show upd F.f p o a = none; rw [upd_ne na]; exact z) (by rw [upd_ne na])
  · have na : a ≠ p := fun q => s.live a ha (q ▸ hp)
    rw [upd_ne na]; exact s.live a ha
  · obtain ⟨h1, h2, h3⟩ := s.apart a u e
    have na : a ≠ p := fun q => by rw [q, hp] at h1; cases h1
    exact ⟨by rw [upd_ne na]; exact h1, h2, by show upd F.f p o a = none; rw [upd_ne na]; exact h3⟩
/-- an object held apart; let go -/
theorem SimM.hold {p : Addr} {o : HO} (s : SimM N K m M F H) (hp : H p = none) : SimM N K m M ⟨F.f, upd F.g p o⟩ (upd H p o) := by
  have fp : F.f p = none := by
    cases e : F.f p with
    | none => rfl
    | some u => rw [s.sub _ _ e] at hp; cases hp
  refine ⟨fun a u e => ?_, s.len, fun l a c h1 h2 => ?_, s.nd, fun a ha => ?_, fun a u e => ?_⟩
  · have q : a ≠ p := fun q => by rw [q, fp] at e; cases e
    rw [upd_ne q]; exact s.sub _ _ e
  · have na : a ≠ p := fun q => s.live a (List.mem_of_getElem? h1) (q ▸ hp)
    exact (s.cell l a c h1 h2).mono (F' := ⟨F.f, upd F.g p o⟩) ⟨⟨[], by simp⟩, Xt.refl _⟩ (fun z => z) (by rw [upd_ne na])
  · have na : a ≠ p := fun q => s.live a ha (q ▸ hp)
    rw [upd_ne na]; exact s.live a ha
  · by_cases q : a = p
    · subst q
      have e : upd F.g a o a = some u := e
      rw [upd_same] at e ⊢
      cases e
      exact ⟨rfl, fun ha => s.live a ha hp, fp⟩
    · have e : upd F.g p o a = some u := e
      rw [upd_ne q] at e ⊢
      exact s.apart a u e
theorem SimM.less {g : Hp} (s : SimM N K m M F H) (h : ∀ a o, g a = some o → F.g a = some o) : SimM N K m M ⟨F.f, g⟩ H :=
  ⟨s.sub, s.len, fun l a c h1 h2 => (s.cell l a c h1 h2).mono (F' := ⟨F.f, g⟩) ⟨⟨[], by simp⟩, Xt.refl _⟩ (fun z => z) rfl, s.nd, s.live, fun a o e => s.apart a o (h a o e)⟩
/-- what is held apart changes -/
theorem SimM.held {p : Addr} {o o' : HO} (s : SimM N K m M F H) (hp : F.g p = some o) : SimM N K m M ⟨F.f, upd F.g p o'⟩ (upd H p o') := by
  obtain ⟨h1, h2, h3⟩ := s.apart p o hp
  refine ⟨fun a u e => ?_, s.len, fun l a c h1 h2' => ?_, s.nd, fun a ha => ?_, fun a u e => ?_⟩
  · have q : a ≠ p := fun q => by rw [q, h3] at e; cases e
    rw [upd_ne q]; exact s.sub _ _ e
  · have na : a ≠ p := fun q => h2 (q ▸ List.mem_of_getElem? h1)
    exact (s.cell l a c h1 h2').mono (F' := ⟨F.f, upd F.g p o'⟩) ⟨⟨[], by simp⟩, Xt.refl _⟩ (fun z => z) (by rw [upd_ne na])
  · have na : a ≠ p := fun q => h2 (q ▸ ha)
    rw [upd_ne na]; exact s.live a ha
  · by_cases q : a = p
    · subst q
      have e : upd F.g a o' a = some u := e
      rw [upd_same] at e ⊢
      cases e
      exact ⟨rfl, h2, h3⟩
    · have e : upd F.g p o' a = some u := e
      rw [upd_ne q] at e ⊢
      exact s.apart a u e
/-- .. is fixed -/
theorem SimM.fix {p : Addr} {o : HO} {g : Hp} (s : SimM N K m M F H) (hp : F.g p = some o) (hg : ∀ a u, g a = some u → F.g a = some u ∧ a ≠ p) : SimM N K m M ⟨upd F.f p o, g⟩ H ∧ Gx m F m ⟨upd F.f p o, g⟩ := by
  obtain ⟨h1, h2, h3⟩ := s.apart p o hp
  have gx : Gx m F m ⟨upd F.f p o, g⟩ := ⟨⟨[], by simp⟩, Xt.new h3⟩
  refine ⟨⟨fun a u e => ?_, s.len, fun l a c h1 h2' => ?_, s.nd, s.live, fun a u e => ?_⟩, gx⟩
  · have e : upd F.f p o a = some u := e
    by_cases q : a = p
    · subst q; rw [upd_same] at e; cases e; exact h1
    · rw [upd_ne q] at e; exact s.sub _ _ e
  · have na : a ≠ p := fun q => h2 (q ▸ List.mem_of_getElem? h1)
    exact (s.cell l a c h1 h2').mono gx (fun z => by show upd F.f p o a = none; rw [upd_ne na]; exact z) rfl
  · obtain ⟨q1, q2⟩ := hg a u e
    obtain ⟨r1, r2, r3⟩ := s.apart a u q1
    exact ⟨r1, r2, by show upd F.f p o a = none; rw [upd_ne q2]; exact r3⟩
/-- a new place -/
theorem SimM.alloc {p : Addr} {o : HO} {c : Cell} (s : SimM N K m M F H) (hp : H p = none) (hc : CellOk N K F (m ++ [p]) (upd H p o) p c) :
    SimM N K (m ++ [p]) (M ++ [c]) F (upd H p o) ∧ Gr m F (m ++ [p]) F := by
  have g : Gr m F (m ++ [p]) F := ⟨⟨[p], rfl⟩, Xt.refl F, rfl⟩
  have np : p ∉ m := fun h => s.live p h hp
  refine ⟨⟨fun a u e => ?_, by simp [s.len], fun l a c' h1 h2 => ?_, ?_, fun a ha => ?_, fun a u e => ?_⟩, g⟩
  · have q : a ≠ p := fun q => by rw [q] at e; rw [s.sub _ _ e] at hp; cases hp
    rw [upd_ne q]; exact s.sub _ _ e
  · by_cases hl : l < m.length
    · rw [List.getElem?_append_left hl] at h1
      rw [List.getElem?_append_left (by rw [← s.len]; exact hl)] at h2
      have na : a ≠ p := fun q => np (q ▸ List.mem_of_getElem? h1)
      exact (s.cell l a c' h1 h2).mono g (fun z => z) (by rw [upd_ne na])
    · have e0 : l = m.length := by
        have h3 := (List.getElem?_eq_some_iff.mp h1).1
        rw [List.length_append, List.length_singleton] at h3
        omega
      subst e0
      rw [List.getElem?_append_right (Nat.le_refl _), Nat.sub_self] at h1
      rw [List.getElem?_append_right (by rw [s.len]; exact Nat.le_refl _), s.len, Nat.sub_self] at h2
      simp at h1 h2
      subst h1 h2
      exact hc
  · rw [List.nodup_append]
    refine ⟨s.nd, by simp, fun a ha b hb => ?_⟩
    simp at hb
    subst hb
    exact fun q => np (q ▸ ha)
  · rcases List.mem_append.mp ha with h | h
    · have na : a ≠ p := fun q => np (q ▸ h)
      rw [upd_ne na]; exact s.live a h
    · simp at h; subst h; rw [upd_same]; simp
  · obtain ⟨h1, h2, h3⟩ := s.apart a u e
    have na : a ≠ p := fun q => by rw [q, hp] at h1; cases h1
    exact ⟨by rw [upd_ne na]; exact h1, by simp only [List.mem_append, List.mem_singleton, not_or]; exact ⟨h2, na⟩, h3⟩
theorem nd_inj : ∀ {m : List Addr}, m.Nodup → ∀ {l l' : Nat} {a : Addr}, m[l]? = some a → m[l']? = some a → l = l' := fun {m} nd {l l' a} h h' => by
  obtain ⟨h1, e1⟩ := List.getElem?_eq_some_iff.mp h
  obtain ⟨h2, e2⟩ := List.getElem?_eq_some_iff.mp h'
  exact (List.getElem_inj nd).mp (e1.trans e2.symm)
/-- a place's content is exchanged -/
theorem SimM.write {l : Nat} {p : Addr} {o : HO} {c c' : Cell} (s : SimM N K m M F H) (hl : m[l]? = some p) (hM : M[l]? = some c) (hF : F.f p = none) (hc : CellOk N K F m (upd H p o) p c') : SimM N K m (M.set l c') F (upd H p o) := by
  refine ⟨fun a u e => ?_, by simp [s.len], fun j a d h1 h2 => ?_, s.nd, fun a ha => ?_, fun a u e => ?_⟩
  · have q : a ≠ p := fun q => by rw [q, hF] at e; cases e
    rw [upd_ne q]; exact s.sub _ _ e
  · by_cases q : j = l
    · subst q
      rw [hl] at h1; cases h1
      rw [List.getElem?_set_self (List.getElem?_eq_some_iff.mp hM).1] at h2; cases h2
      exact hc
    · rw [List.getElem?_set_ne (Ne.symm q)] at h2
      have na : a ≠ p := fun z => q (nd_inj s.nd h1 (z ▸ hl))
      exact (s.cell j a d h1 h2).mono (Gr.refl m F) (fun z => z) (by rw [upd_ne na])
  · by_cases q : a = p
    · subst q; rw [upd_same]; simp
    · rw [upd_ne q]; exact s.live a ha
  · obtain ⟨h1, h2, h3⟩ := s.apart a u e
    have na : a ≠ p := fun q => h2 (q ▸ List.mem_of_getElem? hl)
    exact ⟨by rw [upd_ne na]; exact h1, h2, h3⟩
theorem SimM.addr {l : Nat} {c : Cell} (s : SimM N K m M F H) (hM : M[l]? = some c) : ∃ a, m[l]? = some a ∧ CellOk N K F m H a c := by
  have h := (List.getElem?_eq_some_iff.mp hM).1
  rw [← s.len] at h
  exact ⟨m[l], List.getElem?_eq_getElem h, s.cell l _ c (List.getElem?_eq_getElem h) hM⟩
/-- the items of a value are read: a list's or a tuple's -/
theorem SimM.itemsF {w : W} {ws : List W} {v : V} (s : SimM N K m M F H) (r : RepW N K F m w v) (e : w.items M = some ws) : ∃ a ys, v = .ref a ∧ (SqL K H a ys ∨ SqT K F a ys) ∧ RepWs N K F m ws ys := by
  cases w with
  | p d =>
    cases d with
    | tup ds =>
      obtain ⟨a, ys, h1, h2, h3⟩ := r
      cases e
      exact ⟨a, ys, h1, .inr h2, RepWs.p h3⟩
    | lst ds =>
      obtain ⟨a, ys, h1, h2, h3⟩ := r
      cases e
      exact ⟨a, ys, h1, .inl (.inl (s.sub.rd h2)), RepWs.p h3⟩
    | _ => cases e
  | tp us =>
    obtain ⟨a, ys, h1, h2, h3⟩ := r
    cases e
    exact ⟨a, ys, h1, .inr h2, h3⟩
  | loc l =>
    obtain ⟨a, h1, h2⟩ := r
    unfold W.items at e
    dsimp only at e
    cases q : M[l]? with
    | none => rw [q] at e; cases e
    | some c =>
      rw [q] at e
      have co := s.cell l a c h1 q
      cases c with
      | lst us =>
        cases e
        obtain ⟨_, ys, h3, h4⟩ := co
        exact ⟨a, ys, h2, .inl (SqL.of h3), h4⟩
      | fz d =>
        cases d with
        | lst ds =>
          cases e
          obtain ⟨a', ys, h3, h4, h5⟩ := co
          cases h3
          exact ⟨a, ys, h2, .inl (.inl (s.sub.rd h4)), RepWs.p h5⟩
        | _ => cases e
      | _ => cases e
theorem SimM.items {w : W} {ws : List W} {v : V} (s : SimM N K m M F H) (r : RepW N K F m w v) (e : w.items M = some ws) : ∃ a ys, v = .ref a ∧ (SqL K H a ys ∨ SqT K H a ys) ∧ RepWs N K F m ws ys := by
  obtain ⟨a, ys, h1, h2, h3⟩ := s.itemsF r e
  exact ⟨a, ys, h1, h2.imp id s.sub.sqT, h3⟩
theorem RepWs.of_pures {ws : List W} : ∀ {ds : List D}, W.pures ws = some ds → ws = ds.map .p := by
  induction ws with
  | nil => intro ds e; cases e; rfl
  | cons w r ih =>
    intro ds e
    cases w with
    | p d =>
      have e1 : (match W.pures r with | some ds => some (d :: ds) | none => none) = some ds := e
      cases q : W.pures r with
      | none => rw [q] at e1; cases e1
      | some es => rw [q] at e1; cases e1; rw [ih q]; rfl
    | loc l => cases e
    | tp us => cases e
/-- a value read as plain data. What is a list may change later: so only now -/
inductive Now (N : Nam) (K : PySem.W.Frag) (F H : Hp) : D → V → Prop
  | p {d v} : Rep N K F d v → Now N K F H d v
  | lst {ds a ys} : H a = some (.lst ys) → Reps N K F ds ys → Now N K F H (.lst ds) (.ref a)
theorem SimM.view {w : W} {d : D} {v : V} (s : SimM N K m M F H) (r : RepW N K F m w v) (e : w.view M = some d) : Now N K F H d v := by
  cases w with
  | p x => cases e; exact .p r
  | tp us => cases e
  | loc l =>
    obtain ⟨a, h1, rfl⟩ := r
    unfold W.view at e
    dsimp only at e
    cases q : M[l]? with
    | none => rw [q] at e; cases e
    | some c =>
      rw [q] at e
      have co := s.cell l a c h1 q
      cases c with
      | lst us =>
        obtain ⟨_, ys, h3, h4⟩ := co
        have e' : (W.pures us).map D.lst = some d := e
        cases z : W.pures us with
        | none => rw [z] at e'; cases e'
        | some ds =>
          rw [z] at e'
          cases e'
          exact .lst h3 (h4.pures z)
      | fz x => cases e; exact .p co
      | _ => cases e
/-- a list read now: its object -/
theorem Now.lst_at {ds : List D} {v : V} (s : SimM N K m M F H) (h : Now N K F H (.lst ds) v) : ∃ a ys, v = .ref a ∧ Rd H a (.lst ys) ∧ Reps N K F ds ys := by
  cases h with
  | p r =>
    obtain ⟨a, ys, h1, h2, h3⟩ := r
    exact ⟨a, ys, h1, s.sub.rd h2, h3⟩
  | lst h r => exact ⟨_, _, rfl, .inl h, r⟩
theorem SimM.rd {w : W} {v : V} (s : SimM N K m M F H) (r : RepW N K F m w v) : RepW N K F m (rd M w) v := by
  cases w with
  | p x => exact r
  | tp us => exact r
  | loc l =>
    unfold G.rd
    dsimp only
    cases q : M[l]? with
    | none => exact r
    | some c =>
      cases c with
      | fz d =>
        obtain ⟨a, h1, rfl⟩ := r
        exact s.cell l a _ h1 q
      | _ => exact r
/-- what was held apart gets a place -/
theorem SimM.adopt {p : Addr} {o : HO} {g : Hp} {c : Cell} (s : SimM N K m M F H) (hp : F.g p = some o) (hg : ∀ a u, g a = some u → F.g a = some u ∧ a ≠ p) (hc : CellOk N K F.f (m ++ [p]) H p c) :
    SimM N K (m ++ [p]) (M ++ [c]) ⟨F.f, g⟩ H ∧ Gx m F (m ++ [p]) ⟨F.f, g⟩ := by
  obtain ⟨h1, h2, h3⟩ := s.apart p o hp
  have gx : Gx m F (m ++ [p]) ⟨F.f, g⟩ := ⟨⟨[p], rfl⟩, Xt.refl _⟩
  refine ⟨⟨s.sub, by simp [s.len], fun l a c' q1 q2 => ?_, ?_, fun a ha => ?_, fun a u e => ?_⟩, gx⟩
  · by_cases hl : l < m.length
    · rw [List.getElem?_append_left hl] at q1
      rw [List.getElem?_append_left (by rw [← s.len]; exact hl)] at q2
      exact (s.cell l a c' q1 q2).mono gx (fun z => z) rfl
    · have e0 : l = m.length := by
        have h3 := (List.getElem?_eq_some_iff.mp q1).1
        rw [List.length_append, List.length_singleton] at h3
        omega
      subst e0
      rw [List.getElem?_append_right (Nat.le_refl _), Nat.sub_self] at q1
      rw [List.getElem?_append_right (by rw [s.len]; exact Nat.le_refl _), s.len, Nat.sub_self] at q2
      simp at q1 q2
      subst q1 q2
      exact hc
  · rw [List.nodup_append]
    refine ⟨s.nd, by simp, fun a ha b hb => ?_⟩
    simp at hb
    subst hb
    exact fun q => h2 (q ▸ ha)
  · rcases List.mem_append.mp ha with h | h
    · exact s.live a h
    · simp at h; subst h; rw [h1]; simp
  · obtain ⟨q1, q2⟩ := hg a u e
    obtain ⟨r1, r2, r3⟩ := s.apart a u q1
    exact ⟨r1, by simp only [List.mem_append, List.mem_singleton, not_or]; exact ⟨r2, q2⟩, r3⟩
/-- a place's content is fixed from now on -/
theorem SimM.still {l : Nat} {p : Addr} {o : HO} {c : Cell} {d : D} (s : SimM N K m M F H) (hl : m[l]? = some p) (hM : M[l]? = some c) (hF : F.f p = none) (ho : H p = some o) (hd : Rep N K (upd F.f p o) d (.ref p)) :
    SimM N K m (M.set l (.fz d)) (F.put p o) H ∧ Gr m F m (F.put p o) := by
  have g : Gr m F m (F.put p o) := ⟨⟨[], by simp⟩, Xt.new hF, rfl⟩
  refine ⟨⟨fun a u e => ?_, by simp [s.len], fun j a d' h1 h2 => ?_, s.nd, s.live, fun a u e => ?_⟩, g⟩
  · have e : upd F.f p o a = some u := e
    by_cases q : a = p
    · subst q; rw [upd_same] at e; rw [ho]; exact e
    · rw [upd_ne q] at e; exact s.sub _ _ e
  · by_cases q : j = l
    · subst q
      rw [hl] at h1; cases h1
      rw [List.getElem?_set_self (List.getElem?_eq_some_iff.mp hM).1] at h2; cases h2
      exact hd
    · rw [List.getElem?_set_ne (Ne.symm q)] at h2
      have na : a ≠ p := fun z => q (nd_inj s.nd h1 (z ▸ hl))
      exact (s.cell j a d' h1 h2).mono g (fun z => by show upd F.f p o a = none; rw [upd_ne na]; exact z) rfl
  · obtain ⟨h1, h2, h3⟩ := s.apart a u e
    have na : a ≠ p := fun q => h2 (q ▸ List.mem_of_getElem? hl)
    exact ⟨h1, h2, by show upd F.f p o a = none; rw [upd_ne na]; exact h3⟩
mutual
theorem frzW_ok : ∀ (n : Nat) {m : List Addr} {M M' : Mem} {F : Fx} {w : W} {d : D} {v : V}, SimM N K m M F H → RepW N K F m w v → frzW n M w = some (d, M') → ∃ F', SimM N K m M' F' H ∧ Gr m F m F' ∧ Rep N K F' d v
  | n, m, M, M', F, .p x, d, v, s, r, e => by
    unfold frzW at e
    cases e
    exact ⟨F, s, Gr.refl _ _, r⟩
  | 0, m, M, M', F, .tp us, d, v, s, r, e => by unfold frzW at e; cases e
  | 0, m, M, M', F, .loc us, d, v, s, r, e => by unfold frzW at e; cases e
  | n + 1, m, M, M', F, .tp us, d, v, s, r, e => by
    unfold frzW at e
    obtain ⟨q, e1, e2⟩ := Option.map_eq_some_iff.mp e
    cases e2
    obtain ⟨a, ys, rfl, h2, h3⟩ := r
    obtain ⟨F', s', g, r'⟩ := frzWs_ok n s h3 e1
    exact ⟨F', s', g, a, ys, rfl, g.ex.sqT h2, r'⟩
  | n + 1, m, M, M', F, .loc l, d, v, s, r, e => by
    unfold frzW at e
    obtain ⟨a, h1, rfl⟩ := r
    split at e
    · rename_i x hM
      cases e
      exact ⟨F, s, Gr.refl _ _, s.cell l a _ h1 hM⟩
    · rename_i us hM
      split at e
      · rename_i ds M1 e1
        split at e
        · rename_i hM1
          cases e
          obtain ⟨h0, ys, h3, h4⟩ := s.cell l a _ h1 hM
          obtain ⟨F1, s1, g1, r1⟩ := frzWs_ok n s h4 e1
          obtain ⟨k0, ys1, k3, _⟩ := s1.cell l a _ h1 hM1
          have ey : ys1 = ys := by rw [h3] at k3; cases k3; rfl
          subst ey
          have gn : Xt F1.f (upd F1.f a (.lst ys1)) := Xt.new k0
          have rr : Rep N K (upd F1.f a (.lst ys1)) (.lst ds) (.ref a) := ⟨a, ys1, rfl, .inl upd_same, Reps.mono gn _ _ r1⟩
          obtain ⟨s2, g2⟩ := s1.still (d := .lst ds) h1 hM1 k0 k3 rr
          exact ⟨_, s2, g1.trans g2, rr⟩
        · cases e
      · cases e
    · rename_i c ns us hM
      split at e
      · rename_i ds M1 e1
        split at e
        · rename_i hM1
          cases e
          obtain ⟨h0, dx, fs, h3, h4, h5⟩ := s.cell l a _ h1 hM
          obtain ⟨k1, k2⟩ := RepWF.vals h4
          obtain ⟨F1, s1, g1, r1⟩ := frzWs_ok n s k1 e1
          obtain ⟨k0, dx1, fs1, k3, _⟩ := s1.cell l a _ h1 hM1
          have k3' : H a = some (.ins (N.cA c) dx fs) := h3
          have gn : Xt F1.f (upd F1.f a (.ins (N.cA c) dx fs)) := Xt.new k0
          have rr : Rep N K (upd F1.f a (.ins (N.cA c) dx fs)) (.obj c ns ds) (.ref a) := ⟨a, dx, fs, rfl, upd_same, RepF.mono gn ns ds _ (k2 ds r1), h5⟩
          obtain ⟨s2, g2⟩ := s1.still (d := .obj c ns ds) h1 hM1 k0 k3' rr
          exact ⟨_, s2, g1.trans g2, rr⟩
        · cases e
      · cases e
    · cases e
theorem frzWs_ok : ∀ (n : Nat) {m : List Addr} {M M' : Mem} {F : Fx} {ws : List W} {ds : List D} {vs : List V}, SimM N K m M F H → RepWs N K F m ws vs → frzWs n M ws = some (ds, M') → ∃ F', SimM N K m M' F' H ∧ Gr m F m F' ∧ Reps N K F' ds vs
  | n, m, M, M', F, [], ds, [], s, r, e => by
    unfold frzWs at e
    cases e
    exact ⟨F, s, Gr.refl _ _, trivial⟩
  | 0, m, M, M', F, w :: us, ds, vs, s, r, e => by unfold frzWs at e; cases e
  | n + 1, m, M, M', F, w :: us, ds, v :: vs, s, r, e => by
    unfold frzWs at e
    split at e
    · rename_i d M1 e1
      obtain ⟨q, e2, e3⟩ := Option.map_eq_some_iff.mp e
      cases e3
      obtain ⟨F1, s1, g1, r1⟩ := frzW_ok (v := v) n s r.1 e1
      obtain ⟨F2, s2, g2, r2⟩ := frzWs_ok n s1 (RepWs.mono g1.x _ _ r.2) e2
      exact ⟨F2, s2, g1.trans g2, Rep.mono g2.ex _ _ r1, r2⟩
    · cases e
  | _, _, _, _, _, [], _, _ :: _, _, r, _ => r.elim
  | _, _, _, _, _, _ :: _, _, [], _, r, _ => r.elim
end
end
end G

set_option maxHeartbeats 4000000
/-! Results, and operations by values. -/
namespace G
open PySem PySem.Spec PyProof.Rows L2

/-! ### plain data of the library -/
mutual
theorem canLay_of : ∀ (d : D) (n : Nat), plain n d = true → PyData.canLay0 (toPy d) = true
  | .non, n, h => rfl
  | .bl b, n, h => rfl
  | .int i, n, h => rfl
  | .str s, n, h => by
    have h1 : PyData.strOk s = true := by cases n <;> exact h
    exact h1
  | .tup xs, n, h => by
    cases n with
    | zero => cases h
    | succ n => exact canLays_of xs n h
  | .lst xs, n, h => by
    cases n with
    | zero => cases h
    | succ n => exact canLays_of xs n h
  | .dct ks vs, n, h => by cases n <;> cases h
  | .obj _ _ _, n, h => by cases n <;> cases h
  | .exc _ _ _, n, h => by cases n <;> cases h
theorem canLays_of : ∀ (ds : List D) (n : Nat), plains n ds = true → PyData.canLayAll0 (toPys ds) = true
  | [], n, h => rfl
  | d :: ds, n, h => by
    obtain ⟨h1, h2⟩ := Bool.and_eq_true_iff.mp (show (plain n d && plains n ds) = true by cases n <;> exact h)
    show (PyData.canLay0 (toPy d) && PyData.canLayAll0 (toPys ds)) = true
    rw [canLay_of d n h1, canLays_of ds n h2]; rfl
end
mutual
theorem dep_of : ∀ (d : D) (n : Nat), plain n d = true → (toPy d).depth ≤ n
  | .non, n, h => Nat.zero_le _
  | .bl b, n, h => Nat.zero_le _
  | .int i, n, h => Nat.zero_le _
  | .str s, n, h => Nat.zero_le _
  | .tup xs, n, h => by
    cases n with
    | zero => cases h
    | succ n => exact Nat.succ_le_succ (deps_of xs n h)
  | .lst xs, n, h => by
    cases n with
    | zero => cases h
    | succ n => exact Nat.succ_le_succ (deps_of xs n h)
  | .dct ks vs, n, h => by cases n <;> cases h
  | .obj _ _ _, n, h => by cases n <;> cases h
  | .exc _ _ _, n, h => by cases n <;> cases h
theorem deps_of : ∀ (ds : List D) (n : Nat), plains n ds = true → PyData.depthAll (toPys ds) ≤ n
  | [], n, h => Nat.zero_le _
  | d :: ds, n, h => by
    obtain ⟨h1, h2⟩ := Bool.and_eq_true_iff.mp (show (plain n d && plains n ds) = true by cases n <;> exact h)
    exact Nat.max_le.mpr ⟨dep_of d n h1, deps_of ds n h2⟩
end
theorem shaped_of {d : D} (h : plain 60 d = true) : SeqAt.shaped (toPy d) = true := by
  unfold SeqAt.shaped
  rw [canLay_of d 60 h, decide_eq_true (Nat.le_trans (dep_of d 60 h) (by decide))]; rfl
mutual
theorem eqv_nrm : ∀ (a : D) (n : Nat) (b : D) (k : Nat), plain n a = true → plain k b = true → PyData.eqv (toPy a) (toPy b) = decide (nrm a = nrm b)
  | .non, n, b, k, ha, hb => by cases b <;> (try (cases k <;> cases hb)) <;> simp [toPy, nrm, PyData.eqv]
  | .bl x, n, b, k, ha, hb => by
    cases b with
    | bl y => cases x <;> cases y <;> simp [toPy, nrm, PyData.eqv]
    | int j =>
      have e : ((if x = true then 1 else 0) == j) = decide ((if x = true then (1 : Int) else 0) = j) := rfl
      simp [toPy, nrm, PyData.eqv, e]
    | _ => first | (simp [toPy, nrm, PyData.eqv]; done) | (cases k <;> cases hb)
  | .int x, n, b, k, ha, hb => by
    cases b with
    | bl y =>
      have e : (x == if y = true then 1 else 0) = decide (x = if y = true then (1 : Int) else 0) := rfl
      simp [toPy, nrm, PyData.eqv, e]
    | int j =>
      have e : (x == j) = decide (x = j) := rfl
      simp [toPy, nrm, PyData.eqv, e]
    | _ => first | (simp [toPy, nrm, PyData.eqv]; done) | (cases k <;> cases hb)
  | .str x, n, b, k, ha, hb => by
    cases b with
    | str y =>
      have e : (x == y) = decide (x = y) := rfl
      simp [toPy, nrm, PyData.eqv, e]
    | _ => first | (simp [toPy, nrm, PyData.eqv]; done) | (cases k <;> cases hb)
  | .tup x, n, b, k, ha, hb => by
    cases b with
    | tup y =>
      cases n with
      | zero => cases ha
      | succ n =>
        cases k with
        | zero => cases hb
        | succ k =>
          have e := eqvs_nrm x n y k ha hb
          simp [toPy, nrm, PyData.eqv, e]
    | _ => first | (simp [toPy, nrm, PyData.eqv]; done) | (cases k <;> cases hb)
  | .lst x, n, b, k, ha, hb => by
    cases b with
    | lst y =>
      cases n with
      | zero => cases ha
      | succ n =>
        cases k with
        | zero => cases hb
        | succ k =>
          have e := eqvs_nrm x n y k ha hb
          simp [toPy, nrm, PyData.eqv, e]
    | _ => first | (simp [toPy, nrm, PyData.eqv]; done) | (cases k <;> cases hb)
  | .dct _ _, n, b, k, ha, hb => by cases n <;> cases ha
  | .obj _ _ _, n, b, k, ha, hb => by cases n <;> cases ha
  | .exc _ _ _, n, b, k, ha, hb => by cases n <;> cases ha
theorem eqvs_nrm : ∀ (a : List D) (n : Nat) (b : List D) (k : Nat), plains n a = true → plains k b = true → PyData.eqvAll (toPys a) (toPys b) = decide (nrms a = nrms b)
  | [], n, b, k, ha, hb => by cases b <;> simp [toPys, nrms, PyData.eqvAll]
  | x :: xs, n, [], k, ha, hb => by simp [toPys, nrms, PyData.eqvAll]
  | x :: xs, n, y :: ys, k, ha, hb => by
    obtain ⟨a1, a2⟩ := Bool.and_eq_true_iff.mp (show (plain n x && plains n xs) = true by cases n <;> exact ha)
    obtain ⟨b1, b2⟩ := Bool.and_eq_true_iff.mp (show (plain k y && plains k ys) = true by cases k <;> exact hb)
    have e1 := eqv_nrm x n y k a1 b1
    have e2 := eqvs_nrm xs n ys k a2 b2
    simp [toPys, nrms, PyData.eqvAll, e1, e2]
end

/-! ### results -/
def RepE (N : Nam) (K : PySem.W.Frag) (F : Hp) (m : List Addr) (env : Env) (σ : L2.St) : Prop :=
  σ.length = env.length ∧ ∀ (i : Nat) (w : W), env[i]? = some (some w) → ∃ v, σ[i]? = some (some v) ∧ RepW N K F m w v
structure Sim (N : Nam) (K : PySem.W.Frag) (σ : L2.St) (env : Env) (m : List Addr) (M : Mem) (F : Fx) (H : Hp) : Prop where
  mem : SimM N K m M F H
  env : RepE N K F m env σ
/-- an exception in flight: its class, its own dict, which is fixed -/
def ExcV (N : Nam) (K : PySem.W.Frag) (F : Hp) (cls : Value) (d : Option Addr) (c : Nat) (ns : List Nat) (vs : List D) : Prop :=
  cls = .ref (N.cA c) ∧ ∃ dd fs, d = some dd ∧ F dd = some (.xd fs) ∧ RepF N K F ns vs (fun f => fs.lookup f)
abbrev Rl (α β : Type) := List Addr → Fx → α → β → Prop
def ERes {α β : Type} (N : Nam) (K : PySem.W.Frag) (R : Rl α β) (Wx : WX) (Q : β → Hp → Prop) (σ : L2.St) (env : Env) (m : List Addr) (F : Fx) : Res α → Prop
  | .ok a M' => ∀ b H' m' F', Sim N K σ env m' M' F' H' → R m' F' a b → Gr m F m' F' → Q b H'
  | .exc c ns vs M' => ∀ cls d H' m' F', Sim N K σ env m' M' F' H' → Gr m F m' F' → ExcV N K F' cls d c ns vs → Wx cls d σ H'
  | .bad => False
section
variable {N : Nam} {K : PySem.W.Frag} {α β γ δ : Type} {R : Rl α β} {S : Rl γ δ} {Wx : WX} {Q : β → Hp → Prop} {σ : L2.St} {env : Env} {m m' : List Addr} {M : Mem} {F F' : Fx} {H H' : Hp}
theorem RepE.mono (g : Gx m F m' F') (h : RepE N K F m env σ) : RepE N K F' m' env σ := ⟨h.1, fun i w e => by
  obtain ⟨v, h1, h2⟩ := h.2 i w e
  exact ⟨v, h1, RepW.mono g w v h2⟩⟩
theorem Sim.to (s : Sim N K σ env m M F H) {M' : Mem} {H' : Hp} (s' : SimM N K m' M' F' H') (g : Gx m F m' F') : Sim N K σ env m' M' F' H' := ⟨s', s.env.mono g⟩
theorem ERes.rebase (g : Gr m F m' F') : ∀ {r : Res α}, ERes N K R Wx Q σ env m F r → ERes N K R Wx Q σ env m' F' r
  | .ok a M, h => fun b H' m2 F2 s r g2 => h b H' m2 F2 s r (g.trans g2)
  | .exc c ns vs M, h => fun cls d H' m2 F2 s g2 e => h cls d H' m2 F2 s (g.trans g2) e
  | .bad, h => h
theorem ERes.imp {Q' : β → Hp → Prop} (k : ∀ b H, Q b H → Q' b H) : ∀ {r : Res α}, ERes N K R Wx Q σ env m F r → ERes N K R Wx Q' σ env m F r
  | .ok a M, h => fun b H' m2 F2 s r g2 => k _ _ (h b H' m2 F2 s r g2)
  | .exc c ns vs M, h => h
  | .bad, h => h
/-- what comes behind -/
theorem ERes.andThen {Q' : δ → Hp → Prop} {f : γ → Mem → Res α} : ∀ {r : Res γ}, ERes N K R Wx Q σ env m F (r.bind f) →
    (∀ b H' m' F' c M', Sim N K σ env m' M' F' H' → S m' F' c b → Gr m F m' F' → ERes N K R Wx Q σ env m' F' (f c M') → Q' b H') → ERes N K S Wx Q' σ env m F r
  | .ok c M', h, k => fun b H' m' F' s r g => k b H' m' F' c M' s r g (h.rebase g)
  | .exc c ns vs M', h, k => h
  | .bad, h, k => h
/-- a value reckoned by values: what is wanted of it -/
def VRes (N : Nam) (K : PySem.W.Frag) (Q : VK) (m : List Addr) (M : Mem) (F : Fx) : Option W → Prop
  | some w => ∀ v H' m' F', SimM N K m' M F' H' → RepW N K F' m' w v → Gr m F m' F' → Q v H'
  | none => False
abbrev RW (N : Nam) (K : PySem.W.Frag) : Rl W V := fun m F w v => RepW N K F m w v
abbrev RWs (N : Nam) (K : PySem.W.Frag) : Rl (List W) (List V) := fun m F w v => RepWs N K F m w v
theorem VRes.of {Q : VK} {o : Option W} (s : Sim N K σ env m M F H) (h : ERes N K (RW N K) Wx Q σ env m F (Res.of o M)) : VRes N K Q m M F o := by
  cases o with
  | none => exact h
  | some w => exact fun v H' m' F' s' r g => h v H' m' F' (s.to s' g) r g
theorem VRes.same {Q : VK} {w : W} {v : V} (s : SimM N K m M F H) (h : VRes N K Q m M F (some w)) (r : RepW N K F m w v) : Q v H := h v H m F s r (Gr.refl m F)
/-- a new tuple, a new list -/
theorem VRes.tup {Q : VK} {ws : List W} {vs : List V} (s : SimM N K m M F H) (r : RepWs N K F m ws vs) (h : VRes N K Q m M F (some (mkTup ws))) : ∀ p, H p = none → Q (.ref p) (upd H p (.tup vs)) := fun p hp => by
  obtain ⟨s', g⟩ := s.new (o := .tup vs) hp
  exact h _ _ _ _ s' ((RepWs.mono g _ _ r).tup (SqT.of upd_same)) g
theorem VRes.lst {Q : VK} {ds : List D} {vs : List V} (s : SimM N K m M F H) (r : Reps N K F ds vs) (h : VRes N K Q m M F (some (.p (.lst ds)))) : ∀ p, H p = none → Q (.ref p) (upd H p (.lst vs)) := fun p hp => by
  obtain ⟨s', g⟩ := s.new (o := .lst vs) hp
  exact h _ _ _ _ s' ⟨p, vs, rfl, .inl upd_same, Reps.mono g.ex _ _ r⟩ g
theorem VRes.tupD {Q : VK} {ds : List D} {vs : List V} (s : SimM N K m M F H) (r : Reps N K F ds vs) (h : VRes N K Q m M F (some (.p (.tup ds)))) : ∀ p, H p = none → Q (.ref p) (upd H p (.tup vs)) := fun p hp => by
  obtain ⟨s', g⟩ := s.new (o := .tup vs) hp
  exact h _ _ _ _ s' ⟨p, vs, rfl, SqT.of upd_same, Reps.mono g.ex _ _ r⟩ g
end
theorem szOk_le {n : Nat} (h : szOk n = true) : n ≤ sizeLine := Nat.le_trans (of_decide_eq_true h) (by rw [sizeLine_eq]; decide)
theorem le_line {n : Nat} (h : n ≤ 100000) : n ≤ sizeLine := Nat.le_trans h (by rw [sizeLine_eq]; decide)

/-! ### + - * // % ** -/
def aop : Bop → Operator
  | .add => .Add | .sub => .Sub | .mul => .Mult | .fdiv => .FloorDiv | .mod => .Mod | .pow => .Pow
section
variable {X : Cx} {N : Nam}
theorem small_ok {i : Int} (h : small64 i = true) : -(2 ^ 64) < i ∧ i < 2 ^ 64 := by
  obtain ⟨h1, h2⟩ := Bool.and_eq_true_iff.mp h
  exact ⟨of_decide_eq_true h1, of_decide_eq_true h2⟩
theorem mulOk_ok {i j : Int} (h : mulOk i j = true) : IntMulOk i j := by
  unfold mulOk at h
  rcases Bool.or_eq_true_iff.mp h with h | h
  · rcases Bool.or_eq_true_iff.mp h with h | h
    · exact CMul.ok (.inl (small_ok h))
    · exact CMul.ok (.inr (small_ok h))
  · exact CMulW.ok (show i.natAbs.log2 + j.natAbs.log2 < 1000000 from of_decide_eq_true h)
theorem rd_list {pins : List (Addr × Obj)} {s : Shared} {σ : L2.St} {H : Hp} {a : Addr} {xs : List V} (I : L2.Inv X pins σ H s) (h : Rd H a (.lst xs)) :
    ∃ (its : List Value) (n : Nat), Vals xs its ∧ xs.length = its.length ∧ s.heap.get? a = some { cls := .type "list", data := .seq its.toArray n } ∧ xs.length ≤ sizeLine := by
  obtain ⟨z, its, n, r, e⟩ := h.ok I.hok
  exact ⟨its, n, r, r.length, e, z⟩
theorem op_catL : OpR X (binaryOp .Add) (fun x y H Q => ∃ a b xs ys, x = .ref a ∧ y = .ref b ∧ Rd H a (.lst xs) ∧ Rd H b (.lst ys) ∧ xs.length + ys.length ≤ sizeLine ∧ ∀ p, H p = none → Q (.ref p) (upd H p (.lst (xs ++ ys)))) := by
  intro pins s σ H x y v u Q I rx ry h
  obtain ⟨a, b, xs, ys, rfl, rfl, h1, h2, hz, q⟩ := h
  cases rx
  cases ry
  obtain ⟨its, n, r, l1, e, _⟩ := rd_list I h1
  obtain ⟨its2, n2, r2, l2, e2, _⟩ := rd_list I h2
  have z : its.toArray.size + its2.toArray.size ≤ sizeLine := by simp only [List.size_toArray]; omega
  refine PySem.P.add_list e e2 (Eq.mp ?_ (show EP X pins σ Q (.ref s.heap.objs.size) { s with heap := s.heap.push { cls := .type "list", data := .seq (its ++ its2).toArray } } from ?_)) z
  · simp
  · exact ⟨.ref _, _, I.lnew (t' := s.toks) (r.append r2) (by rw [List.length_append]; exact hz), rfl, q _ I.fresh⟩
/-- read as data now: an int .. -/
theorem Now.int_at {K : PySem.W.Frag} {F H : Hp} {i : Int} {v : V} (h : Now N K F H (.int i) v) : v = .int i := by cases h with | p r => exact r
theorem Now.str_at {K : PySem.W.Frag} {F H : Hp} {i : Str} {v : V} (h : Now N K F H (.str i) v) : v = .str i := by cases h with | p r => exact r
theorem Now.tup_at {K : PySem.W.Frag} {F H : Hp} {ds : List D} {v : V} (h : Now N K F H (.tup ds) v) : ∃ a ys, v = .ref a ∧ SqT K F a ys ∧ Reps N K F ds ys := by cases h with | p r => exact r
def rDD (N : Nam) (K : PySem.W.Frag) (f : D → D → Option D) : R2 := fun x y H Q => ∃ m M F a b, SimM N K m M F H ∧ Now N K F H a x ∧ Now N K F H b y ∧ VRes N K Q m M F ((f a b).map .p)
theorem OpR.use {f : Value → Value → Sem Value} {r : R2} (o : OpR X f r) {pins : List (Addr × Obj)} {s : Shared} {σ : L2.St} {H : Hp} {x y : V} {v u : Value} {Q : VK} (I : L2.Inv X pins σ H s) (rx : RelV x v) (ry : RelV y u) (h : r x y H Q) :
    wpAny (model X.prog X.w) X.A (f v u) (EP X pins σ Q) X.xe s := o pins s σ H x y v u Q I rx ry h
theorem bif_some {Q : VK} {K : PySem.W.Frag} {m : List Addr} {M : Mem} {F : Fx} {c : Bool} {w : D} (h : VRes N K Q m M F ((if c = true then some w else none).map .p)) : c = true ∧ VRes N K Q m M F (some (.p w)) := by
  cases c with
  | true => exact ⟨rfl, h⟩
  | false => exact h.elim
theorem mulS_ok {x : Str} {n : Int} (h1 : 1 ≤ n) (h2 : n ≤ 1000) (h3 : x.length * n.toNat ≤ 100000) : MulOk x n := by
  have e : (n.toNat : Int) = n := by omega
  have h4 : (x.length : Int) * n ≤ 100000 := by
    rw [← e, ← Int.natCast_mul]; exact Int.ofNat_le.mpr h3
  refine ⟨?_, fun _ _ => ?_, fun _ _ => ?_⟩
  · rw [Bool.or_eq_false_iff]
    exact ⟨decide_eq_false (by omega), decide_eq_false (by omega)⟩
  · have : (x.length : Int) ≤ (2 ^ 63 - 1) / n := (Int.le_ediv_iff_mul_le (by omega)).mpr (by omega)
    omega
  · have hz : x.length * n.toNat ≤ sizeLine := Nat.le_trans h3 (by rw [sizeLine_eq]; decide)
    unfold PySem.Builtin.Str.tooLong
    simpa using hz
theorem op_mulS : OpR X (binaryOp .Mult) (fun x y H Q => ∃ a n, x = .str a ∧ y = .int n ∧ MulOk a n ∧ Q (.str (Txt.mul a n)) H) := by
  intro pins s σ H x y v u Q I rx ry h
  obtain ⟨a, n, rfl, rfl, ok, q⟩ := h
  obtain ⟨t, rfl⟩ : ∃ t, v = .str a t := rx
  obtain ⟨t', rfl⟩ : ∃ t, u = .int n t := ry
  exact PySem.SB.mul ok fun t' k => ⟨.str _, H, I.tok _, ⟨t', rfl⟩, q⟩
theorem op_bin (o : Bop) : OpR X (binaryOp (aop o)) (rDD N X.K (binD o)) := by
  intro pins s σ H x y v u Q I rx ry h
  obtain ⟨m, M, F, a, b, sm, na, nb, h⟩ := h
  cases o with
  | add =>
    cases a <;> cases b <;> first | exact h.elim | skip
    · cases na.int_at; cases nb.int_at
      exact OpR.use op_add I rx ry ⟨_, _, rfl, rfl, VRes.same sm h rfl⟩
    · cases na.str_at; cases nb.str_at
      obtain ⟨z, h⟩ := bif_some h
      exact OpR.use op_add_str I rx ry ⟨_, _, rfl, rfl, szOk_le z, VRes.same sm h rfl⟩
    · obtain ⟨p, us, rfl, e1, r1⟩ := na.tup_at
      obtain ⟨q, ws, rfl, e2, r2⟩ := nb.tup_at
      obtain ⟨z, h⟩ := bif_some h
      refine OpR.use op_catA I rx ry ⟨p, q, us, ws, rfl, rfl, sm.sub.sqT e1, sm.sub.sqT e2, by rw [← r1.length, ← r2.length]; exact szOk_le z, fun e => ?_, fun _ e => ?_, fun _ _ => VRes.tupD sm (r1.append r2) h⟩
      · subst e
        have l := r1.length
        rw [List.length_nil, List.length_eq_zero_iff] at l
        subst l
        exact VRes.same sm h ⟨q, ws, rfl, e2, r2⟩
      · subst e
        have l := r2.length
        rw [List.length_nil, List.length_eq_zero_iff] at l
        subst l
        rw [List.append_nil] at h
        exact VRes.same sm h ⟨p, us, rfl, e1, r1⟩
    · obtain ⟨p, us, rfl, e1, r1⟩ := na.lst_at sm
      obtain ⟨q, ws, rfl, e2, r2⟩ := nb.lst_at sm
      obtain ⟨z, h⟩ := bif_some h
      exact OpR.use op_catL I rx ry ⟨p, q, us, ws, rfl, rfl, e1, e2, by rw [← r1.length, ← r2.length]; exact szOk_le z, VRes.lst sm (r1.append r2) h⟩
  | sub =>
    cases a <;> cases b <;> first | exact h.elim | skip
    cases na.int_at; cases nb.int_at
    exact OpR.use op_sub I rx ry ⟨_, _, rfl, rfl, VRes.same sm h rfl⟩
  | mul =>
    cases a <;> cases b <;> first | exact h.elim | skip
    rotate_left
    · cases na.str_at; cases nb.int_at
      obtain ⟨z, h⟩ := bif_some h
      obtain ⟨z, z3⟩ := Bool.and_eq_true_iff.mp z
      obtain ⟨z1, z2⟩ := Bool.and_eq_true_iff.mp z
      exact OpR.use op_mulS I rx ry ⟨_, _, rfl, rfl, mulS_ok (of_decide_eq_true z1) (of_decide_eq_true z2) (of_decide_eq_true z3), VRes.same sm h rfl⟩
    cases na.int_at; cases nb.int_at
    obtain ⟨z, h⟩ := bif_some h
    have o : OpR X (binaryOp .Mult) (rI (fun i j => IntMulOk i j) fun i j => .int (i * j)) := opI fun _ _ _ _ _ _ _ hc q => mul_int q hc
    exact OpR.use o I rx ry ⟨_, _, rfl, rfl, mulOk_ok z, VRes.same sm h rfl⟩
  | fdiv =>
    cases a <;> cases b <;> first | exact h.elim | skip
    cases na.int_at; cases nb.int_at
    obtain ⟨z, h⟩ := bif_some h
    obtain ⟨z1, z2⟩ := Bool.and_eq_true_iff.mp z
    exact OpR.use op_fdivW I rx ry ⟨_, _, rfl, rfl, ⟨of_decide_eq_true z1, of_decide_eq_true z2⟩, VRes.same sm h rfl⟩
  | mod =>
    cases a <;> cases b <;> first | exact h.elim | skip
    cases na.int_at; cases nb.int_at
    obtain ⟨z, h⟩ := bif_some h
    exact OpR.use op_mod I rx ry ⟨_, _, rfl, rfl, of_decide_eq_true z, VRes.same sm h rfl⟩
  | pow =>
    cases a <;> cases b <;> first | exact h.elim | skip
    cases na.int_at; cases nb.int_at
    obtain ⟨z, h⟩ := bif_some h
    obtain ⟨z, z3⟩ := Bool.and_eq_true_iff.mp z
    obtain ⟨z1, z2⟩ := Bool.and_eq_true_iff.mp z
    exact OpR.use op_pow I rx ry ⟨_, _, rfl, rfl, ⟨of_decide_eq_true z1, of_decide_eq_true z2, of_decide_eq_true z3⟩, VRes.same sm h rfl⟩
end
end G

set_option maxHeartbeats 4000000
/-! Comparisons, subscripts, truth, built-in calls, by values. -/
namespace G
open PySem PySem.Spec PyProof.Rows L2
section
variable {X : Cx} {N : Nam}
def cop : Cop → CmpOp
  | .eq => .Eq | .ne => .NotEq | .lt => .Lt | .le => .LtE | .gt => .Gt | .ge => .GtE | .is => .Is | .isn => .IsNot | .inn => .In | .nin => .NotIn
/-! ### data as the library's == reads it -/
mutual
theorem dp_of {K : PySem.W.Frag} {F : Hp} : ∀ (d : D) (n : Nat) (v : V), plain n d = true → Rep N K F d v → Dp K F v (toPy d)
  | .non, n, v, h, r => by cases r; exact .non
  | .bl b, n, v, h, r => by cases r; exact .bl b
  | .int i, n, v, h, r => by cases r; exact .int i
  | .str s, n, v, h, r => by cases r; exact .str s
  | .tup xs, n, v, h, r => by
    cases n with
    | zero => cases h
    | succ n =>
      obtain ⟨a, ys, rfl, e, r⟩ := r
      exact .tup e (dps_of xs n ys h r)
  | .lst xs, n, v, h, r => by
    cases n with
    | zero => cases h
    | succ n =>
      obtain ⟨a, ys, rfl, e, r⟩ := r
      exact .lst (.inl e) (dps_of xs n ys h r)
  | .dct _ _, n, v, h, r => by cases n <;> cases h
  | .obj _ _ _, n, v, h, r => by cases n <;> cases h
  | .exc _ _ _, n, v, h, r => by cases n <;> cases h
theorem dps_of {K : PySem.W.Frag} {F : Hp} : ∀ (ds : List D) (n : Nat) (vs : List V), plains n ds = true → Reps N K F ds vs → DpAll K F vs (toPys ds)
  | [], n, [], h, r => .nil
  | d :: ds, n, v :: vs, h, r => by
    obtain ⟨h1, h2⟩ := Bool.and_eq_true_iff.mp (show (plain n d && plains n ds) = true by cases n <;> exact h)
    exact .cons (dp_of d n v h1 r.1) (dps_of ds n vs h2 r.2)
  | [], _, _ :: _, _, r => r.elim
  | _ :: _, _, [], _, r => r.elim
end
mutual
theorem Dp.up {K : PySem.W.Frag} {F H : Hp} (e : Xt F H) : ∀ {d : PyData} {v : V}, Dp K F v d → Dp K H v d
  | _, _, .non => .non
  | _, _, .bl b => .bl b
  | _, _, .int i => .int i
  | _, _, .str s => .str s
  | _, _, .lst h r => .lst (e.sqL h) (DpAll.up e r)
  | _, _, .tup h r => .tup (e.sqT h) (DpAll.up e r)
theorem DpAll.up {K : PySem.W.Frag} {F H : Hp} (e : Xt F H) : ∀ {ds : List PyData} {vs : List V}, DpAll K F vs ds → DpAll K H vs ds
  | _, _, .nil => .nil
  | _, _, .cons h r => .cons (Dp.up e h) (DpAll.up e r)
end
theorem Now.dp {K : PySem.W.Frag} {m : List Addr} {M : Mem} {F : Fx} {H : Hp} {d : D} {v : V} (s : SimM N K m M F H) (h : Now N K F H d v) (p : plain 60 d = true) : Dp K H v (toPy d) := by
  cases h with
  | p r => exact Dp.up s.sub (dp_of d 60 v p r)
  | lst h r => exact .lst (SqL.of h) (DpAll.up s.sub (dps_of _ 59 _ p r))
theorem eqD_ok {a b : D} {k : Bool} (h : eqD a b = some k) : (∃ x y : Str, a = .str x ∧ b = .str y ∧ k = decide (x = y)) ∨ eqP a b = some k := by
  unfold eqD at h
  split at h
  · cases h; exact .inl ⟨_, _, rfl, rfl, rfl⟩
  · exact .inr h
theorem eqP_ok {a b : D} {k : Bool} (h : eqP a b = some k) : plain 60 a = true ∧ plain 60 b = true ∧ PyData.eqv (toPy a) (toPy b) = k := by
  unfold eqP at h
  split at h
  · rename_i z
    obtain ⟨z1, z2⟩ := Bool.and_eq_true_iff.mp z
    cases h
    exact ⟨z1, z2, eqv_nrm a 60 b 60 z1 z2⟩
  · cases h
/-! ### in -/
theorem flat_rep {K : PySem.W.Frag} {F : Hp} {d : D} {v : V} (h : flat d = true) (r : Rep N K F d v) : flatV v = true := by
  cases d <;> first | (cases r; rfl) | cases h
theorem eqV_nrm {K : PySem.W.Frag} {F : Hp} {a b : D} {x y : V} (ha : flat a = true) (hb : flat b = true) (ra : Rep N K F a x) (rb : Rep N K F b y) : eqV y x = decide (nrm a = nrm b) := by
  have ei : ∀ p q : Int, (q == p) = decide (D.int p = D.int q) := fun p q => by
    rw [Bool.beq_eq_decide_eq]
    by_cases h : q = p
    · subst h; simp
    · have h' : ¬ D.int p = D.int q := fun e => h (D.int.inj e).symm
      simp [h, h']
  have es : ∀ p q : Str, (q == p) = decide (D.str p = D.str q) := fun p q => by
    by_cases h : q = p
    · subst h; simp
    · have h' : ¬ D.str p = D.str q := fun e => h (D.str.inj e).symm
      have h2 : (q == p) = false := by simpa using h
      simp [h2, h']
  cases a <;> first | (cases ha; done) | skip
  all_goals cases ra
  all_goals (cases b <;> first | (cases hb; done) | skip)
  all_goals cases rb
  case int.refl.int.refl => exact ei _ _
  case str.refl.str.refl => exact es _ _
  case bl.refl.bl.refl p q => cases p <;> cases q <;> rfl
  case bl.refl.int.refl p q => exact ei _ _
  case int.refl.bl.refl p q => exact ei _ _
  all_goals rfl
theorem inV_mem {K : PySem.W.Frag} {F : Hp} {a : D} {x : V} (ha : flat a = true) (ra : Rep N K F a x) : ∀ {ds : List D} {vs : List V}, ds.all flat = true → Reps N K F ds vs → inV x vs = decide (nrm a ∈ nrms ds) ∧ vs.all flatV = true
  | [], [], _, _ => ⟨by simp [inV, nrms], rfl⟩
  | d :: ds, v :: vs, h, r => by
    rw [List.all_cons, Bool.and_eq_true] at h
    obtain ⟨h1, h2⟩ := inV_mem ha ra h.2 r.2
    refine ⟨?_, ?_⟩
    · show (eqV v x || inV x vs) = _
      rw [h1, eqV_nrm ha h.1 ra r.1]
      simp [nrms]
    · rw [List.all_cons, flat_rep h.1 r.1, h2]; rfl
  | [], _ :: _, _, r => r.elim
  | _ :: _, [], _, r => r.elim
/-! ### comparisons -/
def rCmp (N : Nam) (K : PySem.W.Frag) (o : Cop) : R2 := fun x y H Q => ∃ m M F a b, SimM N K m M F H ∧ RepW N K F m a x ∧ RepW N K F m b y ∧ ∃ k, cmpW M o a b = some k ∧ Q (.bl k) H
theorem isNon_rep {K : PySem.W.Frag} {F : Hp} {m : List Addr} {w : W} {v : V} (r : RepW N K F m w v) : decide (v = .non) = isNon w := by
  cases w with
  | p d =>
    cases d with
    | non => cases r; rfl
    | bl _ => cases r; rfl
    | int _ => cases r; rfl
    | str _ => cases r; rfl
    | tup _ => obtain ⟨a, ys, rfl, _⟩ := r; rfl
    | lst _ => obtain ⟨a, ys, rfl, _⟩ := r; rfl
    | dct _ _ => obtain ⟨a, ys, rfl, _⟩ := r; rfl
    | obj _ _ _ => obtain ⟨a, d, fs, rfl, _⟩ := r; rfl
    | exc _ _ _ => obtain ⟨a, d, fs, rfl, _⟩ := r; rfl
  | loc l => obtain ⟨a, _, rfl⟩ := r; rfl
  | tp ws => obtain ⟨a, ys, rfl, _⟩ := r; rfl
theorem non_rep {K : PySem.W.Frag} {F : Hp} {m : List Addr} {w : W} {v : V} (r : RepW N K F m w v) (h : isNon w = true) : v = .non := by
  have e := isNon_rep r
  rw [h] at e
  exact of_decide_eq_true e
theorem OpR.or {f : Value → Value → Sem Value} {r1 r2 : R2} (h1 : OpR X f r1) (h2 : OpR X f r2) : OpR X f (fun x y H Q => r1 x y H Q ∨ r2 x y H Q) :=
  fun pins s σ H x y v u Q I rx ry h => h.elim (fun h => h1 pins s σ H x y v u Q I rx ry h) (fun h => h2 pins s σ H x y v u Q I rx ry h)
theorem inn_cases {d e : D} {k : Bool} (h : cmpD .inn d e = some k) : (∃ (c : Nat) (z : Str), d = .str ⟨#[c]⟩ ∧ e = .str z ∧ k = decide (c ∈ z.cps.toList)) ∨ (∃ ds, (e = .tup ds ∨ e = .lst ds) ∧ memD d ds = some k) := by
  cases e with
  | tup ds => exact .inr ⟨ds, .inl rfl, by cases d <;> exact h⟩
  | lst ds => exact .inr ⟨ds, .inr rfl, by cases d <;> exact h⟩
  | str z =>
    cases d with
    | str x =>
      have h : (match x.cps.toList with
        | [c] => if decide (x = ⟨#[c]⟩) then some (decide (c ∈ z.cps.toList)) else none
        | _ => none) = some k := h
      split at h
      · rename_i c _
        split at h
        · rename_i w
          cases h
          rw [of_decide_eq_true w]
          exact .inl ⟨c, z, rfl, rfl, rfl⟩
        · cases h
      · cases h
    | _ => cases h
  | _ => cases d <;> cases h
theorem lst_at {K : PySem.W.Frag} {m : List Addr} {M : Mem} {F : Fx} {H : Hp} {w : W} {v : V} {n : Nat} (s : SimM N K m M F H) (r : RepW N K F m w v) (h : lstN M w = some n) : ∃ a ys, v = .ref a ∧ Rd H a (.lst ys) ∧ ys.length = n := by
  cases w with
  | tp ws => cases h
  | p d =>
    cases d with
    | lst ds =>
      obtain ⟨a, ys, h1, h2, h3⟩ := r
      cases h
      exact ⟨a, ys, h1, s.sub.rd h2, h3.length.symm⟩
    | _ => cases h
  | loc l =>
    obtain ⟨a, h1, rfl⟩ := r
    unfold lstN at h
    dsimp only at h
    cases q : M[l]? with
    | none => rw [q] at h; cases h
    | some c =>
      rw [q] at h
      have co := s.cell l a c h1 q
      cases c with
      | lst us =>
        cases h
        obtain ⟨_, ys, h3, h4⟩ := co
        exact ⟨a, ys, rfl, .inl h3, h4.length.symm⟩
      | fz d =>
        cases d with
        | lst ds =>
          cases h
          obtain ⟨a', ys, h3, h4, h5⟩ := co
          cases h3
          exact ⟨a, ys, rfl, s.sub.rd h4, h5.length.symm⟩
        | _ => cases h
      | _ => cases h
/-- == of lists that are not as long as one another -/
theorem op_len (ng : Bool) (hu : X.A.units + 64 < cLine) : OpR X (compareOp (if ng then .NotEq else .Eq)) (fun x y H Q => ∃ a b xs ys, x = .ref a ∧ y = .ref b ∧ Rd H a (.lst xs) ∧ Rd H b (.lst ys) ∧ xs.length ≠ ys.length ∧ Q (.bl ng) H) := by
  intro pins s σ H x y v u Q I rx ry h
  obtain ⟨a, b, xs, ys, rfl, rfl, h1, h2, hn, q⟩ := h
  cases rx
  cases ry
  obtain ⟨its, n, r, l1, e, _⟩ := rd_list I h1
  obtain ⟨its2, n2, r2, l2, e2, _⟩ := rd_list I h2
  have hsz : (its.toArray.size != its2.toArray.size) = true := by
    rw [bne_iff_ne, List.size_toArray, List.size_toArray, ← l1, ← l2]
    exact hn
  have la : s.heap.IsList a its.toArray := ⟨_, e, rfl, n, rfl⟩
  have lb : s.heap.IsList b its2.toArray := ⟨_, e2, rfl, n2, rfl⟩
  have fin : EP X pins σ Q (.bool ng) s := ⟨.bl ng, H, I, rfl, q⟩
  cases ng with
  | true => exact SeqAt.RcNeAt.lists_lengths la lb hsz (by omega) X.prog X.w X.xe _ fin
  | false => exact SeqAt.eq_list_lengthsAt la lb hsz (by omega) fin
theorem op_cmp (o : Cop) (hu : X.A.units + 64 < cLine) : OpR X (compareOp (cop o)) (rCmp N X.K o) := by
  intro pins s σ H x y v u Q I rx ry h
  obtain ⟨m, M, F, a, b, sm, ra, rb, k, h, q⟩ := h
  have data : ∀ {r : R2}, OpR X (compareOp (cop o)) r → (∀ (d e : D), Now N X.K F H d x → Now N X.K F H e y → cmpD o d e = some k → r x y H Q) → o ≠ .is → o ≠ .isn → wpAny (model X.prog X.w) X.A (compareOp (cop o) v u) (EP X pins σ Q) X.xe s := fun {r} ho hr h1 h2 => by
    have e : cmpW M o a b = match a.view M, b.view M with
      | some x, some y => (match cmpD o x y with
        | some k => some k
        | none => lenW M o a b)
      | _, _ => lenW M o a b := by cases o <;> first | rfl | exact absurd rfl h1 | exact absurd rfl h2
    rw [e] at h
    have len : lenW M o a b = some k → wpAny (model X.prog X.w) X.A (compareOp (cop o) v u) (EP X pins σ Q) X.xe s := fun h => by
      unfold lenW at h
      split at h
      · rename_i n1 n2 e1 e2
        obtain ⟨p, xs, rfl, q1, q2⟩ := lst_at sm ra e1
        obtain ⟨p', ys, rfl, q3, q4⟩ := lst_at sm rb e2
        split at h
        · cases h
        · rename_i hne
          cases o with
          | eq => cases h; exact op_len false hu pins s σ H _ _ v u Q I rx ry ⟨p, p', xs, ys, rfl, rfl, q1, q3, by rw [q2, q4]; exact hne, q⟩
          | ne => cases h; exact op_len true hu pins s σ H _ _ v u Q I rx ry ⟨p, p', xs, ys, rfl, rfl, q1, q3, by rw [q2, q4]; exact hne, q⟩
          | _ => cases h
      · cases h
    cases ea : a.view M with
    | none => rw [ea] at h; exact len h
    | some d =>
      cases eb : b.view M with
      | none => rw [ea, eb] at h; exact len h
      | some f =>
        rw [ea, eb] at h
        replace h : (match cmpD o d f with
          | some k => some k
          | none => lenW M o a b) = some k := h
        cases ec : cmpD o d f with
        | none => rw [ec] at h; exact len h
        | some k' =>
          rw [ec] at h
          cases h
          exact OpR.use ho I rx ry (hr d f (sm.view ra ea) (sm.view rb eb) ec)
  cases o with
  | is =>
    have h' : (if isNon b then some (isNon a) else none) = some k := h
    split at h'
    · rename_i z
      cases h'
      exact OpR.use op_isN I rx ry ⟨non_rep rb z, by rw [isNon_rep ra]; exact q⟩
    · cases h'
  | isn =>
    have h' : (if isNon b then some (!isNon a) else none) = some k := h
    split at h'
    · rename_i z
      cases h'
      exact OpR.use op_notN I rx ry ⟨non_rep rb z, by rw [isNon_rep ra]; exact q⟩
    · cases h'
  | eq =>
    refine data (r := fun x y H Q => rEq x y H Q ∨ rEqD X.K x y H Q) (fun pins s σ H x y v u Q I rx ry h => h.elim (fun h => op_eq pins s σ H x y v u Q I rx ry h) (fun h => op_eqD hu pins s σ H x y v u Q I rx ry h)) (fun d e n1 n2 h => ?_) (by decide) (by decide)
    rcases eqD_ok h with ⟨x, y, rfl, rfl, rfl⟩ | h
    · cases n1.str_at; cases n2.str_at
      exact .inl ⟨rfl, by rw [show decide (V.str x = V.str y) = decide (x = y) from decide_eq_decide.mpr ⟨fun h => V.str.inj h, fun h => by rw [h]⟩]; exact q⟩
    · obtain ⟨p1, p2, e1⟩ := eqP_ok h
      exact .inr ⟨_, _, n1.dp sm p1, n2.dp sm p2, shaped_of p1, shaped_of p2, by rw [e1]; exact q⟩
  | ne =>
    refine data (r := fun x y H Q => rNe x y H Q ∨ rNeD X.K x y H Q) (fun pins s σ H x y v u Q I rx ry h => h.elim (fun h => op_ne pins s σ H x y v u Q I rx ry h) (fun h => op_neD hu pins s σ H x y v u Q I rx ry h)) (fun d e n1 n2 h => ?_) (by decide) (by decide)
    have h' : (eqD d e).map (!·) = some k := h
    cases z : eqD d e with
    | none => rw [z] at h'; cases h'
    | some k' =>
      rw [z] at h'
      cases h'
      rcases eqD_ok z with ⟨x, y, rfl, rfl, rfl⟩ | z
      · cases n1.str_at; cases n2.str_at
        exact .inl ⟨rfl, by rw [show decide (V.str x = V.str y) = decide (x = y) from decide_eq_decide.mpr ⟨fun h => V.str.inj h, fun h => by rw [h]⟩]; exact q⟩
      · obtain ⟨p1, p2, e1⟩ := eqP_ok z
        exact .inr ⟨_, _, n1.dp sm p1, n2.dp sm p2, shaped_of p1, shaped_of p2, by rw [e1]; exact q⟩
  | lt =>
    refine data op_lt (fun d e n1 n2 h => ?_) (by decide) (by decide)
    cases d <;> cases e <;> first | (cases h; done) | skip
    cases n1.int_at; cases n2.int_at; cases h
    exact ⟨_, _, rfl, rfl, q⟩
  | le =>
    refine data op_le (fun d e n1 n2 h => ?_) (by decide) (by decide)
    cases d <;> cases e <;> first | (cases h; done) | skip
    cases n1.int_at; cases n2.int_at; cases h
    exact ⟨_, _, rfl, rfl, q⟩
  | gt =>
    refine data op_gt (fun d e n1 n2 h => ?_) (by decide) (by decide)
    cases d <;> cases e <;> first | (cases h; done) | skip
    cases n1.int_at; cases n2.int_at; cases h
    exact ⟨_, _, rfl, rfl, q⟩
  | ge =>
    refine data op_ge (fun d e n1 n2 h => ?_) (by decide) (by decide)
    cases d <;> cases e <;> first | (cases h; done) | skip
    cases n1.int_at; cases n2.int_at; cases h
    exact ⟨_, _, rfl, rfl, q⟩
  | inn =>
    refine data (OpR.or op_in_sign op_in_seq) (fun d e n1 n2 h => ?_) (by decide) (by decide)
    have key : ∀ {ds : List D} {ys : List V}, memD d ds = some k → Reps N X.K F ds ys → flatV x = true ∧ ys.all flatV = true ∧ k = inV x ys := fun {ds ys} h r => by
      unfold memD at h
      split at h
      · rename_i z
        obtain ⟨z1, z2⟩ := Bool.and_eq_true_iff.mp z
        cases h
        have rd : Rep N X.K F d x := by
          cases n1 with
          | p r => exact r
          | lst _ _ => cases z1
        obtain ⟨e1, e2⟩ := inV_mem z1 rd z2 r
        exact ⟨flat_rep z1 rd, e2, e1.symm⟩
      · cases h
    rcases inn_cases h with ⟨c, z, rfl, rfl, rfl⟩ | ⟨ds, (rfl | rfl), hm⟩
    · cases n1.str_at; cases n2.str_at
      exact .inl ⟨c, z, rfl, rfl, q⟩
    · obtain ⟨p, ys, rfl, e1, r⟩ := n2.tup_at
      obtain ⟨k1, k2, k3⟩ := key hm r
      exact .inr ⟨p, ys, rfl, .inr (sm.sub.sqT e1), k1, k2, by rw [← k3]; exact q⟩
    · obtain ⟨p, ys, rfl, e1, r⟩ := n2.lst_at sm
      obtain ⟨k1, k2, k3⟩ := key hm r
      exact .inr ⟨p, ys, rfl, .inl (.inl e1), k1, k2, by rw [← k3]; exact q⟩
  | nin =>
    refine data (OpR.or op_notIn_sign op_notIn_seq) (fun d e n1 n2 h => ?_) (by decide) (by decide)
    have key : ∀ {ds : List D} {ys : List V}, (memD d ds).map (!·) = some k → Reps N X.K F ds ys → flatV x = true ∧ ys.all flatV = true ∧ k = !inV x ys := fun {ds ys} h r => by
      cases zz : memD d ds with
      | none => rw [zz] at h; cases h
      | some k' =>
        rw [zz] at h
        cases h
        unfold memD at zz
        split at zz
        · rename_i z
          obtain ⟨z1, z2⟩ := Bool.and_eq_true_iff.mp z
          cases zz
          have rd : Rep N X.K F d x := by
            cases n1 with
            | p r => exact r
            | lst _ _ => cases z1
          obtain ⟨e1, e2⟩ := inV_mem z1 rd z2 r
          exact ⟨flat_rep z1 rd, e2, by rw [e1]⟩
        · cases zz
    cases e <;> first | (cases d <;> cases h; done) | skip
    · rename_i z
      cases d <;> first | (cases h; done) | skip
      rename_i x'
      replace h : (cmpD .inn (.str x') (.str z)).map (!·) = some k := h
      cases e0 : cmpD .inn (.str x') (.str z) with
      | none => rw [e0] at h; cases h
      | some k' =>
        rw [e0] at h
        cases h
        rcases inn_cases e0 with ⟨c, z', e1, e2, e3⟩ | ⟨ds, (e1 | e1), _⟩
        · cases e1
          cases e2
          subst e3
          cases n1.str_at; cases n2.str_at
          exact .inl ⟨c, z, rfl, rfl, q⟩
        · cases e1
        · cases e1
    · obtain ⟨p, ys, rfl, e1, r⟩ := n2.tup_at
      obtain ⟨k1, k2, k3⟩ := key (by cases d <;> exact h) r
      exact .inr ⟨p, ys, rfl, .inr (sm.sub.sqT e1), k1, k2, by rw [if_pos rfl, ← k3]; exact q⟩
    · obtain ⟨p, ys, rfl, e1, r⟩ := n2.lst_at sm
      obtain ⟨k1, k2, k3⟩ := key (by cases d <;> exact h) r
      exact .inr ⟨p, ys, rfl, .inl (.inl e1), k1, k2, by rw [if_pos rfl, ← k3]; exact q⟩
/-! ### truth -/
theorem tru_of {K : PySem.W.Frag} {m : List Addr} {M : Mem} {F : Fx} {H : Hp} {w : W} {v : V} {k : Bool} (s : SimM N K m M F H) (r : RepW N K F m w v) (h : tru M w = some k) : TruV K v H k := by
  have e0 : ∀ {ds : List D} {ys : List V}, Reps N K F ds ys → (!ds.isEmpty) = !ys.isEmpty := fun {ds ys} r => by
    cases ds <;> cases ys <;> first | rfl | exact r.elim
  have e1 : ∀ {ds : List W} {ys : List V}, RepWs N K F m ds ys → (!ds.isEmpty) = !ys.isEmpty := fun {ds ys} r => by
    cases ds <;> cases ys <;> first | rfl | exact r.elim
  cases w with
  | p d =>
    cases d with
    | non => cases r; cases h; exact rfl
    | bl b => cases r; cases h; exact rfl
    | int i => cases r; cases h; exact rfl
    | str z =>
      cases r
      have h' : (if z.length ≤ 100000 then some (z.length != 0) else none) = some k := h
      split at h'
      · rename_i q
        cases h'
        refine ⟨le_line q, ?_⟩
        generalize z.length = n
        cases n with
        | zero => rfl
        | succ n =>
          have e : (((n + 1 : Nat) : Int) != 0) = true := bne_iff_ne.mpr (by omega)
          rw [e]
          rfl
      · cases h'
    | tup xs =>
      obtain ⟨a, ys, rfl, e, r⟩ := r
      cases h
      exact .inr (.inl ⟨ys, s.sub.sqT e, e0 r⟩)
    | lst xs =>
      obtain ⟨a, ys, rfl, e, r⟩ := r
      cases h
      exact .inl ⟨ys, .inl (s.sub.rd e), e0 r⟩
    | _ => cases h
  | tp ws =>
    obtain ⟨a, ys, rfl, e, r⟩ := r
    cases h
    exact .inr (.inl ⟨ys, s.sub.sqT e, e1 r⟩)
  | loc l =>
    obtain ⟨a, h1, rfl⟩ := r
    unfold tru at h
    dsimp only at h
    cases q : M[l]? with
    | none => rw [q] at h; cases h
    | some c =>
      rw [q] at h
      have co := s.cell l a c h1 q
      cases c with
      | lst us =>
        cases h
        obtain ⟨_, ys, h3, h4⟩ := co
        exact .inl ⟨ys, SqL.of h3, e1 h4⟩
      | fz d =>
        cases d with
        | lst ds =>
          cases h
          obtain ⟨a', ys, h3, h4, h5⟩ := co
          cases h3
          exact .inl ⟨ys, .inl (s.sub.rd h4), e0 h5⟩
        | _ => cases h
      | _ => cases h
/-! ### subscripts, slices -/
theorem RepWs.at {K : PySem.W.Frag} {F : Hp} {m : List Addr} {ws : List W} {vs : List V} {i : Int} {w : W} (r : RepWs N K F m ws vs) (h : at? ws i = some w) : ∃ v, atI vs i = some v ∧ RepW N K F m w v := by
  unfold at? at h
  have e : ixI ws.length i = ixN vs.length i := by rw [r.length]; rfl
  rw [e] at h
  unfold atI
  cases q : ixN vs.length i with
  | none => rw [q] at h; cases h
  | some j =>
    rw [q] at h
    exact r.get h
def rIdx (N : Nam) (K : PySem.W.Frag) : R2 := fun x y H Q => ∃ m M F a b w, SimM N K m M F H ∧ RepW N K F m a x ∧ RepW N K F m b y ∧ idxW M a b = some w ∧ ∀ v, RepW N K F m w v → Q v H
theorem ix_W : IxR X (rIdx N X.K) := by
  intro value slice pins s σ H x y v u Q I rx ry h hs
  refine ix_seq value slice pins s σ H x y v u Q I rx ry ?_ hs
  obtain ⟨m, M, F, a, b, w, sm, ra, rb, h, q⟩ := h
  cases b with
  | p d =>
    cases d with
    | int k =>
      cases rb
      by_cases sa : ∃ z, a = .p (.str z)
      · obtain ⟨z, rfl⟩ := sa
        cases (show x = .str z from ra)
        have h' : (if szOk z.length then (at? z.cps.toList k).map fun c => W.p (.str ⟨#[c]⟩) else none) = some w := h
        split at h'
        · rename_i z2
          obtain ⟨c, hc, rfl⟩ := Option.map_eq_some_iff.mp h'
          exact .inr (.inr ⟨z, k, c, rfl, rfl, szOk_le z2, hc, q _ rfl⟩)
        · cases h'
      have h' : (match a.items M with | some ws => at? ws k | none => none) = some w := by
        cases a with
        | p d => cases d <;> first | exact h | exact absurd ⟨_, rfl⟩ sa
        | _ => exact h
      cases e : a.items M with
      | none => rw [e] at h'; cases h'
      | some ws =>
        rw [e] at h'
        obtain ⟨p, ys, rfl, hq, r⟩ := sm.items ra e
        obtain ⟨v, h1, h2⟩ := r.at h'
        rcases hq with hq | hq
        · exact .inl ⟨p, ys, k, v, rfl, rfl, hq, h1, q v h2⟩
        · exact .inr (.inl ⟨p, ys, k, v, rfl, rfl, hq, h1, q v h2⟩)
    | _ => cases h
  | _ => cases h
theorem cutPt_eq (n d : Nat) (o : Option Int) : cutPt n d o = HT.sIx n d o := by cases o <;> rfl
theorem Reps.cut {K : PySem.W.Frag} {F : Hp} {ds : List D} {vs : List V} (r : Reps N K F ds vs) (lo hi : Option Int) : Reps N K F (cutL ds lo hi) (cutV vs lo hi) := by
  unfold cutL cutV
  rw [cutPt_eq, cutPt_eq, r.length]
  exact (r.drop _).take _

def rSlc (N : Nam) (K : PySem.W.Frag) : V → Option Int → Option Int → Hp → VK → Prop := fun x lo hi H Q => ∃ m M F a ds, SimM N K m M F H ∧ RepW N K F m a x ∧
  ((∃ z, a.view M = some (.str z) ∧ szOk z.length = true ∧ VRes N K Q m M F (some (.p (.str (cutS z lo hi))))) ∨ (a.view M = some (.lst ds) ∧ VRes N K Q m M F (some (.p (.lst (cutL ds lo hi))))) ∨ (a.view M = some (.tup ds) ∧ VRes N K Q m M F (some (.p (.tup (cutL ds lo hi))))))
theorem cutL_whole {α : Type} {xs : List α} {lo hi : Option Int} (h1 : cutPt xs.length 0 lo = 0) (h2 : cutPt xs.length xs.length hi = xs.length) : cutL xs lo hi = xs := by
  unfold cutL
  rw [h1, h2]
  simp
theorem sl_W : SlR X (rSlc N X.K) := by
  intro pins s σ H x v vl vu lo hi sl Q I rx hs pl pu h
  obtain ⟨m, M, F, a, ds, sm, ra, h⟩ := h
  rcases h with ⟨z, e, z2, h⟩ | ⟨e, h⟩ | ⟨e, h⟩
  · cases (sm.view ra e).str_at
    exact sl_str pins s σ H _ v vl vu lo hi sl Q I rx hs pl pu ⟨z, rfl, szOk_le z2, VRes.same sm h rfl⟩
  · obtain ⟨p, ys, rfl, e1, r⟩ := (sm.view ra e).lst_at sm
    exact sl_list pins s σ H _ v vl vu lo hi sl Q I rx hs pl pu ⟨p, ys, rfl, .inl e1, VRes.lst sm (r.cut lo hi) h⟩
  · obtain ⟨p, ys, rfl, e1, r⟩ := (sm.view ra e).tup_at
    refine sl_tupA pins s σ H _ v vl vu lo hi sl Q I rx hs pl pu ⟨p, ys, rfl, sm.sub.sqT e1, fun z => ?_, fun _ => VRes.tupD sm (r.cut lo hi) h⟩
    have z1 : cutPt ds.length 0 lo = 0 := by rw [cutPt_eq, r.length]; exact z.1
    have z2 : cutPt ds.length ds.length hi = ds.length := by rw [cutPt_eq, r.length]; exact z.2
    rw [cutL_whole z1 z2] at h
    exact VRes.same sm h ⟨p, ys, rfl, e1, r⟩
end
end G

set_option maxHeartbeats 4000000
/-! What the top has written of the classes; attributes, isinstance, built-in calls, by values. -/
namespace G
open PySem PySem.Spec PyProof.Rows L2

def tyV (N : Nam) : Ty → Value
  | .non => .type "NoneType" | .bool => .type "bool" | .int => .type "int" | .str => .type "str" | .tup => .type "tuple" | .lst => .type "list" | .dct => .type "dict" | .own c => .ref (N.cA c)
def tycV (N : Nam) : TyC → Value
  | .own c => .ref (N.cA c) | .int => .type "int" | .bool => .type "bool" | .str => .type "str" | .list => .type "list" | .tuple => .type "tuple" | .dict => .type "dict" | .verr => .type "ValueError"
  | .oerr n => .type n
def tycX (N : Nam) : TyC → V
  | .own c => .ref (N.cA c) | .int => .ty "int" | .bool => .ty "bool" | .str => .ty "str" | .list => .ty "list" | .tuple => .ty "tuple" | .dict => .ty "dict" | .verr => .ty "ValueError"
  | .oerr n => .ty n
/-- what is known of the classes -/
structure TieC (P : Prog) (N : Nam) (K : PySem.W.Frag) : Prop where
  sysm : (K.lookup sysModules).isSome = true
  own : ∀ c k, P.cls c = some k → k.isX = false → Cls K (N.cA c) ∧ PySem.W.findIn K (.ref (N.cA c)) "__class__" = some (some (.builtin "object.__class__")) ∧ PySem.W.mroIn K (N.cA c) (.type "object") = some true
  exc : ∀ c k, P.cls c = some k → k.isX = true → XfC K (N.cA c) ∧ PySem.W.findIn K (.ref (N.cA c)) "__class__" = some (some (.builtin "object.__class__")) ∧ PySem.W.mroIn K (N.cA c) (.type "object") = some true
  dsc : PySem.W.specialIn K (.builtin "object.__class__") "__get__" = some (some (.builtin "getset_descriptor.__get__")) ∧ PySem.W.takesIn K (.builtin "object.__class__") = some true
  kit : ∀ tc, P.isis.contains tc = true → ∀ t, (∀ c, t = .own c → ∃ k, P.cls c = some k) → PySem.W.kitOne K (tyV N t) (tycV N tc) = some (isT P t tc)
  noat : ∀ c k f, P.cls c = some k → k.flds.contains f = true → PySem.W.findIn K (.ref (N.cA c)) (N.at_ f) = some none
  inj : ∀ c k f g, P.cls c = some k → k.flds.contains f = true → k.flds.contains g = true → N.at_ f = N.at_ g → f = g
  eqf : ∀ c f, P.eqf c = some f → PySem.W.findIn K (.ref (N.cA c)) "__eq__" = some (some (.ref (N.fA f))) ∧ PySem.W.isFn K (.ref (N.fA f)) = true ∧ PySem.W.findIn K (.ref (N.cA c)) "__ne__" = some (some (.builtin "object.__ne__")) ∧ PySem.W.subIn K (.ref (N.cA c)) (.type "object") = some true
  nof : ∀ c f t, P.eqf c = some f → t ∈ [Ty.tup, .str, .non] → PySem.W.notFirst K (N.cA c) (tyV N t) = true
  sub : ∀ c c' f k', P.eqf c = some f → P.cls c' = some k' → k'.isX = false → c ≠ c' → N.cA c ≠ N.cA c' ∧ PySem.W.subIn K (.ref (N.cA c')) (.ref (N.cA c)) = some (k'.anc.contains c)

/-! ### a caught exception's class -/
theorem kit_exc {K : PySem.W.Frag} {x C : Addr} {ox : Obj} {od : Option Obj} (T : XfC K C) (ha : PySem.W.findIn K (.ref C) "__class__" = some (some (.builtin "object.__class__")))
    (hn : PySem.W.specialIn K (.builtin "object.__class__") "__get__" = some (some (.builtin "getset_descriptor.__get__"))) (htk : PySem.W.takesIn K (.builtin "object.__class__") = some true) (hm : PySem.W.mroIn K C (.type "object") = some true) :
    PySem.W.KitX K (.ref x) (.ref C) (fun h => PySem.W.InstAt h x ox C od) :=
  PySem.W.kitx_exc (by obtain ⟨cd, hc, _⟩ := PySem.W.any_some T.hdC; rw [hc]; rfl) T.ga T.gg T.exC ha hn htk hm
section
variable {X : Cx} {N : Nam} {P : Prog} {pins : List (Addr × Obj)} {s : Shared} {σ : L2.St}
/-- a caught exception's object, its dict -/
theorem exc_inst {F H : Hp} {a C d : Addr} {fs : List (Str × V)} (I : L2.Inv X pins σ H s) (h1 : H a = some (excHO C (some d) a)) (h2 : H d = some (.xd fs)) :
    ∃ ox od mA, PySem.W.InstAt s.heap a ox C (some od) ∧ s.heap.Ns1 d mA ∧ (∀ f, RelO (fs.lookup f) (mA f)) ∧ s.heap.get? d = some od := by
  obtain ⟨⟨oe, vs, e, z, hd⟩, _⟩ := (show ObjOk X.prog X.w H s.heap a (excHO C (some d) a) from I.hok a _ h1)
  obtain ⟨mA, hn, hr⟩ := (show ObjOk X.prog X.w H s.heap d (.xd fs) from I.hok d _ h2)
  obtain ⟨od, es, ep, ho, hx⟩ := id hn
  exact ⟨oe, od, mA, ⟨e, z.1, by unfold PySem.W.notCls; rw [hd] <;> rfl, by rw [z.2]; exact ho⟩, hn, hr, ho⟩
theorem own_kit {c : Nat} {b : Bool} {t : Ty} (h : ownTy P c b = some t) : t = .own c ∧ ∃ k, P.cls c = some k ∧ k.isX = b := by
  unfold ownTy at h
  split at h
  · rename_i k hk
    split at h
    · rename_i z
      cases h
      exact ⟨rfl, k, hk, beq_iff_eq.mp z⟩
    · cases h
  · cases h
theorem kit_D {F H : Hp} (T : TieC P N X.K) (sub : Xt F H) (I : L2.Inv X pins σ H s) {d : D} {v : V} {u : Value} {t : Ty} (r : Rep N X.K F d v) (ru : RelV v u) (h : tyD P d = some t) :
    (∃ Z : Heap → Prop, PySem.W.KitX X.K u (tyV N t) Z ∧ Z s.heap ∧ u ≠ .builtin "__main__.__loader__#opaque") ∧ ∀ c, t = .own c → ∃ k, P.cls c = some k := by
  have base : ∀ {ty : Value}, TyX X.K H v ty → tyV N t = ty → (∀ c, t ≠ .own c) → (∃ Z : Heap → Prop, PySem.W.KitX X.K u (tyV N t) Z ∧ Z s.heap ∧ u ≠ .builtin "__main__.__loader__#opaque") ∧ ∀ c, t = .own c → ∃ k, P.cls c = some k := fun {ty} b e n => by
    subst e
    exact ⟨kit_of I ru b, fun c e => absurd e (n c)⟩
  cases d with
  | non => cases r; cases h; exact base (.base .non) rfl (fun _ e => nomatch e)
  | bl b => cases r; cases h; exact base (.base (.bl b)) rfl (fun _ e => nomatch e)
  | int b => cases r; cases h; exact base (.base (.int b)) rfl (fun _ e => nomatch e)
  | str b => cases r; cases h; exact base (.base (.str b)) rfl (fun _ e => nomatch e)
  | tup xs =>
    obtain ⟨a, ys, rfl, e, _⟩ := r
    cases h
    refine base ?_ rfl (fun _ e => nomatch e)
    rcases e with (e | ⟨o, e⟩) | ⟨o, its, n, e, c, _⟩
    · exact .base (.tup (sub _ _ e))
    · exact .fTuple (sub _ _ e)
    · exact .kTuple e c
  | lst xs =>
    obtain ⟨a, ys, rfl, e, _⟩ := r
    cases h
    refine base ?_ rfl (fun _ e => nomatch e)
    rcases e with e | ⟨o, e⟩
    · exact .base (.lst (sub _ _ e))
    · exact .base (.frz (sub _ _ e))
  | dct ks vs =>
    obtain ⟨a, kvs, rfl, e, _⟩ := r
    cases h
    exact base (.base (.dK (sub _ _ e))) rfl (fun _ e => nomatch e)
  | obj c ns vs =>
    obtain ⟨a, dx, fs, rfl, e, _⟩ := r
    obtain ⟨rfl, k, hk, hx⟩ := own_kit h
    obtain ⟨t1, t2, t3⟩ := T.own c k hk hx
    exact ⟨kit_of I ru (.base (.ins (sub _ _ e) t1 t2 T.dsc.1 T.dsc.2 t3)), fun c' e => by cases e; exact ⟨k, hk⟩⟩
  | exc c ns vs =>
    obtain ⟨a, d, fs, rfl, e1, e2, _⟩ := r
    obtain ⟨rfl, k, hk, hx⟩ := own_kit h
    obtain ⟨t1, t2, t3⟩ := T.exc c k hk hx
    obtain ⟨ox, od, mA, J, _⟩ := exc_inst (F := F) I (sub _ _ e1) (sub _ _ e2)
    cases ru
    exact ⟨⟨_, kit_exc t1 t2 T.dsc.1 T.dsc.2 t3, J, fun z => nomatch z⟩, fun c' e => by cases e; exact ⟨k, hk⟩⟩
theorem kit_W {m : List Addr} {M : Mem} {F : Fx} {H : Hp} (T : TieC P N X.K) (sm : SimM N X.K m M F H) (I : L2.Inv X pins σ H s) {w : W} {v : V} {u : Value} {t : Ty} (r : RepW N X.K F m w v) (ru : RelV v u) (h : tyW P M w = some t) :
    (∃ Z : Heap → Prop, PySem.W.KitX X.K u (tyV N t) Z ∧ Z s.heap ∧ u ≠ .builtin "__main__.__loader__#opaque") ∧ ∀ c, t = .own c → ∃ k, P.cls c = some k := by
  cases w with
  | p d => exact kit_D T sm.sub I r ru h
  | tp ws =>
    obtain ⟨a, ys, rfl, e, _⟩ := r
    cases h
    refine ⟨kit_of I ru ?_, fun _ e => nomatch e⟩
    rcases e with (e | ⟨o, e⟩) | ⟨o, its, n, e, c, _⟩
    · exact .base (.tup (sm.sub _ _ e))
    · exact .fTuple (sm.sub _ _ e)
    · exact .kTuple e c
  | loc l =>
    obtain ⟨a, h1, rfl⟩ := r
    unfold tyW at h
    dsimp only at h
    cases q : M[l]? with
    | none => rw [q] at h; cases h
    | some c =>
      rw [q] at h
      have co := sm.cell l a c h1 q
      cases c with
      | lst us =>
        cases h
        obtain ⟨_, ys, h3, h4⟩ := co
        exact ⟨kit_of I ru (.base (.lst h3)), fun _ e => nomatch e⟩
      | fz d => exact kit_D T sm.sub I co ru h
      | ins c ns ws =>
        obtain ⟨_, dx, fs, h3, h4⟩ := co
        obtain ⟨rfl, k, hk, hx⟩ := own_kit h
        obtain ⟨t1, t2, t3⟩ := T.own c k hk hx
        exact ⟨kit_of I ru (.base (.ins h3 t1 t2 T.dsc.1 T.dsc.2 t3)), fun c' e => by cases e; exact ⟨k, hk⟩⟩
      | dic ks ws =>
        cases h
        obtain ⟨_, kvs, h3, h4⟩ := co
        exact ⟨kit_of I ru (.base (.dK h3)), fun _ e => nomatch e⟩
theorem kit_any {K : PySem.W.Frag} (T : TieC P N K) {t : Ty} (ht : ∀ c, t = .own c → ∃ k, P.cls c = some k) : ∀ {cs : List TyC}, cs.all P.isis.contains = true → PySem.W.kitAny K (tyV N t) (cs.map (tycV N)) = some (cs.any (isT P t))
  | [], _ => rfl
  | c :: r, h => by
    rw [List.all_cons, Bool.and_eq_true] at h
    have e := T.kit c h.1 t ht
    have ih := kit_any T ht h.2
    show (match PySem.W.kitOne K (tyV N t) (tycV N c) with
      | some true => some true
      | some false => PySem.W.kitAny K (tyV N t) (r.map (tycV N))
      | none => none) = _
    rw [e, List.any_cons, ih]
    cases isT P t c <;> rfl
/-- isinstance(x, c); isinstance(x, (c1, ..)), the tuple just laid -/
def rIsi1 (P : Prog) (N : Nam) (K : PySem.W.Frag) (c : TyC) : List V → Hp → VK → Prop := fun vs H Q => ∃ x m M F w t, vs = [x, tycX N c] ∧ SimM N K m M F H ∧ RepW N K F m w x ∧ tyW P M w = some t ∧ Q (.bl (isT P t c)) H
def rIsiN (P : Prog) (N : Nam) (K : PySem.W.Frag) (cs : List TyC) : List V → Hp → VK → Prop := fun vs H Q => ∃ x tp m M F w t, vs = [x, .ref tp] ∧ H tp = some (.tup (cs.map (tycX N))) ∧ SimM N K m M F H ∧ RepW N K F m w x ∧ tyW P M w = some t ∧ Q (.bl (cs.any (isT P t))) H
theorem tyc_rel {c : TyC} {u : Value} (r : RelV (tycX N c) u) : u = tycV N c := by cases c <;> exact r
theorem tycs_rel : ∀ {cs : List TyC} {us : List Value}, Vals (cs.map (tycX N)) us → us = cs.map (tycV N)
  | [], _, r => by cases r; rfl
  | c :: cs, _, r => by
    cases r with
    | cons r1 r2 => rw [tyc_rel r1, tycs_rel r2]; rfl
theorem call_isi1 {c : TyC} (T : TieC P N X.K) (hc : P.isis.contains c = true) : CallR X (.builtin "isinstance") (rIsi1 P N X.K c) := by
  intro pins s σ H xs us Q I r h
  obtain ⟨x, m, M, F, w, t, rfl, sm, rw', ht, q⟩ := h
  obtain ⟨u1, u2, rfl, r1, r2⟩ := vals2 r
  obtain ⟨⟨Z, kx, hz, ne⟩, hk⟩ := kit_W T sm I rw' r1 ht
  rw [tyc_rel r2]
  exact PySem.W.kia_one kx I.kIn hz (T.kit c hc t hk) ne fun tk => ⟨.bl _, H, I.tok tk, rfl, q⟩
theorem call_isiN {cs : List TyC} (T : TieC P N X.K) (hc : cs.all P.isis.contains = true) : CallR X (.builtin "isinstance") (rIsiN P N X.K cs) := by
  intro pins s σ H xs us Q I r h
  obtain ⟨x, tp, m, M, F, w, t, rfl, hT, sm, rw', ht, q⟩ := h
  obtain ⟨u1, u2, rfl, r1, r2⟩ := vals2 r
  cases (show u2 = Value.ref tp from r2)
  obtain ⟨⟨Z, kx, hz, ne⟩, hk⟩ := kit_W T sm I rw' r1 ht
  obtain ⟨_, its, rv, o, h1, h2, n, h3⟩ := (show ObjOk X.prog X.w H s.heap tp (.tup (cs.map (tycX N))) from I.hok tp _ hT)
  have e3 := tycs_rel rv
  subst e3
  obtain ⟨oc, od, dt, sl⟩ := o
  simp only at h2 h3
  subst h2 h3
  exact PySem.W.kia_tup kx I.kIn hz h1 (kit_any T hk hc) ne fun tk => ⟨.bl _, H, I.tok tk, rfl, q⟩
/-! ### attributes -/
theorem fld_tie {K : PySem.W.Frag} (T : TieC P N K) {c f : Nat} {b : Bool} (h : fldOk P c f b = true) : ∃ k, P.cls c = some k ∧ k.isX = b ∧ PySem.W.findIn K (.ref (N.cA c)) (N.at_ f) = some none := by
  unfold fldOk at h
  split at h
  · rename_i k hk
    obtain ⟨h1, h2⟩ := Bool.and_eq_true_iff.mp h
    exact ⟨k, hk, beq_iff_eq.mp h2, T.noat c k f hk h1⟩
  · cases h
theorem att_obj (T : TieC P N X.K) (I : L2.Inv X pins σ H s) {a dx : Addr} {c f : Nat} {fs : List (Str × V)} {v : V} (hf : fldOk P c f false = true) (e : H a = some (.ins (N.cA c) dx fs)) (l : fs.lookup (N.at_ f) = some v)
    {Q : Value → Shared → Prop} {E : Value → Shared → Prop} {A : Around} (h : ∀ u s', L2.Inv X pins σ H s' → RelV v u → Q u s') : wpAny (model X.prog X.w) A (getAttr (.ref a) (N.at_ f) true) Q E s := by
  obtain ⟨k, hk, hx, hn⟩ := fld_tie T hf
  exact getattr_ok I e (T.own c k hk hx).1 hn l h
theorem att_exc {H : Hp} (T : TieC P N X.K) (I : L2.Inv X pins σ H s) {a d : Addr} {c f : Nat} {fs : List (Str × V)} {v : V} (hf : fldOk P c f true = true) (e1 : H a = some (excHO (N.cA c) (some d) a)) (e2 : H d = some (.xd fs)) (l : fs.lookup (N.at_ f) = some v)
    {Q : Value → Shared → Prop} {E : Value → Shared → Prop} {A : Around} (h : ∀ u s', L2.Inv X pins σ H s' → RelV v u → Q u s') : wpAny (model X.prog X.w) A (getAttr (.ref a) (N.at_ f) true) Q E s := by
  obtain ⟨k, hk, hx, hn⟩ := fld_tie T hf
  obtain ⟨ox, od, mA, J, hns, hr, ho⟩ := exc_inst (F := H) I e1 e2
  have T' := (T.exc c k hk hx).1
  obtain ⟨od', ho', hl⟩ := lookIn_ns hns
  rw [ho] at ho'
  cases ho'
  obtain ⟨u, hu, ru⟩ := RelO.some_of (v := v) (o := mA (N.at_ f)) (by rw [← l]; exact hr _)
  exact HandSPX.exc_get I.kIn J T'.ga T'.gg T'.exC (PySem.W.findObj_own T'.hdC hn rfl (by rw [hl, hu])) (handed_of ru) (h u _ (I.tok _) ru)
def rAtt (P : Prog) (N : Nam) (K : PySem.W.Frag) (f : Nat) : V → Hp → VK → Prop := fun x H Q => ∃ m M F a w, SimM N K m M F H ∧ RepW N K F m a x ∧ attW P M a f = some w ∧ ∀ v, RepW N K F m w v → Q v H
theorem att_W {f : Nat} {H : Hp} {x : V} {v : Value} {Q : VK} (T : TieC P N X.K) (I : L2.Inv X pins σ H s) (rx : RelV x v) (h : rAtt P N X.K f x H Q) : wpAny (model X.prog X.w) X.A (getAttr v (N.at_ f) true) (EP X pins σ Q) X.xe s := by
  obtain ⟨m, M, F, a, w, sm, ra, h, q⟩ := h
  have fin : ∀ {y : V} {s' : Shared} {u : Value}, RepW N X.K F m w y → L2.Inv X pins σ H s' → RelV y u → EP X pins σ Q u s' := fun r I' ru => ⟨_, H, I', ru, q _ r⟩
  have obj : ∀ {c : Nat} {ns : List Nat} {vs : List D} {b : Addr}, Rep N X.K F (.obj c ns vs) (.ref b) → (if fldOk P c f false then (lookF f ns vs).map W.p else none) = some w → wpAny (model X.prog X.w) X.A (getAttr (.ref b) (N.at_ f) true) (EP X pins σ Q) X.xe s := fun {c ns vs b} r h => by
    split at h
    · rename_i z
      obtain ⟨a', dx, fs, e0, e, rf, _⟩ := r
      cases e0
      cases l : lookF f ns vs with
      | none => rw [l] at h; cases h
      | some d =>
        rw [l] at h
        cases h
        obtain ⟨y, l1, r1⟩ := rf.look l
        exact att_obj T I z (sm.sub _ _ e) l1 fun u s' I' ru => fin r1 I' ru
    · cases h
  cases a with
  | p d =>
    cases d with
    | obj c ns vs =>
      obtain ⟨b, _, _, rfl, _⟩ := id ra
      cases rx
      exact obj ra h
    | exc c ns vs =>
      have h' : (if fldOk P c f true then (lookF f ns vs).map W.p else none) = some w := h
      split at h'
      · rename_i z
        obtain ⟨a', d, fs, rfl, e1, e2, rf⟩ := ra
        cases rx
        cases l : lookF f ns vs with
        | none => rw [l] at h'; cases h'
        | some d =>
          rw [l] at h'
          cases h'
          obtain ⟨y, l1, r1⟩ := rf.look l
          exact att_exc T I z (sm.sub _ _ e1) (sm.sub _ _ e2) l1 fun u s' I' ru => fin r1 I' ru
      · cases h'
    | _ => cases h
  | tp ws => cases h
  | loc l =>
    obtain ⟨b, h1, rfl⟩ := ra
    cases rx
    unfold attW at h
    dsimp only at h
    cases q' : M[l]? with
    | none => rw [q'] at h; cases h
    | some c =>
      rw [q'] at h
      have co := sm.cell l b c h1 q'
      cases c with
      | ins c ns ws =>
        have h' : (if fldOk P c f false then lookF f ns ws else none) = some w := h
        split at h'
        · rename_i z
          obtain ⟨_, dx, fs, e, rf, _⟩ := co
          obtain ⟨y, l1, r1⟩ := rf.look h'
          exact att_obj T I z e l1 fun u s' I' ru => fin r1 I' ru
        · cases h'
      | fz d =>
        cases d with
        | obj c ns vs => exact obj co h
        | _ => cases h
      | _ => cases h
end
end G

set_option maxHeartbeats 4000000
/-! The built-in functions, by values. -/
namespace G
open PySem PySem.Spec PyProof.Rows L2

theorem ins_perm (x : Int) : ∀ r : List Int, (ins x r).Perm (x :: r)
  | [] => .refl _
  | y :: r => by
    unfold ins
    split
    · exact .refl _
    · exact ((ins_perm x r).cons y).trans (.swap x y r)
theorem isort_perm : ∀ r : List Int, (isort r).Perm r
  | [] => .refl _
  | x :: r => (ins_perm x (isort r)).trans ((isort_perm r).cons x)
theorem ins_up (x : Int) : ∀ r : List Int, r.Pairwise (· ≤ ·) → (ins x r).Pairwise (· ≤ ·)
  | [], _ => by simp [ins]
  | y :: r, h => by
    obtain ⟨h1, h2⟩ := List.pairwise_cons.mp h
    unfold ins
    split
    · rename_i g
      refine List.pairwise_cons.mpr ⟨fun z hz => ?_, h⟩
      rcases List.mem_cons.mp hz with rfl | hz
      · exact g
      · exact Int.le_trans g (h1 z hz)
    · rename_i g
      refine List.pairwise_cons.mpr ⟨fun z hz => ?_, ins_up x r h2⟩
      rcases List.mem_cons.mp ((ins_perm x r).subset hz) with rfl | hz
      · omega
      · exact h1 z hz
theorem isort_up : ∀ r : List Int, (isort r).Pairwise (· ≤ ·)
  | [] => .nil
  | x :: r => ins_up x _ (isort_up r)
theorem up_one : ∀ {a b : List Int}, a.Perm b → a.Pairwise (· ≤ ·) → b.Pairwise (· ≤ ·) → a = b
  | [], b, p, _, _ => (List.Perm.nil_eq p)
  | x :: a, [], p, _, _ => absurd p.length_eq (by simp)
  | x :: a, y :: b, p, h, g => by
    obtain ⟨h1, h2⟩ := List.pairwise_cons.mp h
    obtain ⟨g1, g2⟩ := List.pairwise_cons.mp g
    have e : x = y := by
      have u : x ≤ y := by
        rcases List.mem_cons.mp (p.symm.subset (List.mem_cons_self (a := y) (l := b))) with z | z
        · omega
        · exact h1 y z
      have v : y ≤ x := by
        rcases List.mem_cons.mp (p.subset (List.mem_cons_self (a := x) (l := a))) with z | z
        · omega
        · exact g1 x z
      omega
    subst e
    rw [up_one (List.perm_cons x |>.mp p) h2 g2]
def bval : Blt → Value
  | .len => .builtin "len" | .int => .type "int" | .abs => .builtin "abs" | .tuple => .type "tuple" | .list => .type "list" | .bool => .type "bool"
  | .repr => .builtin "repr" | .all => .builtin "all" | .any => .builtin "any" | .sum => .builtin "sum" | .max => .builtin "max" | .min => .builtin "min" | .sorted => .builtin "sorted" | .str => .type "str"
def rBlt (N : Nam) (K : PySem.W.Frag) (b : Blt) : List V → Hp → VK → Prop := fun xs H Q => ∃ m M F ws, SimM N K m M F H ∧ RepWs N K F m ws xs ∧ VRes N K Q m M F (bltW M b ws)
section
variable {X : Cx} {N : Nam}
theorem CallR.use {f : Value} {r : List V → Hp → VK → Prop} (o : CallR X f r) {pins : List (Addr × Obj)} {s : Shared} {σ : L2.St} {H : Hp} {xs : List V} {us : List Value} {Q : VK} (I : L2.Inv X pins σ H s) (r1 : Vals xs us) (h : r xs H Q) :
    wpAny (model X.prog X.w) X.A (call f us) (EP X pins σ Q) X.xe s := o pins s σ H xs us Q I r1 h
theorem RepWs.one {K : PySem.W.Frag} {F : Hp} {m : List Addr} {w : W} {xs : List V} (r : RepWs N K F m [w] xs) : ∃ x, xs = [x] ∧ RepW N K F m w x := by
  cases xs with
  | nil => exact r.elim
  | cons x xs =>
    cases xs with
    | nil => exact ⟨x, rfl, r.1⟩
    | cons y xs => exact r.2.elim
theorem RepWs.two {K : PySem.W.Frag} {F : Hp} {m : List Addr} {w u : W} {xs : List V} (r : RepWs N K F m [w, u] xs) : ∃ x y, xs = [x, y] ∧ RepW N K F m w x ∧ RepW N K F m u y := by
  cases xs with
  | nil => exact r.elim
  | cons x xs =>
    obtain ⟨y, rfl, h⟩ := RepWs.one r.2
    exact ⟨x, y, rfl, r.1, h⟩
theorem map_some {α β : Type} {o : Option α} {f : α → β} {Q : VK} {K : PySem.W.Frag} {m : List Addr} {M : Mem} {F : Fx} (g : β → W) (h : VRes N K Q m M F ((o.map f).map g)) : ∃ a, o = some a ∧ VRes N K Q m M F (some (g (f a))) := by
  cases o with
  | none => exact h.elim
  | some a => exact ⟨a, rfl, h⟩
theorem map_some' {α : Type} {o : Option α} {Q : VK} {K : PySem.W.Frag} {m : List Addr} {M : Mem} {F : Fx} {g : α → W} (h : VRes N K Q m M F (o.map g)) : ∃ a, o = some a ∧ VRes N K Q m M F (some (g a)) := by
  cases o with
  | none => exact h.elim
  | some a => exact ⟨a, rfl, h⟩
theorem D.bls_eq : ∀ {ds : List D} {bs : List Bool}, D.bls ds = some bs → ds = bs.map D.bl
  | [], _, h => by cases h; rfl
  | d :: r, bs, h => by
    cases d with
    | bl b =>
      have h' : (D.bls r).map (b :: ·) = some bs := h
      cases q : D.bls r with
      | none => rw [q] at h'; cases h'
      | some es => rw [q] at h'; cases h'; rw [D.bls_eq q]; rfl
    | _ => cases h
theorem D.ints_eq : ∀ {ds : List D} {bs : List Int}, D.ints ds = some bs → ds = bs.map D.int
  | [], _, h => by cases h; rfl
  | d :: r, bs, h => by
    cases d with
    | int b =>
      have h' : (D.ints r).map (b :: ·) = some bs := h
      cases q : D.ints r with
      | none => rw [q] at h'; cases h'
      | some es => rw [q] at h'; cases h'; rw [D.ints_eq q]; rfl
    | _ => cases h
theorem Reps.bls {K : PySem.W.Frag} {F : Hp} : ∀ {bs : List Bool} {vs : List V}, Reps N K F (bs.map D.bl) vs → vs = bs.map V.bl
  | [], [], _ => rfl
  | b :: bs, v :: vs, h => by
    obtain ⟨h1, h2⟩ := h
    rw [Reps.bls h2, show v = .bl b from h1]; rfl
  | [], _ :: _, h => h.elim
  | _ :: _, [], h => h.elim
theorem Reps.ints {K : PySem.W.Frag} {F : Hp} : ∀ {bs : List Int} {vs : List V}, Reps N K F (bs.map D.int) vs → vs = bs.map V.int
  | [], [], _ => rfl
  | b :: bs, v :: vs, h => by
    obtain ⟨h1, h2⟩ := h
    rw [Reps.ints h2, show v = .int b from h1]; rfl
  | [], _ :: _, h => h.elim
  | _ :: _, [], h => h.elim
theorem blt_len : CallR X (bval .len) (rBlt N X.K .len) := by
  intro pins s σ H xs us Q I r h
  obtain ⟨m, M, F, ws, sm, rw', h⟩ := h
  match ws, h with
  | [a], h =>
    obtain ⟨x, rfl, rx⟩ := RepWs.one rw'
    have seq : ∀ {w : W}, RepW N X.K F m w x → VRes N X.K Q m M F ((w.items M).map fun us => .p (.int us.length)) → wpAny (model X.prog X.w) X.A (call (bval .len) us) (EP X pins σ Q) X.xe s := fun {w} rx h => by
      obtain ⟨us, e, h⟩ := map_some' h
      obtain ⟨p, ys, rfl, sq, ry⟩ := sm.items rx e
      exact CallR.use call_len_seq I r ⟨p, ys, rfl, sq, by rw [← ry.length]; exact VRes.same sm h rfl⟩
    cases a with
    | p d =>
      cases d with
      | str z =>
        have h' : VRes N X.K Q m M F (if z.length ≤ 100000 then some (.p (.int z.length)) else none) := h
        split at h'
        · rename_i hz
          cases (show x = .str z from rx)
          exact CallR.use call_len_str I r ⟨z, rfl, le_line hz, VRes.same sm h' rfl⟩
        · exact h'.elim
      | _ => exact seq rx h
    | _ => exact seq rx h
  | [], h => exact h.elim
  | _ :: _ :: _, h => exact h.elim
theorem blt_int : CallR X (bval .int) (rBlt N X.K .int) := by
  intro pins s σ H xs us Q I r h
  obtain ⟨m, M, F, ws, sm, rw', h⟩ := h
  match ws, h with
  | [.p (.int i)], h =>
    obtain ⟨x, rfl, rx⟩ := RepWs.one rw'
    cases (show x = .int i from rx)
    exact CallR.use call_int1 I r (.inl ⟨i, rfl, VRes.same sm h rfl⟩)
  | [.p (.bl i)], h =>
    obtain ⟨x, rfl, rx⟩ := RepWs.one rw'
    cases (show x = .bl i from rx)
    exact CallR.use call_int1 I r (.inr ⟨i, rfl, VRes.same sm h rfl⟩)
  | [.p (.str z)], h =>
    obtain ⟨x, rfl, rx⟩ := RepWs.one rw'
    cases (show x = .str z from rx)
    have h : VRes N X.K Q m M F (if decide (z.length ≤ 640) then (PySem.intText? z).map fun i => W.p (.int i) else none) := h
    split at h
    · rename_i hz
      obtain ⟨i, hi, h⟩ := map_some' h
      exact CallR.use call_int_str I r ⟨z, i, rfl, hi, of_decide_eq_true hz, VRes.same sm h rfl⟩
    · exact h.elim
theorem blt_str : CallR X (bval .str) (rBlt N X.K .str) := by
  intro pins s σ H xs us Q I r h
  obtain ⟨m, M, F, ws, sm, rw', h⟩ := h
  match ws, h with
  | [.p (.int i)], h =>
    obtain ⟨x, rfl, rx⟩ := RepWs.one rw'
    cases (show x = .int i from rx)
    have h : VRes N X.K Q m M F (if decide (i.natAbs.log2 < 1920) then some (W.p (.str (toString i))) else none) := h
    split at h
    · rename_i hz
      exact CallR.use call_str_int I r ⟨i, rfl, of_decide_eq_true hz, VRes.same sm h rfl⟩
    · exact h.elim
  | [.p (.str z)], h =>
    obtain ⟨x, rfl, rx⟩ := RepWs.one rw'
    cases (show x = .str z from rx)
    exact CallR.use SkE.call_str_str I r ⟨z, rfl, VRes.same sm h rfl⟩
theorem blt_abs : CallR X (bval .abs) (rBlt N X.K .abs) := by
  intro pins s σ H xs us Q I r h
  obtain ⟨m, M, F, ws, sm, rw', h⟩ := h
  match ws, h with
  | [.p (.int i)], h =>
    obtain ⟨x, rfl, rx⟩ := RepWs.one rw'
    cases (show x = .int i from rx)
    exact CallR.use call_abs I r ⟨i, rfl, VRes.same sm h rfl⟩
theorem blt_bool : CallR X (bval .bool) (rBlt N X.K .bool) := by
  intro pins s σ H xs us Q I r h
  obtain ⟨m, M, F, ws, sm, rw', h⟩ := h
  match ws, h with
  | [.p (.int i)], h =>
    obtain ⟨x, rfl, rx⟩ := RepWs.one rw'
    cases (show x = .int i from rx)
    exact CallR.use call_bool1 I r (.inl ⟨i, rfl, VRes.same sm h rfl⟩)
  | [.p (.bl i)], h =>
    obtain ⟨x, rfl, rx⟩ := RepWs.one rw'
    cases (show x = .bl i from rx)
    exact CallR.use call_bool1 I r (.inr ⟨i, rfl, VRes.same sm h rfl⟩)
theorem blt_max (hc : X.calm = true) : CallR X (bval .max) (rBlt N X.K .max) := by
  intro pins s σ H xs us Q I r h
  obtain ⟨m, M, F, ws, sm, rw', h⟩ := h
  match ws, h with
  | [.p (.int i), .p (.int j)], h =>
    obtain ⟨x, y, rfl, rx, ry⟩ := RepWs.two rw'
    cases (show x = .int i from rx)
    cases (show y = .int j from ry)
    exact CallR.use (call_max2 hc) I r ⟨i, j, rfl, VRes.same sm h rfl⟩
theorem blt_min (hc : X.calm = true) : CallR X (bval .min) (rBlt N X.K .min) := by
  intro pins s σ H xs us Q I r h
  obtain ⟨m, M, F, ws, sm, rw', h⟩ := h
  match ws, h with
  | [.p (.int i), .p (.int j)], h =>
    obtain ⟨x, y, rfl, rx, ry⟩ := RepWs.two rw'
    cases (show x = .int i from rx)
    cases (show y = .int j from ry)
    exact CallR.use (call_min2 hc) I r ⟨i, j, rfl, VRes.same sm h rfl⟩
theorem blt_list : CallR X (bval .list) (rBlt N X.K .list) := by
  intro pins s σ H xs us Q I r h
  obtain ⟨m, M, F, ws, sm, rw', h⟩ := h
  match ws, h with
  | [a], h =>
    obtain ⟨x, rfl, rx⟩ := RepWs.one rw'
    have h' : VRes N X.K Q m M F ((a.items M).bind mkLst) := h
    cases e : a.items M with
    | none => rw [e] at h'; exact h'.elim
    | some ws =>
      rw [e] at h'
      obtain ⟨ds, e2, h'⟩ := map_some' (o := W.pures ws) h'
      obtain ⟨p, ys, rfl, sq, ry⟩ := sm.items rx e
      exact CallR.use call_list_of I r ⟨p, ys, rfl, sq, VRes.lst sm (ry.pures e2) h'⟩
  | [], h => exact h.elim
  | _ :: _ :: _, h => exact h.elim
theorem blt_tuple : CallR X (bval .tuple) (rBlt N X.K .tuple) := by
  intro pins s σ H xs us Q I r h
  obtain ⟨m, M, F, ws, sm, rw', h⟩ := h
  match ws, h with
  | [a], h =>
    obtain ⟨x, rfl, rx⟩ := RepWs.one rw'
    obtain ⟨ws, e, h'⟩ := map_some' (o := a.items M) h
    obtain ⟨p, ys, rfl, sq, ry⟩ := sm.itemsF rx e
    refine CallR.use call_tuple_of I r ⟨p, ys, rfl, ?_⟩
    rcases sq with sq | sq
    · exact .inl ⟨sq, VRes.tup sm ry h'⟩
    · exact .inr ⟨sm.sub.sqT sq, VRes.same sm h' (RepWs.tup ry sq)⟩
  | [], h => exact h.elim
  | _ :: _ :: _, h => exact h.elim
theorem view_lst {K : PySem.W.Frag} {m : List Addr} {M : Mem} {F : Fx} {H : Hp} {w : W} {v : V} {ds : List D} (sm : SimM N K m M F H) (r : RepW N K F m w v) (e : w.view M = some (.lst ds)) : ∃ a ys, v = .ref a ∧ SqL K H a ys ∧ Reps N K F ds ys := by
  obtain ⟨a, ys, h1, h2, h3⟩ := Now.lst_at sm (sm.view r e)
  exact ⟨a, ys, h1, .inl h2, h3⟩
theorem blt_all (hc : X.calm = true) : CallR X (bval .all) (rBlt N X.K .all) := by
  intro pins s σ H xs us Q I r h
  obtain ⟨m, M, F, ws, sm, rw', h⟩ := h
  match ws, h with
  | [a], h =>
    obtain ⟨x, rfl, rx⟩ := RepWs.one rw'
    unfold bltW at h
    dsimp only at h
    split at h
    · rename_i ds e
      obtain ⟨bs, e2, h⟩ := map_some' h
      obtain ⟨p, ys, rfl, sq, ry⟩ := view_lst sm rx e
      rw [D.bls_eq e2] at ry
      cases ry.bls
      exact CallR.use (cr_all hc) I r ⟨p, bs, rfl, sq, VRes.same sm h rfl⟩
    · exact h.elim
  | [], h => exact h.elim
  | _ :: _ :: _, h => exact h.elim
theorem blt_any (hc : X.calm = true) : CallR X (bval .any) (rBlt N X.K .any) := by
  intro pins s σ H xs us Q I r h
  obtain ⟨m, M, F, ws, sm, rw', h⟩ := h
  match ws, h with
  | [a], h =>
    obtain ⟨x, rfl, rx⟩ := RepWs.one rw'
    unfold bltW at h
    dsimp only at h
    split at h
    · rename_i ds e
      obtain ⟨bs, e2, h⟩ := map_some' h
      obtain ⟨p, ys, rfl, sq, ry⟩ := view_lst sm rx e
      rw [D.bls_eq e2] at ry
      cases ry.bls
      exact CallR.use (cr_any hc) I r ⟨p, bs, rfl, sq, VRes.same sm h rfl⟩
    · exact h.elim
  | [], h => exact h.elim
  | _ :: _ :: _, h => exact h.elim
theorem Reps.of_ints {K : PySem.W.Frag} {F : Hp} : ∀ ns : List Int, Reps N K F (ns.map D.int) (ns.map V.int)
  | [] => trivial
  | n :: ns => ⟨rfl, Reps.of_ints ns⟩
theorem blt_sorted : CallR X (bval .sorted) (rBlt N X.K .sorted) := by
  intro pins s σ H xs us Q I r h
  obtain ⟨m, M, F, ws, sm, rw', h⟩ := h
  match ws, h with
  | [a], h =>
    obtain ⟨x, rfl, rx⟩ := RepWs.one rw'
    unfold bltW at h
    dsimp only at h
    split at h
    · rename_i ds e
      obtain ⟨ks, e2, h⟩ := map_some' h
      obtain ⟨p, ys, rfl, sq, ry⟩ := view_lst sm rx e
      rw [D.ints_eq e2] at ry
      cases ry.ints
      refine CallR.use cr_sortedI I r ⟨p, ks, rfl, sq, fun ns q pm up new => ?_⟩
      have e3 : ns = isort ks := up_one (pm.trans (isort_perm ks).symm) up (isort_up ks)
      subst e3
      exact VRes.lst sm (Reps.of_ints _) h q new
    · exact h.elim
  | [], h => exact h.elim
  | _ :: _ :: _, h => exact h.elim
theorem blt_sum (hc : X.calm = true) : CallR X (bval .sum) (rBlt N X.K .sum) := by
  intro pins s σ H xs us Q I r h
  obtain ⟨m, M, F, ws, sm, rw', h⟩ := h
  match ws, h with
  | [a], h =>
    obtain ⟨x, rfl, rx⟩ := RepWs.one rw'
    unfold bltW at h
    dsimp only at h
    split at h
    · rename_i ds e
      obtain ⟨bs, e2, h⟩ := map_some' h
      obtain ⟨p, ys, rfl, sq, ry⟩ := view_lst sm rx e
      rw [D.ints_eq e2] at ry
      cases ry.ints
      exact CallR.use (cr_sum hc) I r ⟨p, bs, rfl, sq, VRes.same sm h rfl⟩
    · exact h.elim
  | [], h => exact h.elim
  | _ :: _ :: _, h => exact h.elim
end
end G

set_option maxHeartbeats 4000000
/-! repr, by values. -/
namespace G
open PySem PySem.Spec PyProof.Rows L2
theorem showOks_iff (n : Nat) (d : D) (r : List D) (h : showOks n (d :: r) = true) : showOk n d = true ∧ showOks n r = true := Bool.and_eq_true_iff.mp (by cases n <;> exact h)
theorem toPys_len : ∀ ds : List D, (toPys ds).length = ds.length
  | [] => rfl
  | _ :: r => congrArg (· + 1) (toPys_len r)
theorem showKv_zip : ∀ (ks vs : List PyData), PyData.showableAll ks = true → PyData.showableAll vs = true → PyData.showableKv (ks.zip vs) = true
  | [], _, _, _ => by simp [PyData.showableKv]
  | _ :: _, [], _, _ => by simp [PyData.showableKv]
  | k :: ks, v :: vs, h1, h2 => by
    obtain ⟨a, b⟩ := Bool.and_eq_true_iff.mp (show (PyData.showable k && PyData.showableAll ks) = true from h1)
    obtain ⟨c, d⟩ := Bool.and_eq_true_iff.mp (show (PyData.showable v && PyData.showableAll vs) = true from h2)
    show (PyData.showable k && PyData.showable v && PyData.showableKv (ks.zip vs)) = true
    rw [a, c, showKv_zip ks vs b d]; rfl
theorem depKv_zip {n : Nat} : ∀ (ks vs : List PyData), PyData.depthAll ks ≤ n → PyData.depthAll vs ≤ n → PyData.depthKv (ks.zip vs) ≤ n
  | [], _, _, _ => by simp [PyData.depthKv]
  | _ :: _, [], _, _ => by simp [PyData.depthKv]
  | k :: ks, v :: vs, h1, h2 => by
    obtain ⟨a, b⟩ := Nat.max_le.mp (show max (PyData.depth k) (PyData.depthAll ks) ≤ n from h1)
    obtain ⟨c, d⟩ := Nat.max_le.mp (show max (PyData.depth v) (PyData.depthAll vs) ≤ n from h2)
    exact Nat.max_le.mpr ⟨Nat.max_le.mpr ⟨a, c⟩, depKv_zip ks vs b d⟩
mutual
theorem show_of : ∀ (d : D) (n : Nat), showOk n d = true → PyData.showable (toPy d) = true ∧ (toPy d).depth ≤ n
  | .non, n, h => ⟨rfl, Nat.zero_le _⟩
  | .bl b, n, h => ⟨rfl, Nat.zero_le _⟩
  | .int i, n, h => ⟨show decide _ = true by cases n <;> exact h, Nat.zero_le _⟩
  | .str s, n, h => ⟨rfl, Nat.zero_le _⟩
  | .tup xs, n, h => by
    cases n with
    | zero => cases h
    | succ n =>
      obtain ⟨a, b⟩ := shows_of xs n h
      exact ⟨a, Nat.succ_le_succ b⟩
  | .lst xs, n, h => by
    cases n with
    | zero => cases h
    | succ n =>
      obtain ⟨a, b⟩ := shows_of xs n h
      exact ⟨a, Nat.succ_le_succ b⟩
  | .dct ks vs, n, h => by
    cases n with
    | zero => cases h
    | succ n =>
      obtain ⟨h, _⟩ := Bool.and_eq_true_iff.mp (show (showOks n ks && showOks n vs && decide (ks.length = vs.length)) = true from h)
      obtain ⟨h1, h2⟩ := Bool.and_eq_true_iff.mp h
      obtain ⟨a, b⟩ := shows_of ks n h1
      obtain ⟨c, d⟩ := shows_of vs n h2
      exact ⟨showKv_zip _ _ a c, Nat.succ_le_succ (depKv_zip _ _ b d)⟩
  | .obj _ _ _, n, h => by cases n <;> cases h
  | .exc _ _ _, n, h => by cases n <;> cases h
theorem shows_of : ∀ (ds : List D) (n : Nat), showOks n ds = true → PyData.showableAll (toPys ds) = true ∧ PyData.depthAll (toPys ds) ≤ n
  | [], n, h => ⟨rfl, Nat.zero_le _⟩
  | d :: ds, n, h => by
    obtain ⟨h1, h2⟩ := showOks_iff n d ds h
    obtain ⟨a, b⟩ := show_of d n h1
    obtain ⟨c, e⟩ := shows_of ds n h2
    exact ⟨by show (PyData.showable (toPy d) && PyData.showableAll (toPys ds)) = true; rw [a, c]; rfl, Nat.max_le.mpr ⟨b, e⟩⟩
end
theorem pairs_reads {prog : Program} {w : World} {h : Heap} : ∀ {es : List DictEntry} {vs : List (Key × Value)} {kvs : List (Key × V)}, Pairs (mixKind prog w) es vs → KV kvs vs →
    ReadsAll h (es.map (·.key)) (toPys (kvs.map fun q => keyD q.1)) [] ∧ Vals (kvs.map (·.2)) (es.map (·.val))
  | _, _, _, .nil, r => by cases r; exact ⟨.nil, .nil⟩
  | _, _, _, .cons (e := e) (kv := kv) h1 h2 t, r => by
    cases r with
    | cons q r =>
      obtain ⟨a, b⟩ := pairs_reads (h := h) t r
      refine ⟨?_, .cons (by show RelV _ e.val; rw [h2]; exact q.2) b⟩
      rename_i p ps
      obtain ⟨k, v⟩ := p
      obtain ⟨q1, q2⟩ := q
      simp only at q1
      subst q1
      have e1 := keyIs_shape h1
      rcases e1 with ⟨i, t, e1, e2⟩ | ⟨i, t, e1, e2⟩
      · show ReadsAll h (e.key :: _) (toPy (keyD kv.1) :: _) ([] ++ [])
        rw [e1, e2]
        exact .cons (.int i t) a
      · show ReadsAll h (e.key :: _) (toPy (keyD kv.1) :: _) ([] ++ [])
        rw [e1, e2]
        exact .cons (.str i t) a
section
variable {X : Cx} {N : Nam} {pins : List (Addr × Obj)} {s : Shared} {σ : L2.St} {H F : Hp}
theorem no_sys (hs : (X.K.lookup sysModules).isSome = true) (I : L2.Inv X pins σ H s) {a : Addr} {o : HO} (h : H a = some o) : sysModules ≠ a := fun e => by
  obtain ⟨q, hq⟩ := Option.isSome_iff_exists.mp hs
  have := (I.bs _ _ (I.ok.mod.kin _ _ hq)).2
  rw [e, h] at this; cases this
mutual
theorem reads_of (hs : (X.K.lookup sysModules).isSome = true) (I : L2.Inv X pins σ H s) (sb : Xt F H) : ∀ (d : D) (n : Nat) (v : V) (u : Value), showOk n d = true → Rep N X.K F d v → RelV v u → ∃ as, Reads s.heap u (toPy d) as ∧ sysModules ∉ as
  | .non, n, v, u, _, r, ru => by
    cases (show v = .non from r)
    cases (show u = .none from ru)
    exact ⟨_, .none, by simp⟩
  | .bl b, n, v, u, _, r, ru => by
    cases (show v = .bl b from r)
    cases (show u = .bool b from ru)
    exact ⟨_, .bool b, by simp⟩
  | .int i, n, v, u, _, r, ru => by
    cases (show v = .int i from r)
    obtain ⟨t, rfl⟩ := ru
    exact ⟨_, .int i t, by simp⟩
  | .str i, n, v, u, _, r, ru => by
    cases (show v = .str i from r)
    obtain ⟨t, rfl⟩ := ru
    exact ⟨_, .str i t, by simp⟩
  | .tup xs, n, v, u, h, r, ru => by
    obtain ⟨a, ys, rfl, e, r⟩ := r
    cases ru
    obtain ⟨its, rv, ⟨o, ho, hc, k, hd⟩, _⟩ := I.tuple (sb.sqT e)
    cases n with
    | zero => cases h
    | succ n =>
      obtain ⟨as, h1, h2⟩ := readss_of hs I sb xs n ys its h r rv
      exact ⟨as, .tuple ho hc hd h1, h2⟩
  | .lst xs, n, v, u, h, r, ru => by
    obtain ⟨a, ys, rfl, e, r⟩ := r
    cases ru
    obtain ⟨its, k, rv, _, ho, _⟩ := rd_list I (sb.rd e)
    cases n with
    | zero => cases h
    | succ n =>
      obtain ⟨as, h1, h2⟩ := readss_of hs I sb xs n ys its h r rv
      refine ⟨a :: as, .list ho rfl rfl h1, fun z => ?_⟩
      rcases List.mem_cons.mp z with z | z
      · rcases sb.rd e with q | ⟨_, q⟩
        · exact no_sys hs I q z
        · exact no_sys hs I q z
      · exact h2 z
  | .dct ks vs, n, v, u, h, r, ru => by
    obtain ⟨a, kvs, rfl, e, rfl, r⟩ := r
    cases ru
    obtain ⟨_, ns, us, kr, o, es, ep, ho, ed, hd, _, ps, _⟩ := (show ObjOk X.prog X.w H s.heap a (.dK kvs) from I.hok a _ (sb _ _ e))
    cases n with
    | zero => cases h
    | succ n =>
      obtain ⟨h, hl⟩ := Bool.and_eq_true_iff.mp (show (showOks n (kvs.map fun q => keyD q.1) && showOks n vs && decide ((kvs.map fun q => keyD q.1).length = vs.length)) = true from h)
      obtain ⟨h1, h2⟩ := Bool.and_eq_true_iff.mp h
      have hl := of_decide_eq_true hl
      obtain ⟨k1, k2⟩ := pairs_reads (h := s.heap) ps kr
      obtain ⟨as, h3, h4⟩ := readss_of hs I sb vs n _ _ h2 r k2
      have e1 : ((toPys (kvs.map fun q => keyD q.1)).zip (toPys vs)).map (·.1) = toPys (kvs.map fun q => keyD q.1) := List.map_fst_zip (by rw [toPys_len, toPys_len, hl]; exact Nat.le_refl _)
      have e2 : ((toPys (kvs.map fun q => keyD q.1)).zip (toPys vs)).map (·.2) = toPys vs := List.map_snd_zip (by rw [toPys_len, toPys_len, hl]; exact Nat.le_refl _)
      refine ⟨a :: [] ++ as, .dict ho ed.1 hd (by rw [e1]; exact k1) (by rw [e2]; exact h3), fun z => ?_⟩
      rcases List.mem_cons.mp (show sysModules ∈ a :: as from z) with z | z
      · exact no_sys hs I (sb _ _ e) z
      · exact h4 z
  | .obj _ _ _, n, v, u, h, r, ru => by cases n <;> cases h
  | .exc _ _ _, n, v, u, h, r, ru => by cases n <;> cases h
theorem readss_of (hs : (X.K.lookup sysModules).isSome = true) (I : L2.Inv X pins σ H s) (sb : Xt F H) : ∀ (ds : List D) (n : Nat) (vs : List V) (us : List Value), showOks n ds = true → Reps N X.K F ds vs → Vals vs us → ∃ as, ReadsAll s.heap us (toPys ds) as ∧ sysModules ∉ as
  | [], n, [], us, _, r, ru => by cases ru; exact ⟨_, .nil, by simp⟩
  | d :: ds, n, v :: vs, us, h, r, ru => by
    cases ru with
    | cons r1 r2 =>
      obtain ⟨h1, h2⟩ := showOks_iff n d ds h
      obtain ⟨as, a1, a2⟩ := reads_of hs I sb d n v _ h1 r.1 r1
      obtain ⟨bs, b1, b2⟩ := readss_of hs I sb ds n vs _ h2 r.2 r2
      exact ⟨as ++ bs, .cons a1 b1, fun z => (List.mem_append.mp z).elim a2 b2⟩
  | [], n, _ :: _, us, _, r, ru => r.elim
  | _ :: _, n, [], us, _, r, ru => r.elim
end
theorem repr_ref {F : Fx} {m : List Addr} {M : Mem} {a : Addr} {d : D} {Q : VK} (hs : (X.K.lookup sysModules).isSome = true) (hg : X.A.guards = some []) (hu : X.A.units + 64 < cLine) (sm : SimM N X.K m M F H) (I : L2.Inv X pins σ H s)
    (h : ∃ as, Reads s.heap (.ref a) (toPy d) as ∧ sysModules ∉ as) (h1 : showOk 60 d = true) (h2 : szOk (reprD d).length = true) (q : VRes N X.K Q m M F (some (.p (.str (reprD d))))) : wpAny (model X.prog X.w) X.A (call (.builtin "repr") [.ref a]) (EP X pins σ Q) X.xe s := by
  obtain ⟨as, r, na⟩ := h
  obtain ⟨h3, h4⟩ := show_of d 60 h1
  exact repr_of_reads' r h3 (fun _ => na) hg (by omega) (fun _ _ e => e) (fun h' u tk hk => ⟨.str _, H, I.kept (t' := tk) hk, ⟨u, rfl⟩, VRes.same sm q rfl⟩) (szOk_le h2)
theorem bif2 {F : Fx} {Q : VK} {K : PySem.W.Frag} {m : List Addr} {M : Mem} {c : Bool} {w : W} (h : VRes N K Q m M F (if c = true then some w else none)) : c = true ∧ VRes N K Q m M F (some w) := by
  cases c with
  | true => exact ⟨rfl, h⟩
  | false => exact h.elim
theorem blt_repr (hs : (X.K.lookup sysModules).isSome = true) (hg : X.A.guards = some []) (hu : X.A.units + 64 < cLine) : CallR X (bval .repr) (rBlt N X.K .repr) := by
  intro pins s σ H xs us Q I r h
  obtain ⟨m, M, F, ws, sm, rw', h⟩ := h
  match ws, h with
  | [w], h =>
    obtain ⟨x, rfl, rx⟩ := RepWs.one rw'
    obtain ⟨u, rfl, ru⟩ := vals1 r
    unfold bltW at h
    dsimp only at h
    split at h
    · rename_i d e
      obtain ⟨z, h⟩ := bif2 h
      obtain ⟨z1, z2⟩ := Bool.and_eq_true_iff.mp z
      have nw := sm.view rx e
      cases nw with
      | @lst ds a ys h1 r1 =>
        cases ru
        refine repr_ref hs hg hu sm I ?_ z1 z2 h
        obtain ⟨its, k, rv, _, ho, _⟩ := rd_list I (.inl h1)
        obtain ⟨as, h3, h4⟩ := readss_of hs I sm.sub ds 59 ys its z1 r1 rv
        refine ⟨a :: as, .list ho rfl rfl h3, fun z => ?_⟩
        rcases List.mem_cons.mp z with z | z
        · exact no_sys hs I h1 z
        · exact h4 z
      | p r1 =>
        have rr := reads_of hs I sm.sub d 60 x u z1 r1 ru
        cases d with
        | non =>
          cases (show x = .non from r1)
          cases (show u = .none from ru)
          exact PySem.P.repr_of_none ⟨.str _, H, I.tok _, ⟨_, rfl⟩, VRes.same sm h rfl⟩
        | bl b =>
          cases (show x = .bl b from r1)
          cases (show u = .bool b from ru)
          exact PySem.P.repr_of_bool ⟨.str _, H, I.tok _, ⟨_, rfl⟩, VRes.same sm h rfl⟩
        | int i =>
          cases (show x = .int i from r1)
          obtain ⟨t, rfl⟩ := ru
          exact PySem.P.repr_of_int (of_decide_eq_true z1) ⟨.str _, H, I.tok _, ⟨_, rfl⟩, VRes.same sm h rfl⟩
        | str i =>
          cases (show x = .str i from r1)
          obtain ⟨t, rfl⟩ := ru
          exact PySem.P.repr_of_str ⟨.str _, H, I.tok _, ⟨_, rfl⟩, VRes.same sm h rfl⟩ (szOk_le z2)
        | tup xs =>
          obtain ⟨a, ys, rfl, _⟩ := r1
          cases ru
          exact repr_ref hs hg hu sm I rr z1 z2 h
        | lst xs =>
          obtain ⟨a, ys, rfl, _⟩ := r1
          cases ru
          exact repr_ref hs hg hu sm I rr z1 z2 h
        | dct xs _ =>
          obtain ⟨a, ys, rfl, _⟩ := r1
          cases ru
          exact repr_ref hs hg hu sm I rr z1 z2 h
        | obj _ _ _ => cases z1
        | exc _ _ _ => cases z1
    · exact h.elim
  | [], h => exact h.elim
  | _ :: _ :: _, h => exact h.elim
/-- what a call of a built-in needs -/
structure BltOk (X : Cx) : Prop where
  sys : (X.K.lookup sysModules).isSome = true
  grd : X.A.guards = some []
  unt : X.A.units + 64 < cLine
/-- not while an exception is handled -/
def calmB : Blt → Bool
  | .all | .any | .sum | .max | .min => true
  | _ => false
theorem call_blt (h : BltOk X) : ∀ b : Blt, (calmB b = true → X.calm = true) → CallR X (bval b) (rBlt N X.K b)
  | .len, _ => blt_len | .int, _ => blt_int | .abs, _ => blt_abs | .tuple, _ => blt_tuple | .list, _ => blt_list | .bool, _ => blt_bool
  | .repr, _ => blt_repr h.sys h.grd h.unt | .all, c => blt_all (c rfl) | .any, c => blt_any (c rfl) | .sum, c => blt_sum (c rfl) | .max, c => blt_max (c rfl) | .min, c => blt_min (c rfl) | .sorted, _ => blt_sorted | .str, _ => blt_str
end
end G

set_option maxHeartbeats 4000000
/-! The checker of expressions; readings. -/
namespace G
open PySem PySem.Spec PyProof.Rows L2

/-- the module's names: functions with their parameters, classes, constants -/
structure Tab where
  fn : List (Str × (Nat × List Str))
  cl : List (Str × Nat)
  gv : List (Str × Nat)
  fa : List (Str × Nat)
  xs : List (Str × (Nat × List Str))
  calm : Bool
  fp : List (Nat × List Str) := []
  nw : List (Str × (Nat × Nat × List Str)) := []
  mt : List ((Nat × Str) × (Nat × Nat)) := []
  sm : List ((Str × Str) × (Nat × Nat × Nat)) := []
def bnm : Blt → Str
  | .len => "len" | .int => "int" | .abs => "abs" | .tuple => "tuple" | .list => "list" | .bool => "bool"
  | .repr => "repr" | .all => "all" | .any => "any" | .sum => "sum" | .max => "max" | .min => "min" | .sorted => "sorted" | .str => "str"
def mnm : Mth → Str
  | .partition => "partition" | .find => "find" | .split => "split" | .join => "join"
def tnm : TyC → Str
  | .own _ => "" | .int => "int" | .bool => "bool" | .str => "str" | .list => "list" | .tuple => "tuple" | .dict => "dict" | .verr => "ValueError" | .oerr n => Str.ofString n
def visB (sc : Scope) (x : Str) : Bool := decide (sc.names.lookup x = some .local) || decide (sc.names.lookup x = some .cell) || decide (sc.names.lookup x = some .free)
def glB (sc : Scope) (x : Str) : Bool := decide (sc.names.lookup x = some .globalImplicit)
def okN (x : Str) : Bool := !(x == ("__debug__" : Str)) && !(x == ("__classdict__" : Str))
def noStar : Expr → Bool
  | .Starred _ _ => false
  | _ => true
def noSup : Expr → Bool
  | .Call _ [] [] _ => false
  | _ => true
def noIf : Expr → Bool
  | .IfExp _ _ _ _ => false
  | _ => true
def noSlc : Expr → Bool
  | .Slice _ _ _ _ => false
  | .Tuple _ _ _ => false
  | _ => true
/-- where each parameter's value stands among the arguments -/
def permOk (ps : List Str) (n : Nat) (ks : List Str) (perm : List Nat) : Bool :=
  if ks.isEmpty then perm.isEmpty && decide (n = ps.length)
  else decide (n ≤ ps.length) && decide (n + ks.length = ps.length) && decide (ks.Nodup) && (ks.all fun k => decide (k ∈ ps.drop n)) && ((ps.drop n).all fun k => decide (k ∈ ks)) && decide (perm = (List.range n) ++ (ps.drop n).map fun p => n + ks.idxOf p)
def tyB (Γ : Tab) (sc : Scope) (c : TyC) : Expr → Bool
  | .Name x _ => match c with
    | .own k => decide (Γ.cl.lookup x = some k) && glB sc x
    | c => decide (x = tnm c) && glB sc x
  | _ => false
def tysB (Γ : Tab) (sc : Scope) : List TyC → List Expr → Bool
  | [], [] => true
  | c :: cs, e :: es => tyB Γ sc c e && noStar e && tysB Γ sc cs es
  | _, _ => false
mutual
def tgtB (L : List Str) (sc : Scope) : Tg → Expr → Bool
  | .nm i, e => match e with
    | .Name x _ => decide (L[i]? = some x) && decide (sc.names.lookup x = some .local)
    | _ => false
  | .tp ts, e => match e with
    | .Tuple es _ _ => decide (2 ≤ ts.length) && tgB L sc ts es
    | _ => false
def tgB (L : List Str) (sc : Scope) : List Tg → List Expr → Bool
  | [], es => es.isEmpty
  | t :: ts, es => match es with
    | e :: es => tgtB L sc t e && tgB L sc ts es
    | [] => false
end
def ownP (L : List Str) (own : List Nat) : List (Str × Nat) := own.map fun i => (L.getD i "", i)
def fzE : Expr → Bool
  | .Name _ _ => true
  | .Call _ _ _ _ => true
  | .List _ _ => true
  | .Attribute _ _ _ => true
  | .Subscript _ _ _ => true
  | _ => false
def unStar : Expr → Expr
  | .Starred e _ => e
  | e => e
/-- which ones are starred -/
def starsB : List Bool → List Expr → Bool
  | [], es => es.isEmpty
  | b :: bs, e :: es => (noStar e == !b) && starsB bs es
  | _, _ => false
def noSet : Expr → Bool
  | .Set _ _ _ => false
  | _ => true
def isTupT : Expr → Bool
  | .Tuple _ _ _ => true
  | _ => false
section
variable (Γ : Tab) (L : List Str) (isis : List TyC)
mutual
def chk : Ex → Scope → Expr → Bool
  | .var i, sc, e => match e with
    | .Name x _ => decide (L[i]? = some x) && visB sc x && okN x
    | _ => false
  | .int i, _, e => match e with
    | .Constant (.int j) _ _ => decide (i = j)
    | _ => false
  | .str i, _, e => match e with
    | .Constant (.str j) _ _ => decide (i = j)
    | _ => false
  | .bl i, _, e => match e with
    | .Constant (.bool j) _ _ => decide (i = j)
    | _ => false
  | .non, _, e => match e with
    | .Constant .none _ _ => true
    | _ => false
  | .glob g, sc, e => match e with
    | .Name x _ => decide (Γ.gv.lookup x = some g) && glB sc x
    | _ => false
  | .tup xs, sc, e => match e with
    | .Tuple es _ _ => decide (xs.length ≤ 1000) && chks xs sc es
    | _ => false
  | .lst xs, sc, e => match e with
    | .List es _ => decide (xs.length ≤ 1000) && chks xs sc es
    | _ => false
  | .lstL xs, sc, e => match e with
    | .List es _ => decide (xs.length ≤ 1000) && chks xs sc es
    | _ => false
  | .dct ks vs, sc, e => match e with
    | .Dict [some (.Constant (.str k) _ _)] es _ => (match ks with
      | [.str k'] => decide (k = k')
      | _ => false) && chks vs sc es && decide (vs.length = 1)
    | .Dict [] [] _ => (match ks with
      | [] => true
      | _ => false) && (match vs with
      | [] => true
      | _ => false)
    | .Dict [some (.Constant (.int k) _ _), some (.Constant (.int l) _ _)] [.Constant (.int u) _ _, .Constant (.int v) _ _] _ => (match ks, vs with
      | [.int k', .int l'], [.int u', .int v'] => decide (k = k') && decide (l = l') && decide (u = u') && decide (v = v') && decide (k ≠ l)
      | _, _ => false)
    | _ => false
  | .bin o a b, sc, e => match e with
    | .BinOp l op r _ => decide (op = aop o) && chk a sc l && chk b sc r
    | _ => false
  | .neg a, sc, e => match e with
    | .UnaryOp .USub l _ => chk a sc l
    | _ => false
  | .not a, sc, e => match e with
    | .UnaryOp .Not l _ => chk a sc l && noIf l
    | _ => false
  | .cmp o a b, sc, e => match e with
    | .Compare l [op] [r] _ => decide (op = cop o) && chk a sc l && chk b sc r && noSet r
    | _ => false
  | .and a b, sc, e => match e with
    | .BoolOp .And (l :: r :: rest) p => chk a sc l && noIf l && (match rest with
      | [] => chk b sc r && noIf r
      | rest => chk b sc (.BoolOp .And (r :: rest) p))
    | _ => false
  | .or a b, sc, e => match e with
    | .BoolOp .Or (l :: r :: rest) p => chk a sc l && noIf l && (match rest with
      | [] => chk b sc r && noIf r
      | rest => chk b sc (.BoolOp .Or (r :: rest) p))
    | _ => false
  | .ite c a b, sc, e => match e with
    | .IfExp t l r _ => chk c sc t && noIf t && chk a sc l && chk b sc r
    | _ => false
  | .idx a i, sc, e => match e with
    | .Subscript l r _ => chk a sc l && chk i sc r && noSlc r
    | _ => false
  | .slc a lo hi, sc, e => match e with
    | .Subscript l (.Slice x y none _) _ => chk a sc l && chks lo sc x.toList && chks hi sc y.toList
    | _ => false
  | .att a f, sc, e => match e with
    | .Attribute l x _ => chk a sc l && noSup l && decide (Γ.fa.lookup x = some f)
    | _ => false
  | .mth m o a, sc, e => match e with
    | .Call (.Attribute l x ap) [y] [] p => decide (x = mnm m) && chk o sc l && noSup l && chk a sc y && noStar y && (ap.endLine == p.line)
    | _ => false
  | .fstr es, sc, e => match e with
    | .JoinedStr (v1 :: v2 :: rest) _ => chks es sc (v1 :: v2 :: rest)
    | _ => false
  | .fmt a, sc, e => match e with
    | .FormattedValue l (-1) none _ => chk a sc l
    | _ => false
  | .call f as ks perm, sc, e => match e with
    | .Call (.Name x _) es kws _ => Γ.calm && (match Γ.fn.lookup x with
      | some (g, ps) => decide (g = f) && permOk ps as.length (kws.filterMap (·.arg)) perm
      | none => false) && glB sc x && (kws.all (·.arg.isSome)) && chks as sc es && chks ks sc (kws.map (·.value))
    | _ => false
  | .blt b as, sc, e => match e with
    | .Call (.Name x _) es [] _ => decide (x = bnm b) && glB sc x && chks as sc es && !as.isEmpty && (Γ.calm || !calmB b)
    | _ => false
  | .isi a cs, sc, e => match e with
    | .Call (.Name x _) [l, t] [] _ => decide (x = "isinstance") && glB sc x && chk a sc l && noStar l && noStar t && (cs.all isis.contains) && (match t with
      | .Tuple ts _ _ => tysB Γ sc cs ts && decide (cs.length ≤ 100)
      | t => (match cs with
        | [c] => tyB Γ sc c t
        | _ => false))
    | _ => false
  | .comp elt own t it ifs, sc, e => match e with
    | .ListComp l [⟨tg, iter, fs, 0⟩] scope _ => Γ.calm && chkI it sc tg iter && noSet iter && tgtB L (relS scope sc) t tg && blkC L sc scope (ownP L own) && t.vars.all own.contains && chk elt (relS scope sc) l && chks ifs (relS scope sc) fs && decide (fs.length ≤ 1) && fs.all noIf
    | _ => false
  | .compX _ _ _ _ _, _, _ => false
  | .new c f as ks perm, sc, e => match e with
    | .Call (.Name x _) es kws _ => Γ.calm && (match Γ.nw.lookup x with
      | some (c', f', ps) => decide (c' = c) && decide (f' = f) && permOk ps as.length (kws.filterMap (·.arg)) perm
      | none => false) && glB sc x && (kws.all (·.arg.isSome)) && chks as sc es && chks ks sc (kws.map (·.value))
    | _ => false
  | .mc c f o as, sc, e => match e with
    | .Call (.Attribute l m ap) es [] p => Γ.calm && decide (Γ.mt.lookup (c, m) = some (f, as.length)) && chk o sc l && noSup l && chks as sc es && (ap.endLine == p.line) && decide (as.length ≤ 20)
    | _ => false
  | .scl c f as, sc, e => match e with
    | .Call (.Attribute (.Name x _) m ap) es [] p => Γ.calm && decide (Γ.sm.lookup (x, m) = some (c, f, as.length)) && glB sc x && chks as sc es && (ap.endLine == p.line) && decide (as.length ≤ 20) && decide (0 < as.length)
    | _ => false
  | .fz a, sc, e => fzE e && chk a sc e
  | .eqO ng a b, sc, e => match e with
    | .Compare l [op] [r] _ => Γ.calm && decide (op = if ng then .NotEq else .Eq) && chk a sc l && chk b sc r && noSet r
    | _ => false
  | .strO c f a, sc, e => match e with
    | .Call (.Name x _) [l] [] _ => Γ.calm && decide (x = "str") && decide (Γ.mt.lookup (c, ("__str__" : Str)) = some (f, 0)) && glB sc x && chk a sc l && noStar l
    | _ => false
  | .lstS ss xs, sc, e => match e with
    | .List es _ => starsB ss es && decide (xs.length ≤ 1000) && chks xs sc (es.map unStar)
    | _ => false
  | .splL o a, sc, e => match e with
    | .Call (.Attribute l x ap) [y] [] p => decide (x = mnm .split) && chk o sc l && noSup l && chk a sc y && noStar y && (ap.endLine == p.line)
    | _ => false
  | .frz _, _, _ => false
  | .it _, _, _ => false
  | .rng1 _, _, _ => false
  | .rng2 _ _, _, _ => false
  | .enum _, _, _ => false
  | .zip _ _, _, _ => false
def chkI : Ex → Scope → Expr → Expr → Bool
  | .rng1 a, sc, _, e => match e with
    | .Call (.Name x _) [l] [] _ => decide (x = "range") && glB sc x && chk a sc l && noStar l
    | _ => false
  | .rng2 a b, sc, _, e => match e with
    | .Call (.Name x _) [l, r] [] _ => decide (x = "range") && glB sc x && chk a sc l && noStar l && chk b sc r && noStar r
    | _ => false
  | .enum a, sc, tg, e => match e with
    | .Call (.Name x _) [l] [] _ => decide (x = "enumerate") && glB sc x && chk a sc l && noStar l && isTupT tg
    | _ => false
  | .zip a b, sc, tg, e => match e with
    | .Call (.Name x _) [l, r] [] _ => decide (x = "zip") && glB sc x && chk a sc l && noStar l && chk b sc r && noStar r && isTupT tg
    | _ => false
  | .it a, sc, _, e => chk a sc e && noSet e
  | _, _, _, _ => false
def chks : List Ex → Scope → List Expr → Bool
  | [], _, es => es.isEmpty
  | x :: xs, sc, es => match es with
    | e :: es => chk x sc e && noStar e && chks xs sc es
    | [] => false
end
end
end G

set_option maxHeartbeats 4000000
/-! Expressions: readings and their steps. -/
namespace G
open PySem PySem.Spec PyProof.Rows L2

/-- names that no module may have hidden -/
def freeNs : List Str := ["len", "int", "abs", "tuple", "list", "bool", "repr", "all", "any", "sum", "max", "min", "sorted", "range", "enumerate", "zip", "isinstance", "str", "dict", "ValueError"]
structure TieN (Γ : Tab) (P : Prog) (N : Nam) (K : PySem.W.Frag) (mg : Str → Option Value) : Prop where
  free : ∀ x ∈ freeNs, mg x = none
  oerr : ∀ n, TyC.oerr n ∈ P.isis → mg (Str.ofString n) = none ∧ bootBuiltins (Str.ofString n) = some (.type n) ∧ Str.ofString n ≠ "__name__" ∧ (Str.ofString n == ("__debug__" : Str)) = false
  cls : ∀ x c, Γ.cl.lookup x = some c → mg x = some (.ref (N.cA c)) ∧ (x == ("__debug__" : Str)) = false
  gv : ∀ x g, Γ.gv.lookup x = some g → (x == ("__debug__" : Str)) = false ∧ ∃ u v, mg x = some u ∧ RelV v u ∧ ∀ d, P.glob g = some d → ∀ F : Hp, Rep N K F d v
  fa : ∀ x f, Γ.fa.lookup x = some f → N.at_ f = x
  nw : ∀ x c f ps, Γ.nw.lookup x = some (c, f, ps) → mg x = some (.ref (N.cA c)) ∧ (x == ("__debug__" : Str)) = false ∧ Mk K (N.cA c) (N.fA f) ∧ ∃ s0, Γ.fp.lookup f = some (s0 :: ps)
  mt : ∀ c m f n, Γ.mt.lookup (c, m) = some (f, n) → Meth K (N.cA c) m (N.fA f) ∧ (∃ k, P.cls c = some k ∧ k.isX = false) ∧ (∀ k g, P.cls c = some k → k.flds.contains g = true → N.at_ g ≠ m) ∧ ∃ ps, Γ.fp.lookup f = some ps ∧ ps.length = n + 1
  sm : ∀ x m c f n, Γ.sm.lookup (x, m) = some (c, f, n) → mg x = some (.ref (N.cA c)) ∧ (x == ("__debug__" : Str)) = false ∧ PySem.W.typeIn K (.ref (N.cA c)) = some (.type "type") ∧ PySem.W.readsIn K (N.cA c) (.type "type") = true ∧
    PySem.W.specialIn K (.ref (N.cA c)) "__getattribute__" = some (some (.builtin "type.__getattribute__")) ∧ PySem.W.keepIn K (.ref (N.fA f)) = true ∧ PySem.W.handedIn (.ref (N.fA f)) = true ∧
    ∃ p rest, PySem.W.findCls K (.ref (N.cA c)) (.type "type") m = some (.get (.builtin "staticmethod.__get__") (.ref p) .none (.ref (N.cA c))) ∧ PySem.W.recIn K p "staticmethod" = some (.ref (N.fA f) :: rest) ∧ ∃ ps, Γ.fp.lookup f = some ps ∧ ps.length = n
  fn : ∀ x f ps, Γ.fn.lookup x = some (f, ps) → mg x = some (.ref (N.fA f)) ∧ (x == ("__debug__" : Str)) = false ∧ PySem.W.keepIn K (.ref (N.fA f)) = true ∧ Γ.fp.lookup f = some ps
  eq2 : ∀ c f, P.eqf c = some f → ∃ ps, Γ.fp.lookup f = some ps ∧ ps.length = 2
  st2 : ∀ c f, Γ.mt.lookup (c, ("__str__" : Str)) = some (f, 0) → PySem.W.findIn K (.ref (N.cA c)) "__str__" = some (some (.ref (N.fA f)))

section
variable (P : Prog) (C : Calls) (N : Nam) (K : PySem.W.Frag) (Wx : WX)
def tE (x : Ex) : TE := fun σ H Q => ∃ env m M F, Sim N K σ env m M F H ∧ ERes N K (RW N K) Wx Q σ env m F (ev P C x env M)
def RWn (n : Nat) : Rl (List W) (List V) := fun m F ws vs => RepWs N K F m ws vs ∧ ws.length = n
def tEs (xs : List Ex) : TA := fun σ H Q => ∃ env m M F, Sim N K σ env m M F H ∧ ERes N K (RWn N K xs.length) Wx Q σ env m F (evs P C xs env M)
def evT (x : Ex) (env : Env) (M : Mem) : Res Bool := (ev P C x env M).bind fun w M => Res.of (tru M w) M
def tT (x : Ex) : TT := fun σ H Q => ∃ env m M F, Sim N K σ env m M F H ∧ ERes N K (fun _ _ (a b : Bool) => a = b) Wx Q σ env m F (evT P C x env M)
end
section
variable {P : Prog} {C : Calls} {N : Nam} {K : PySem.W.Frag} {Wx : WX} {α β : Type} {R : Rl α β} {Q : β → Hp → Prop} {σ : L2.St} {env : Env} {m : List Addr} {M : Mem} {F : Fx} {H : Hp}
theorem tE.of {x : Ex} {f : W → Mem → Res α} {Q' : VK} (s : Sim N K σ env m M F H) (h : ERes N K R Wx Q σ env m F ((ev P C x env M).bind f))
    (k : ∀ b H' m' F' c M', Sim N K σ env m' M' F' H' → RepW N K F' m' c b → Gr m F m' F' → ERes N K R Wx Q σ env m' F' (f c M') → Q' b H') : tE P C N K Wx x σ H Q' := ⟨env, m, M, F, s, h.andThen k⟩
theorem tEs.of {x : List Ex} {f : List W → Mem → Res α} {Q' : List V → Hp → Prop} (s : Sim N K σ env m M F H) (h : ERes N K R Wx Q σ env m F ((evs P C x env M).bind f)) (hl : ∀ ws M', evs P C x env M = .ok ws M' → ws.length = x.length)
    (k : ∀ b H' m' F' c M', Sim N K σ env m' M' F' H' → RepWs N K F' m' c b → c.length = x.length → Gr m F m' F' → ERes N K R Wx Q σ env m' F' (f c M') → Q' b H') : tEs P C N K Wx x σ H Q' := by
  refine ⟨env, m, M, F, s, ?_⟩
  cases e : evs P C x env M with
  | ok ws M' =>
    rw [e] at h
    exact fun b H' m' F' s' r g => k b H' m' F' ws M' s' r.1 (hl ws M' e) g (h.rebase g)
  | exc c ns vs M' => rw [e] at h; exact h
  | bad => rw [e] at h; exact h
theorem evs_len {P : Prog} {C : Calls} : ∀ {xs : List Ex} {env : Env} {M : Mem} {ws : List W} {M' : Mem}, evs P C xs env M = .ok ws M' → ws.length = xs.length
  | [], env, M, ws, M', h => by
    have h' : (Res.ok [] M : Res (List W)) = .ok ws M' := h
    cases h'; rfl
  | x :: xs, env, M, ws, M', h => by
    have h' : ((ev P C x env M).bind fun w M => (evs P C xs env M).bind fun ws M => .ok (w :: ws) M) = .ok ws M' := h
    cases e : ev P C x env M with
    | ok w M1 =>
      rw [e, Res.bind_ok] at h'
      cases e2 : evs P C xs env M1 with
      | ok us M2 =>
        rw [e2, Res.bind_ok] at h'
        cases h'
        simp [evs_len e2]
      | exc c ns vs M2 => rw [e2] at h'; cases h'
      | bad => rw [e2] at h'; cases h'
    | exc c ns vs M2 => rw [e] at h'; cases h'
    | bad => rw [e] at h'; cases h'
theorem of_some {o : Option α} (h : ERes N K R Wx Q σ env m F (Res.of o M)) : ∃ a, o = some a ∧ ERes N K R Wx Q σ env m F (.ok a M) := by
  cases o with
  | none => exact h.elim
  | some a => exact ⟨a, rfl, h⟩
theorem of_map {γ : Type} {o : Option γ} {f : γ → α} (h : ERes N K R Wx Q σ env m F (Res.of (o.map f) M)) : ∃ a, o = some a ∧ ERes N K R Wx Q σ env m F (.ok (f a) M) := by
  cases o with
  | none => exact h.elim
  | some a => exact ⟨a, rfl, h⟩
theorem ERes.now {Q : β → Hp → Prop} {a : α} {b : β} (h : ERes N K R Wx Q σ env m F (.ok a M)) (s : Sim N K σ env m M F H) (r : R m F a b) : Q b H := h b H m F s r (Gr.refl m F)
theorem ERes.v {Q : VK} {w : W} (s : Sim N K σ env m M F H) (h : ERes N K (RW N K) Wx Q σ env m F (.ok w M)) : VRes N K Q m M F (some w) := VRes.of (o := some w) s h
/-! the steps -/
theorem s_bin {o : Bop} {a b : Ex} {Q : VK} (h : tE P C N K Wx (.bin o a b) σ H Q) : tOp (rDD N K (binD o)) (tE P C N K Wx a) (tE P C N K Wx b) σ H Q := by
  obtain ⟨env, m, M, F, s, h⟩ := h
  refine tE.of s h fun x H1 m1 F1 w1 M1 s1 r1 g1 h1 => tE.of s1 h1 fun y H2 m2 F2 w2 M2 s2 r2 g2 h2 => ?_
  have h2 : ERes N K (RW N K) Wx Q σ env m2 F2 (Res.of (binW M2 o w1 w2) M2) := h2
  unfold binW at h2
  cases e1 : w1.view M2 with
  | none => rw [e1] at h2; exact h2.elim
  | some d1 =>
    cases e2 : w2.view M2 with
    | none => rw [e1, e2] at h2; exact h2.elim
    | some d2 =>
      rw [e1, e2] at h2
      exact ⟨m2, M2, F2, d1, d2, s2.mem, s2.mem.view (RepW.mono g2.x _ _ r1) e1, s2.mem.view r2 e2, VRes.of s2 h2⟩
theorem s_cmp {o : Cop} {a b : Ex} {Q : VK} (h : tE P C N K Wx (.cmp o a b) σ H Q) : tOp (rCmp N K o) (tE P C N K Wx a) (tE P C N K Wx b) σ H Q := by
  obtain ⟨env, m, M, F, s, h⟩ := h
  refine tE.of s h fun x H1 m1 F1 w1 M1 s1 r1 g1 h1 => tE.of s1 h1 fun y H2 m2 F2 w2 M2 s2 r2 g2 h2 => ?_
  obtain ⟨k, e, h2⟩ := of_map h2
  exact ⟨m2, M2, F2, w1, w2, s2.mem, RepW.mono g2.x _ _ r1, r2, k, e, h2.now s2 rfl⟩
theorem s_cmpT {o : Cop} {a b : Ex} {Q : Bool → Hp → Prop} (h : tT P C N K Wx (.cmp o a b) σ H Q) : tTest (tOp (rCmp N K o) (tE P C N K Wx a) (tE P C N K Wx b)) σ H Q := by
  obtain ⟨env, m, M, F, s, h⟩ := h
  have h : ERes N K (fun _ _ (a b : Bool) => a = b) Wx Q σ env m F (((ev P C a env M).bind fun x M => (ev P C b env M).bind fun y M => Res.of ((cmpW M o x y).map fun b => .p (.bl b)) M).bind fun w M => Res.of (tru M w) M) := h
  have asc : ∀ {α β γ : Type} (r : Res α) (f : α → Mem → Res β) (g : β → Mem → Res γ), (r.bind f).bind g = r.bind fun a M => (f a M).bind g := fun r f g => by cases r <;> rfl
  rw [asc] at h
  refine tE.of s h fun x H1 m1 F1 w1 M1 s1 r1 g1 h1 => ?_
  have h1' := h1
  simp only [asc] at h1'
  refine tE.of s1 h1' fun y H2 m2 F2 w2 M2 s2 r2 g2 h2 => ?_
  cases e : cmpW M2 o w1 w2 with
  | none => rw [e] at h2; exact h2.elim
  | some k =>
    rw [e] at h2
    exact ⟨m2, M2, F2, w1, w2, s2.mem, RepW.mono g2.x _ _ r1, r2, k, e, k, rfl, ERes.now (a := k) h2 s2 rfl⟩
theorem bind_asc {α β γ : Type} (r : Res α) (f : α → Mem → Res β) (g : β → Mem → Res γ) : (r.bind f).bind g = r.bind fun a M => (f a M).bind g := by cases r <;> rfl
theorem s_neg {a : Ex} {Q : VK} (h : tE P C N K Wx (.neg a) σ H Q) : tUn (rU fun i => .int (-i)) (tE P C N K Wx a) σ H Q := by
  obtain ⟨env, m, M, F, s, h⟩ := h
  refine tE.of s h fun x H1 m1 F1 w1 M1 s1 r1 g1 h1 => ?_
  split at h1
  · rename_i i
    exact ⟨i, r1, h1.now s1 rfl⟩
  · exact h1.elim
theorem s_not {a : Ex} {Q : VK} (h : tE P C N K Wx (.not a) σ H Q) : tNotT K (tE P C N K Wx a) σ H Q := by
  obtain ⟨env, m, M, F, s, h⟩ := h
  refine tE.of s h fun x H1 m1 F1 w1 M1 s1 r1 g1 h1 => ?_
  obtain ⟨k, e, h1⟩ := of_map h1
  exact ⟨k, tru_of s1.mem r1 e, h1.now s1 rfl⟩
theorem s_and {a b : Ex} {Q : VK} (h : tE P C N K Wx (.and a b) σ H Q) : tAndT K (tE P C N K Wx a) (tE P C N K Wx b) σ H Q := by
  obtain ⟨env, m, M, F, s, h⟩ := h
  refine tE.of s h fun x H1 m1 F1 w1 M1 s1 r1 g1 h1 => ?_
  cases e : tru M1 w1 with
  | none => rw [e] at h1; exact h1.elim
  | some k =>
    rw [e] at h1
    refine ⟨k, tru_of s1.mem r1 e, ?_⟩
    cases k with
    | true => exact ⟨env, m1, M1, F1, s1, h1⟩
    | false => exact ERes.now (a := w1) h1 s1 r1
theorem s_or {a b : Ex} {Q : VK} (h : tE P C N K Wx (.or a b) σ H Q) : tOrT K (tE P C N K Wx a) (tE P C N K Wx b) σ H Q := by
  obtain ⟨env, m, M, F, s, h⟩ := h
  refine tE.of s h fun x H1 m1 F1 w1 M1 s1 r1 g1 h1 => ?_
  cases e : tru M1 w1 with
  | none => rw [e] at h1; exact h1.elim
  | some k =>
    rw [e] at h1
    refine ⟨k, tru_of s1.mem r1 e, ?_⟩
    cases k with
    | false => exact ⟨env, m1, M1, F1, s1, h1⟩
    | true => exact ERes.now (a := w1) h1 s1 r1
/-- a test: the value, then its truth -/
theorem tT.of {x : Ex} {f : W → Mem → Res α} {Q' : Bool → Hp → Prop} (s : Sim N K σ env m M F H) (h : ERes N K R Wx Q σ env m F ((ev P C x env M).bind f)) (hf : ∀ w M', tru M' w = none → f w M' = .bad)
    (k : ∀ b H' m' F' c M', Sim N K σ env m' M' F' H' → tru M' c = some b → Gr m F m' F' → ERes N K R Wx Q σ env m' F' (f c M') → Q' b H') : tT P C N K Wx x σ H Q' := by
  refine ⟨env, m, M, F, s, ?_⟩
  unfold evT
  cases e : ev P C x env M with
  | ok w M' =>
    rw [e] at h
    rw [Res.bind_ok] at h ⊢
    cases q : tru M' w with
    | none => rw [hf w M' q] at h; exact h.elim
    | some b =>
      intro b' H' m' F' s' r g
      cases (show b = b' from r)
      exact k b H' m' F' w M' s' q g (h.rebase g)
  | exc c ns vs M' => rw [e] at h; exact h
  | bad => rw [e] at h; exact h
theorem s_andT {a b : Ex} {Q : Bool → Hp → Prop} (h : tT P C N K Wx (.and a b) σ H Q) : tAnd (tT P C N K Wx a) (tT P C N K Wx b) σ H Q := by
  obtain ⟨env, m, M, F, s, h⟩ := h
  have h : ERes N K (fun _ _ (a b : Bool) => a = b) Wx Q σ env m F (((ev P C a env M).bind fun x M => match tru M x with | some true => ev P C b env M | some false => .ok x M | none => .bad).bind fun w M => Res.of (tru M w) M) := h
  rw [bind_asc] at h
  refine tT.of s h (fun w M' e => by rw [e]; rfl) fun k H1 m1 F1 w1 M1 s1 e g1 h1 => ?_
  rw [e] at h1
  cases k with
  | true => exact ⟨env, m1, M1, F1, s1, h1⟩
  | false =>
    have h1 : ERes N K (fun _ _ (a b : Bool) => a = b) Wx Q σ env m1 F1 (Res.of (tru M1 w1) M1) := h1
    rw [e] at h1
    exact ERes.now (a := false) h1 s1 rfl
theorem s_orT {a b : Ex} {Q : Bool → Hp → Prop} (h : tT P C N K Wx (.or a b) σ H Q) : tOr (tT P C N K Wx a) (tT P C N K Wx b) σ H Q := by
  obtain ⟨env, m, M, F, s, h⟩ := h
  have h : ERes N K (fun _ _ (a b : Bool) => a = b) Wx Q σ env m F (((ev P C a env M).bind fun x M => match tru M x with | some true => .ok x M | some false => ev P C b env M | none => .bad).bind fun w M => Res.of (tru M w) M) := h
  rw [bind_asc] at h
  refine tT.of s h (fun w M' e => by rw [e]; rfl) fun k H1 m1 F1 w1 M1 s1 e g1 h1 => ?_
  rw [e] at h1
  cases k with
  | false => exact ⟨env, m1, M1, F1, s1, h1⟩
  | true =>
    have h1 : ERes N K (fun _ _ (a b : Bool) => a = b) Wx Q σ env m1 F1 (Res.of (tru M1 w1) M1) := h1
    rw [e] at h1
    exact ERes.now (a := true) h1 s1 rfl
theorem s_notT {a : Ex} {Q : Bool → Hp → Prop} (h : tT P C N K Wx (.not a) σ H Q) : tNot (tT P C N K Wx a) σ H Q := by
  obtain ⟨env, m, M, F, s, h⟩ := h
  have h : ERes N K (fun _ _ (a b : Bool) => a = b) Wx Q σ env m F (((ev P C a env M).bind fun x M => Res.of ((tru M x).map fun b => .p (.bl !b)) M).bind fun w M => Res.of (tru M w) M) := h
  rw [bind_asc] at h
  refine tT.of s h (fun w M' e => by rw [e]; rfl) fun k H1 m1 F1 w1 M1 s1 e g1 h1 => ?_
  rw [e] at h1
  exact ERes.now (a := !k) h1 s1 rfl
/-- any form's test by its value -/
theorem s_truth {a : Ex} {Q : Bool → Hp → Prop} (h : tT P C N K Wx a σ H Q) : tE P C N K Wx a σ H fun x H' => ∃ k, TruV K x H' k ∧ Q k H' := by
  obtain ⟨env, m, M, F, s, h⟩ := h
  refine tE.of s h fun x H1 m1 F1 w1 M1 s1 r1 g1 h1 => ?_
  obtain ⟨k, e, h1⟩ := of_some h1
  exact ⟨k, tru_of s1.mem r1 e, h1.now s1 rfl⟩
theorem s_ite {c a b : Ex} {Q : VK} (h : tE P C N K Wx (.ite c a b) σ H Q) : tIf (tT P C N K Wx c) (tE P C N K Wx a) (tE P C N K Wx b) σ H Q := by
  obtain ⟨env, m, M, F, s, h⟩ := h
  refine tT.of s h (fun w M' e => by rw [e]) fun k H1 m1 F1 w1 M1 s1 e g1 h1 => ?_
  rw [e] at h1
  cases k with
  | true => exact ⟨env, m1, M1, F1, s1, h1⟩
  | false => exact ⟨env, m1, M1, F1, s1, h1⟩
theorem s_idx {a i : Ex} {Q : VK} (h : tE P C N K Wx (.idx a i) σ H Q) : tOp (rIdx N K) (tE P C N K Wx a) (tE P C N K Wx i) σ H Q := by
  obtain ⟨env, m, M, F, s, h⟩ := h
  refine tE.of s h fun x H1 m1 F1 w1 M1 s1 r1 g1 h1 => tE.of s1 h1 fun y H2 m2 F2 w2 M2 s2 r2 g2 h2 => ?_
  obtain ⟨w, e, h2⟩ := of_map h2
  exact ⟨m2, M2, F2, w1, w2, w, s2.mem, RepW.mono g2.x _ _ r1, r2, e, fun v r => h2.now s2 (s2.mem.rd r)⟩
theorem s_att {a : Ex} {f : Nat} {Q : VK} (h : tE P C N K Wx (.att a f) σ H Q) : tE P C N K Wx a σ H fun x H1 => rAtt P N K f x H1 Q := by
  obtain ⟨env, m, M, F, s, h⟩ := h
  refine tE.of s h fun x H1 m1 F1 w1 M1 s1 r1 g1 h1 => ?_
  obtain ⟨w, e, h1⟩ := of_map h1
  exact ⟨m1, M1, F1, w1, w, s1.mem, r1, e, fun v r => h1.now s1 (s1.mem.rd r)⟩
theorem s_blt {b : Blt} {as : List Ex} {Q : VK} (h : tE P C N K Wx (.blt b as) σ H Q) : tCB (rBlt N K b) (tEs P C N K Wx as) σ H Q := by
  obtain ⟨env, m, M, F, s, h⟩ := h
  refine tEs.of s h (fun _ _ => evs_len) fun xs H1 m1 F1 ws M1 s1 r1 l1 g1 h1 => ?_
  exact ⟨m1, M1, F1, ws, s1.mem, r1, VRes.of s1 h1⟩
theorem big_line {n : Nat} (h : n ≤ 1000) : n ≤ sizeLine := le_line (Nat.le_trans h (by decide))
theorem s_tup {xs : List Ex} {Q : VK} (hn : xs.length ≤ 1000) (h : tE P C N K Wx (.tup xs) σ H Q) : tTup (tEs P C N K Wx xs) σ H Q := by
  obtain ⟨env, m, M, F, s, h⟩ := h
  refine tEs.of s h (fun _ _ => evs_len) fun vs H1 m1 F1 ws M1 s1 r1 l1 g1 h1 => ?_
  exact ⟨by rw [← r1.length, l1]; exact big_line hn, VRes.tup s1.mem r1 (ERes.v s1 h1)⟩
theorem s_lst {xs : List Ex} {Q : VK} (hn : xs.length ≤ 1000) (h : tE P C N K Wx (.lst xs) σ H Q) : tLst (tEs P C N K Wx xs) σ H Q := by
  obtain ⟨env, m, M, F, s, h⟩ := h
  refine tEs.of s h (fun _ _ => evs_len) fun vs H1 m1 F1 ws M1 s1 r1 l1 g1 h1 => ?_
  refine ⟨by rw [← r1.length, l1]; exact big_line hn, ?_⟩
  obtain ⟨ds, e, h1⟩ := of_map (o := W.pures ws) h1
  exact VRes.lst s1.mem (r1.pures e) (ERes.v s1 h1)
theorem s_lstL {xs : List Ex} {Q : VK} (hn : xs.length ≤ 1000) (h : tE P C N K Wx (.lstL xs) σ H Q) : tLst (tEs P C N K Wx xs) σ H Q := by
  obtain ⟨env, m, M, F, s, h⟩ := h
  refine tEs.of s h (fun _ _ => evs_len) fun vs H1 m1 F1 ws M1 s1 r1 l1 g1 h1 => ?_
  refine ⟨by rw [← r1.length, l1]; exact big_line hn, fun p hp => ?_⟩
  have fp : F1.f p = none := by
    cases e : F1.f p with
    | none => rfl
    | some u => rw [s1.mem.sub _ _ e] at hp; cases hp
  have g2 : Gx m1 F1 (m1 ++ [p]) F1 := ⟨⟨[p], rfl⟩, Xt.refl _⟩
  obtain ⟨s2, g2⟩ := s1.mem.alloc (p := p) (o := .lst vs) (c := .lst ws) hp ⟨fp, vs, upd_same, RepWs.mono g2 _ _ r1⟩
  exact h1 _ _ _ _ (s1.to s2 g2.x) ⟨p, by rw [← s1.mem.len]; simp, rfl⟩ g2
theorem s_cons {x : Ex} {xs : List Ex} {Q : List V → Hp → Prop} (h : tEs P C N K Wx (x :: xs) σ H Q) : tCons (tE P C N K Wx x) (tEs P C N K Wx xs) σ H Q := by
  obtain ⟨env, m, M, F, s, h⟩ := h
  refine tE.of s h fun y H1 m1 F1 w1 M1 s1 r1 g1 h1 => ?_
  refine tEs.of s1 h1 (fun _ _ => evs_len) fun ys H2 m2 F2 ws M2 s2 r2 l2 g2 h2 => ?_
  exact h2.now s2 ⟨⟨RepW.mono g2.x _ _ r1, r2⟩, by simp [l2]⟩
theorem s_nil {Q : List V → Hp → Prop} (h : tEs P C N K Wx [] σ H Q) : tNil σ H Q := by
  obtain ⟨env, m, M, F, s, h⟩ := h
  exact ERes.now (a := []) h s ⟨trivial, rfl⟩
end
end G

set_option maxHeartbeats 4000000
/-! More readings: slices, isinstance, dicts; walks through collections. -/
namespace G
open PySem PySem.Spec PyProof.Rows L2

section
variable {P : Prog} {C : Calls} {N : Nam} {K : PySem.W.Frag} {Wx : WX} {α β : Type} {R : Rl α β} {Q : β → Hp → Prop} {σ : L2.St} {env : Env} {m m' : List Addr} {M M' : Mem} {F F' : Fx} {H H' : Hp}
/-- a slice's end -/
def tO (P : Prog) (C : Calls) (N : Nam) (K : PySem.W.Frag) (Wx : WX) : List Ex → TO
  | [] => tNoPart
  | x :: _ => tPart (tE P C N K Wx x)
theorem tO.of {xs : List Ex} {f : Option Int → Mem → Res α} {Q' : Option Int → Hp → Prop} (hx : xs.length ≤ 1) (s : Sim N K σ env m M F H) (h : ERes N K R Wx Q σ env m F ((evs P C xs env M).bind fun l M => (Res.of (oneInt l) M).bind f))
    (k : ∀ b H' m' F' M', Sim N K σ env m' M' F' H' → Gr m F m' F' → ERes N K R Wx Q σ env m' F' (f b M') → Q' b H') : tO P C N K Wx xs σ H Q' := by
  match xs, hx, h with
  | [], _, h => exact k none H m F M s (Gr.refl m F) h
  | [x], _, h =>
    have h : ERes N K R Wx Q σ env m F (((ev P C x env M).bind fun w M => Res.ok [w] M).bind fun l M => (Res.of (oneInt l) M).bind f) := h
    rw [bind_asc] at h
    refine tE.of s h fun x H1 m1 F1 w1 M1 s1 r1 g1 h1 => ?_
    have h1 : ERes N K R Wx Q σ env m1 F1 ((Res.of (oneInt [w1]) M1).bind f) := h1
    unfold oneInt at h1
    split at h1
    · rename_i q; cases q
    · rename_i i q
      cases q
      exact ⟨i, r1, k (some i) H1 m1 F1 M1 s1 g1 h1⟩
    · exact h1.elim
theorem s_slc {a : Ex} {lo hi : List Ex} {Q : VK} (hl : lo.length ≤ 1) (hh : hi.length ≤ 1) (h : tE P C N K Wx (.slc a lo hi) σ H Q) : tSl (rSlc N K) (tE P C N K Wx a) (tO P C N K Wx lo) (tO P C N K Wx hi) σ H Q := by
  obtain ⟨env, m, M, F, s, h⟩ := h
  refine tE.of s h fun x H1 m1 F1 w1 M1 s1 r1 g1 h1 => tO.of hl s1 h1 fun l H2 m2 F2 M2 s2 g2 h2 => tO.of hh s2 h2 fun u H3 m3 F3 M3 s3 g3 h3 => ?_
  have rr := RepW.mono (g2.trans g3).x _ _ r1
  unfold slcW at h3
  split at h3
  · rename_i z e
    split at h3
    · rename_i z2
      exact ⟨m3, M3, F3, w1, [], s3.mem, rr, .inl ⟨z, e, z2, VRes.of (o := some _) s3 h3⟩⟩
    · exact h3.elim
  · rename_i ds e
    exact ⟨m3, M3, F3, w1, ds, s3.mem, rr, .inr (.inl ⟨e, VRes.of (o := some _) s3 h3⟩)⟩
  · rename_i ds e
    exact ⟨m3, M3, F3, w1, ds, s3.mem, rr, .inr (.inr ⟨e, VRes.of (o := some _) s3 h3⟩)⟩
  · exact h3.elim
def tTys (N : Nam) (cs : List TyC) : TA := fun _ H Q => Q (cs.map (tycX N)) H
theorem s_isi1 {a : Ex} {c : TyC} {Q : VK} (h : tE P C N K Wx (.isi a [c]) σ H Q) : tCB (rIsi1 P N K c) (tCons (tE P C N K Wx a) (tTys N [c])) σ H Q := by
  obtain ⟨env, m, M, F, s, h⟩ := h
  refine tE.of s h fun x H1 m1 F1 w1 M1 s1 r1 g1 h1 => ?_
  obtain ⟨k, e, h1⟩ := of_map h1
  obtain ⟨t, e2, rfl⟩ := Option.map_eq_some_iff.mp e
  exact ⟨x, m1, M1, F1, w1, t, rfl, s1.mem, r1, e2, ERes.now h1 s1 (by simp [RW, RepW, Rep])⟩
theorem s_isiN {a : Ex} {cs : List TyC} {Q : VK} (hc : cs.length ≤ 100) (h : tE P C N K Wx (.isi a cs) σ H Q) : tCB (rIsiN P N K cs) (tCons (tE P C N K Wx a) (tCons (tTup (tTys N cs)) tNil)) σ H Q := by
  obtain ⟨env, m, M, F, s, h⟩ := h
  refine tE.of s h fun x H1 m1 F1 w1 M1 s1 r1 g1 h1 => ?_
  refine ⟨by rw [List.length_map]; exact big_line (Nat.le_trans hc (by decide)), fun p hp => ?_⟩
  obtain ⟨k, e, h1⟩ := of_map h1
  obtain ⟨t, e2, rfl⟩ := Option.map_eq_some_iff.mp e
  obtain ⟨s2, g2⟩ := s1.mem.new (o := .tup (cs.map (tycX N))) hp
  exact ⟨x, p, m1, M1, _, w1, t, rfl, upd_same, s2, RepW.mono g2.x _ _ r1, e2, h1 _ _ _ _ (s1.to s2 g2.x) rfl g2⟩
/-! ### an object held apart while something is reckoned -/
theorem apart_none (s : SimM N K m M F H) {p : Addr} (hp : H p = none) : F.g p = none := by
  cases e : F.g p with
  | none => rfl
  | some u => rw [(s.apart _ _ e).1] at hp; cases hp
theorem Sim.aside {p : Addr} {o : HO} (s : Sim N K σ env m M F H) (hp : H p = none) : Sim N K σ env m M ⟨F.f, upd F.g p o⟩ (upd H p o) := ⟨s.mem.hold hp, s.env⟩
theorem aside_eq {p : Addr} {o o' : HO} {g : Hp} (e : F'.g = upd F.g p o) (hp : F.g p = none) (a : Addr) (u : HO) (h : F.g a = some u) : a ≠ p ∧ F'.g a = some u := by
  have na : a ≠ p := fun q => by rw [q, hp] at h; cases h
  exact ⟨na, by rw [e, upd_ne na]; exact h⟩
theorem SimM.drop {p : Addr} {o : HO} (s : SimM N K m' M' F' H') (g : Gr m ⟨F.f, upd F.g p o⟩ m' F') (hp : F.g p = none) : SimM N K m' M' ⟨F'.f, F.g⟩ H' ∧ Gr m F m' ⟨F'.f, F.g⟩ :=
  ⟨s.less fun a u h => (aside_eq (o' := o) (g := F.g) g.2.2 hp a u h).2, g.1, g.2.1, rfl⟩
/-- it gets its last content and is fixed -/
theorem SimM.back {p : Addr} {o o' : HO} (s : SimM N K m' M' F' H') (g : Gr m ⟨F.f, upd F.g p o⟩ m' F') (hp : F.g p = none) :
    SimM N K m' M' ⟨upd F'.f p o', F.g⟩ (upd H' p o') ∧ Gr m F m' ⟨upd F'.f p o', F.g⟩ ∧ Gx m' F' m' ⟨upd F'.f p o', F.g⟩ ∧ H' p = some o := by
  have e : F'.g p = some o := by rw [g.2.2]; exact upd_same
  obtain ⟨h1, h2, h3⟩ := s.apart p o e
  have s1 := s.held (o' := o') e
  obtain ⟨s2, g2⟩ := s1.fix (p := p) (o := o') (g := F.g) upd_same fun a u h => by
    obtain ⟨n, q⟩ := aside_eq (o' := o) (g := F.g) g.2.2 hp a u h
    exact ⟨by show upd F'.g p o' a = some u; rw [upd_ne n]; exact q, n⟩
  have gx : Xt F'.f (upd F'.f p o') := Xt.new h3
  exact ⟨s2, ⟨g.1, g.2.1.trans gx, rfl⟩, ⟨⟨[], by simp⟩, gx⟩, h1⟩
theorem s_dct0 {Q : VK} (h : tE P C N K Wx (.dct [] []) σ H Q) : tDNewK σ H Q := by
  obtain ⟨env, m, M, F, s, h⟩ := h
  intro p hp
  obtain ⟨s2, g2⟩ := s.mem.new (o := .dK []) hp
  have h : ERes N K (RW N K) Wx Q σ env m F (.ok (.p (.dct [] [])) M) := h
  exact h _ _ _ _ (s.to s2 g2.x) ⟨p, [], rfl, upd_same, rfl, trivial⟩ g2
theorem s_dct2 {k l u v : Int} {Q : VK} (n : k ≠ l) (h : tE P C N K Wx (.dct [.int k, .int l] [.int u, .int v]) σ H Q) : tDisp [(tC (.int k), tC (.int u)), (tC (.int l), tC (.int v))] σ H Q := by
  obtain ⟨env, m, M, F, s, h⟩ := h
  intro p hp
  refine ⟨upd_same, [((.inl k : Key), V.int u), ((.inl l : Key), V.int v)], rfl, by show 2 ≤ 15; decide, ?_⟩
  have e : mergeK [] [((.inl k : Key), V.int u), (.inl l, .int v)] = [(.inl k, .int u), (.inl l, .int v)] := by
    show putK (putK [] (Sum.inl k : Key) (V.int u)) (Sum.inl l : Key) (V.int v) = _
    unfold putK
    simp [n]
  rw [e]
  have hu : upd (upd H p (.dK [])) p (.dK [(.inl k, .int u), (.inl l, .int v)]) = upd H p (.dK [(.inl k, .int u), (.inl l, .int v)]) := by
    funext b
    by_cases q : b = p
    · subst q
      rw [upd_same, upd_same]
    · rw [upd_ne q, upd_ne q, upd_ne q]
  rw [hu]
  obtain ⟨s2, g2⟩ := s.mem.new (o := .dK [(.inl k, .int u), (.inl l, .int v)]) hp
  have h : ERes N K (RW N K) Wx Q σ env m F (.ok (.p (.dct [.int k, .int l] [.int u, .int v])) M) := h
  exact h _ _ _ _ (s.to s2 g2.x) ⟨p, _, rfl, upd_same, rfl, ⟨rfl, rfl, trivial⟩⟩ g2
theorem s_dct {k : Str} {x : Ex} {Q : VK} (h : tE P C N K Wx (.dct [.str k] [x]) σ H Q) : tDisp [(tC (.str k), tE P C N K Wx x)] σ H Q := by
  obtain ⟨env, m, M, F, s, h⟩ := h
  intro p hp
  have gp := apart_none s.mem hp
  show tE P C N K Wx x σ (upd H p (.dK [])) _
  refine ⟨env, m, M, _, s.aside hp, ?_⟩
  have h : ERes N K (RW N K) Wx Q σ env m F (((ev P C x env M).bind fun w M => Res.ok [w] M).bind fun us M => match W.pures [W.p (.str k)], W.pures us with
    | some a, some b => .ok (.p (.dct a b)) M
    | _, _ => .bad) := h
  rw [bind_asc] at h
  cases e : ev P C x env M with
  | bad => rw [e] at h; exact h
  | exc c ns vs M' =>
    rw [e] at h
    intro cls d H' m' F' s' g ex
    obtain ⟨s2, g2⟩ := s'.mem.drop g gp
    exact h cls d H' m' ⟨F'.f, F.g⟩ ⟨s2, s'.env⟩ g2 ex
  | ok w M' =>
    rw [e] at h
    intro b H' m' F' s' r g
    have h : ERes N K (RW N K) Wx Q σ env m F (match W.pures [W.p (.str k)], W.pures [w] with
      | some a, some b => .ok (.p (.dct a b)) M'
      | _, _ => .bad) := h
    cases w with
    | p d =>
      obtain ⟨s2, g2, g3, hb⟩ := s'.mem.back (o' := .dK [(.inr k, b)]) g gp
      refine ⟨hb, [(.inr k, b)], rfl, by show 1 ≤ 15; decide, ?_⟩
      exact h (.ref p) _ m' _ ⟨s2, s'.env.mono g3⟩ ⟨p, _, rfl, upd_same, rfl, ⟨Rep.mono g3.ex _ _ r, trivial⟩⟩ g2
    | loc l => exact h.elim
    | tp us => exact h.elim
end
end G

set_option maxHeartbeats 4000000
/-! Targets, iterators, comprehensions. -/
namespace G
open PySem PySem.Spec PyProof.Rows L2

mutual
def tTgt (K : PySem.W.Frag) : Tg → TG
  | .nm i => gName i
  | .tp ts => fun v σ H Q => gTup K ts.length (gNames K ts) v σ H Q ∨ gLst K ts.length (gNames K ts) v σ H Q
def gNames (K : PySem.W.Frag) : List Tg → TGs
  | [] => gNil
  | t :: ts => gCons (tTgt K t) (gNames K ts)
end
theorem pg_or {X : Cx} {e : Expr} {a b : TG} (h : PG X e a) (g : PG X e b) : PG X e (fun v σ H Q => a v σ H Q ∨ b v σ H Q) :=
  ⟨fun pins s σ H v u Q I r w => w.elim (fun w => h.run pins s σ H v u Q I r w) (fun w => g.run pins s σ H v u Q I r w)⟩
section
variable {X : Cx} {L : List Str} {sc : Scope}
mutual
theorem pg_ok (hN : X.N = L) (hs : X.env.scope = sc) (nd : L.Nodup) (hc : X.calm = true) : ∀ {t : Tg} {tg : Expr}, tgtB L sc t tg = true → PG X tg (tTgt X.K t)
  | .nm i, tg, h => by
    unfold tgtB at h
    split at h
    · obtain ⟨h1, h2⟩ := Bool.and_eq_true_iff.mp h
      rename_i x p
      have hl : X.env.scope.names.lookup x = some .local := by rw [hs]; exact of_decide_eq_true h2
      exact pg_name (by rw [hN]; exact nd) (by rw [hN]; exact of_decide_eq_true h1) (.inl hl) (.inr hl)
    · cases h
  | .tp ts, tg, h => by
    unfold tgtB at h
    split at h
    · obtain ⟨h1, h2⟩ := Bool.and_eq_true_iff.mp h
      obtain ⟨a, b, c⟩ := pgs_ok hN hs nd hc h2
      exact pg_or (pg_tup hc a b c) (pg_lst hc a b c)
    · cases h
theorem pgs_ok (hN : X.N = L) (hs : X.env.scope = sc) (nd : L.Nodup) (hc : X.calm = true) : ∀ {ts : List Tg} {es : List Expr}, tgB L sc ts es = true → PGs X es (gNames X.K ts) ∧ (assignEach es X.env).length = ts.length ∧ (assignEach es X.env).findIdx? (·.1) = none
  | [], es, h => by
    unfold tgB at h
    cases es with
    | nil => exact ⟨pgs_nil, rfl, rfl⟩
    | cons _ _ => cases h
  | t :: ts, es, h => by
    unfold tgB at h
    split at h
    · rename_i e es
      obtain ⟨h1, h2⟩ := Bool.and_eq_true_iff.mp h
      obtain ⟨a, b, c⟩ := pgs_ok hN hs nd hc h2
      have p := pg_ok hN hs nd hc h1
      have ea : assignEach (e :: es) X.env = (false, assign e X.env) :: assignEach es X.env := by
        cases t <;> unfold tgtB at h1 <;> split at h1 <;> first | rfl | cases h1
      refine ⟨pgs_cons p a (by rw [ea]; rfl), ?_, ?_⟩
      · rw [ea, List.length_cons, b]; rfl
      · rw [ea, List.findIdx?_cons, c]; rfl
    · cases h
end
end
section
variable {N : Nam} {K : PySem.W.Frag} {F : Hp} {m : List Addr} {σ : L2.St} {env : Env}
theorem set_get {α : Type} {l : List α} {i j : Nat} {x y : α} (h : (l.set i x)[j]? = some y) : (i = j ∧ x = y ∧ i < l.length) ∨ (i ≠ j ∧ l[j]? = some y) := by
  by_cases q : i = j
  · subst q
    by_cases hl : i < l.length
    · rw [List.getElem?_set_self hl] at h
      cases h
      exact .inl ⟨rfl, rfl, hl⟩
    · rw [List.getElem?_eq_none (by rw [List.length_set]; omega)] at h
      cases h
  · rw [List.getElem?_set_ne q] at h
    exact .inr ⟨q, h⟩
theorem RepE.set {i : Nat} {w : W} {v : V} (h : RepE N K F m env σ) (r : RepW N K F m w v) : RepE N K F m (env.set i (some w)) (σ.set i (some v)) := by
  refine ⟨by rw [List.length_set, List.length_set]; exact h.1, fun j u e => ?_⟩
  rcases set_get e with ⟨rfl, e, hl⟩ | ⟨n, e⟩
  · cases e
    exact ⟨v, List.getElem?_set_self (by rw [h.1]; exact hl), r⟩
  · obtain ⟨x, h1, h2⟩ := h.2 j u e
    exact ⟨x, by rw [List.getElem?_set_ne n]; exact h1, h2⟩
theorem RepE.unset {i : Nat} (h : RepE N K F m env σ) : RepE N K F m (env.set i none) (σ.set i none) := by
  refine ⟨by rw [List.length_set, List.length_set]; exact h.1, fun j u e => ?_⟩
  rcases set_get e with ⟨rfl, e, hl⟩ | ⟨n, e⟩
  · cases e
  · obtain ⟨x, h1, h2⟩ := h.2 j u e
    exact ⟨x, by rw [List.getElem?_set_ne n]; exact h1, h2⟩
theorem RepE.wipe (h : RepE N K F m env σ) : ∀ vs : List Nat, RepE N K F m (wipeE env vs) (L2.wipe σ vs)
  | [] => h
  | v :: vs => (RepE.wipe h vs).unset
theorem wipe_set1 {x : Option V} {i : Nat} : ∀ vs : List Nat, (L2.wipe (σ.set i x) vs).set i none = (L2.wipe σ vs).set i none
  | [] => by show (σ.set i x).set i none = σ.set i none; rw [List.set_set]
  | v :: vs => by
    show ((L2.wipe (σ.set i x) vs).set v none).set i none = ((L2.wipe σ vs).set v none).set i none
    by_cases q : v = i
    · subst q; rw [List.set_set, List.set_set, wipe_set1 vs]
    · rw [List.set_comm _ _ q, List.set_comm _ _ q, wipe_set1 vs]
theorem wipe_set {x : Option V} {i : Nat} : ∀ {vs : List Nat}, i ∈ vs → L2.wipe (σ.set i x) vs = L2.wipe σ vs
  | v :: vs, h => by
    show (L2.wipe (σ.set i x) vs).set v none = (L2.wipe σ vs).set v none
    rcases List.mem_cons.mp h with rfl | h
    · exact wipe_set1 vs
    · rw [wipe_set h]
theorem tupW_rep {w : W} {ws : List W} {v : V} (e : tupW w = some ws) (r : RepW N K F m w v) : ∃ a ys, v = .ref a ∧ SqT K F a ys ∧ RepWs N K F m ws ys := by
  unfold tupW at e
  split at e
  · cases e
    obtain ⟨a, ys, h1, h2, h3⟩ := r
    exact ⟨a, ys, h1, h2, RepWs.p h3⟩
  · cases e
    exact r
  · cases e
theorem fixW_rep {w : W} {ws : List W} {v : V} (e : fixW w = some ws) (r : RepW N K F m w v) : ∃ a ys, v = .ref a ∧ (SqT K F a ys ∨ Rd F a (.lst ys)) ∧ RepWs N K F m ws ys := by
  unfold fixW at e
  split at e
  · cases e
    obtain ⟨a, ys, h1, h2, h3⟩ := r
    exact ⟨a, ys, h1, .inl h2, RepWs.p h3⟩
  · cases e
    obtain ⟨a, ys, h1, h2, h3⟩ := r
    exact ⟨a, ys, h1, .inr h2, RepWs.p h3⟩
  · cases e
    obtain ⟨a, ys, h1, h2, h3⟩ := r
    exact ⟨a, ys, h1, .inl h2, h3⟩
  · cases e
mutual
theorem give_ok {H : Hp} : ∀ {t : Tg} {w : W} {v : V} {env env' : Env} {σ : L2.St} {Q : L2.St → Hp → Prop}, Xt F H → give t w env = some env' → RepW N K F m w v → RepE N K F m env σ →
    (∀ σ', RepE N K F m env' σ' → (∀ us : List Nat, (∀ i ∈ t.vars, i ∈ us) → L2.wipe σ' us = L2.wipe σ us) → Q σ' H) → tTgt K t v σ H Q
  | .nm i, w, v, env, env', σ, Q, sub, e, r, h, k => by
    unfold give at e
    cases e
    unfold tTgt
    exact k _ (h.set r) fun us hu => wipe_set (hu i (by unfold Tg.vars; simp))
  | .tp ts, w, v, env, env', σ, Q, sub, e, r, h, k => by
    unfold give at e
    unfold tTgt
    cases q : fixW w with
    | none => rw [q] at e; cases e
    | some ws =>
      rw [q] at e
      have e : (if ws.length = ts.length then gives ts ws env else none) = some env' := e
      split at e
      · rename_i hl
        obtain ⟨a, ys, h1, h2, h3⟩ := fixW_rep q r
        have k' : ∀ σ', RepE N K F m env' σ' → (∀ us : List Nat, (∀ i ∈ Tg.varsL ts, i ∈ us) → L2.wipe σ' us = L2.wipe σ us) → Q σ' H := fun σ' h' z => k σ' h' fun us hu => z us fun i hi => hu i (by unfold Tg.vars; exact hi)
        have z := gives_ok sub e h3 h k'
        rcases h2 with h2 | h2
        · exact .inl ⟨a, ys, h1, sub.sqT h2, by rw [← h3.length]; exact hl, z⟩
        · exact .inr ⟨a, ys, h1, .inl (sub.rd h2), by rw [← h3.length]; exact hl, z⟩
      · cases e
theorem gives_ok {H : Hp} : ∀ {ts : List Tg} {ws : List W} {vs : List V} {env env' : Env} {σ : L2.St} {Q : L2.St → Hp → Prop}, Xt F H → gives ts ws env = some env' → RepWs N K F m ws vs → RepE N K F m env σ →
    (∀ σ', RepE N K F m env' σ' → (∀ us : List Nat, (∀ i ∈ Tg.varsL ts, i ∈ us) → L2.wipe σ' us = L2.wipe σ us) → Q σ' H) → gNames K ts vs σ H Q
  | [], [], [], env, env', σ, Q, sub, e, _, h, k => by
    unfold gives at e
    cases e
    unfold gNames
    exact ⟨rfl, k σ h fun _ _ => rfl⟩
  | t :: ts, w :: ws, v :: vs, env, env', σ, Q, sub, e, r, h, k => by
    unfold gives at e
    cases q : give t w env with
    | none => rw [q] at e; cases e
    | some e1 =>
      rw [q] at e
      unfold gNames
      refine ⟨v, vs, rfl, ?_⟩
      refine give_ok sub q r.1 h fun σ1 h1 z1 => ?_
      refine gives_ok sub e r.2 h1 fun σ' h' z => k σ' h' fun us hu => ?_
      rw [z us fun j hj => hu j (by unfold Tg.varsL; exact List.mem_append_right _ hj), z1 us fun j hj => hu j (by unfold Tg.varsL; exact List.mem_append_left _ hj)]
  | [], _ :: _, _, _, _, _, _, _, e, _, _, _ => by unfold gives at e; cases e
  | _ :: _, [], _, _, _, _, _, _, e, _, _, _ => by unfold gives at e; cases e
  | _, _ :: _, [], _, _, _, _, _, _, r, _, _ => r.elim
  | _, [], _ :: _, _, _, _, _, _, _, r, _, _ => r.elim
end
end
end G

set_option maxHeartbeats 4000000
/-! Iterators. -/
namespace G
open PySem PySem.Spec PyProof.Rows L2

/-- the iterator yields these -/
def JOk (N : Nam) (K : PySem.W.Frag) (J : It) (m0 : List Addr) (F0 : Fx) (ws : List W) : Prop :=
  ws.length ≤ sizeLine ∧ ∀ (i : Nat) (H : Hp) (m : List Addr) (M : Mem) (F : Fx), SimM N K m M F H → Gx m0 F0 m F →
    (∀ w, ws[i]? = some w → J.go i H ∧ ∀ x H', J.yld i H x H' → ∃ F', SimM N K m M F' H' ∧ Gr m F m F' ∧ RepW N K F' m w x) ∧ (i = ws.length → J.stop i H)
section
variable {N : Nam} {K : PySem.W.Frag} {F : Fx} {m : List Addr} {H : Hp}
theorem RepWs.at' {F : Hp} {ws : List W} {vs : List V} {i : Nat} {w : W} (r : RepWs N K F m ws vs) (h : ws[i]? = some w) : ∃ v, vs[i]? = some v ∧ RepW N K F m w v := r.get h
theorem jok_list {a : Addr} {ws : List W} {ys : List V} (sq : SqL K F.f a ys) (r : RepWs N K F m ws ys) (hl : ys.length ≤ sizeLine) : JOk N K (Itl K a) m F ws := by
  refine ⟨by rw [r.length]; exact hl, fun i H m' M' F' s g => ⟨fun w hw => ?_, fun e => ?_⟩⟩
  · obtain ⟨v, h1, h2⟩ := (RepWs.mono g _ _ r).get hw
    refine ⟨⟨ys, v, s.sub.sqL (g.2.sqL sq), h1⟩, fun x H' y => ?_⟩
    obtain ⟨rfl, y⟩ := y
    have z := y ys (s.sub.sqL (g.2.sqL sq))
    rw [h1] at z; cases z
    exact ⟨F', s, Gr.refl _ _, h2⟩
  · exact ⟨ys, s.sub.sqL (g.2.sqL sq), by rw [← r.length, e]; exact Nat.le_refl _⟩
theorem jok_tup {a : Addr} {ws : List W} {ys : List V} (sq : SqT K F.f a ys) (r : RepWs N K F m ws ys) (hl : ys.length ≤ sizeLine) : JOk N K (Itt K a) m F ws := by
  refine ⟨by rw [r.length]; exact hl, fun i H m' M' F' s g => ⟨fun w hw => ?_, fun e => ?_⟩⟩
  · obtain ⟨v, h1, h2⟩ := (RepWs.mono g _ _ r).get hw
    refine ⟨⟨ys, v, s.sub.sqT (g.2.sqT sq), h1⟩, fun x H' y => ?_⟩
    obtain ⟨rfl, y⟩ := y
    have z := y ys (s.sub.sqT (g.2.sqT sq))
    rw [h1] at z; cases z
    exact ⟨F', s, Gr.refl _ _, h2⟩
  · exact ⟨ys, s.sub.sqT (g.2.sqT sq), by rw [← r.length, e]; exact Nat.le_refl _⟩
theorem jok_str {z : Str} (hl : z.length ≤ sizeLine) : JOk N K (Its z) m F (z.cps.toList.map fun c => W.p (.str ⟨#[c]⟩)) := by
  have hs : z.cps.toList.length = z.cps.size := by simp
  refine ⟨by rw [List.length_map, hs]; exact hl, fun i H m' M' F' s g => ⟨fun w hw => ?_, fun e => ?_⟩⟩
  · rw [List.getElem?_map] at hw
    obtain ⟨c, hc, rfl⟩ := Option.map_eq_some_iff.mp hw
    have hi : i < z.cps.size := by
      rw [← hs]
      exact (List.getElem?_eq_some_iff.mp hc).1
    refine ⟨hi, fun x H' y => ?_⟩
    obtain ⟨rfl, c', hc', rfl⟩ := y
    rw [Array.getElem?_toList] at hc
    rw [hc] at hc'
    cases hc'
    exact ⟨F', s, Gr.refl _ _, rfl⟩
  · rw [List.length_map, hs] at e
    exact Nat.le_of_eq e.symm
theorem rng_len (lo hi : Int) : (rngW lo hi).length = (hi - lo).toNat := by simp [rngW]
theorem rng_at {lo hi : Int} {i : Nat} {w : W} (h : (rngW lo hi)[i]? = some w) : w = .p (.int (lo + i)) ∧ i < (hi - lo).toNat := by
  unfold rngW at h
  rw [List.getElem?_map] at h
  cases e : (List.range (hi - lo).toNat)[i]? with
  | none => rw [e] at h; cases h
  | some k =>
    rw [e] at h
    cases h
    obtain ⟨h1, h2⟩ := List.getElem?_eq_some_iff.mp e
    rw [List.length_range] at h1
    rw [List.getElem_range] at h2
    subst h2
    exact ⟨rfl, h1⟩
theorem jok_rng {lo hi : Int} (hl : (hi - lo).toNat ≤ sizeLine) : JOk N K (Itr lo (hi - lo).toNat) m F (rngW lo hi) := by
  refine ⟨by rw [rng_len]; exact hl, fun i H m' M' F' s g => ⟨fun w hw => ?_, fun e => ?_⟩⟩
  · obtain ⟨rfl, hi'⟩ := rng_at hw
    refine ⟨hi', fun x H' y => ?_⟩
    obtain ⟨rfl, rfl⟩ := y
    exact ⟨F', s, Gr.refl _ _, rfl⟩
  · rw [rng_len] at e
    exact Nat.le_of_eq e.symm
theorem enum_len : ∀ (k : Nat) (ws : List W), (enumW k ws).length = ws.length
  | _, [] => rfl
  | k, w :: r => congrArg (· + 1) (enum_len (k + 1) r)
theorem enum_at : ∀ {k : Nat} {ws : List W} {i : Nat} {w : W}, (enumW k ws)[i]? = some w → ∃ u, ws[i]? = some u ∧ w = mkTup [.p (.int ((k + i : Nat) : Int)), u]
  | k, w :: r, 0, u, h => by
    have h : some (mkTup [.p (.int k), w]) = some u := h
    cases h
    exact ⟨w, rfl, rfl⟩
  | k, w :: r, i + 1, u, h => by
    obtain ⟨z, h1, h2⟩ := enum_at (k := k + 1) (ws := r) (i := i) (by simpa [enumW] using h)
    exact ⟨z, by simpa using h1, by rw [h2, show k + 1 + i = k + (i + 1) by omega]⟩
  | k, [], i, u, h => by simp [enumW] at h
/-- a fresh tuple -/
theorem SimM.tupN {M : Mem} {T : Addr} {ws : List W} {vs : List V} (s : SimM N K m M F H) (hT : H T = none) (r : RepWs N K F m ws vs) : ∃ F', SimM N K m M F' (upd H T (.tup vs)) ∧ Gr m F m F' ∧ RepW N K F' m (mkTup ws) (.ref T) := by
  obtain ⟨s', g⟩ := s.new (o := .tup vs) hT
  exact ⟨_, s', g, (RepWs.mono g.x _ _ r).tup (SqT.of upd_same)⟩
theorem jok_enum {a : Addr} {ws : List W} {ys : List V} (sq : SqL K F.f a ys) (r : RepWs N K F m ws ys) (hl : ys.length ≤ sizeLine) : JOk N K (Ite K a) m F (enumW 0 ws) := by
  refine ⟨by rw [enum_len, r.length]; exact hl, fun i H m' M' F' s g => ⟨fun w hw => ?_, fun e => ?_⟩⟩
  · obtain ⟨u, h0, rfl⟩ := enum_at hw
    obtain ⟨v, h1, h2⟩ := (RepWs.mono g _ _ r).get h0
    refine ⟨⟨ys, v, s.sub.sqL (g.2.sqL sq), h1⟩, fun x H' y => ?_⟩
    obtain ⟨T, z, rfl, hT, rfl, y⟩ := y
    have z := y ys (s.sub.sqL (g.2.sqL sq))
    rw [h1] at z; cases z
    rw [Nat.zero_add]
    exact s.tupN hT ⟨rfl, h2, trivial⟩
  · rw [enum_len] at e
    exact ⟨ys, s.sub.sqL (g.2.sqL sq), by rw [← r.length, e]; exact Nat.le_refl _⟩
theorem zip_len : ∀ (ws us : List W), (zipW ws us).length = min ws.length us.length
  | [], us => by simp [zipW]
  | _ :: _, [] => by simp [zipW]
  | w :: r, u :: s => by simp [zipW, zip_len r s]
theorem zip_at : ∀ {ws us : List W} {i : Nat} {w : W}, (zipW ws us)[i]? = some w → ∃ a b, ws[i]? = some a ∧ us[i]? = some b ∧ w = mkTup [a, b]
  | x :: r, y :: s, 0, u, h => by
    have h : some (mkTup [x, y]) = some u := h
    cases h
    exact ⟨x, y, rfl, rfl, rfl⟩
  | x :: r, y :: s, i + 1, u, h => by
    obtain ⟨a, b, h1, h2, h3⟩ := zip_at (ws := r) (us := s) (i := i) (by simpa [zipW] using h)
    exact ⟨a, b, by simpa using h1, by simpa using h2, h3⟩
  | [], _, i, u, h => by simp [zipW] at h
  | _ :: _, [], i, u, h => by simp [zipW] at h
theorem jok_zipL {a b : Addr} {ws us : List W} {ys zs : List V} (sq : SqL K F.f a ys) (sq2 : SqL K F.f b zs) (r : RepWs N K F m ws ys) (r2 : RepWs N K F m us zs) (hl : ys.length ≤ sizeLine) : JOk N K (Itz K a b) m F (zipW ws us) := by
  refine ⟨by rw [zip_len, r.length]; exact Nat.le_trans (Nat.min_le_left _ _) hl, fun i H m' M' F' s g => ⟨fun w hw => ?_, fun e => ?_⟩⟩
  · obtain ⟨p, q, h0, h0', rfl⟩ := zip_at hw
    obtain ⟨v, h1, h2⟩ := (RepWs.mono g _ _ r).get h0
    obtain ⟨v', h1', h2'⟩ := (RepWs.mono g _ _ r2).get h0'
    refine ⟨⟨ys, zs, v, v', s.sub.sqL (g.2.sqL sq), s.sub.sqL (g.2.sqL sq2), h1, h1'⟩, fun x H' y => ?_⟩
    obtain ⟨T, z, z', rfl, hT, rfl, y, y'⟩ := y
    have z := y ys (s.sub.sqL (g.2.sqL sq))
    rw [h1] at z; cases z
    have z := y' zs (s.sub.sqL (g.2.sqL sq2))
    rw [h1'] at z; cases z
    exact s.tupN hT ⟨h2, h2', trivial⟩
  · rw [zip_len, r.length, r2.length] at e
    exact ⟨ys, zs, s.sub.sqL (g.2.sqL sq), s.sub.sqL (g.2.sqL sq2), by omega⟩
theorem jok_zipT {a b : Addr} {ws us : List W} {ys zs : List V} (sq : SqT K F.f a ys) (sq2 : SqT K F.f b zs) (r : RepWs N K F m ws ys) (r2 : RepWs N K F m us zs) (hl : ys.length ≤ sizeLine) : JOk N K (RZ.ItzT K a b) m F (zipW ws us) := by
  refine ⟨by rw [zip_len, r.length]; exact Nat.le_trans (Nat.min_le_left _ _) hl, fun i H m' M' F' s g => ⟨fun w hw => ?_, fun e => ?_⟩⟩
  · obtain ⟨p, q, h0, h0', rfl⟩ := zip_at hw
    obtain ⟨v, h1, h2⟩ := (RepWs.mono g _ _ r).get h0
    obtain ⟨v', h1', h2'⟩ := (RepWs.mono g _ _ r2).get h0'
    refine ⟨⟨ys, zs, v, v', s.sub.sqT (g.2.sqT sq), s.sub.sqT (g.2.sqT sq2), h1, h1'⟩, fun x H' y => ?_⟩
    obtain ⟨T, z, z', rfl, hT, rfl, y, y'⟩ := y
    have z := y ys (s.sub.sqT (g.2.sqT sq))
    rw [h1] at z; cases z
    have z := y' zs (s.sub.sqT (g.2.sqT sq2))
    rw [h1'] at z; cases z
    exact s.tupN hT ⟨h2, h2', trivial⟩
  · rw [zip_len, r.length, r2.length] at e
    exact ⟨ys, zs, s.sub.sqT (g.2.sqT sq), s.sub.sqT (g.2.sqT sq2), by omega⟩
end
abbrev RJ (N : Nam) (K : PySem.W.Frag) : Rl (List W) It := fun m F ws J => JOk N K J m F ws
section
variable (P : Prog) (C : Calls) (N : Nam) (K : PySem.W.Frag) (Wx : WX)
def evI (it : Ex) (env : Env) (M : Mem) : Res (List W) := (ev P C it env M).bind fun w M => Res.of (iterW w) M
def tI (it : Ex) : TI := fun σ H R => ∃ env m M F, Sim N K σ env m M F H ∧ ERes N K (RJ N K) Wx R σ env m F (evI P C it env M)
end
section
variable {X : Cx} {P : Prog} {C : Calls} {N : Nam} {Wx : WX} {tg e : Expr}
/-- more is known when the iterator stands -/
theorem pi_run {wi : TI} (h : PI X tg e wi) {pins : List (Addr × Obj)} {s : Shared} {σ : L2.St} {H : Hp} {R R' : It → Hp → Prop} (I : L2.Inv X pins σ H s) (hw : wi σ H R') (k : ∀ J H' s', L2.Inv X pins σ H' s' → R' J H' → R J H') :
    wpAny (model X.prog X.w) X.A (eval e X.env) (fun v s1 => wpAny (model X.prog X.w) X.A (pyIter v) (PIE X pins σ tg R) X.xe s1) X.xe s :=
  thn (h.run pins s σ H R' I hw) fun v s1 h1 => thn h1 fun u s2 ⟨it, fp, tn, J, H', a, I', b, c, d, r⟩ => ⟨it, fp, tn, J, H', a, I', b, c, d, k J H' s2 I' r⟩
theorem pi_it {a : Ex} (he : PE X e (tE P C N X.K Wx a)) : PI X tg e (tI P C N X.K Wx (.it a)) := by
  refine ⟨fun pins s σ H R I h => ?_⟩
  obtain ⟨env, m, M, F, sm, h⟩ := h
  have h : ERes N X.K (RJ N X.K) Wx R σ env m F ((ev P C a env M).bind fun w M => Res.of (iterW w) M) := h
  cases e1 : ev P C a env M with
  | bad => rw [e1] at h; exact h.elim
  | exc c ns vs M' =>
    rw [e1] at h
    exact (pi_list he).run pins s σ H R I ⟨env, m, M, F, sm, by rw [e1]; exact h⟩
  | ok w M' =>
    rw [e1] at h
    have h : ERes N X.K (RJ N X.K) Wx R σ env m F (Res.of (iterW w) M') := h
    have tup : ∀ {ws : List W}, tupW w = some ws → iterW w = some ws → wpAny (model X.prog X.w) X.A (eval e X.env) (fun v s1 => wpAny (model X.prog X.w) X.A (pyIter v) (PIE X pins σ tg R) X.xe s1) X.xe s := fun {ws} e2 e3 => by
      refine pi_run (R' := fun J H' => ∃ a ys, SqT X.K H' a ys ∧ (ys.length ≤ sizeLine → R J H')) (pi_tup he) I ⟨env, m, M, F, sm, ?_⟩ fun J H' s' I' hr => ?_
      · rw [e1]
        intro b H' m' F' s' r g
        obtain ⟨p, ys, rfl, q1, q2⟩ := tupW_rep e2 r
        rw [e3] at h
        exact ⟨p, rfl, ⟨ys, s'.mem.sub.sqT q1⟩, p, ys, s'.mem.sub.sqT q1, fun hl => h _ H' m' F' s' (jok_tup q1 q2 hl) g⟩
      · obtain ⟨p, ys, q1, q2⟩ := hr
        obtain ⟨_, _, _, hz⟩ := I'.tuple q1
        exact q2 hz
    cases w with
    | tp ws => exact tup rfl rfl
    | loc l => exact h.elim
    | p d =>
      cases d with
      | tup ds => exact tup rfl rfl
      | lst ds =>
        refine pi_run (R' := fun J H' => ∃ a ys, SqL X.K H' a ys ∧ (ys.length ≤ sizeLine → R J H')) (pi_list he) I ⟨env, m, M, F, sm, ?_⟩ fun J H' s' I' hr => ?_
        · rw [e1]
          intro b H' m' F' s' r g
          obtain ⟨p, ys, rfl, q1, q2⟩ := r
          have q1 : SqL X.K F'.f p ys := .inl q1
          exact ⟨p, rfl, ⟨ys, s'.mem.sub.sqL q1⟩, p, ys, s'.mem.sub.sqL q1, fun hl => h _ H' m' F' s' (jok_list q1 (RepWs.p q2) hl) g⟩
        · obtain ⟨p, ys, q1, q2⟩ := hr
          obtain ⟨_, _, _, hz⟩ := I'.list q1
          exact q2 hz
      | str z =>
        have h' : ERes N X.K (RJ N X.K) Wx R σ env m F (Res.of (if szOk z.length then some (z.cps.toList.map fun c => W.p (.str ⟨#[c]⟩)) else none) M') := h
        split at h'
        · rename_i hz
          refine (pi_str he).run pins s σ H R I ⟨env, m, M, F, sm, ?_⟩
          rw [e1]
          intro b H' m' F' s' r g
          cases (show b = .str z from r)
          exact ⟨z, rfl, h' _ H' m' F' s' (jok_str (szOk_le hz)) g⟩
        · exact h'.elim
      | _ => exact h.elim
theorem szInt {n : Int} (h : szOk n.natAbs = true) : -(2 ^ 62) ≤ n ∧ n < 2 ^ 62 ∧ n.toNat ≤ 100000 := by
  have := of_decide_eq_true h
  omega
theorem s_rng1 {a : Ex} {σ : L2.St} {H : Hp} {R : It → Hp → Prop} {K : PySem.W.Frag} (h : tI P C N K Wx (.rng1 a) σ H R) : iRng1 (tCons (tE P C N K Wx a) tNil) σ H R := by
  obtain ⟨env, m, M, F, s, h⟩ := h
  have h : ERes N K (RJ N K) Wx R σ env m F (((ev P C a env M).bind fun x M => match x with
    | .p (.int n) => if szOk n.natAbs then .ok (.tp (rngW 0 n)) M else .bad
    | _ => .bad).bind fun w M => Res.of (iterW w) M) := h
  rw [bind_asc] at h
  refine tE.of s h fun x H1 m1 F1 w1 M1 s1 r1 g1 h1 => ?_
  split at h1
  · rename_i n
    split at h1
    · rename_i z
      obtain ⟨z1, z2, z3⟩ := szInt z
      cases (show x = .int n from r1)
      refine ⟨n, rfl, z1, z2, ?_⟩
      have j : JOk N K (Itr 0 (n - 0).toNat) m1 F1 (rngW 0 n) := jok_rng (by rw [Int.sub_zero]; exact le_line z3)
      rw [Int.sub_zero] at j
      exact ERes.now (a := rngW 0 n) h1 s1 j
    · exact h1.elim
  · exact h1.elim
theorem s_rng2 {a b : Ex} {σ : L2.St} {H : Hp} {R : It → Hp → Prop} {K : PySem.W.Frag} (h : tI P C N K Wx (.rng2 a b) σ H R) : iRng2 (tCons (tE P C N K Wx a) (tCons (tE P C N K Wx b) tNil)) σ H R := by
  obtain ⟨env, m, M, F, s, h⟩ := h
  have h : ERes N K (RJ N K) Wx R σ env m F (((ev P C a env M).bind fun x M => (ev P C b env M).bind fun y M => match x, y with
    | .p (.int l), .p (.int n) => if szOk l.natAbs && szOk n.natAbs then .ok (.tp (rngW l n)) M else .bad
    | _, _ => .bad).bind fun w M => Res.of (iterW w) M) := h
  rw [bind_asc] at h
  refine tE.of s h fun x H1 m1 F1 w1 M1 s1 r1 g1 h1 => ?_
  rw [bind_asc] at h1
  refine tE.of s1 h1 fun y H2 m2 F2 w2 M2 s2 r2 g2 h2 => ?_
  split at h2
  · rename_i l n
    split at h2
    · rename_i z
      obtain ⟨za, zb⟩ := Bool.and_eq_true_iff.mp z
      obtain ⟨z1, z2, z3⟩ := szInt za
      obtain ⟨z4, z5, z6⟩ := szInt zb
      cases (show x = .int l from r1)
      cases (show y = .int n from r2)
      exact ⟨l, n, rfl, ⟨z1, z2, z4, z5⟩, ERes.now (a := rngW l n) h2 s2 (jok_rng (by have := of_decide_eq_true za; have := of_decide_eq_true zb; rw [sizeLine_eq]; omega))⟩
    · exact h2.elim
  · exact h2.elim
/-- enumerate, zip: more is known behind the arguments -/
theorem pi_enum' {L : Ex} {l : Expr} {p pos tpos : Pos} {elts : List Expr} {kk : Nat} (hg : Gl X "enumerate") (hm : X.mg "enumerate" = none) (he : PE X l (tE P C N X.K Wx L)) (hs : starEach [l] X.env = [(false, eval l X.env)]) :
    PI X (.Tuple elts kk tpos) (.Call (.Name "enumerate" p) [l] [] pos) (tI P C N X.K Wx (.enum L)) := by
  refine ⟨fun pins s σ H R I h => ?_⟩
  obtain ⟨env, m, M, F, sm, h⟩ := h
  have h : ERes N X.K (RJ N X.K) Wx R σ env m F (((ev P C L env M).bind fun x M => match lstW x with
    | some ws => .ok (.tp (enumW 0 ws)) M
    | none => .bad).bind fun w M => Res.of (iterW w) M) := h
  rw [bind_asc] at h
  have ha : PA X [l] (tCons (tE P C N X.K Wx L) tNil) := pa_cons he pa_nil (by rw [hs]; rfl)
  refine pi_run (R' := fun J H' => ∃ a ys, SqL X.K H' a ys ∧ (ys.length ≤ sizeLine → R J H')) (pi_enum hg hm ha hs) I ?_ fun J H' s' I' hr => ?_
  · refine tE.of sm h fun x H1 m1 F1 w1 M1 s1 r1 g1 h1 => ?_
    cases w1 with
    | p d =>
      cases d with
      | lst ds =>
        obtain ⟨a, ys, rfl, q1, q2⟩ := r1
        have q1 : SqL X.K F1.f a ys := .inl q1
        exact ⟨a, ys, rfl, s1.mem.sub.sqL q1, a, ys, s1.mem.sub.sqL q1, fun hl => ERes.now (a := enumW 0 (ds.map .p)) h1 s1 (jok_enum q1 (RepWs.p q2) hl)⟩
      | _ => exact h1.elim
    | _ => exact h1.elim
  · obtain ⟨a, ys, q1, q2⟩ := hr
    obtain ⟨_, _, _, hz⟩ := I'.list q1
    exact q2 hz
theorem lstW_rep {K : PySem.W.Frag} {F : Hp} {m : List Addr} {w : W} {ws : List W} {v : V} (e : lstW w = some ws) (r : RepW N K F m w v) : ∃ a ys, v = .ref a ∧ SqL K F a ys ∧ RepWs N K F m ws ys := by
  unfold lstW at e
  split at e
  · cases e
    obtain ⟨a, ys, h1, h2, h3⟩ := r
    exact ⟨a, ys, h1, .inl h2, RepWs.p h3⟩
  · cases e
theorem pi_zip' {L L' : Ex} {l l' : Expr} {p pos tpos : Pos} {elts : List Expr} {kk : Nat} (hg : Gl X "zip") (hm : X.mg "zip" = none) (he : PE X l (tE P C N X.K Wx L)) (he' : PE X l' (tE P C N X.K Wx L')) (hs : starEach [l, l'] X.env = (false, eval l X.env) :: starEach [l'] X.env)
    (hs' : starEach [l'] X.env = [(false, eval l' X.env)]) : PI X (.Tuple elts kk tpos) (.Call (.Name "zip" p) [l, l'] [] pos) (tI P C N X.K Wx (.zip L L')) := by
  refine ⟨fun pins s σ H R I h => ?_⟩
  obtain ⟨env, m, M, F, sm, h⟩ := h
  have h : ERes N X.K (RJ N X.K) Wx R σ env m F (((ev P C L env M).bind fun x M => (ev P C L' env M).bind fun y M => match zipItems x y with
    | some r => .ok (.tp (zipW r.1 r.2)) M
    | none => .bad).bind fun w M => Res.of (iterW w) M) := h
  rw [bind_asc] at h
  have ha : PA X [l, l'] (tCons (tE P C N X.K Wx L) (tCons (tE P C N X.K Wx L') tNil)) := pa_cons he (pa_cons he' pa_nil (by rw [hs']; rfl)) hs
  refine pi_run (R' := fun J H' => ∃ a ys, (SqL X.K H' a ys ∨ SqT X.K H' a ys) ∧ (ys.length ≤ sizeLine → R J H')) (RZ.pi_zipA hg hm ha hs (by rw [hs']; rfl)) I ?_ fun J H' s' I' hr => ?_
  · refine tE.of sm h fun x H1 m1 F1 w1 M1 s1 r1 g1 h1 => ?_
    rw [bind_asc] at h1
    refine tE.of s1 h1 fun y H2 m2 F2 w2 M2 s2 r2 g2 h2 => ?_
    have r1 := RepW.mono g2.x _ _ r1
    have h2 : ERes N X.K (RJ N X.K) Wx R σ env m2 F2 ((match zipItems w1 w2 with
      | some r => .ok (.tp (zipW r.1 r.2)) M2
      | none => .bad : Res W).bind fun w M => Res.of (iterW w) M) := h2
    cases e : zipItems w1 w2 with
    | none => rw [e] at h2; exact h2.elim
    | some r =>
      rw [e] at h2
      have h2 : ERes N X.K (RJ N X.K) Wx R σ env m2 F2 (.ok (zipW r.1 r.2) M2) := h2
      unfold zipItems at e
      split at e
      · rename_i xs ys e1 e2
        cases e
        obtain ⟨a, zs, rfl, q1, q2⟩ := lstW_rep e1 r1
        obtain ⟨b, us, rfl, p1, p2⟩ := lstW_rep e2 r2
        exact ⟨a, b, zs, us, rfl, .inl ⟨s2.mem.sub.sqL q1, s2.mem.sub.sqL p1, a, zs, .inl (s2.mem.sub.sqL q1), fun hl => h2.now s2 (jok_zipL q1 p1 q2 p2 hl)⟩⟩
      · split at e
        · rename_i xs ys e1 e2
          cases e
          obtain ⟨a, zs, rfl, q1, q2⟩ := tupW_rep e1 r1
          obtain ⟨b, us, rfl, p1, p2⟩ := tupW_rep e2 r2
          exact ⟨a, b, zs, us, rfl, .inr ⟨s2.mem.sub.sqT q1, s2.mem.sub.sqT p1, a, zs, .inr (s2.mem.sub.sqT q1), fun hl => h2.now s2 (jok_zipT q1 p1 q2 p2 hl)⟩⟩
        · cases e
  · obtain ⟨a, ys, q1, q2⟩ := hr
    rcases q1 with q1 | q1
    · obtain ⟨_, _, _, hz⟩ := I'.list q1
      exact q2 hz
    · obtain ⟨_, _, _, hz⟩ := I'.tuple q1
      exact q2 hz
end
end G

set_option maxHeartbeats 4000000
/-! Comprehensions, read. -/
namespace G
open PySem PySem.Spec PyProof.Rows L2

def cStep (P : Prog) (C : Calls) (elt : Ex) (own : List Nat) (t : Tg) (ifs : List Ex) (env : Env) : W → Mem → Res (Option W) := fun w M => match give t w (wipeE env own) with
  | some e => (evs P C ifs e M).bind fun bs M => match truA M bs with
    | some true => (ev P C elt e M).bind fun v M => .ok (some v) M
    | some false => .ok none M
    | none => .bad
  | none => .bad
theorem ev_comp {P : Prog} {C : Calls} {elt it : Ex} {own : List Nat} {t : Tg} {ifs : List Ex} {env : Env} {M : Mem} : ev P C (.comp elt own t it ifs) env M = (ev P C it env M).bind fun x M => match iterW x with
  | some ws => (compL (cStep P C elt own t ifs env) ws [] M).noX.bind fun vs M => Res.of (mkLst vs) M
  | none => .bad := rfl
def WF : WX := fun _ _ _ _ => False
def tIfs (P : Prog) (C : Calls) (N : Nam) (K : PySem.W.Frag) : List Ex → TT
  | [] => tYes
  | c :: _ => tT P C N K WF c
section
variable {P : Prog} {C : Calls} {N : Nam} {K : PySem.W.Frag} {Wx : WX} {σ : L2.St} {H : Hp}
theorem wipe_get {σ : L2.St} (i : Nat) : ∀ vs : List Nat, (L2.wipe σ vs)[i]? = if i ∈ vs ∧ i < σ.length then some none else σ[i]?
  | [] => by simp [L2.wipe]
  | v :: vs => by
    show ((L2.wipe σ vs).set v none)[i]? = _
    by_cases q : v = i
    · subst q
      by_cases hl : v < σ.length
      · rw [List.getElem?_set_self (by rw [wipe_length]; exact hl), if_pos ⟨List.mem_cons_self, hl⟩]
      · rw [List.getElem?_eq_none (by rw [List.length_set, wipe_length]; omega), if_neg (fun z => hl z.2), List.getElem?_eq_none (by omega)]
    · rw [List.getElem?_set_ne q, wipe_get i vs]
      have e : (i ∈ v :: vs) ↔ i ∈ vs := by simp [Ne.symm q]
      simp only [e]
theorem wipe_wipe {σ : L2.St} {vs : List Nat} : L2.wipe (L2.wipe σ vs) vs = L2.wipe σ vs := by
  refine List.ext_getElem? fun i => ?_
  rw [wipe_get i vs, wipe_length]
  by_cases q : i ∈ vs ∧ i < σ.length
  · rw [if_pos q, wipe_get i vs, if_pos q]
  · rw [if_neg q]
theorem upd_upd {H : Hp} {p : Addr} {o o' : HO} : upd (upd H p o) p o' = upd H p o' := by
  funext a
  by_cases q : a = p
  · subst q; rw [upd_same, upd_same]
  · rw [upd_ne q, upd_ne q, upd_ne q]
theorem s_comp {elt it : Ex} {own : List Nat} {t : Tg} {ifs : List Ex} {Q : VK} (hi : ifs.length ≤ 1) (ht : ∀ i ∈ t.vars, i ∈ own) (h : tE P C N K Wx (.comp elt own t it ifs) σ H Q) :
    tLc (tI P C N K Wx it) (tTgt K t) (tIfs P C N K ifs) (tE P C N K WF elt) own σ H Q := by
  obtain ⟨env, m, M, F, s, h⟩ := h
  rw [ev_comp] at h
  refine ⟨env, m, M, F, s, ?_⟩
  unfold evI
  cases e0 : ev P C it env M with
  | bad => rw [e0] at h; exact h
  | exc c ns vs M' => rw [e0] at h; exact h
  | ok w0 M1 =>
    rw [e0] at h
    show ERes N K (RJ N K) Wx _ σ env m F (Res.of (iterW w0) M1)
    have h : ERes N K (RW N K) Wx Q σ env m F (match iterW w0 with
      | some ws => (compL (cStep P C elt own t ifs env) ws [] M1).noX.bind fun vs M => Res.of (mkLst vs) M
      | none => .bad) := h
    cases e1 : iterW w0 with
    | none => rw [e1] at h; exact h
    | some ws =>
      rw [e1] at h
      intro J H1 m1 F1 s1 j g1 D hD
      have h1 := h.rebase g1
      have h1 : ERes N K (RW N K) Wx Q σ env m1 F1 ((compL (cStep P C elt own t ifs env) ws [] M1).noX.bind fun vs M => Res.of (mkLst vs) M) := h1
      clear h
      have gp := apart_none s1.mem hD
      let WI : Nat → Nat → Hp → Prop := fun i n H => ∃ (m' : List Addr) (M' : Mem) (F' : Fx) (ra : List W) (acc : List V), n = ws.length - i ∧ i ≤ ws.length ∧ SimM N K m' M' F' H ∧ Gr m1 ⟨F1.f, upd F1.g D (.lst acc)⟩ m' F' ∧ RepWs N K F' m' ra.reverse acc ∧ acc.length ≤ i ∧
        ERes N K (RW N K) Wx Q σ env m1 F1 ((compL (cStep P C elt own t ifs env) (ws.drop i) ra M').noX.bind fun vs M => Res.of (mkLst vs) M)
      refine ⟨WI, ⟨ws.length, m1, M1, ⟨F1.f, upd F1.g D (.lst [])⟩, [], [], rfl, Nat.zero_le _, s1.mem.hold hD, Gr.refl _ _, trivial, Nat.le_refl _, h1⟩, ?_⟩
      rintro i n H2 ⟨m', M', F', ra, acc, rfl, hil, sm, g, rr, la, hh⟩
      obtain ⟨jl, jj⟩ := j
      have gx : Gx m1 F1 m' F' := ⟨g.1, g.2.1⟩
      obtain ⟨jg, js⟩ := jj i H2 m' M' F' sm gx
      have eD : F'.g D = some (.lst acc) := by rw [g.2.2]; exact upd_same
      by_cases hlt : i < ws.length
      · have hw : ws[i]? = some ws[i] := List.getElem?_eq_getElem hlt
        obtain ⟨go, yl⟩ := jg _ hw
        refine .inr ⟨go, WI (i + 1) (ws.length - (i + 1)), fun H' h' => ⟨ws.length - (i + 1), by omega, h'⟩, fun x H3 y => ?_⟩
        obtain ⟨F2, sm2, g2, rx⟩ := yl x H3 y
        rw [List.drop_eq_getElem_cons hlt] at hh
        have hh : ERes N K (RW N K) Wx Q σ env m1 F1 (((cStep P C elt own t ifs env ws[i] M').bind fun o M'' => match o with
          | some v => compL (cStep P C elt own t ifs env) (ws.drop (i + 1)) (v :: ra) M''
          | none => compL (cStep P C elt own t ifs env) (ws.drop (i + 1)) ra M'').noX.bind fun vs M => Res.of (mkLst vs) M) := hh
        have ec : cStep P C elt own t ifs env ws[i] M' = (match give t ws[i] (wipeE env own) with
          | some e => (evs P C ifs e M').bind fun bs M => match truA M bs with
            | some true => (ev P C elt e M).bind fun v M => .ok (some v) M
            | some false => .ok none M
            | none => .bad
          | none => .bad) := rfl
        rw [ec] at hh
        cases eg : give t ws[i] (wipeE env own) with
        | none => rw [eg] at hh; exact hh.elim
        | some e2 =>
          rw [eg] at hh
          simp only at hh
          have gx2 : Gx m1 F1 m' F2 := gx.trans g2.x
          refine give_ok sm2.sub eg rx ((s1.env.mono gx2).wipe own) fun σ2 re hw2 => ⟨(hw2 own ht).trans wipe_wipe, ?_⟩
          have sim2 : Sim N K σ2 e2 m' M' F2 H3 := ⟨sm2, re⟩
          have fg2 : F2.g = upd F1.g D (.lst acc) := g2.2.2.trans g.2.2
          have rr2 : RepWs N K F2 m' ra.reverse acc := RepWs.mono g2.x _ _ rr
          -- a turn's end
          have keep : ∀ {m3 : List Addr} {M3 : Mem} {F3 : Fx} {H4 : Hp}, SimM N K m3 M3 F3 H4 → Gr m' F2 m3 F3 → ERes N K (RW N K) Wx Q σ env m1 F1 ((compL (cStep P C elt own t ifs env) (ws.drop (i + 1)) ra M3).noX.bind fun vs M => Res.of (mkLst vs) M) → WI (i + 1) (ws.length - (i + 1)) H4 :=
            fun {m3 M3 F3 H4} s3 g3 h3 => ⟨m3, M3, F3, ra, acc, rfl, hlt, s3, ⟨(gx2.trans g3.x).1, (gx2.trans g3.x).2, g3.2.2.trans fg2⟩, RepWs.mono g3.x _ _ rr2, Nat.le_succ_of_le la, h3⟩
          have more : ∀ {m3 : List Addr} {M3 : Mem} {F3 : Fx} {H4 : Hp} {v : W} {y : V}, SimM N K m3 M3 F3 H4 → Gr m' F2 m3 F3 → RepW N K F3 m3 v y → ERes N K (RW N K) Wx Q σ env m1 F1 ((compL (cStep P C elt own t ifs env) (ws.drop (i + 1)) (v :: ra) M3).noX.bind fun vs M => Res.of (mkLst vs) M) →
              ∃ acc, H4 D = some (.lst acc) ∧ acc.length < sizeLine ∧ WI (i + 1) (ws.length - (i + 1)) (upd H4 D (.lst (acc ++ [y]))) := fun {m3 M3 F3 H4 v y} s3 g3 rv h3 => by
            have e3 : F3.g D = some (.lst acc) := by rw [g3.2.2, fg2]; exact upd_same
            refine ⟨acc, (s3.apart _ _ e3).1, by omega, m3, M3, ⟨F3.f, upd F3.g D (.lst (acc ++ [y]))⟩, v :: ra, acc ++ [y], rfl, hlt, s3.held e3, ⟨(gx2.trans g3.x).1, (gx2.trans g3.x).2, ?_⟩, ?_, by rw [List.length_append, List.length_singleton]; omega, h3⟩
            · show upd F3.g D _ = upd F1.g D _
              rw [g3.2.2, fg2, upd_upd]
            · rw [List.reverse_cons]
              exact RepWs.append (RepWs.mono (F' := F3) g3.x _ _ rr2) ⟨rv, trivial⟩
          have elts : ∀ {m3 : List Addr} {M3 : Mem} {F3 : Fx} {H4 : Hp}, Sim N K σ2 e2 m3 M3 F3 H4 → Gr m' F2 m3 F3 →
              ERes N K (RW N K) Wx Q σ env m1 F1 ((((ev P C elt e2 M3).bind fun v M => Res.ok (some v) M).bind fun o M'' => match o with
                | some v => compL (cStep P C elt own t ifs env) (ws.drop (i + 1)) (v :: ra) M''
                | none => compL (cStep P C elt own t ifs env) (ws.drop (i + 1)) ra M'').noX.bind fun vs M => Res.of (mkLst vs) M) →
              tE P C N K WF elt σ2 H4 fun y H5 => ∃ acc, H5 D = some (.lst acc) ∧ acc.length < sizeLine ∧ WI (i + 1) (ws.length - (i + 1)) (upd H5 D (.lst (acc ++ [y]))) := fun {m3 M3 F3 H4} s3 g3 h3 => by
            refine ⟨e2, m3, M3, F3, s3, ?_⟩
            cases e4 : ev P C elt e2 M3 with
            | bad => rw [e4] at h3; exact h3
            | exc c ns vs M4 => rw [e4] at h3; exact h3.elim
            | ok v M4 =>
              rw [e4] at h3
              exact fun y H5 m4 F4 s4 r4 g4 => more s4.mem (g3.trans g4) r4 h3
          match ifs, hi, hh with
          | [], _, hh => exact elts sim2 (Gr.refl _ _) hh
          | [c], _, hh =>
            refine ⟨e2, m', M', F2, sim2, ?_⟩
            unfold evT
            have hh : ERes N K (RW N K) Wx Q σ env m1 F1 ((((((ev P C c e2 M').bind fun w M => Res.ok [w] M).bind fun bs M => match truA M bs with
              | some true => (ev P C elt e2 M).bind fun v M => .ok (some v) M
              | some false => .ok none M
              | none => .bad).bind fun o M'' => match o with
              | some v => compL (cStep P C elt own t [c] env) (ws.drop (i + 1)) (v :: ra) M''
              | none => compL (cStep P C elt own t [c] env) (ws.drop (i + 1)) ra M'')).noX.bind fun vs M => Res.of (mkLst vs) M) := hh
            cases e3 : ev P C c e2 M' with
            | bad => rw [e3] at hh; exact hh
            | exc c ns vs M4 => rw [e3] at hh; exact hh.elim
            | ok wc M3 =>
              rw [e3] at hh
              simp only [Res.bind_ok] at hh ⊢
              have et : truA M3 [wc] = tru M3 wc := rfl
              rw [et] at hh
              cases e5 : tru M3 wc with
              | none => rw [e5] at hh; exact hh
              | some k =>
                rw [e5] at hh
                intro b H4 m3 F3 s3 r3 g3
                cases (show k = b from r3)
                cases k with
                | true => exact elts s3 g3 hh
                | false => exact keep s3.mem g3 hh
      · have hie : i = ws.length := by omega
        refine .inl ⟨js hie, ?_⟩
        rw [hie, List.drop_length] at hh
        have hh : ERes N K (RW N K) Wx Q σ env m1 F1 (Res.of (mkLst ra.reverse) M') := hh
        obtain ⟨ds, e5, hh⟩ := of_map (o := W.pures ra.reverse) hh
        obtain ⟨s5, g5⟩ := sm.fix (g := F1.g) eD fun a u q => by
          obtain ⟨q1, q2⟩ := aside_eq (F' := F') (o' := .lst acc) (g := F1.g) g.2.2 gp a u q
          exact ⟨q2, q1⟩
        have g6 : Gr m1 F1 m' ⟨upd F'.f D (.lst acc), F1.g⟩ := ⟨(gx.trans g5).1, (gx.trans g5).2, rfl⟩
        exact hh (.ref D) H2 m' _ (s1.to s5 g6.x) ⟨D, acc, rfl, .inl upd_same, Reps.mono g5.2 _ _ (rr.pures e5)⟩ g6
end
end G

set_option maxHeartbeats 4000000
/-! Instances, starred items: steps. -/
namespace G
open PySem PySem.Spec PyProof.Rows L2

/-- an answer that is a truth value, a text -/
def FB (N : Nam) (K : PySem.W.Frag) (Q : Bool → Hp → Prop) (m : List Addr) (F : Fx) : Res W → Prop
  | .ok (.p (.bl r)) M' => ∀ H' m' F', SimM N K m' M' F' H' → Gr m F m' F' → Q r H'
  | _ => False
def FS (N : Nam) (K : PySem.W.Frag) (Q : Str → Hp → Prop) (m : List Addr) (F : Fx) : Res W → Prop
  | .ok (.p (.str r)) M' => ∀ H' m' F', SimM N K m' M' F' H' → Gr m F m' F' → Q r H'
  | _ => False
def rEqO (P : Prog) (C : Calls) (N : Nam) (K : PySem.W.Frag) (ng : Bool) : R2 := fun x y H Q => ∃ m M F a b q, SimM N K m M F H ∧ RepW N K F m a x ∧ RepW N K F m b y ∧ eqAsk P M a b = some q ∧ FB N K (fun r H' => Q (.bl (if ng then !r else r)) H') m F (C q.1 q.2 M)
def rStrO (P : Prog) (C : Calls) (N : Nam) (K : PySem.W.Frag) (c f : Nat) : List V → Hp → VK → Prop := fun vs H Q => ∃ x m M F a, vs = [x] ∧ SimM N K m M F H ∧ RepW N K F m a x ∧ insB P M c a = true ∧ FS N K (fun r H' => Q (.str r) H') m F (C f [a] M)
section
variable {P : Prog} {C : Calls} {N : Nam} {K : PySem.W.Frag} {Wx : WX} {σ : L2.St} {H : Hp}
theorem s_eqO {ng : Bool} {a b : Ex} {Q : VK} (h : tE P C N K Wx (.eqO ng a b) σ H Q) : tOp (rEqO P C N K ng) (tE P C N K Wx a) (tE P C N K Wx b) σ H Q := by
  obtain ⟨env, m, M, F, s, h⟩ := h
  refine tE.of s h fun x H1 m1 F1 w1 M1 s1 r1 g1 h1 => tE.of s1 h1 fun y H2 m2 F2 w2 M2 s2 r2 g2 h2 => ?_
  have h2 : ERes N K (RW N K) Wx Q σ env m2 F2 (match eqAsk P M2 w1 w2 with
    | some q => (C q.1 q.2 M2).noX.bind fun w M' => match w with
      | .p (.bl r) => .ok (.p (.bl (if ng then !r else r))) M'
      | _ => .bad
    | none => .bad) := h2
  cases e : eqAsk P M2 w1 w2 with
  | none => rw [e] at h2; exact h2.elim
  | some q =>
    rw [e] at h2
    refine ⟨m2, M2, F2, w1, w2, q, s2.mem, RepW.mono g2.x _ _ r1, r2, e, ?_⟩
    have h2 : ERes N K (RW N K) Wx Q σ env m2 F2 ((C q.1 q.2 M2).noX.bind fun w M' => match w with
      | .p (.bl r) => .ok (.p (.bl (if ng then !r else r))) M'
      | _ => .bad) := h2
    cases e2 : C q.1 q.2 M2 with
    | bad => rw [e2] at h2; exact h2.elim
    | exc c ns vs M' => rw [e2] at h2; exact h2.elim
    | ok w M' =>
      rw [e2] at h2
      cases w with
      | p d =>
        cases d with
        | bl r => exact fun H' m' F' s' g => h2 _ H' m' F' (s2.to s' g.x) rfl g
        | _ => exact h2.elim
      | _ => exact h2.elim
theorem s_strO {c f : Nat} {a : Ex} {Q : VK} (h : tE P C N K Wx (.strO c f a) σ H Q) : tCB (rStrO P C N K c f) (tCons (tE P C N K Wx a) tNil) σ H Q := by
  obtain ⟨env, m, M, F, s, h⟩ := h
  refine tE.of s h fun x H1 m1 F1 w1 M1 s1 r1 g1 h1 => ?_
  have h1 : ERes N K (RW N K) Wx Q σ env m1 F1 (if insB P M1 c w1 then (C f [w1] M1).noX.bind fun w M' => match w with
      | .p (.str z) => .ok (.p (.str z)) M'
      | _ => .bad
    else .bad) := h1
  split at h1
  · rename_i hi
    refine ⟨x, m1, M1, F1, w1, rfl, s1.mem, r1, hi, ?_⟩
    cases e2 : C f [w1] M1 with
    | bad => rw [e2] at h1; exact h1.elim
    | exc c ns vs M' => rw [e2] at h1; exact h1.elim
    | ok w M' =>
      rw [e2] at h1
      cases w with
      | p d =>
        cases d with
        | str r => exact fun H' m' F' s' g => h1 _ H' m' F' (s1.to s' g.x) rfl g
        | _ => exact h1.elim
      | _ => exact h1.elim
  · exact h1.elim
theorem s_fz {a : Ex} {Q : VK} (h : tE P C N K Wx (.fz a) σ H Q) : tE P C N K Wx a σ H Q := by
  obtain ⟨env, m, M, F, s, h⟩ := h
  refine ⟨env, m, M, F, s, ?_⟩
  have h : ERes N K (RW N K) Wx Q σ env m F ((ev P C a env M).bind fun x M => match frzW 30000 M x with
    | some r => .ok (.p r.1) r.2
    | none => .bad) := h
  cases e : ev P C a env M with
  | bad => rw [e] at h; exact h
  | exc c ns vs M' => rw [e] at h; exact h
  | ok w M' =>
    rw [e] at h
    have h : ERes N K (RW N K) Wx Q σ env m F (match frzW 30000 M' w with
      | some r => .ok (.p r.1) r.2
      | none => .bad) := h
    intro b H' m' F' s' r g
    cases e2 : frzW 30000 M' w with
    | none => rw [e2] at h; exact h.elim
    | some q =>
      rw [e2] at h
      obtain ⟨d, M2⟩ := q
      obtain ⟨F2, s2, g2, r2⟩ := frzW_ok 30000 s'.mem r e2
      exact h b H' m' F2 (s'.to s2 g2.x) r2 (g.trans g2)
/-! starred items -/
theorem noX_bind {α β γ : Type} {r : Res α} {f : α → Mem → Res β} {g : β → Mem → Res γ} : (r.bind f).noX.bind g = r.noX.bind fun a M => (f a M).noX.bind g := by cases r <;> rfl
theorem tE.ofN {x : Ex} {α β : Type} {R : Rl α β} {Q : β → Hp → Prop} {f : W → Mem → Res α} {Q' : VK} {env : G.Env} {m : List Addr} {M : Mem} {F : Fx} (s : Sim N K σ env m M F H) (h : ERes N K R Wx Q σ env m F ((ev P C x env M).noX.bind f))
    (k : ∀ b H' m' F' c M', Sim N K σ env m' M' F' H' → RepW N K F' m' c b → Gr m F m' F' → ERes N K R Wx Q σ env m' F' (f c M') → Q' b H') : tE P C N K Wx x σ H Q' := by
  refine ⟨env, m, M, F, s, ?_⟩
  cases e : ev P C x env M with
  | bad => rw [e] at h; exact h
  | exc c ns vs M' => rw [e] at h; exact h.elim
  | ok w M' => rw [e] at h; exact fun b H' m' F' s' r g => k b H' m' F' w M' s' r g (h.rebase g)
def tSt (P : Prog) (C : Calls) (N : Nam) (K : PySem.W.Frag) (Wx : WX) (ss : List Bool) (xs : List Ex) : TA := fun σ H Q => ∃ env m M F, Sim N K σ env m M F H ∧ ERes N K (RWs N K) Wx Q σ env m F ((evs P C xs env M).noX.bind fun ws M => Res.of (starW M ss ws) M)
theorem st_nil {Q : List V → Hp → Prop} (h : tSt P C N K Wx [] [] σ H Q) : tNil σ H Q := by
  obtain ⟨env, m, M, F, s, h⟩ := h
  exact ERes.now (a := []) (b := []) h s trivial
theorem starW_any : ∀ (ss : List Bool) (ws : List W) (M M' : Mem), starW M ss ws = starW M' ss ws
  | [], [], _, _ => rfl
  | false :: ss, w :: ws, M, M' => by
    show (starW M ss ws).map _ = (starW M' ss ws).map _
    rw [starW_any ss ws M M']
  | true :: ss, w :: ws, M, M' => by
    show (match fixW w with
      | some us => (starW M ss ws).map (us ++ ·)
      | none => none) = (match fixW w with
      | some us => (starW M' ss ws).map (us ++ ·)
      | none => none)
    rw [starW_any ss ws M M']
  | [], _ :: _, _, _ => rfl
  | b :: _, [], _, _ => by cases b <;> rfl
theorem st_more {us : List W} {b : List V} {ss : List Bool} {xs : List Ex} {env : G.Env} {m : List Addr} {M : Mem} {F : Fx} {Q : List V → Hp → Prop} (r : RepWs N K F m us b) (s : Sim N K σ env m M F H)
    (h : ERes N K (RWs N K) Wx Q σ env m F ((evs P C xs env M).noX.bind fun ws M => Res.of ((starW M ss ws).map (us ++ ·)) M)) : tSt P C N K Wx ss xs σ H (fun ys H2 => Q (b ++ ys) H2) := by
  refine ⟨env, m, M, F, s, ?_⟩
  cases e : evs P C xs env M with
  | bad => rw [e] at h; exact h
  | exc c ns vs M' => rw [e] at h; exact h
  | ok ws M' =>
    rw [e] at h
    have h : ERes N K (RWs N K) Wx Q σ env m F (Res.of ((starW M' ss ws).map (us ++ ·)) M') := h
    show ERes N K (RWs N K) Wx _ σ env m F (Res.of (starW M' ss ws) M')
    cases e2 : starW M' ss ws with
    | none => rw [e2] at h; exact h
    | some vs =>
      rw [e2] at h
      exact fun ys H' m' F' s' rr g => h (b ++ ys) H' m' F' s' (RepWs.append (RepWs.mono g.x _ _ r) rr) g
theorem st_plain {ss : List Bool} {x : Ex} {xs : List Ex} {Q : List V → Hp → Prop} (h : tSt P C N K Wx (false :: ss) (x :: xs) σ H Q) : tCons (tE P C N K Wx x) (tSt P C N K Wx ss xs) σ H Q := by
  obtain ⟨env, m, M, F, s, h⟩ := h
  have h : ERes N K (RWs N K) Wx Q σ env m F (((ev P C x env M).bind fun w M => (evs P C xs env M).bind fun ws M => .ok (w :: ws) M).noX.bind fun ws M => Res.of (starW M (false :: ss) ws) M) := h
  rw [noX_bind] at h
  refine tE.ofN s h fun b H1 m1 F1 w1 M1 s1 r1 g1 h1 => ?_
  rw [noX_bind] at h1
  exact st_more (us := [w1]) (b := [b]) ⟨r1, trivial⟩ s1 h1
theorem st_star {ss : List Bool} {x : Ex} {xs : List Ex} {Q : List V → Hp → Prop} (h : tSt P C N K Wx (true :: ss) (x :: xs) σ H Q) : StX.tStar K (tE P C N K Wx x) (tSt P C N K Wx ss xs) σ H Q := by
  obtain ⟨env, m, M, F, s, h⟩ := h
  have h : ERes N K (RWs N K) Wx Q σ env m F (((ev P C x env M).bind fun w M => (evs P C xs env M).bind fun ws M => .ok (w :: ws) M).noX.bind fun ws M => Res.of (starW M (true :: ss) ws) M) := h
  rw [noX_bind] at h
  refine tE.ofN s h fun b H1 m1 F1 w1 M1 s1 r1 g1 h1 => ?_
  rw [noX_bind] at h1
  have h1 : ERes N K (RWs N K) Wx Q σ env m1 F1 ((evs P C xs env M1).noX.bind fun ws M => Res.of (match fixW w1 with
    | some us => (starW M ss ws).map (us ++ ·)
    | none => none) M) := h1
  cases q : fixW w1 with
  | none =>
    exfalso
    rw [q] at h1
    cases e3 : evs P C xs env M1 with
    | bad => rw [e3] at h1; exact h1
    | ok ws M2 => rw [e3] at h1; exact h1
    | exc c ns vs M2 => rw [e3] at h1; exact h1
  | some us =>
    rw [q] at h1
    obtain ⟨a, ys, rfl, h2, h3⟩ := fixW_rep q r1
    refine ⟨a, ys, rfl, ?_, st_more (us := us) (b := ys) h3 s1 h1⟩
    rcases h2 with h2 | h2
    · exact .inl (s1.mem.sub.sqT h2)
    · exact .inr (.inl (s1.mem.sub.rd h2))
theorem s_lstS {ss : List Bool} {xs : List Ex} {Q : VK} (h : tE P C N K Wx (.lstS ss xs) σ H Q) : tLst (tSt P C N K Wx ss xs) σ H Q := by
  obtain ⟨env, m, M, F, s, h⟩ := h
  refine ⟨env, m, M, F, s, ?_⟩
  have h : ERes N K (RW N K) Wx Q σ env m F ((evs P C xs env M).noX.bind fun ws M => match starW M ss ws with
    | some us => if szOk us.length then Res.of (mkLst us) M else .bad
    | none => .bad) := h
  cases e : evs P C xs env M with
  | bad => rw [e] at h; exact h
  | exc c ns vs M' => rw [e] at h; exact h
  | ok ws M' =>
    rw [e] at h
    have h : ERes N K (RW N K) Wx Q σ env m F (match starW M' ss ws with
      | some us => if szOk us.length then Res.of (mkLst us) M' else .bad
      | none => .bad) := h
    show ERes N K (RWs N K) Wx _ σ env m F (Res.of (starW M' ss ws) M')
    cases e2 : starW M' ss ws with
    | none => rw [e2] at h; exact h
    | some us =>
      rw [e2] at h
      have h : ERes N K (RW N K) Wx Q σ env m F (if szOk us.length then Res.of (mkLst us) M' else .bad) := h
      split at h
      · rename_i z
        intro ys H' m' F' s' rr g
        obtain ⟨ds, e3, h⟩ := of_map (o := W.pures us) h
        refine ⟨by rw [← rr.length]; exact szOk_le z, ?_⟩
        exact VRes.lst s'.mem (rr.pures e3) (ERes.v s' (h.rebase g))
      · exact h.elim
end
end G

set_option maxHeartbeats 4000000
/-! A list comprehension whose element may raise. -/
namespace PySem
namespace HandSPX
section
variable {M : Model} {A : Around} {E : Value → Shared → Prop} {s : Shared} {base : Heap} {env : Env} {outer : List Env} {e L L' C : Addr} {Z : Obj → Prop}
/-- held by another frame's number: noted anew -/
theorem looks_heldZ {Q : Unit → Shared → Prop} (hZ : Steady Z) (hfr : A.frames = some (env :: outer)) (hf : env.frame = some L) (hne : L' ≠ L) (hfl : HeldZ base (env :: outer) e Z L' s.heap)
    (hQ : ∀ h', HeldZ base (env :: outer) e Z L h' → s.heap.UpToSlots h' → Q () { s with heap := h' }) : wpAny M A (noteFrame (.ref e) env) Q E s := by
  obtain ⟨hkb, hen, hl, oe, vs, T, oT, ts, he, hz, hd, h1, hnT, hTe, hT, hdT, h3⟩ := hfl
  unfold noteFrame
  simp only [hf]
  refine wpAny_bind (wpAny_field he hd h1 ?_)
  rw [if_pos (show (Value.ref T != Value.none) = true from by simp)]
  refine wpAny_bind (wpAny_field hT hdT h3 ?_)
  rw [if_neg (show ¬ ((rawInt L' == rawInt L) = true) from fun q => hne (by
    have z := eq_of_beq q
    unfold rawInt at z
    injection z with z
    exact Int.ofNat.inj z))]
  refine wpAny_bind (wpAny_setField hT hdT (Array.getElem?_eq_some_iff.mp h3).1 ?_)
  have other : ∀ b, b ≠ T → (s.heap.update T (Obj.mapFields (·.setIfInBounds 3 Value.none))).get? b = s.heap.get? b := fun b hb => Heap.get?_update_other _ _ (Ne.symm hb)
  have noRecord : ∀ b o, s.heap.get? b = some o → (∀ vs, o.data ≠ .fields vs) → b ≠ T := fun b o hb hnf q => by
    rw [q, hT] at hb; injection hb with hb; subst hb; exact hnf ts hdT
  refine wpAny_entryZ hZ hfr (hl.of_keeps fun b o hb hnf => ⟨o, (other b (noRecord b o hb hnf)).trans hb, rfl⟩) hf ((other e (Ne.symm hTe)).trans he)
    (fun b o hbo => (other b fun q => by rw [q, hnT] at hbo; cases hbo).trans (hkb b o hbo)) hen hd (Array.getElem?_eq_some_iff.mp h1).1 hz fun h' hN => ?_
  obtain ⟨x1, x2, x3, x4⟩ := hN
  exact hQ h' ⟨x1, hen, x2, x3⟩ fun b o hb hnf => x4 b o ((other b (noRecord b o hb hnf)).trans hb) hnf
end
section
variable {B h h' : Heap} {l : List Env} {e L C : Addr} {Z : Obj → Prop} {m m' : Str → Option Value}
theorem hidden_none {b : Addr} {xs : List Addr} (hb : B.get? b = none) : (PySem.W.hideAll B xs).get? b = none := by
  cases q : (PySem.W.hideAll B xs).get? b with
  | none => rfl
  | some o =>
    have z := PySem.W.of_hideAll _ q
    rw [hb] at z; cases z
theorem HeldZ.hide (x : HeldZ B l e Z L h) : HeldZ (PySem.W.hideAll B [C]) l e Z L h := by
  obtain ⟨h1, h2, h3, oe, vs, T, oT, ts, he, hz, hd, k1, hnT, r⟩ := x
  exact ⟨fun b o hb => h1 b o (PySem.W.of_hideAll _ hb), hidden_none h2, L2.funFrames_none h3 fun b hb => hidden_none (h3.mem hb).1, oe, vs, T, oT, ts, he, hz, hd, k1, hidden_none hnT, r⟩
theorem HeldZ.same (hC : B.get? C = none) (hn : h.Ns C m) (hn' : h'.Ns C m') (hs : Heap.SameBut C h h') (x : HeldZ B l e Z L h) : HeldZ B l e Z L h' := by
  obtain ⟨h1, h2, h3, oe, vs, T, oT, ts, he, hz, hd, k1, hnT, hTe, hT, hdT, k3⟩ := x
  obtain ⟨oL, es, ep, hoL, hdL, _⟩ := hn
  have ne1 : e ≠ C := fun q => by rw [q, hoL] at he; injection he with he; subst he; rw [hdL] at hd; cases hd
  have ne2 : T ≠ C := fun q => by rw [q, hoL] at hT; injection hT with hT; subst hT; rw [hdL] at hdT; cases hdT
  exact ⟨fun b o hb => (hs.2 b fun q => by rw [q, hC] at hb; cases hb).trans (h1 b o hb), h2, Heap.FunFrames.sameBut hs hn' h3, oe, vs, T, oT, ts, (hs.2 e ne1).trans he, hz, hd, k1, hnT, hTe, (hs.2 T ne2).trans hT, hdT, k3⟩
end
end HandSPX
end PySem
namespace L2
open PySem PySem.Spec PyProof.Rows
section
variable {X : Cx} {pins : List (Addr × Obj)} {σ : L2.St} {s3 s' : Shared} {H3 : Hp} {scope : Scope} {cl : List (Str × Addr)} {fp : List Addr} {Wx : WX} {u : Value}
/-- what a raise out of the block owes -/
theorem blk_fails (hs : X.stack = X.env :: X.outer) (hf : X.env.frame = some X.env.locals) (I3 : L2.Inv X pins σ H3 s3) (f3 : ∀ b ∈ fp, FpOk X pins H3 b) (tk : Takes X Wx)
    (x : XE (X.blk s3 H3 scope (compEnvC scope cl s3.heap.objs.size X.env) fp) (fun cls d _ H => Wx cls d σ H) u s') :
    notedBy (model X.prog X.w) X.A (compEnvC scope cl s3.heap.objs.size X.env) (CompFails (model X.prog X.w) X.A X.xe (compEnvC scope cl s3.heap.objs.size X.env)) u s' := by
  obtain ⟨a, B, sI, pins', σ', H', cls, d, rfl, I', nb, up, sky, na, os, ag, w⟩ := x
  have hfr : X.A.frames = some (X.env :: X.outer) := by rw [I3.ok.frames, hs]
  have nC : H' s3.heap.objs.size = none := I'.free
  have hne : s3.heap.objs.size ≠ X.env.locals := Nat.ne_of_gt I3.lt
  have I7 : L2.Inv X pins σ H' sI := I3.call' (ch := fp) I'.os I'.base I'.hok I'.bare fun b hb => ⟨(f3 b hb).2.2.2.1, (f3 b hb).2.1, (f3 b hb).2.2.2.2.1, (f3 b hb).2.2.2.2.2⟩
  have fpC : FpOk X pins H' s3.heap.objs.size := I3.fpOk (Nat.le_refl _) nC
  have I8 : L2.Inv X pins σ H' { sI with heap := PySem.W.hideAll sI.heap [s3.heap.objs.size], toks := sI.toks } := I7.turned (it := s3.heap.objs.size) (fun b o hb e => PySem.W.hideAll_get _ e (by simpa using hb)) fpC.1 fpC.2.1 fpC.2.2.2.1 fpC.2.2.2.2.1 fpC.2.2.2.2.2
  obtain ⟨mC, hnC, _⟩ := I'.loc
  have hnC : sI.heap.Ns s3.heap.objs.size mC := hnC
  have hn' : s'.heap.Ns s3.heap.objs.size mC := hnC.upToSlots up
  show wpAny _ X.A (noteFrame (.ref a) (compEnvC scope cl s3.heap.objs.size X.env)) _ _ s'
  rw [noteFrame_env (.ref a) (show (compEnvC scope cl s3.heap.objs.size X.env).frame = X.env.frame from rfl)]
  have fin : ∀ h1, HandSPX.HeldZ B (X.env :: X.outer) a (Zc cls d) X.env.locals h1 → s'.heap.UpToSlots h1 → CompFails (model X.prog X.w) X.A X.xe (compEnvC scope cl s3.heap.objs.size X.env) (.ref a) { s' with heap := h1 } := fun h1 hh up1 => by
    have hn1 : h1.Ns s3.heap.objs.size mC := hn'.upToSlots up1
    refine ⟨mC, hn1, fun h2 m2 hn2 hs2 => ?_⟩
    have hh2 : HandSPX.HeldZ (PySem.W.hideAll B [s3.heap.objs.size]) (X.env :: X.outer) a (Zc cls d) X.env.locals h2 := HandSPX.HeldZ.same (PySem.W.hideAll_none _ (by simp)) hn1 hn2 hs2 hh.hide
    obtain ⟨_, _, _, oe, vs, T, oT, ts, he, hz, hd, k1, _⟩ := id hh2
    unfold PySem.passOn
    refine wpAny_bind (wpAny_field he hd k1 ?_)
    rw [if_neg (show ¬ ((Value.ref T == Value.none) = true) from by simp)]
    show wpAny _ _ (setFlight (.ref a) X.env.frame >>= fun _ => throw (.ref a)) _ _ _
    rw [hf]
    refine wpAny_bind (HandSPX.setFlight_onZ hh2 fun h3 hh3 up3 => wpAny_throw ?_)
    refine tk _ _ ⟨a, PySem.W.hideAll B [s3.heap.objs.size], _, pins, σ, H', cls, d, rfl, I8, fun b o e hb => ?_, fun b o e hnf => ?_, ?_, na, os, ag, w⟩
    · have hbC : b ≠ s3.heap.objs.size := fun q => by rw [q, PySem.W.hideAll_none _ (by simp)] at e; cases e
      exact PySem.W.hideAll_get _ (nb b o (PySem.W.of_hideAll _ e) hb) (by simpa using hbC)
    · have hbC : b ≠ s3.heap.objs.size := fun q => by
        have e : (PySem.W.hideAll sI.heap [s3.heap.objs.size]).get? b = some o := e
        rw [q, PySem.W.hideAll_none _ (by simp)] at e; cases e
      obtain ⟨sl1, e1⟩ := up b o (PySem.W.of_hideAll _ e) hnf
      obtain ⟨sl2, e2⟩ := up1 b _ e1 hnf
      have e2' := (hs2.2 b hbC).trans e2
      obtain ⟨sl3, e3⟩ := up3 b _ e2' hnf
      exact ⟨sl3, e3⟩
    · show Sky _ X.stack _ _ _ _
      rw [hs]
      exact .inr (.inr hh3)
  have sky : Sky B X.stack a (Zc cls d) s3.heap.objs.size s'.heap := sky
  rw [hs] at sky
  rcases sky with ⟨hB, hn, hl, oe, vs, he, hz, hd, h1⟩ | fl | hh
  · exact HandSPX.look_newZ Zc.steady hfr hl hf he hB hn hd h1 hz fin
  · exact HandSPX.looks_onZ Zc.steady hfr hf fl fin
  · exact HandSPX.looks_heldZ Zc.steady hfr hf hne hh fin
end
end L2

set_option maxHeartbeats 4000000
/-! A list comprehension whose element may raise: the rule. -/
namespace L2
open PySem PySem.Spec PyProof.Rows
theorem Inv.other {X : Cx} {pins : List (Addr × Obj)} {σ : L2.St} {H : Hp} {s : Shared} (e : Value → Shared → Prop) (I : L2.Inv X pins σ H s) : L2.Inv { X with xe := e } pins σ H s := by
  obtain ⟨ok, a1, a2, a3, a4, a5, a6, a7, a8, a9, a10⟩ := I
  obtain ⟨b1, b2, b3, b4, b5, b6, b7, b8, b9, b10, b11, b12, b13, b14, b15, b16, b17, b18⟩ := ok
  exact ⟨⟨b1, b2, b3, b4, b5, b6, b7, b8, b9, b10, b11, b12, b13, b14, b15, b16, b17, b18⟩, a1, a2, a3, a4, a5, a6, a7, a8, a9, a10⟩
/-- the block where the element may raise -/
abbrev Cx.blkE (X : Cx) (s : Shared) (H : Hp) (scope : Scope) (cenv : PySem.Env) (fp : List Addr) (W : WX) : Cx := { X.blk s H scope cenv fp with xe := fun u s' => XE (X.blk s H scope cenv fp) W u s' }
theorem blkE_takes {X : Cx} {s : Shared} {H : Hp} {scope : Scope} {cenv : PySem.Env} {fp : List Addr} {W : WX} : Takes (X.blkE s H scope cenv fp W) W := fun u s' ⟨a, B, sI, pins, σ, H', cls, d, e, I, nb, up, sky, na, os, ag, w⟩ =>
  ⟨a, B, sI, pins, σ, H', cls, d, e, I.other (fun _ _ => False), nb, up, sky, na, os, ag, w⟩
section
variable {X : Cx} {pins : List (Addr × Obj)} {s : Shared} {σ : L2.St} {H : Hp} {Q : VK} {elt tg iter : Expr} {ifs : List Expr} {scope : Scope} {own : List (Str × Nat)} {pos pos' : Pos} {wi : TI} {g : TG} {tt : TT} {te : L2.St → TE} {Wx : WX}
theorem lc_raise {use : Option (Value → Sem Unit)} {Qf : Value → Shared → Prop} (hs0 : X.stack = X.env :: X.outer) (hf0 : X.env.frame = some X.env.locals) (tk : Takes X Wx) (hc : X.calm = true) (hN : X.N.Nodup) (I : L2.Inv X pins σ H s) (hi : PI X tg iter wi) (ok : BlkOk X.N X.env.scope scope own)
    (hg : ∀ (s : Shared) (H : Hp) (C : Addr) (cl : List (Str × Addr)) (fp : List Addr), PG (X.blk s H scope (compEnvC scope cl C X.env) fp) tg g) (ht : ∀ (s : Shared) (H : Hp) (C : Addr) (cl : List (Str × Addr)) (fp : List Addr), PTs (X.blk s H scope (compEnvC scope cl C X.env) fp) ifs tt)
    (he : ∀ (σ0 : L2.St) (s : Shared) (H : Hp) (C : Addr) (cl : List (Str × Addr)) (fp : List Addr), PE (X.blkE s H scope (compEnvC scope cl C X.env) fp (fun cls d _ H => Wx cls d σ0 H)) elt (te σ0)) (hs : ∀ x, foldedSetIterable iter X.env x = pure x)
    (h : tLc wi g tt (te σ) (own.map (·.2)) σ H Q)
    (hR : ∀ D C s' m H' ce, ce.locals = C → L2.Inv X pins σ H' s' → Q (.ref D) H' → s'.heap.Ns C m → FpOk X pins H' C → compEnds (model X.prog X.w) X.A X.xe use Qf (.ref D) ce (.ok .next) s') :
    wpAny (model X.prog X.w) X.A (comprehension (.ListComp elt [⟨tg, iter, ifs, 0⟩] scope pos) scope X.env pos' (newList []) false (eval iter X.env) use) Qf X.xe s := by
  have capt : ∀ y ∈ scope.names, y.2 = .free → ∃ c, X.env.cells.lookup y.1 = some c := fun y hy e => (ok.free y hy e).elim (fun k => I.ok.has _ (.inl k)) (fun k => I.ok.has _ (.inr k))
  refine comprehension_at (use := use) rfl hs (closure_ok capt) ok.kind (fun y hy e => by rw [ok.uniq y hy, e]) (thn (hi.run pins s σ H _ I h) fun xv s1 hx => thn hx fun itv s2 h2 => ?_)
  obtain ⟨it, fp, tn, J, H2, e, I2, T, st2, f2, q⟩ := h2
  subst e
  refine wpAny_newObj_type (newEnv_comp ?_) (by show 0 ≤ sizeLine; decide)
  obtain ⟨D, hD⟩ : ∃ D, D = s2.heap.objs.size := ⟨_, rfl⟩
  rw [← hD]
  obtain ⟨WI, ⟨m0, w0⟩, turn⟩ := q D (I2.hok.fresh (Nat.le_of_eq hD.symm))
  obtain ⟨s3, hs3⟩ : ∃ s3 : Shared, s3 = { s2 with heap := s2.heap.push { cls := .type "list", data := .seq ([] : List Value).toArray } } := ⟨_, rfl⟩
  rw [← hs3]
  have h3 : s3.heap = s2.heap.push { cls := .type "list", data := .seq ([] : List Value).toArray } := by rw [hs3]
  have I3 : L2.Inv X pins σ (upd H2 D (.lst [])) s3 := by
    rw [hs3]
    refine I2.laid (t' := s2.toks) (fun b o e => Heap.get?_push_of_some _ e) (Nat.le_of_eq hD.symm) ⟨Nat.zero_le _, [], 0, .nil, ?_⟩
    rw [hD]
    exact Heap.get?_push_size _ rfl
  obtain ⟨H3, hH3⟩ : ∃ H3 : Hp, H3 = upd H2 D (.lst []) := ⟨_, rfl⟩
  rw [← hH3] at I3 w0
  have small : ∀ b ∈ fp, b < s2.heap.objs.size := fun b hb => by
    obtain ⟨o, e, _⟩ := T.obj _ _ st2 b hb
    exact Heap.lt_size e
  have f3 : ∀ b ∈ fp, FpOk X pins H3 b := fun b hb => ⟨by rw [hH3, upd_ne (by rw [hD]; exact Nat.ne_of_lt (small b hb))]; exact (f2 b hb).1, (f2 b hb).2⟩
  have l3 : ∀ b ∈ fp, b < s3.heap.objs.size := fun b hb => by rw [h3, Heap.size_push]; exact Nat.lt_succ_of_lt (small b hb)
  obtain ⟨C, hC⟩ : ∃ C, C = s3.heap.objs.size := ⟨_, rfl⟩
  obtain ⟨cl, hcl⟩ : ∃ cl, cl = cellsFrom (s3.heap.objs.size + 1) scope.names (cloFrom X.env.cells scope.names []) := ⟨_, rfl⟩
  have I4 := block_start I3 ok hN fun b hb => ⟨f3 b hb, l3 b hb⟩
  show codeAny _ _ (.compStart (.ListComp elt [⟨tg, iter, ifs, 0⟩] scope pos) 0 (.ref it) (.ref D) (compEnvC scope (cellsFrom (s3.heap.objs.size + 1) scope.names (cloFrom X.env.cells scope.names [])) s3.heap.objs.size X.env)) (compEnds (model X.prog X.w) X.A X.xe use Qf (.ref D) (compEnvC scope (cellsFrom (s3.heap.objs.size + 1) scope.names (cloFrom X.env.cells scope.names [])) s3.heap.objs.size X.env)) { s3 with heap := pushCells (s3.heap.push { cls := .type "dict", data := .dict #[] }) scope.names }
  have pg := hg s3 H3 s3.heap.objs.size cl fp
  have pt := ht s3 H3 s3.heap.objs.size cl fp
  have pe := he σ s3 H3 s3.heap.objs.size cl fp
  have fails := fun u s' => blk_fails (X := X) (scope := scope) (cl := cl) (fp := fp) (Wx := Wx) (u := u) (s' := s') hs0 hf0 I3 f3 tk
  rw [← hcl] at I4 ⊢
  obtain ⟨ce, hce⟩ : ∃ ce, ce = compEnvC scope cl s3.heap.objs.size X.env := ⟨_, rfl⟩
  rw [← hce] at I4 pg pt pe fails ⊢
  have cL : ce.locals = s3.heap.objs.size := by rw [hce]; rfl
  obtain ⟨s4, hs4⟩ : ∃ s4 : Shared, s4 = { s3 with heap := pushCells (s3.heap.push { cls := .type "dict", data := .dict #[] }) scope.names } := ⟨_, rfl⟩
  rw [← hs4] at I4 ⊢
  have st4 : tn 0 s4.heap := T.keep _ _ _ st2 fun b _ o e => by
    rw [hs4]
    exact pushCells_keeps _ _ _ _ (Heap.get?_push_of_some _ (by rw [h3]; exact Heap.get?_push_of_some _ e))
  have stat : ∀ {σ' : L2.St} {H' : Hp} {s' : Shared}, L2.Inv (X.blk s3 H3 scope ce fp) [] σ' H' s' → (∀ b ∈ fp, H' b = none) → ∀ b ∈ fp, FpOk (X.blk s3 H3 scope ce fp) [] H' b := fun {σ' H' s'} I' hn b hb =>
    ⟨hn b hb, (I'.ok.exf b hb).1, I'.ok.exfs b hb, .inl hb, fun x c e => (I'.ok.exf b hb).2 x c e, fun p hp => absurd (show p ∈ ([] : List (Addr × Obj)) ++ [] from hp) (by simp)⟩
  have loop : codeAny (model X.prog X.w) X.A (.compLoop (.ListComp elt [⟨tg, iter, ifs, 0⟩] scope pos) 0 (.ref it) (.ref D) ce) (compEnds (model X.prog X.w) X.A X.xe use Qf (.ref D) ce) s4 := by
    refine compLoop_any (fun n s' => ∃ i H', L2.Inv (X.blk s3 H3 scope ce fp) [] (wipe σ (own.map (·.2))) H' s' ∧ tn i s'.heap ∧ (∀ b ∈ fp, H' b = none) ∧ WI i n H') ?_ m0 ⟨0, H3, I4, st4, fun b hb => (f3 b hb).1, w0⟩
    rintro n s5 ⟨i, H5, I5, st5, n5, w5⟩
    rcases turn i n H5 w5 with ⟨stop, qq⟩ | ⟨go, Nx, hNx, step⟩
    · refine thnF (T.done (X.blk s3 H3 scope ce fp) rfl rfl rfl hc i [] s5 _ H5 (fun _ _ => False) I5 (stat I5 n5) st5 stop) fun r s6 ⟨hr, I6⟩ => ?_
      subst hr
      have I7 : L2.Inv X pins σ H5 s6 := I3.call' (ch := fp) I6.os I6.base I6.hok I6.bare fun b hb => ⟨(f3 b hb).2.2.2.1, (f3 b hb).2.1, (f3 b hb).2.2.2.2.1, (f3 b hb).2.2.2.2.2⟩
      have nC : H5 s3.heap.objs.size = none := by rw [← cL]; exact I6.free
      obtain ⟨m, hn, _⟩ := I6.loc
      have hn : s6.heap.Ns s3.heap.objs.size m := by rw [← cL]; exact hn
      exact hR D s3.heap.objs.size s6 m H5 ce cL I7 qq hn (I3.fpOk (Nat.le_refl _) nC)
    · refine thnF (T.item (X.blk s3 H3 scope ce fp) rfl rfl rfl hc i [] s5 _ H5 (fun _ _ => False) I5 (stat I5 n5) st5 go) fun r s6 ⟨u, hr, h6⟩ => ?_
      subst hr
      refine thnF h6 fun _ s7 ⟨x, H7, I7, r7, y7, st7, n7⟩ => ?_
      have I7' := I7.pinned (stat I7 n7) (T.obj _ _ st7)
      refine thnF (pg.run _ s7 _ H7 x u _ I7' r7 (step x H7 y7)) fun _ s8 ⟨σ8, H8, I8, hw8, q8⟩ => ?_
      refine thnF (pt.run _ s8 σ8 H8 _ I8 q8) fun b s9 ⟨H9, I9, q9⟩ => ?_
      have fin : ∀ {s' : Shared} {H' : Hp}, L2.Inv (X.blk s3 H3 scope ce fp) ([] ++ pinsAt fp s7.heap) σ8 H' s' → Nx H' → ∃ m, m < n ∧ ∃ i H', L2.Inv (X.blk s3 H3 scope ce fp) [] (wipe σ (own.map (·.2))) H' s' ∧ tn i s'.heap ∧ (∀ b ∈ fp, H' b = none) ∧ WI i m H' := fun {s' H'} I' nx => by
        obtain ⟨m', hm, w'⟩ := hNx H' nx
        have pin' : ∀ b ∈ fp, ∀ o, s7.heap.get? b = some o → s'.heap.get? b = some o ∧ H' b = none := fun b hb o e =>
          let z := I'.pin (b, o) (List.mem_append_right _ (List.mem_append_right _ (mem_pinsAt hb e)))
          ⟨z.1, z.2.1⟩
        refine ⟨m', hm, i + 1, H', (I'.unpinned (pins := [])).weak (by rw [← hw8, wipe_length]) (fun j v e => ?_), T.keep _ _ _ st7 fun b hb o e => (pin' b hb o e).1, fun b hb => ?_, w'⟩
        · rw [← hw8] at e
          exact (wipe_some e).1
        · obtain ⟨o, e, _⟩ := T.obj _ _ st7 b hb
          exact (pin' b hb o e).2
      cases b with
      | false =>
        simp only [Bool.false_eq_true, if_false] at q9 ⊢
        exact fin I9 q9
      | true =>
        simp only [if_true] at q9 ⊢
        refine wpAny_mono (pe.run _ s9 σ8 H9 _ (I9.other _) q9) (fun z s10 hz => ?_) (fun e s' hx => ?_)
        · obtain ⟨yv, H10, I10, r10, acc, hD10, hz10, nx⟩ := hz
          exact app_ok (X := X.blk s3 H3 scope ce fp) (I10.other (fun _ _ => False)) hD10 hz10 r10 fun s11 I11 => fin I11 nx
        · have k := fails e s' hx
          cases use <;> exact k
  exact codeAny_compStart_list loop (T.self X.A 0 _ _ _ st4 loop)
theorem pe_lcX (hs0 : X.stack = X.env :: X.outer) (hf0 : X.env.frame = some X.env.locals) (tk : Takes X Wx) (hc : X.calm = true) (hN : X.N.Nodup) (hi : PI X tg iter wi) (ok : BlkOk X.N X.env.scope scope own)
    (hg : ∀ (s : Shared) (H : Hp) (C : Addr) (cl : List (Str × Addr)) (fp : List Addr), PG (X.blk s H scope (compEnvC scope cl C X.env) fp) tg g) (ht : ∀ (s : Shared) (H : Hp) (C : Addr) (cl : List (Str × Addr)) (fp : List Addr), PTs (X.blk s H scope (compEnvC scope cl C X.env) fp) ifs tt)
    (he : ∀ (σ0 : L2.St) (s : Shared) (H : Hp) (C : Addr) (cl : List (Str × Addr)) (fp : List Addr), PE (X.blkE s H scope (compEnvC scope cl C X.env) fp (fun cls d _ H => Wx cls d σ0 H)) elt (te σ0)) (hs : ∀ x, foldedSetIterable iter X.env x = pure x) :
    PE X (.ListComp elt [⟨tg, iter, ifs, 0⟩] scope pos) (fun σ H Q => tLc wi g tt (te σ) (own.map (·.2)) σ H Q) := by
  refine ⟨fun pins s σ H Q I h => ?_⟩
  rw [eval_ListComp]
  refine lc_raise hs0 hf0 tk hc hN I hi ok hg ht he hs h fun D C s' m H' ce hce I' q hn f => ⟨m, by rw [hce]; exact hn, fun h'' sb => ?_⟩
  obtain ⟨f0, f1, f2, f3, f4, f5⟩ := f
  exact ⟨.ref D, H', I'.turned (t' := s'.toks) (fun b o hb e => (sb.2 b (by rw [hce]; exact hb)).trans e) f0 f1 f3 f4 f5, rfl, q⟩
theorem ps_lcX {i : Nat} {y : Str} {py spos : Pos} (hs0 : X.stack = X.env :: X.outer) (hf0 : X.env.frame = some X.env.locals) (tk : Takes X Wx) (hc : X.calm = true) (hN : X.N.Nodup) (hy : X.N[i]? = some y) (hyl : X.env.scope.names.lookup y = some .local)
    (hsw : swapsWith (.ListComp elt [⟨tg, iter, ifs, 0⟩] scope pos) (some (.Name y py)) spos.line X.env = pure true) (hi : PI X tg iter wi) (ok : BlkOk X.N X.env.scope scope own)
    (hg : ∀ (s : Shared) (H : Hp) (C : Addr) (cl : List (Str × Addr)) (fp : List Addr), PG (X.blk s H scope (compEnvC scope cl C X.env) fp) tg g) (ht : ∀ (s : Shared) (H : Hp) (C : Addr) (cl : List (Str × Addr)) (fp : List Addr), PTs (X.blk s H scope (compEnvC scope cl C X.env) fp) ifs tt)
    (he : ∀ (σ0 : L2.St) (s : Shared) (H : Hp) (C : Addr) (cl : List (Str × Addr)) (fp : List Addr), PE (X.blkE s H scope (compEnvC scope cl C X.env) fp (fun cls d _ H => Wx cls d σ0 H)) elt (te σ0)) (hs : ∀ x, foldedSetIterable iter X.env x = pure x) :
    PS X (.Assign [.Name y py] (.ListComp elt [⟨tg, iter, ifs, 0⟩] scope pos) spos) (tAsg (fun σ H Q => tLc wi g tt (te σ) (own.map (·.2)) σ H Q) (gName i)) := by
  refine ⟨fun pins s σ H D I h => ?_⟩
  rw [exec_Assign_Name_used _ _ _ _ hsw]
  refine wpAny_bind (wpAny_standAt (wpAny_bind ?_))
  show wpAny _ X.A (do let _ ← comprehension (.ListComp elt [⟨tg, iter, ifs, 0⟩] scope pos) scope X.env (firstIterPos [⟨tg, iter, ifs, 0⟩] pos) (newList []) false (eval iter X.env) (some (assign (.Name y py) X.env))) _ _ s
  have h : tLc wi g tt (te σ) (own.map (·.2)) σ H (fun x H1 => gName i x σ H1 D.nx) := h
  refine wpAny_bind (thn (lc_raise (Qf := fun _ s' => SP X pins D .next s') hs0 hf0 tk hc hN I hi ok hg ht he hs h fun L C s' m H' ce hce I' q hn f => ?_) fun _ s' hq => wpAny_pure (wpAny_pure hq))
  show wpAny _ _ (assign (.Name y py) X.env (.ref L)) _ _ _
  refine wpAny_assign_Name (store_ok2 (v := V.ref L) I' hN hy (.inl hyl) rfl (fun s2 I2 ⟨a, sb, ha⟩ => ?_) (.inr hyl))
  obtain ⟨f0, f1, f2, f3, f4, f5⟩ := f
  have haC : C ≠ a := by
    rcases ha with z | z
    · rw [z]; exact f1
    · exact fun e => f4 y a z e.symm
  refine ⟨m, by rw [hce]; exact hn.sameBut sb haC, fun h3 sb3 => ?_⟩
  exact ⟨_, H', I2.turned (t' := s2.toks) (fun b o hb e => (sb3.2 b (by rw [hce]; exact hb)).trans e) f0 f1 f3 f4 f5, q⟩
end
end L2

set_option maxHeartbeats 4000000
/-! Comprehensions that may raise, read. -/
namespace G
open PySem PySem.Spec PyProof.Rows L2

def cStepX (P : Prog) (C : Calls) (elt : Ex) (own : List Nat) (t : Tg) (ifs : List Ex) (env : G.Env) : W → Mem → Res (Option W) := fun w M => match give t w (wipeE env own) with
  | some e => (evs P C ifs e M).noX.bind fun bs M => match truA M bs with
    | some true => (ev P C elt e M).bind fun v M => .ok (some v) M
    | some false => .ok none M
    | none => .bad
  | none => .bad
theorem ev_compX {P : Prog} {C : Calls} {elt it : Ex} {own : List Nat} {t : Tg} {ifs : List Ex} {env : G.Env} {M : Mem} : ev P C (.compX elt own t it ifs) env M = (ev P C it env M).bind fun x M => match iterW x with
  | some ws => (compL (cStepX P C elt own t ifs env) ws [] M).bind fun vs M => Res.of (mkLst vs) M
  | none => .bad := rfl
section
variable {P : Prog} {C : Calls} {N : Nam} {K : PySem.W.Frag} {Wx : WX} {σ : L2.St} {H : Hp}
theorem s_compX {elt it : Ex} {own : List Nat} {t : Tg} {ifs : List Ex} {Q : VK} (hi : ifs.length ≤ 1) (ht : ∀ i ∈ t.vars, i ∈ own) (h : tE P C N K Wx (.compX elt own t it ifs) σ H Q) :
    tLc (tI P C N K Wx it) (tTgt K t) (tIfs P C N K ifs) (tE P C N K (fun cls d _ H => Wx cls d σ H) elt) own σ H Q := by
  obtain ⟨env, m, M, F, s, h⟩ := h
  rw [ev_compX] at h
  refine ⟨env, m, M, F, s, ?_⟩
  unfold evI
  cases e0 : ev P C it env M with
  | bad => rw [e0] at h; exact h
  | exc c ns vs M' => rw [e0] at h; exact h
  | ok w0 M1 =>
    rw [e0] at h
    show ERes N K (RJ N K) Wx _ σ env m F (Res.of (iterW w0) M1)
    have h : ERes N K (RW N K) Wx Q σ env m F (match iterW w0 with
      | some ws => (compL (cStepX P C elt own t ifs env) ws [] M1).bind fun vs M => Res.of (mkLst vs) M
      | none => .bad) := h
    cases e1 : iterW w0 with
    | none => rw [e1] at h; exact h
    | some ws =>
      rw [e1] at h
      intro J H1 m1 F1 s1 j g1 D hD
      have h1 := h.rebase g1
      have h1 : ERes N K (RW N K) Wx Q σ env m1 F1 ((compL (cStepX P C elt own t ifs env) ws [] M1).bind fun vs M => Res.of (mkLst vs) M) := h1
      clear h
      have gp := apart_none s1.mem hD
      let WI : Nat → Nat → Hp → Prop := fun i n H => ∃ (m' : List Addr) (M' : Mem) (F' : Fx) (ra : List W) (acc : List V), n = ws.length - i ∧ i ≤ ws.length ∧ SimM N K m' M' F' H ∧ Gr m1 ⟨F1.f, upd F1.g D (.lst acc)⟩ m' F' ∧ RepWs N K F' m' ra.reverse acc ∧ acc.length ≤ i ∧
        ERes N K (RW N K) Wx Q σ env m1 F1 ((compL (cStepX P C elt own t ifs env) (ws.drop i) ra M').bind fun vs M => Res.of (mkLst vs) M)
      refine ⟨WI, ⟨ws.length, m1, M1, ⟨F1.f, upd F1.g D (.lst [])⟩, [], [], rfl, Nat.zero_le _, s1.mem.hold hD, Gr.refl _ _, trivial, Nat.le_refl _, h1⟩, ?_⟩
      rintro i n H2 ⟨m', M', F', ra, acc, rfl, hil, sm, g, rr, la, hh⟩
      obtain ⟨jl, jj⟩ := j
      have gx : Gx m1 F1 m' F' := ⟨g.1, g.2.1⟩
      obtain ⟨jg, js⟩ := jj i H2 m' M' F' sm gx
      have eD : F'.g D = some (.lst acc) := by rw [g.2.2]; exact upd_same
      by_cases hlt : i < ws.length
      · have hw : ws[i]? = some ws[i] := List.getElem?_eq_getElem hlt
        obtain ⟨go, yl⟩ := jg _ hw
        refine .inr ⟨go, WI (i + 1) (ws.length - (i + 1)), fun H' h' => ⟨ws.length - (i + 1), by omega, h'⟩, fun x H3 y => ?_⟩
        obtain ⟨F2, sm2, g2, rx⟩ := yl x H3 y
        rw [List.drop_eq_getElem_cons hlt] at hh
        have hh : ERes N K (RW N K) Wx Q σ env m1 F1 (((cStepX P C elt own t ifs env ws[i] M').bind fun o M'' => match o with
          | some v => compL (cStepX P C elt own t ifs env) (ws.drop (i + 1)) (v :: ra) M''
          | none => compL (cStepX P C elt own t ifs env) (ws.drop (i + 1)) ra M'').bind fun vs M => Res.of (mkLst vs) M) := hh
        have ec : cStepX P C elt own t ifs env ws[i] M' = (match give t ws[i] (wipeE env own) with
          | some e => (evs P C ifs e M').noX.bind fun bs M => match truA M bs with
            | some true => (ev P C elt e M).bind fun v M => .ok (some v) M
            | some false => .ok none M
            | none => .bad
          | none => .bad) := rfl
        rw [ec] at hh
        cases eg : give t ws[i] (wipeE env own) with
        | none => rw [eg] at hh; exact hh.elim
        | some e2 =>
          rw [eg] at hh
          simp only at hh
          have gx2 : Gx m1 F1 m' F2 := gx.trans g2.x
          refine give_ok sm2.sub eg rx ((s1.env.mono gx2).wipe own) fun σ2 re hw2 => ⟨(hw2 own ht).trans wipe_wipe, ?_⟩
          have sim2 : Sim N K σ2 e2 m' M' F2 H3 := ⟨sm2, re⟩
          have fg2 : F2.g = upd F1.g D (.lst acc) := g2.2.2.trans g.2.2
          have rr2 : RepWs N K F2 m' ra.reverse acc := RepWs.mono g2.x _ _ rr
          -- a turn's end
          have keep : ∀ {m3 : List Addr} {M3 : Mem} {F3 : Fx} {H4 : Hp}, SimM N K m3 M3 F3 H4 → Gr m' F2 m3 F3 → ERes N K (RW N K) Wx Q σ env m1 F1 ((compL (cStepX P C elt own t ifs env) (ws.drop (i + 1)) ra M3).bind fun vs M => Res.of (mkLst vs) M) → WI (i + 1) (ws.length - (i + 1)) H4 :=
            fun {m3 M3 F3 H4} s3 g3 h3 => ⟨m3, M3, F3, ra, acc, rfl, hlt, s3, ⟨(gx2.trans g3.x).1, (gx2.trans g3.x).2, g3.2.2.trans fg2⟩, RepWs.mono g3.x _ _ rr2, Nat.le_succ_of_le la, h3⟩
          have more : ∀ {m3 : List Addr} {M3 : Mem} {F3 : Fx} {H4 : Hp} {v : W} {y : V}, SimM N K m3 M3 F3 H4 → Gr m' F2 m3 F3 → RepW N K F3 m3 v y → ERes N K (RW N K) Wx Q σ env m1 F1 ((compL (cStepX P C elt own t ifs env) (ws.drop (i + 1)) (v :: ra) M3).bind fun vs M => Res.of (mkLst vs) M) →
              ∃ acc, H4 D = some (.lst acc) ∧ acc.length < sizeLine ∧ WI (i + 1) (ws.length - (i + 1)) (upd H4 D (.lst (acc ++ [y]))) := fun {m3 M3 F3 H4 v y} s3 g3 rv h3 => by
            have e3 : F3.g D = some (.lst acc) := by rw [g3.2.2, fg2]; exact upd_same
            refine ⟨acc, (s3.apart _ _ e3).1, by omega, m3, M3, ⟨F3.f, upd F3.g D (.lst (acc ++ [y]))⟩, v :: ra, acc ++ [y], rfl, hlt, s3.held e3, ⟨(gx2.trans g3.x).1, (gx2.trans g3.x).2, ?_⟩, ?_, by rw [List.length_append, List.length_singleton]; omega, h3⟩
            · show upd F3.g D _ = upd F1.g D _
              rw [g3.2.2, fg2, upd_upd]
            · rw [List.reverse_cons]
              exact RepWs.append (RepWs.mono (F' := F3) g3.x _ _ rr2) ⟨rv, trivial⟩
          have elts : ∀ {m3 : List Addr} {M3 : Mem} {F3 : Fx} {H4 : Hp}, Sim N K σ2 e2 m3 M3 F3 H4 → Gr m' F2 m3 F3 →
              ERes N K (RW N K) Wx Q σ env m1 F1 ((((ev P C elt e2 M3).bind fun v M => Res.ok (some v) M).bind fun o M'' => match o with
                | some v => compL (cStepX P C elt own t ifs env) (ws.drop (i + 1)) (v :: ra) M''
                | none => compL (cStepX P C elt own t ifs env) (ws.drop (i + 1)) ra M'').bind fun vs M => Res.of (mkLst vs) M) →
              tE P C N K (fun cls d _ H => Wx cls d σ H) elt σ2 H4 fun y H5 => ∃ acc, H5 D = some (.lst acc) ∧ acc.length < sizeLine ∧ WI (i + 1) (ws.length - (i + 1)) (upd H5 D (.lst (acc ++ [y]))) := fun {m3 M3 F3 H4} s3 g3 h3 => by
            refine ⟨e2, m3, M3, F3, s3, ?_⟩
            cases e4 : ev P C elt e2 M3 with
            | bad => rw [e4] at h3; exact h3
            | exc c ns vs M4 =>
              rw [e4] at h3
              intro cls d H' m' F' s' g' ex
              have fg' : F'.g = upd F1.g D (.lst acc) := g'.2.2.trans (g3.2.2.trans fg2)
              have gg : Gx m1 F1 m' F' := (gx2.trans g3.x).trans g'.x
              have s9 : SimM N K m' M4 ⟨F'.f, F1.g⟩ H' := s'.mem.less fun a u h => (aside_eq (F' := F') (o' := .lst acc) (g := F1.g) fg' gp a u h).2
              have g9 : Gr m1 F1 m' ⟨F'.f, F1.g⟩ := ⟨gg.1, gg.2, rfl⟩
              exact h3 cls d H' m' ⟨F'.f, F1.g⟩ (s1.to s9 g9.x) g9 ex
            | ok v M4 =>
              rw [e4] at h3
              exact fun y H5 m4 F4 s4 r4 g4 => more s4.mem (g3.trans g4) r4 h3
          match ifs, hi, hh with
          | [], _, hh => exact elts sim2 (Gr.refl _ _) hh
          | [c], _, hh =>
            refine ⟨e2, m', M', F2, sim2, ?_⟩
            unfold evT
            have hh : ERes N K (RW N K) Wx Q σ env m1 F1 (((((ev P C c e2 M').bind fun w M => Res.ok [w] M).noX.bind fun bs M => match truA M bs with
              | some true => (ev P C elt e2 M).bind fun v M => .ok (some v) M
              | some false => .ok none M
              | none => .bad).bind fun o M'' => match o with
              | some v => compL (cStepX P C elt own t [c] env) (ws.drop (i + 1)) (v :: ra) M''
              | none => compL (cStepX P C elt own t [c] env) (ws.drop (i + 1)) ra M'').bind fun vs M => Res.of (mkLst vs) M) := hh
            cases e3 : ev P C c e2 M' with
            | bad => rw [e3] at hh; exact hh
            | exc c ns vs M4 => rw [e3] at hh; exact hh.elim
            | ok wc M3 =>
              rw [e3] at hh
              simp only [Res.bind_ok, Res.noX_ok] at hh ⊢
              have et : truA M3 [wc] = tru M3 wc := rfl
              rw [et] at hh
              cases e5 : tru M3 wc with
              | none => rw [e5] at hh; exact hh
              | some k =>
                rw [e5] at hh
                intro b H4 m3 F3 s3 r3 g3
                cases (show k = b from r3)
                cases k with
                | true => exact elts s3 g3 hh
                | false => exact keep s3.mem g3 hh
      · have hie : i = ws.length := by omega
        refine .inl ⟨js hie, ?_⟩
        rw [hie, List.drop_length] at hh
        have hh : ERes N K (RW N K) Wx Q σ env m1 F1 (Res.of (mkLst ra.reverse) M') := hh
        obtain ⟨ds, e5, hh⟩ := of_map (o := W.pures ra.reverse) hh
        obtain ⟨s5, g5⟩ := sm.fix (g := F1.g) eD fun a u q => by
          obtain ⟨q1, q2⟩ := aside_eq (F' := F') (o' := .lst acc) (g := F1.g) g.2.2 gp a u q
          exact ⟨q2, q1⟩
        have g6 : Gr m1 F1 m' ⟨upd F'.f D (.lst acc), F1.g⟩ := ⟨(gx.trans g5).1, (gx.trans g5).2, rfl⟩
        exact hh (.ref D) H2 m' _ (s1.to s5 g6.x) ⟨D, acc, rfl, .inl upd_same, Reps.mono g5.2 _ _ (rr.pures e5)⟩ g6
end
end G

set_option maxHeartbeats 4000000
/-! The checker of expressions is sound: parts. -/
namespace G
open PySem PySem.Spec PyProof.Rows L2

def Callable (Γ : Tab) (P : Prog) (C : Calls) (N : Nam) (X : Cx) : Prop := ∀ (Wx : WX), Takes X Wx → ∀ (x : Str) (f : Nat) (ps : List Str) (as ks : List Ex) (perm : List Nat) (es : List Expr) (kws : List Keyword) (p pos : Pos),
  Γ.fn.lookup x = some (f, ps) → Gl X x → permOk ps as.length (kws.filterMap (·.arg)) perm = true → kws.all (·.arg.isSome) = true → es.all noStar = true → es.length = as.length → kws.length = ks.length →
  PA X es (tEs P C N X.K Wx as) → PK X kws (tEs P C N X.K Wx ks) → PE X (.Call (.Name x p) es kws pos) (tE P C N X.K Wx (.call f as ks perm))
/-- what is known of calls -/
structure CallsOk (Γ : Tab) (P : Prog) (C : Calls) (N : Nam) (X : Cx) : Prop where
  fn : Callable Γ P C N X
  nw : ∀ (Wx : WX), Takes X Wx → ∀ (x : Str) (c f : Nat) (ps : List Str) (as ks : List Ex) (perm : List Nat) (es : List Expr) (kws : List Keyword) (p pos : Pos),
    Γ.nw.lookup x = some (c, f, ps) → Gl X x → permOk ps as.length (kws.filterMap (·.arg)) perm = true → kws.all (·.arg.isSome) = true → es.all noStar = true → es.length = as.length → kws.length = ks.length →
    PA X es (tEs P C N X.K Wx as) → PK X kws (tEs P C N X.K Wx ks) → PE X (.Call (.Name x p) es kws pos) (tE P C N X.K Wx (.new c f as ks perm))
  mc : ∀ (Wx : WX), Takes X Wx → ∀ (c : Nat) (m : Str) (f : Nat) (o : Ex) (as : List Ex) (l : Expr) (es : List Expr) (ap p : Pos), Γ.mt.lookup (c, m) = some (f, as.length) → PE X l (tE P C N X.K Wx o) → noSup l = true → es.all noStar = true → es.length = as.length → as.length ≤ 20 → (ap.endLine == p.line) = true →
    PA X es (tEs P C N X.K Wx as) → PE X (.Call (.Attribute l m ap) es [] p) (tE P C N X.K Wx (.mc c f o as))
  sc : ∀ (Wx : WX), Takes X Wx → ∀ (x m : Str) (c f : Nat) (as : List Ex) (es : List Expr) (np ap p : Pos), Γ.sm.lookup (x, m) = some (c, f, as.length) → Gl X x → es.all noStar = true → es.length = as.length → as.length ≤ 20 → 0 < as.length → (ap.endLine == p.line) = true →
    PA X es (tEs P C N X.K Wx as) → PE X (.Call (.Attribute (.Name x np) m ap) es [] p) (tE P C N X.K Wx (.scl c f as))
  eq : ∀ ng, OpR X (compareOp (if ng then .NotEq else .Eq)) (rEqO P C N X.K ng)
  st : ∀ c f, Γ.mt.lookup (c, ("__str__" : Str)) = some (f, 0) → CallR X (.type "str") (rStrO P C N X.K c f)
structure CxOk (Γ : Tab) (P : Prog) (C : Calls) (N : Nam) (L : List Str) (sc : Scope) (X : Cx) : Prop where
  nm : X.N = L
  sc : X.env.scope = sc
  nd : L.Nodup
  blt : BltOk X
  tc : TieC P N X.K
  tn : TieN Γ P N X.K X.mg
  cal : Γ.calm = true → X.calm = true
  call : Γ.calm = true → ∀ X' : Cx, X'.prog = X.prog → X'.w = X.w → X'.K = X.K → X'.mg = X.mg → X'.base = X.base → X'.A = X.A → X'.stack = X.stack → X'.calm = X.calm → CallsOk Γ P C N X'
section
variable {Γ : Tab} {P : Prog} {C : Calls} {N : Nam} {L : List Str} {sc : Scope} {X : Cx}
theorem CxOk.blk (h : CxOk Γ P C N L sc X) (s : Shared) (H : Hp) (scope : Scope) (D : Addr) (cl : List (Str × Addr)) (fp : List Addr) : CxOk Γ P C N L (relS scope sc) (X.blk s H scope (compEnvC scope cl D X.env) fp) :=
  ⟨h.nm, by rw [← h.sc]; rfl, h.nd, ⟨h.blt.sys, h.blt.grd, h.blt.unt⟩, h.tc, h.tn, h.cal, fun q X' a b c d e f g i => h.call q X' a b c d e f g i⟩
theorem CxOk.blkE (h : CxOk Γ P C N L sc X) (s : Shared) (H : Hp) (scope : Scope) (D : Addr) (cl : List (Str × Addr)) (fp : List Addr) (W : WX) : CxOk Γ P C N L (relS scope sc) (X.blkE s H scope (compEnvC scope cl D X.env) fp W) :=
  ⟨h.nm, by rw [← h.sc]; rfl, h.nd, ⟨h.blt.sys, h.blt.grd, h.blt.unt⟩, h.tc, h.tn, h.cal, fun q X' a b c d e f g i => h.call q X' a b c d e f g i⟩
theorem blk_takes {s : Shared} {H : Hp} {scope : Scope} {cenv : PySem.Env} {fp : List Addr} : Takes (X.blk s H scope cenv fp) WF := fun u s' h => by
  obtain ⟨_, _, _, _, _, _, _, _, _, _, _, _, _, _, _, _, w⟩ := h
  exact w.elim
theorem CxOk.vis (h : CxOk Γ P C N L sc X) {x : Str} (v : visB sc x = true) : Vis X.env.scope x := by
  rw [h.sc]
  rcases Bool.or_eq_true_iff.mp v with v | v
  · rcases Bool.or_eq_true_iff.mp v with v | v
    · exact .inl (of_decide_eq_true v)
    · exact .inr (.inl (of_decide_eq_true v))
  · exact .inr (.inr (of_decide_eq_true v))
theorem CxOk.gl (h : CxOk Γ P C N L sc X) {x : Str} (v : glB sc x = true) : Gl X x := by
  have e := of_decide_eq_true v
  rw [← h.sc] at e
  exact e
theorem okN_ok {x : Str} (h : okN x = true) : (x == ("__debug__" : Str)) = false ∧ (x == ("__classdict__" : Str)) = false := by
  obtain ⟨a, b⟩ := Bool.and_eq_true_iff.mp h
  exact ⟨by simpa using a, by simpa using b⟩
theorem star_of {e : Expr} {es : List Expr} {env : PySem.Env} (h : noStar e = true) : starEach (e :: es) env = (false, eval e env) :: starEach es env := by
  cases e <;> first | rfl | cases h
theorem sup_of {e : Expr} {a : Str} {env : PySem.Env} (h : noSup e = true) : attributeBase e a env (eval e env) = eval e env := by
  unfold attributeBase
  split
  · cases h
  · rfl
theorem ix_of {e : Expr} (h : noSlc e = true) : PlainIx e := by
  cases e <;> first | (intro o i; rfl) | cases h
theorem peI {e : Expr} {t t' : TE} (h : PE X e t) (k : ∀ σ H Q, t' σ H Q → t σ H Q) : PE X e t' := ⟨fun pins s σ H Q I q => h.run pins s σ H Q I (k _ _ _ q)⟩
theorem ptI {e : Expr} {t t' : TT} (h : PT X e t) (k : ∀ σ H Q, t' σ H Q → t σ H Q) : PT X e t' := ⟨fun pins s σ H Q I q => h.run pins s σ H Q I (k _ _ _ q)⟩
theorem pwI {e : Expr} {t t' : TT} (h : PW X e t) (k : ∀ σ H Q, t' σ H Q → t σ H Q) : PW X e t' := ⟨fun wh pins s σ H Q I q => h.run wh pins s σ H Q I (k _ _ _ q)⟩
theorem paI {e : List Expr} {t t' : TA} (h : PA X e t) (k : ∀ σ H Q, t' σ H Q → t σ H Q) : PA X e t' := ⟨fun pos pins s σ H Q I q => h.run pos pins s σ H Q I (k _ _ _ q)⟩
theorem pkI {e : List Keyword} {t t' : TA} (h : PK X e t) (k : ∀ σ H Q, t' σ H Q → t σ H Q) : PK X e t' := ⟨fun pos pins s σ H Q I q => h.run pos pins s σ H Q I (k _ _ _ q)⟩
theorem piI {tg e : Expr} {t t' : TI} (h : PI X tg e t) (k : ∀ σ H Q, t' σ H Q → t σ H Q) : PI X tg e t' := ⟨fun pins s σ H Q I q => h.run pins s σ H Q I (k _ _ _ q)⟩
/-! names of built-in things -/
theorem boot_b (b : Blt) : bootBuiltins (bnm b) = some (bval b) := by cases b <;> rfl
theorem bnm_free (b : Blt) : bnm b ∈ freeNs := by cases b <;> decide
theorem bnm_n (b : Blt) : bnm b ≠ "__name__" ∧ (bnm b == ("__debug__" : Str)) = false := by cases b <;> decide
theorem boot_t (c : TyC) (h : ∀ k, c ≠ .own k) (h2 : ∀ n, c ≠ .oerr n) : bootBuiltins (tnm c) = some (tycV N c) := by
  cases c <;> first | rfl | (exfalso; exact h _ rfl) | (exfalso; exact h2 _ rfl)
theorem tnm_free (c : TyC) (h : ∀ k, c ≠ .own k) (h2 : ∀ n, c ≠ .oerr n) : tnm c ∈ freeNs := by
  cases c <;> first | decide | (exfalso; exact h _ rfl) | (exfalso; exact h2 _ rfl)
theorem tnm_n (c : TyC) (h : ∀ k, c ≠ .own k) (h2 : ∀ n, c ≠ .oerr n) : tnm c ≠ "__name__" ∧ (tnm c == ("__debug__" : Str)) = false := by
  cases c <;> first | decide | (exfalso; exact h _ rfl) | (exfalso; exact h2 _ rfl)
theorem boot_isi : bootBuiltins "isinstance" = some (.builtin "isinstance") := by rfl
theorem isC {c : TyC} {u : Value} (h : u = tycV N c) : RelV (tycX N c) u := by subst h; cases c <;> rfl
/-- a class's name, a type's -/
theorem pe_ty (cx : CxOk Γ P C N L sc X) {c : TyC} {e : Expr} (hc : P.isis.contains c = true) (h : tyB Γ sc c e = true) : PE X e (tC (tycX N c)) := by
  cases e with
  | Name x p =>
    by_cases h1 : ∃ k, c = .own k
    · obtain ⟨k, rfl⟩ := h1
      obtain ⟨a, b⟩ := Bool.and_eq_true_iff.mp (show (decide (Γ.cl.lookup x = some k) && glB sc x) = true from h)
      obtain ⟨q1, q2⟩ := cx.tn.cls x k (of_decide_eq_true a)
      exact pe_glob (cx.gl b) q1 rfl q2
    · have h1 : ∀ k, c ≠ .own k := fun k e => h1 ⟨k, e⟩
      have h' : (decide (x = tnm c) && glB sc x) = true := by
        cases c <;> first | exact h | (exfalso; exact h1 _ rfl)
      obtain ⟨a, b⟩ := Bool.and_eq_true_iff.mp h'
      have a := of_decide_eq_true a
      subst a
      by_cases h2 : ∃ n, c = .oerr n
      · obtain ⟨n, rfl⟩ := h2
        obtain ⟨q1, q2, q3, q4⟩ := cx.tn.oerr n (List.contains_iff_mem.mp hc)
        exact pe_bltn (cx.gl b) q1 q2 rfl q3 q4
      · have h2 : ∀ k, c ≠ .oerr k := fun k e => h2 ⟨k, e⟩
        obtain ⟨n1, n2⟩ := tnm_n c h1 h2
        exact pe_bltn (cx.gl b) (cx.tn.free _ (tnm_free c h1 h2)) (boot_t c h1 h2) (isC rfl) n1 n2
  | _ => cases h
theorem pa_tys (cx : CxOk Γ P C N L sc X) : ∀ {cs : List TyC} {es : List Expr}, cs.all P.isis.contains = true → tysB Γ sc cs es = true → PA X es (tTys N cs)
  | [], [], _, _ => paI pa_nil fun _ _ _ q => q
  | c :: cs, e :: es, hc, h => by
    obtain ⟨h1, h3⟩ := Bool.and_eq_true_iff.mp (show ((tyB Γ sc c e && noStar e) && tysB Γ sc cs es) = true from h)
    obtain ⟨h1, h2⟩ := Bool.and_eq_true_iff.mp h1
    rw [List.all_cons, Bool.and_eq_true] at hc
    exact paI (pa_cons (pe_ty cx hc.1 h1) (pa_tys cx hc.2 h3) (star_of h2)) fun _ _ _ q => q
/-- what is shown of a form -/
def PEg (Γ : Tab) (P : Prog) (C : Calls) (N : Nam) (L : List Str) (x : Ex) : Prop := ∀ (sc : Scope) (e : Expr) (X : Cx) (Wx : WX), CxOk Γ P C N L sc X → Takes X Wx → chk Γ L P.isis x sc e = true → PE X e (tE P C N X.K Wx x)
def PTg (Γ : Tab) (P : Prog) (C : Calls) (N : Nam) (L : List Str) (x : Ex) : Prop := ∀ (sc : Scope) (e : Expr) (X : Cx) (Wx : WX), CxOk Γ P C N L sc X → Takes X Wx → chk Γ L P.isis x sc e = true → noIf e = true →
  PT X e (tT P C N X.K Wx x) ∧ ∀ op es pos, e = .BoolOp op es pos → PW X e (tT P C N X.K Wx x)
def PIg (Γ : Tab) (P : Prog) (C : Calls) (N : Nam) (L : List Str) (x : Ex) : Prop := ∀ (sc : Scope) (tg e : Expr) (X : Cx) (Wx : WX), CxOk Γ P C N L sc X → Takes X Wx → chkI Γ L P.isis x sc tg e = true → PI X tg e (tI P C N X.K Wx x)
def PAg (Γ : Tab) (P : Prog) (C : Calls) (N : Nam) (L : List Str) (xs : List Ex) : Prop := ∀ (sc : Scope) (es : List Expr) (X : Cx) (Wx : WX), CxOk Γ P C N L sc X → Takes X Wx → chks Γ L P.isis xs sc es = true → PA X es (tEs P C N X.K Wx xs)
structure Good (Γ : Tab) (P : Prog) (C : Calls) (N : Nam) (L : List Str) (x : Ex) : Prop where
  pe : PEg Γ P C N L x
  pt : PTg Γ P C N L x
  pi : PIg Γ P C N L x
end
end G

set_option maxHeartbeats 4000000
/-! The checker of expressions is sound. -/
namespace G
open PySem PySem.Spec PyProof.Rows L2
theorem and2 {a b : Bool} (h : (a && b) = true) : a = true ∧ b = true := Bool.and_eq_true_iff.mp h
section
variable {Γ : Tab} {P : Prog} {C : Calls} {N : Nam} {L : List Str}
theorem star_all {isis : List TyC} : ∀ {xs : List Ex} {sc : Scope} {es : List Expr}, chks Γ L isis xs sc es = true → es.all noStar = true ∧ es.length = xs.length
  | [], sc, es, h => by
    have h : es.isEmpty = true := h
    cases es with
    | nil => exact ⟨rfl, rfl⟩
    | cons _ _ => cases h
  | x :: xs, sc, es, h => by
    cases es with
    | nil => cases h
    | cons e es =>
      obtain ⟨h1, h3⟩ := and2 (show ((chk Γ L isis x sc e && noStar e) && chks Γ L isis xs sc es) = true from h)
      obtain ⟨h1, h2⟩ := and2 h1
      obtain ⟨a, b⟩ := star_all h3
      exact ⟨by rw [List.all_cons, h2, a]; rfl, by simp [b]⟩
theorem plain_of {env : PySem.Env} {pos : Pos} : ∀ {es : List Expr}, es.all noStar = true → (backTo pos (starEach es env)).any (·.1) = false
  | [], _ => rfl
  | e :: es, h => by
    obtain ⟨h1, h2⟩ := and2 (show (noStar e && es.all noStar) = true from h)
    rw [star_of h1]
    exact (Bool.false_or _).trans (plain_of h2)
theorem pt_plain {x : Ex} {X : Cx} {e : Expr} {Wx : WX} (h : PE X e (tE P C N X.K Wx x)) (he : ∀ whole, isTrue e X.env whole = (do let v ← whole; standAt e.pos; holding [v] (truthy v))) : PT X e (tT P C N X.K Wx x) :=
  ptI (pt_truth h he) fun _ _ _ q => s_truth q
/-- a form whose test is its value's truth, and that is no iterator -/
theorem good_of {x : Ex} (h : PEg Γ P C N L x) (hp : ∀ sc e, chk Γ L P.isis x sc e = true → ∀ env whole, isTrue e env whole = (do let v ← whole; standAt e.pos; holding [v] (truthy v)))
    (hb : ∀ sc op es pos, chk Γ L P.isis x sc (.BoolOp op es pos) = true → False) (hi : ∀ sc tg e, chkI Γ L P.isis x sc tg e = true → False) : Good Γ P C N L x :=
  ⟨h, fun sc e X Wx cx tk hc hn => ⟨pt_plain (h sc e X Wx cx tk hc) (hp sc e hc X.env), fun op es pos q => by subst q; exact (hb sc op es pos hc).elim⟩, fun sc tg e X Wx cx tk hc => (hi sc tg e hc).elim⟩
theorem gd_var (i : Nat) : Good Γ P C N L (.var i) := by
  refine good_of (fun sc e X Wx cx tk h => ?_) (fun sc e h env whole => ?_) (fun _ _ _ _ h => by cases h) (fun _ _ _ h => by cases h)
  · cases e with
    | Name x p =>
      obtain ⟨h1, h3⟩ := and2 (show ((decide (L[i]? = some x) && visB sc x) && okN x) = true from h)
      obtain ⟨h1, h2⟩ := and2 h1
      obtain ⟨n1, n2⟩ := okN_ok h3
      refine peI (pe_var (by rw [cx.nm]; exact of_decide_eq_true h1) (cx.vis h2) n1 n2) fun σ H Q q => ?_
      obtain ⟨env, m, M, F, s, q⟩ := q
      have q : ERes N X.K (RW N X.K) Wx Q σ env m F (Res.of ((getV env i).map (rd M)) M) := q
      obtain ⟨w, e1, q⟩ := of_map q
      unfold getV at e1
      split at e1
      · rename_i u e2
        cases e1
        obtain ⟨v, h4, h5⟩ := s.env.2 i _ e2
        exact ⟨v, h4, q.now s (s.mem.rd h5)⟩
      · cases e1
    | _ => cases h
  · cases e <;> first | rfl | cases h
theorem gd_const {x : Ex} {w : W} {v : V} (hv : ∀ (K : PySem.W.Frag) (F : Hp) (m : List Addr), RepW N K F m w v) (he : ∀ env M, ev P C x env M = .ok w M) (hc : ∀ sc e (X : Cx), chk Γ L P.isis x sc e = true → PE X e (tC v))
    (hp : ∀ sc e, chk Γ L P.isis x sc e = true → ∀ env whole, isTrue e env whole = (do let v ← whole; standAt e.pos; holding [v] (truthy v))) (hb : ∀ sc op es pos, chk Γ L P.isis x sc (.BoolOp op es pos) = true → False) (hi : ∀ sc tg e, chkI Γ L P.isis x sc tg e = true → False) : Good Γ P C N L x := by
  refine good_of (fun sc e X Wx cx tk h => peI (hc sc e X h) fun σ H Q q => ?_) hp hb hi
  obtain ⟨env, m, M, F, s, q⟩ := q
  rw [he] at q
  exact q.now s (hv _ _ _)
theorem gd_int (i : Int) : Good Γ P C N L (.int i) := by
  refine gd_const (w := .p (.int i)) (v := .int i) (fun _ _ _ => rfl) (fun _ _ => rfl) (fun sc e X h => ?_) (fun sc e h env whole => ?_) (fun _ _ _ _ h => by cases h) (fun _ _ _ h => by cases h)
  · unfold chk at h
    split at h
    · rename_i j _ _
      have e := of_decide_eq_true h
      subst e
      exact pe_int
    · cases h
  · cases e <;> first | rfl | cases h
theorem gd_str (i : Str) : Good Γ P C N L (.str i) := by
  refine gd_const (w := .p (.str i)) (v := .str i) (fun _ _ _ => rfl) (fun _ _ => rfl) (fun sc e X h => ?_) (fun sc e h env whole => ?_) (fun _ _ _ _ h => by cases h) (fun _ _ _ h => by cases h)
  · unfold chk at h
    split at h
    · rename_i j _ _
      have e := of_decide_eq_true h
      subst e
      exact pe_str
    · cases h
  · cases e <;> first | rfl | cases h
theorem gd_bl (i : Bool) : Good Γ P C N L (.bl i) := by
  refine gd_const (w := .p (.bl i)) (v := .bl i) (fun _ _ _ => rfl) (fun _ _ => rfl) (fun sc e X h => ?_) (fun sc e h env whole => ?_) (fun _ _ _ _ h => by cases h) (fun _ _ _ h => by cases h)
  · unfold chk at h
    split at h
    · rename_i j _ _
      have e := of_decide_eq_true h
      subst e
      exact pe_bl
    · cases h
  · cases e <;> first | rfl | cases h
theorem gd_non : Good Γ P C N L .non := by
  refine gd_const (w := .p .non) (v := .non) (fun _ _ _ => rfl) (fun _ _ => rfl) (fun sc e X h => ?_) (fun sc e h env whole => ?_) (fun _ _ _ _ h => by cases h) (fun _ _ _ h => by cases h)
  · unfold chk at h
    split at h
    · exact pe_non
    · cases h
  · cases e <;> first | rfl | cases h
theorem gd_glob (g : Nat) : Good Γ P C N L (.glob g) := by
  refine good_of (fun sc e X Wx cx tk h => ?_) (fun sc e h env whole => ?_) (fun _ _ _ _ h => by cases h) (fun _ _ _ h => by cases h)
  · cases e with
    | Name x p =>
      obtain ⟨h1, h2⟩ := and2 (show (decide (Γ.gv.lookup x = some g) && glB sc x) = true from h)
      obtain ⟨n1, u, v, n2, n3, n4⟩ := cx.tn.gv x g (of_decide_eq_true h1)
      refine peI (pe_glob (cx.gl h2) n2 n3 n1) fun σ H Q q => ?_
      obtain ⟨env, m, M, F, s, q⟩ := q
      have q : ERes N X.K (RW N X.K) Wx Q σ env m F (Res.of ((P.glob g).map .p) M) := q
      obtain ⟨d, e1, q⟩ := of_map q
      exact q.now s (n4 d e1 F.f)
    | _ => cases h
  · cases e <;> first | rfl | cases h
theorem gd_tup {xs : List Ex} (ih : PAg Γ P C N L xs) : Good Γ P C N L (.tup xs) := by
  refine good_of (fun sc e X Wx cx tk h => ?_) (fun sc e h env whole => ?_) (fun _ _ _ _ h => by cases h) (fun _ _ _ h => by cases h)
  · cases e with
    | Tuple es k p =>
      obtain ⟨h1, h2⟩ := and2 (show (decide (xs.length ≤ 1000) && chks Γ L P.isis xs sc es) = true from h)
      exact peI (pe_tup (ih sc es X Wx cx tk h2)) fun σ H Q q => s_tup (of_decide_eq_true h1) q
    | _ => cases h
  · cases e <;> first | rfl | cases h
theorem gd_lst {xs : List Ex} (ih : PAg Γ P C N L xs) : Good Γ P C N L (.lst xs) := by
  refine good_of (fun sc e X Wx cx tk h => ?_) (fun sc e h env whole => ?_) (fun _ _ _ _ h => by cases h) (fun _ _ _ h => by cases h)
  · cases e with
    | List es p =>
      obtain ⟨h1, h2⟩ := and2 (show (decide (xs.length ≤ 1000) && chks Γ L P.isis xs sc es) = true from h)
      exact peI (pe_lst (ih sc es X Wx cx tk h2)) fun σ H Q q => s_lst (of_decide_eq_true h1) q
    | _ => cases h
  · cases e <;> first | rfl | cases h
theorem gd_lstL {xs : List Ex} (ih : PAg Γ P C N L xs) : Good Γ P C N L (.lstL xs) := by
  refine good_of (fun sc e X Wx cx tk h => ?_) (fun sc e h env whole => ?_) (fun _ _ _ _ h => by cases h) (fun _ _ _ h => by cases h)
  · cases e with
    | List es p =>
      obtain ⟨h1, h2⟩ := and2 (show (decide (xs.length ≤ 1000) && chks Γ L P.isis xs sc es) = true from h)
      exact peI (pe_lst (ih sc es X Wx cx tk h2)) fun σ H Q q => s_lstL (of_decide_eq_true h1) q
    | _ => cases h
  · cases e <;> first | rfl | cases h
theorem gd_bin {o : Bop} {a b : Ex} (ga : Good Γ P C N L a) (gb : Good Γ P C N L b) : Good Γ P C N L (.bin o a b) := by
  refine good_of (fun sc e X Wx cx tk h => ?_) (fun sc e h env whole => ?_) (fun _ _ _ _ h => by cases h) (fun _ _ _ h => by cases h)
  · cases e with
    | BinOp l op r p =>
      obtain ⟨h1, h3⟩ := and2 (show ((decide (op = aop o) && chk Γ L P.isis a sc l) && chk Γ L P.isis b sc r) = true from h)
      obtain ⟨h1, h2⟩ := and2 h1
      have e1 := of_decide_eq_true h1
      subst e1
      exact peI (pe_op (op_bin o) (ga.pe sc l X Wx cx tk h2) (gb.pe sc r X Wx cx tk h3)) fun σ H Q q => s_bin q
    | _ => cases h
  · cases e <;> first | rfl | cases h
theorem gd_neg {a : Ex} (ga : Good Γ P C N L a) : Good Γ P C N L (.neg a) := by
  have inv : ∀ {sc e}, chk Γ L P.isis (.neg a) sc e = true → ∃ l p, e = .UnaryOp .USub l p ∧ chk Γ L P.isis a sc l = true := fun {sc e} h => by
    unfold chk at h
    split at h
    · exact ⟨_, _, rfl, h⟩
    · cases h
  refine good_of (fun sc e X Wx cx tk h => ?_) (fun sc e h env whole => ?_) (fun _ _ _ _ h => by cases h) (fun _ _ _ h => by cases h)
  · obtain ⟨l, p, rfl, h⟩ := inv h
    exact peI (pe_un un_neg (ga.pe sc l X Wx cx tk h)) fun σ H Q q => s_neg q
  · obtain ⟨l, p, rfl, h⟩ := inv h
    rfl
theorem gd_not {a : Ex} (ga : Good Γ P C N L a) : Good Γ P C N L (.not a) := by
  have inv : ∀ {sc e}, chk Γ L P.isis (.not a) sc e = true → ∃ l p, e = .UnaryOp .Not l p ∧ chk Γ L P.isis a sc l = true ∧ noIf l = true := fun {sc e} h => by
    unfold chk at h
    split at h
    · exact ⟨_, _, rfl, and2 h⟩
    · cases h
  refine ⟨fun sc e X Wx cx tk h => ?_, fun sc e X Wx cx tk h hn => ?_, fun _ _ _ _ _ _ _ h => by cases h⟩
  · obtain ⟨l, p, rfl, h, _⟩ := inv h
    exact peI (pe_notT (ga.pe sc l X Wx cx tk h)) fun σ H Q q => s_not q
  · obtain ⟨l, p, rfl, h, hn⟩ := inv h
    exact ⟨ptI (pt_not (ga.pt sc l X Wx cx tk h hn).1) fun σ H Q q => s_notT q, fun op es pos q => by cases q⟩
theorem cop_in (o : Cop) (e : Expr) (h : noSet e = true) : behindInMarks (cop o) e = false := by
  cases e <;> first | rfl | cases h
end
end G

set_option maxHeartbeats 4000000
/-! The checker of expressions is sound, on. -/
namespace G
open PySem PySem.Spec PyProof.Rows L2
section
variable {Γ : Tab} {P : Prog} {C : Calls} {N : Nam} {L : List Str}
theorem gd_cmp {o : Cop} {a b : Ex} (ga : Good Γ P C N L a) (gb : Good Γ P C N L b) : Good Γ P C N L (.cmp o a b) := by
  have inv : ∀ {sc e}, chk Γ L P.isis (.cmp o a b) sc e = true → ∃ l r p, e = .Compare l [cop o] [r] p ∧ chk Γ L P.isis a sc l = true ∧ chk Γ L P.isis b sc r = true ∧ noSet r = true := fun {sc e} h => by
    unfold chk at h
    split at h
    · obtain ⟨h, h4⟩ := and2 h
      obtain ⟨h, h3⟩ := and2 h
      obtain ⟨h, h2⟩ := and2 h
      rw [of_decide_eq_true h]
      exact ⟨_, _, _, rfl, h2, h3, h4⟩
    · cases h
  refine ⟨fun sc e X Wx cx tk h => ?_, fun sc e X Wx cx tk h hn => ?_, fun _ _ _ _ _ _ _ h => by cases h⟩
  · obtain ⟨l, r, p, rfl, h1, h2, h3⟩ := inv h
    exact peI (pe_cmpR (op_cmp o cx.blt.unt) (ga.pe sc l X Wx cx tk h1) (gb.pe sc r X Wx cx tk h2) (cop_in o r h3)) fun σ H Q q => s_cmp q
  · obtain ⟨l, r, p, rfl, h1, h2, h3⟩ := inv h
    exact ⟨ptI (pt_cmpR (op_cmp o cx.blt.unt) (ga.pe sc l X Wx cx tk h1) (gb.pe sc r X Wx cx tk h2) (cop_in o r h3)) fun σ H Q q => s_cmpT q, fun op es pos q => by cases q⟩
theorem gd_and {a b : Ex} (ga : Good Γ P C N L a) (gb : Good Γ P C N L b) : Good Γ P C N L (.and a b) := by
  have inv : ∀ {sc e}, chk Γ L P.isis (.and a b) sc e = true → ∃ l r rest p, e = .BoolOp .And (l :: r :: rest) p ∧ chk Γ L P.isis a sc l = true ∧ noIf l = true ∧
      ((rest = [] ∧ chk Γ L P.isis b sc r = true ∧ noIf r = true) ∨ (rest ≠ [] ∧ chk Γ L P.isis b sc (.BoolOp .And (r :: rest) p) = true)) := fun {sc e} h => by
    unfold chk at h
    split at h
    · obtain ⟨h, h3⟩ := and2 h
      obtain ⟨h, h2⟩ := and2 h
      refine ⟨_, _, _, _, rfl, h, h2, ?_⟩
      split at h3
      · exact .inl ⟨rfl, and2 h3⟩
      · rename_i q
        exact .inr ⟨fun e => q e, h3⟩
    · cases h
  have pw : ∀ sc e X Wx, CxOk Γ P C N L sc X → Takes X Wx → chk Γ L P.isis (.and a b) sc e = true → PW X e (tT P C N X.K Wx (.and a b)) := fun sc e X Wx cx tk h => by
    obtain ⟨l, r, rest, p, rfl, h1, h2, h3⟩ := inv h
    refine pwI ?_ fun σ H Q q => s_andT q
    rcases h3 with ⟨rfl, h3, h4⟩ | ⟨h3, h4⟩
    · exact pw_and (ga.pt sc l X Wx cx tk h1 h2).1 (pw_and1 (gb.pt sc r X Wx cx tk h3 h4).1)
    · exact pw_and (ga.pt sc l X Wx cx tk h1 h2).1 ((gb.pt sc _ X Wx cx tk h4 rfl).2 _ _ _ rfl)
  refine ⟨fun sc e X Wx cx tk h => ?_, fun sc e X Wx cx tk h hn => ⟨(pw sc e X Wx cx tk h).pt, fun op es pos q => pw sc e X Wx cx tk h⟩, fun _ _ _ _ _ _ _ h => by cases h⟩
  obtain ⟨l, r, rest, p, rfl, h1, h2, h3⟩ := inv h
  refine peI ?_ fun σ H Q q => s_and q
  rcases h3 with ⟨rfl, h3, h4⟩ | ⟨h3, h4⟩
  · exact pe_andT (ga.pe sc l X Wx cx tk h1) (pe_one (gb.pe sc r X Wx cx tk h3))
  · exact pe_andT (ga.pe sc l X Wx cx tk h1) (gb.pe sc _ X Wx cx tk h4)
theorem gd_or {a b : Ex} (ga : Good Γ P C N L a) (gb : Good Γ P C N L b) : Good Γ P C N L (.or a b) := by
  have inv : ∀ {sc e}, chk Γ L P.isis (.or a b) sc e = true → ∃ l r rest p, e = .BoolOp .Or (l :: r :: rest) p ∧ chk Γ L P.isis a sc l = true ∧ noIf l = true ∧
      ((rest = [] ∧ chk Γ L P.isis b sc r = true ∧ noIf r = true) ∨ (rest ≠ [] ∧ chk Γ L P.isis b sc (.BoolOp .Or (r :: rest) p) = true)) := fun {sc e} h => by
    unfold chk at h
    split at h
    · obtain ⟨h, h3⟩ := and2 h
      obtain ⟨h, h2⟩ := and2 h
      refine ⟨_, _, _, _, rfl, h, h2, ?_⟩
      split at h3
      · exact .inl ⟨rfl, and2 h3⟩
      · rename_i q
        exact .inr ⟨fun e => q e, h3⟩
    · cases h
  have pw : ∀ sc e X Wx, CxOk Γ P C N L sc X → Takes X Wx → chk Γ L P.isis (.or a b) sc e = true → PW X e (tT P C N X.K Wx (.or a b)) := fun sc e X Wx cx tk h => by
    obtain ⟨l, r, rest, p, rfl, h1, h2, h3⟩ := inv h
    refine pwI ?_ fun σ H Q q => s_orT q
    rcases h3 with ⟨rfl, h3, h4⟩ | ⟨h3, h4⟩
    · exact pw_or (ga.pt sc l X Wx cx tk h1 h2).1 (pw_or1 (gb.pt sc r X Wx cx tk h3 h4).1)
    · exact pw_or (ga.pt sc l X Wx cx tk h1 h2).1 ((gb.pt sc _ X Wx cx tk h4 rfl).2 _ _ _ rfl)
  refine ⟨fun sc e X Wx cx tk h => ?_, fun sc e X Wx cx tk h hn => ⟨(pw sc e X Wx cx tk h).pt, fun op es pos q => pw sc e X Wx cx tk h⟩, fun _ _ _ _ _ _ _ h => by cases h⟩
  obtain ⟨l, r, rest, p, rfl, h1, h2, h3⟩ := inv h
  refine peI ?_ fun σ H Q q => s_or q
  rcases h3 with ⟨rfl, h3, h4⟩ | ⟨h3, h4⟩
  · exact pe_orT (ga.pe sc l X Wx cx tk h1) (pe_one (gb.pe sc r X Wx cx tk h3))
  · exact pe_orT (ga.pe sc l X Wx cx tk h1) (gb.pe sc _ X Wx cx tk h4)
theorem gd_ite {c a b : Ex} (gc : Good Γ P C N L c) (ga : Good Γ P C N L a) (gb : Good Γ P C N L b) : Good Γ P C N L (.ite c a b) := by
  have inv : ∀ {sc e}, chk Γ L P.isis (.ite c a b) sc e = true → ∃ t l r p, e = .IfExp t l r p ∧ chk Γ L P.isis c sc t = true ∧ noIf t = true ∧ chk Γ L P.isis a sc l = true ∧ chk Γ L P.isis b sc r = true := fun {sc e} h => by
    unfold chk at h
    split at h
    · obtain ⟨h, h4⟩ := and2 h
      obtain ⟨h, h3⟩ := and2 h
      obtain ⟨h, h2⟩ := and2 h
      exact ⟨_, _, _, _, rfl, h, h2, h3, h4⟩
    · cases h
  refine ⟨fun sc e X Wx cx tk h => ?_, fun sc e X Wx cx tk h hn => ?_, fun _ _ _ _ _ _ _ h => by cases h⟩
  · obtain ⟨t, l, r, p, rfl, h1, h2, h3, h4⟩ := inv h
    exact peI (pe_ifExp (gc.pt sc t X Wx cx tk h1 h2).1 (ga.pe sc l X Wx cx tk h3) (gb.pe sc r X Wx cx tk h4)) fun σ H Q q => s_ite q
  · obtain ⟨t, l, r, p, rfl, _⟩ := inv h
    cases hn
theorem gd_idx {a i : Ex} (ga : Good Γ P C N L a) (gi : Good Γ P C N L i) : Good Γ P C N L (.idx a i) := by
  have inv : ∀ {sc e}, chk Γ L P.isis (.idx a i) sc e = true → ∃ l r p, e = .Subscript l r p ∧ chk Γ L P.isis a sc l = true ∧ chk Γ L P.isis i sc r = true ∧ noSlc r = true := fun {sc e} h => by
    unfold chk at h
    split at h
    · obtain ⟨h, h3⟩ := and2 h
      obtain ⟨h, h2⟩ := and2 h
      exact ⟨_, _, _, rfl, h, h2, h3⟩
    · cases h
  refine good_of (fun sc e X Wx cx tk h => ?_) (fun sc e h env whole => ?_) (fun _ _ _ _ h => by cases h) (fun _ _ _ h => by cases h)
  · obtain ⟨l, r, p, rfl, h1, h2, h3⟩ := inv h
    exact peI (pe_ix ix_W (ga.pe sc l X Wx cx tk h1) (gi.pe sc r X Wx cx tk h2) (ix_of h3)) fun σ H Q q => s_idx q
  · obtain ⟨l, r, p, rfl, _⟩ := inv h
    rfl
theorem po_ok {xs : List Ex} (h : ∀ x ∈ xs, Good Γ P C N L x) {sc : Scope} {e : Option Expr} {X : Cx} {Wx : WX} (cx : CxOk Γ P C N L sc X) (tk : Takes X Wx) (hc : chks Γ L P.isis xs sc e.toList = true) : PO X e (tO P C N X.K Wx xs) ∧ xs.length ≤ 1 := by
  cases e with
  | none =>
    cases xs with
    | nil => exact ⟨po_none, by simp⟩
    | cons x xs => cases hc
  | some e =>
    cases xs with
    | nil => cases hc
    | cons x xs =>
      obtain ⟨h1, h3⟩ := and2 (show ((chk Γ L P.isis x sc e && noStar e) && chks Γ L P.isis xs sc []) = true from hc)
      obtain ⟨h1, h2⟩ := and2 h1
      cases xs with
      | nil => exact ⟨po_some ((h x (by simp)).pe sc e X Wx cx tk h1), by simp⟩
      | cons y ys => cases h3
theorem gd_slc {a : Ex} {lo hi : List Ex} (ga : Good Γ P C N L a) (gl : ∀ x ∈ lo, Good Γ P C N L x) (gh : ∀ x ∈ hi, Good Γ P C N L x) : Good Γ P C N L (.slc a lo hi) := by
  have inv : ∀ {sc e}, chk Γ L P.isis (.slc a lo hi) sc e = true → ∃ l x y p p', e = .Subscript l (.Slice x y none p) p' ∧ chk Γ L P.isis a sc l = true ∧ chks Γ L P.isis lo sc x.toList = true ∧ chks Γ L P.isis hi sc y.toList = true := fun {sc e} h => by
    unfold chk at h
    split at h
    · obtain ⟨h, h3⟩ := and2 h
      obtain ⟨h, h2⟩ := and2 h
      exact ⟨_, _, _, _, _, rfl, h, h2, h3⟩
    · cases h
  refine good_of (fun sc e X Wx cx tk h => ?_) (fun sc e h env whole => ?_) (fun _ _ _ _ h => by cases h) (fun _ _ _ h => by cases h)
  · obtain ⟨l, x, y, p, p', rfl, h1, h2, h3⟩ := inv h
    obtain ⟨q1, l1⟩ := po_ok gl cx tk h2
    obtain ⟨q2, l2⟩ := po_ok gh cx tk h3
    exact peI (pe_slice sl_W (ga.pe sc l X Wx cx tk h1) q1 q2) fun σ H Q q => s_slc l1 l2 q
  · obtain ⟨l, x, y, p, p', rfl, _⟩ := inv h
    rfl
theorem gd_att {a : Ex} {f : Nat} (ga : Good Γ P C N L a) : Good Γ P C N L (.att a f) := by
  have inv : ∀ {sc e}, chk Γ L P.isis (.att a f) sc e = true → ∃ l x p, e = .Attribute l x p ∧ chk Γ L P.isis a sc l = true ∧ noSup l = true ∧ Γ.fa.lookup x = some f := fun {sc e} h => by
    unfold chk at h
    split at h
    · obtain ⟨h, h3⟩ := and2 h
      obtain ⟨h, h2⟩ := and2 h
      exact ⟨_, _, _, rfl, h, h2, of_decide_eq_true h3⟩
    · cases h
  refine good_of (fun sc e X Wx cx tk h => ?_) (fun sc e h env whole => ?_) (fun _ _ _ _ h => by cases h) (fun _ _ _ h => by cases h)
  · obtain ⟨l, x, p, rfl, h1, h2, h3⟩ := inv h
    have ex := cx.tn.fa x f h3
    refine ⟨fun pins s σ H Q I q => attr_of (sup_of h2) (thn ((ga.pe sc l X Wx cx tk h1).run pins s σ H _ I (s_att q)) fun u s1 ⟨y, H1, I1, rx, q1⟩ => ?_)⟩
    rw [← ex]
    exact att_W cx.tc I1 rx q1
  · obtain ⟨l, x, p, rfl, _⟩ := inv h
    rfl
theorem gd_blt {b : Blt} {as : List Ex} (ih : PAg Γ P C N L as) : Good Γ P C N L (.blt b as) := by
  have inv : ∀ {sc e}, chk Γ L P.isis (.blt b as) sc e = true → ∃ es p p', e = .Call (.Name (bnm b) p) es [] p' ∧ glB sc (bnm b) = true ∧ chks Γ L P.isis as sc es = true ∧ as ≠ [] ∧ (calmB b = true → Γ.calm = true) := fun {sc e} h => by
    unfold chk at h
    split at h
    · obtain ⟨h, h5⟩ := and2 h
      obtain ⟨h, h4⟩ := and2 h
      obtain ⟨h, h3⟩ := and2 h
      obtain ⟨h, h2⟩ := and2 h
      have e := of_decide_eq_true h
      subst e
      exact ⟨_, _, _, rfl, h2, h3, (fun e => by subst e; cases h4), fun q => by rw [q] at h5; simpa using h5⟩
    · cases h
  refine good_of (fun sc e X Wx cx tk h => ?_) (fun sc e h env whole => ?_) (fun _ _ _ _ h => by cases h) (fun _ _ _ h => by cases h)
  · obtain ⟨es, p, p', rfl, h1, h2, h3, hq⟩ := inv h
    have pa := ih sc es X Wx cx tk h2
    obtain ⟨st, hl⟩ := star_all h2
    cases es with
    | nil => cases as with
      | nil => exact (h3 rfl).elim
      | cons _ _ => cases hl
    | cons e es =>
      obtain ⟨st1, st2⟩ := and2 (show (noStar e && es.all noStar) = true from st)
      have cb := call_blt cx.blt (N := N) b (fun q => cx.cal (hq q))
      have hm := cx.tn.free _ (bnm_free b)
      have hv := boot_b b
      obtain ⟨n1, n2⟩ := bnm_n b
      refine peI ?_ fun σ H Q q => s_blt q
      revert cb hv
      generalize hbv : bval b = v
      intro cb hv
      cases b <;> cases hbv <;> first
        | exact pe_callB cb (cx.gl h1) hm hv pa n1 n2 (star_of st1) (plain_of st2)
        | exact pe_callTy cb (cx.gl h1) hm hv pa n1 n2 (star_of st1) (plain_of st2)
  · obtain ⟨es, p, p', rfl, _⟩ := inv h
    rfl
theorem pk_of : ∀ {ks : List Ex} {kws : List Keyword} {sc : Scope} {X : Cx} {Wx : WX}, (∀ x ∈ ks, Good Γ P C N L x) → CxOk Γ P C N L sc X → Takes X Wx → chks Γ L P.isis ks sc (kws.map (·.value)) = true → PK X kws (tEs P C N X.K Wx ks) := fun {ks} => by
  induction ks with
  | nil =>
    intro kws sc X Wx hk cx tk h
    cases kws with
    | nil => exact pkI pk_nil fun _ _ _ q => s_nil q
    | cons k kws => cases h
  | cons x ks ih =>
    intro kws sc X Wx hk cx tk h
    cases kws with
    | nil => cases h
    | cons k kws =>
      obtain ⟨h1, h3⟩ := and2 (show ((chk Γ L P.isis x sc k.value && noStar k.value) && chks Γ L P.isis ks sc (kws.map (·.value))) = true from h)
      obtain ⟨h1, h2⟩ := and2 h1
      obtain ⟨ka, kv, kp⟩ := k
      exact pkI (pk_cons ((hk x (by simp)).pe sc kv X Wx cx tk h1) (ih (fun y hy => hk y (List.mem_cons_of_mem _ hy)) cx tk h3)) fun _ _ _ q => s_cons q
theorem gd_call {f : Nat} {as ks : List Ex} {perm : List Nat} (ih : PAg Γ P C N L as) (ik : ∀ x ∈ ks, Good Γ P C N L x) : Good Γ P C N L (.call f as ks perm) := by
  have inv : ∀ {sc e}, chk Γ L P.isis (.call f as ks perm) sc e = true → ∃ x p es kws p' ps, e = .Call (.Name x p) es kws p' ∧ Γ.fn.lookup x = some (f, ps) ∧ permOk ps as.length (kws.filterMap (·.arg)) perm = true ∧ glB sc x = true ∧ kws.all (·.arg.isSome) = true ∧
      chks Γ L P.isis as sc es = true ∧ chks Γ L P.isis ks sc (kws.map (·.value)) = true ∧ Γ.calm = true := fun {sc e} h => by
    unfold chk at h
    split at h
    · obtain ⟨h, h5⟩ := and2 h
      obtain ⟨h, h4⟩ := and2 h
      obtain ⟨h, h3⟩ := and2 h
      obtain ⟨h, h2⟩ := and2 h
      obtain ⟨h0, h⟩ := and2 h
      split at h
      · rename_i g ps eq
        obtain ⟨h, h1⟩ := and2 h
        have e := of_decide_eq_true h
        subst e
        exact ⟨_, _, _, _, _, ps, rfl, eq, h1, h2, h3, h4, h5, h0⟩
      · cases h
    · cases h
  refine good_of (fun sc e X Wx cx tk h => ?_) (fun sc e h env whole => ?_) (fun _ _ _ _ h => by cases h) (fun _ _ _ h => by cases h)
  · obtain ⟨x, p, es, kws, p', ps, rfl, h1, h2, h3, h4, h5, h6, h0⟩ := inv h
    obtain ⟨st, hl⟩ := star_all h5
    obtain ⟨_, hl2⟩ := star_all h6
    exact (cx.call h0 X rfl rfl rfl rfl rfl rfl rfl rfl).fn Wx tk x f ps as ks perm es kws p p' h1 (cx.gl h3) h2 h4 st hl (by rw [← hl2, List.length_map]) (ih sc es X Wx cx tk h5) (pk_of ik cx tk h6)
  · obtain ⟨x, p, es, kws, p', ps, rfl, _⟩ := inv h
    rfl
end
end G

set_option maxHeartbeats 4000000
/-! The checker of expressions is sound: the end. -/
namespace G
open PySem PySem.Spec PyProof.Rows L2
section
variable {Γ : Tab} {P : Prog} {C : Calls} {N : Nam} {L : List Str}
theorem gd_no {x : Ex} (h : ∀ sc e, chk Γ L P.isis x sc e = true → False) (hi : PIg Γ P C N L x) : Good Γ P C N L x :=
  ⟨fun sc e X Wx cx tk hc => (h sc e hc).elim, fun sc e X Wx cx tk hc hn => (h sc e hc).elim, hi⟩
theorem gd_isi {a : Ex} {cs : List TyC} (ga : Good Γ P C N L a) : Good Γ P C N L (.isi a cs) := by
  have inv : ∀ {sc e}, chk Γ L P.isis (.isi a cs) sc e = true → ∃ p l t p', e = .Call (.Name "isinstance" p) [l, t] [] p' ∧ glB sc "isinstance" = true ∧ chk Γ L P.isis a sc l = true ∧ noStar l = true ∧ noStar t = true ∧ cs.all P.isis.contains = true ∧
      ((∃ ts k q, t = .Tuple ts k q ∧ tysB Γ sc cs ts = true ∧ cs.length ≤ 100) ∨ ∃ c, cs = [c] ∧ tyB Γ sc c t = true) := fun {sc e} h => by
    unfold chk at h
    split at h
    · obtain ⟨h, h6⟩ := and2 h
      obtain ⟨h, h5⟩ := and2 h
      obtain ⟨h, h4⟩ := and2 h
      obtain ⟨h, h3⟩ := and2 h
      obtain ⟨h, h2⟩ := and2 h
      obtain ⟨h, h1⟩ := and2 h
      have e := of_decide_eq_true h
      subst e
      refine ⟨_, _, _, _, rfl, h1, h2, h3, h4, h5, ?_⟩
      split at h6
      · obtain ⟨q1, q2⟩ := and2 h6
        exact .inl ⟨_, _, _, rfl, q1, of_decide_eq_true q2⟩
      · split at h6
        · exact .inr ⟨_, rfl, h6⟩
        · cases h6
    · cases h
  refine good_of (fun sc e X Wx cx tk h => ?_) (fun sc e h env whole => ?_) (fun _ _ _ _ h => by cases h) (fun _ _ _ h => by cases h)
  · obtain ⟨p, l, t, p', rfl, h1, h2, h3, h4, h5, h6⟩ := inv h
    have hm := cx.tn.free "isinstance" (by decide)
    have st : ([l, t] : List Expr).all noStar = true := by simp [h3, h4]
    rcases h6 with ⟨ts, k, q, rfl, q1, q2⟩ | ⟨c, rfl, q1⟩
    · have pa : PA X [l, .Tuple ts k q] (tCons (tE P C N X.K Wx a) (tCons (tTup (tTys N cs)) tNil)) := pa_cons (ga.pe sc l X Wx cx tk h2) (pa_cons (pe_tup (pa_tys cx h5 q1)) pa_nil (star_of h4)) (star_of h3)
      exact peI (pe_callB (call_isiN cx.tc h5) (cx.gl h1) hm boot_isi pa (by decide) (by decide) (star_of h3) (plain_of (by simp [h4]))) fun σ H Q q => s_isiN q2 q
    · have hc : P.isis.contains c = true := by simpa using h5
      have pa : PA X [l, t] (tCons (tE P C N X.K Wx a) (tTys N [c])) := pa_cons (ga.pe sc l X Wx cx tk h2) (paI (pa_cons (pe_ty cx hc q1) pa_nil (star_of h4)) fun _ _ _ q => q) (star_of h3)
      exact peI (pe_callB (call_isi1 cx.tc hc) (cx.gl h1) hm boot_isi pa (by decide) (by decide) (star_of h3) (plain_of (by simp [h4]))) fun σ H Q q => s_isi1 q
  · obtain ⟨p, l, t, p', rfl, _⟩ := inv h
    rfl
theorem chks_one {isis : List TyC} {x : Ex} {sc : Scope} {es : List Expr} (h : chks Γ L isis [x] sc es = true) : ∃ v, es = [v] ∧ chk Γ L isis x sc v = true := by
  cases es with
  | nil => cases h
  | cons v es =>
    obtain ⟨q, q3⟩ := and2 (show ((chk Γ L isis x sc v && noStar v) && chks Γ L isis [] sc es) = true from h)
    cases es with
    | nil => exact ⟨v, rfl, (and2 q).1⟩
    | cons _ _ => cases q3
theorem gd_dct {ks vs : List Ex} (gv : ∀ x ∈ vs, Good Γ P C N L x) : Good Γ P C N L (.dct ks vs) := by
  have inv : ∀ {sc e}, chk Γ L P.isis (.dct ks vs) sc e = true → (∃ k j q v x p, e = .Dict [some (.Constant (.str k) j q)] [v] p ∧ ks = [.str k] ∧ vs = [x] ∧ chk Γ L P.isis x sc v = true) ∨
      (∃ p, e = .Dict [] [] p ∧ ks = [] ∧ vs = []) ∨
      (∃ k l u v j1 q1 j2 q2 j3 q3 j4 q4 p, e = .Dict [some (.Constant (.int k) j1 q1), some (.Constant (.int l) j2 q2)] [.Constant (.int u) j3 q3, .Constant (.int v) j4 q4] p ∧ ks = [.int k, .int l] ∧ vs = [.int u, .int v] ∧ k ≠ l) := fun {sc e} h => by
    unfold chk at h
    split at h
    · obtain ⟨h, h3⟩ := and2 h
      obtain ⟨h, h2⟩ := and2 h
      split at h
      · have e := of_decide_eq_true h
        subst e
        obtain ⟨x, rfl⟩ := List.length_eq_one_iff.mp (of_decide_eq_true h3)
        obtain ⟨v, rfl, hv⟩ := chks_one h2
        exact .inl ⟨_, _, _, v, x, _, rfl, rfl, rfl, hv⟩
      · cases h
    · obtain ⟨h, h2⟩ := and2 h
      split at h
      · split at h2
        · exact .inr (.inl ⟨_, rfl, rfl, rfl⟩)
        · cases h2
      · cases h
    · split at h
      · obtain ⟨h, h5⟩ := and2 h
        obtain ⟨h, h4⟩ := and2 h
        obtain ⟨h, h3⟩ := and2 h
        obtain ⟨h1, h2⟩ := and2 h
        have e1 := of_decide_eq_true h1
        have e2 := of_decide_eq_true h2
        have e3 := of_decide_eq_true h3
        have e4 := of_decide_eq_true h4
        subst e1 e2 e3 e4
        exact .inr (.inr ⟨_, _, _, _, _, _, _, _, _, _, _, _, _, rfl, rfl, rfl, of_decide_eq_true h5⟩)
      · cases h
    · cases h
  refine good_of (fun sc e X Wx cx tk h => ?_) (fun sc e h env whole => ?_) (fun _ _ _ _ h => by cases h) (fun _ _ _ h => by cases h)
  · rcases inv h with ⟨k, j, q, v, x, p, rfl, rfl, rfl, hv⟩ | ⟨p, rfl, rfl, rfl⟩ | ⟨k, l, u, v, j1, q1, j2, q2, j3, q3, j4, q4, p, rfl, rfl, rfl, n⟩
    · exact peI (pe_disp (pps_cons pe_str ((gv x (by simp)).pe sc v X Wx cx tk hv) pps_nil) rfl rfl (by simp) (by show 1 ≤ 15; decide)) fun σ H Q q => s_dct q
    · exact peI pe_dnewK fun σ H Q q => s_dct0 q
    · exact peI (pe_disp (pps_cons pe_int pe_int (pps_cons pe_int pe_int pps_nil)) rfl rfl (by simp) (by show 2 ≤ 15; decide)) fun σ H Q q => s_dct2 n q
  · rcases inv h with ⟨k, j, q, v, x, p, rfl, _⟩ | ⟨p, rfl, _⟩ | ⟨k, l, u, v, j1, q1, j2, q2, j3, q3, j4, q4, p, rfl, _⟩ <;> rfl
theorem fold_of {e : Expr} {env : PySem.Env} (h : noSet e = true) : ∀ x, foldedSetIterable e env x = pure x := by
  intro x
  cases e <;> first | rfl | cases h
theorem gd_comp {elt it : Ex} {own : List Nat} {t : Tg} {ifs : List Ex} (ge : Good Γ P C N L elt) (gi : Good Γ P C N L it) (gf : ∀ x ∈ ifs, Good Γ P C N L x) : Good Γ P C N L (.comp elt own t it ifs) := by
  have inv : ∀ {sc e}, chk Γ L P.isis (.comp elt own t it ifs) sc e = true → ∃ l tg iter fs scope p, e = .ListComp l [⟨tg, iter, fs, 0⟩] scope p ∧ chkI Γ L P.isis it sc tg iter = true ∧ noSet iter = true ∧ tgtB L (relS scope sc) t tg = true ∧ blkC L sc scope (ownP L own) = true ∧
      t.vars.all own.contains = true ∧ chk Γ L P.isis elt (relS scope sc) l = true ∧ chks Γ L P.isis ifs (relS scope sc) fs = true ∧ fs.length ≤ 1 ∧ fs.all noIf = true ∧ Γ.calm = true := fun {sc e} h => by
    unfold chk at h
    split at h
    · obtain ⟨h, h9⟩ := and2 h
      obtain ⟨h, h8⟩ := and2 h
      obtain ⟨h, h7⟩ := and2 h
      obtain ⟨h, h6⟩ := and2 h
      obtain ⟨h, h5⟩ := and2 h
      obtain ⟨h, h4⟩ := and2 h
      obtain ⟨h, h3⟩ := and2 h
      obtain ⟨h, h2⟩ := and2 h
      obtain ⟨h0, h⟩ := and2 h
      exact ⟨_, _, _, _, _, _, rfl, h, h2, h3, h4, h5, h6, h7, of_decide_eq_true h8, h9, h0⟩
    · cases h
  refine good_of (fun sc e X Wx cx tk h => ?_) (fun sc e h env whole => ?_) (fun _ _ _ _ h => by cases h) (fun _ _ _ h => by cases h)
  · obtain ⟨l, tg, iter, fs, scope, p, rfl, h1, h2, h3, h4, h5, h6, h7, h8, h9, h0⟩ := inv h
    have hcal := cx.cal h0
    have bk : BlkOk X.N X.env.scope scope (ownP L own) := by rw [cx.nm, cx.sc]; exact blkOk_by h4
    have ho : (ownP L own).map (·.2) = own := by simp [ownP, List.map_map, Function.comp_def]
    have hl : ifs.length ≤ 1 := by rw [← (star_all h7).2]; exact h8
    have ht : ∀ i ∈ t.vars, i ∈ own := fun i hi => by
      have := List.all_eq_true.mp h5 i hi
      simpa using this
    have pe := pe_lc (wi := tI P C N X.K Wx it) (g := tTgt X.K t) (tt := tIfs P C N X.K ifs) (te := tE P C N X.K WF elt) (pos := p) (X := X) (elt := l) (tg := tg) (iter := iter) (ifs := fs) (scope := scope) (own := ownP L own) hcal (by rw [cx.nm]; exact cx.nd) (gi.pi sc tg iter X Wx cx tk h1) bk
      (fun s H D cl fp => pg_ok (sc := relS scope sc) (cx.blk s H scope D cl fp).nm (cx.blk s H scope D cl fp).sc cx.nd hcal h3)
      (fun s H D cl fp => by
        cases fs with
        | nil =>
          cases ifs with
          | nil => exact pts_nil
          | cons _ _ => cases h7
        | cons f fs =>
          cases fs with
          | cons _ _ => simp at h8
          | nil =>
            cases ifs with
            | nil => cases h7
            | cons c cs =>
              obtain ⟨q, q3⟩ := and2 (show ((chk Γ L P.isis c (relS scope sc) f && noStar f) && chks Γ L P.isis cs (relS scope sc) []) = true from h7)
              have hn : noIf f = true := by simpa using h9
              exact pts_one ((gf c (by simp)).pt (relS scope sc) f _ WF (cx.blk s H scope D cl fp) blk_takes (and2 q).1 hn).1)
      (fun s H D cl fp => ge.pe (relS scope sc) l _ WF (cx.blk s H scope D cl fp) blk_takes h6) (fold_of h2)
    rw [ho] at pe
    exact peI pe fun σ H Q q => s_comp hl ht q
  · obtain ⟨l, tg, iter, fs, scope, p, rfl, _⟩ := inv h
    rfl
/-! ### texts -/
def mid : Mth → String
  | .partition => "str.partition" | .find => "str.find" | .split => "str.split" | .join => "str.join"
def rMth (N : Nam) (K : PySem.W.Frag) (mt : Mth) : V → List V → Hp → VK → Prop := fun x xs H Q => ∃ m M F s w y, x = .str s ∧ xs = [y] ∧ SimM N K m M F H ∧ RepW N K F m w y ∧ VRes N K Q m M F (mthW mt s w)
theorem strs_eq : ∀ {ds : List D} {ys : List Str}, D.strs ds = some ys → ds = ys.map D.str
  | [], _, h => by cases h; rfl
  | d :: r, bs, h => by
    cases d with
    | str b =>
      have h' : (D.strs r).map (b :: ·) = some bs := h
      cases q : D.strs r with
      | none => rw [q] at h'; cases h'
      | some es => rw [q] at h'; cases h'; rw [strs_eq q]; rfl
    | _ => cases h
theorem Reps.strs {N : Nam} {K : PySem.W.Frag} {F : Hp} : ∀ {bs : List Str} {vs : List V}, Reps N K F (bs.map D.str) vs → vs = bs.map V.str
  | [], [], _ => rfl
  | b :: bs, v :: vs, h => by
    obtain ⟨h1, h2⟩ := h
    rw [Reps.strs h2, show v = .str b from h1]; rfl
  | [], _ :: _, h => h.elim
  | _ :: _, [], h => h.elim
theorem reps_strs {N : Nam} {K : PySem.W.Frag} {F : Hp} : ∀ bs : List Str, Reps N K F (bs.map D.str) (bs.map V.str)
  | [] => trivial
  | _ :: bs => ⟨rfl, reps_strs bs⟩
theorem mth_ok {X : Cx} (mt : Mth) : MtR X (mid mt) (rMth N X.K mt) := by
  intro pins s σ H x xs v us Q I rx rs h
  obtain ⟨m, M, F, a, w, y, rfl, rfl, sm, rw', h⟩ := h
  cases mt with
  | partition =>
    cases w with
    | p d =>
      cases d with
      | str b =>
        cases (show y = .str b from rw')
        have h : VRes N X.K Q m M F (if !(b.length == 0) && szOk a.length then some (W.p (.tup [.str (Txt.partition a b).1, .str (Txt.partition a b).2.1, .str (Txt.partition a b).2.2])) else none) := h
        split at h
        · rename_i z
          obtain ⟨z1, z2⟩ := Bool.and_eq_true_iff.mp z
          exact mt_partition pins s σ H _ _ v us Q I rx rs ⟨a, b, rfl, rfl, by simpa using z1, szOk_le z2, VRes.tupD sm (ds := [.str _, .str _, .str _]) ⟨rfl, rfl, rfl, trivial⟩ h⟩
        · exact h.elim
      | _ => exact h.elim
    | _ => exact h.elim
  | find =>
    cases w with
    | p d =>
      cases d with
      | str b =>
        cases (show y = .str b from rw')
        exact mt_find pins s σ H _ _ v us Q I rx rs ⟨a, b, rfl, rfl, VRes.same sm h rfl⟩
      | _ => exact h.elim
    | _ => exact h.elim
  | split =>
    cases w with
    | p d =>
      cases d with
      | str b =>
        cases (show y = .str b from rw')
        have h : VRes N X.K Q m M F (if !(b.length == 0) && szOk a.length then some (W.p (.lst ((Txt.split a b).map D.str))) else none) := h
        split at h
        · rename_i z
          obtain ⟨z1, z2⟩ := Bool.and_eq_true_iff.mp z
          have z3 : a.length + 2 ≤ sizeLine := Nat.le_trans (Nat.add_le_add_right (of_decide_eq_true z2) 2) (by rw [sizeLine_eq]; decide)
          exact mt_split pins s σ H _ _ v us Q I rx rs ⟨a, b, rfl, rfl, by simpa using z1, z3, VRes.lst sm (reps_strs _) h⟩
        · exact h.elim
      | _ => exact h.elim
    | _ => exact h.elim
  | join =>
    have key : ∀ {ds : List D}, VRes N X.K Q m M F (match D.strs ds with
      | some ys => if szOk ((ys.map (·.length)).sum + ys.length * a.length) then some (W.p (.str (Txt.join a ys))) else none
      | none => none) → (∀ ys : List Str, ds = ys.map D.str → ∃ p, y = .ref p ∧ (SqL X.K H p (ys.map V.str) ∨ SqT X.K H p (ys.map V.str))) → wpAny (model X.prog X.w) X.A (call (.builtin (mid .join)) (v :: us)) (EP X pins σ Q) X.xe s := fun {ds} h k => by
      cases e : D.strs ds with
      | none => rw [e] at h; exact h.elim
      | some ys =>
        rw [e] at h
        have h : VRes N X.K Q m M F (if szOk ((ys.map (·.length)).sum + ys.length * a.length) then some (W.p (.str (Txt.join a ys))) else none) := h
        split at h
        · rename_i z
          obtain ⟨p, rfl, k2⟩ := k ys (strs_eq e)
          have z1 : (ys.map (·.length)).sum + ys.length * a.length ≤ 16777216 := Nat.le_trans (of_decide_eq_true z) (by decide)
          exact mt_join pins s σ H _ _ v us Q I rx rs ⟨a, p, ys, rfl, rfl, k2, z1, VRes.same sm h rfl⟩
        · exact h.elim
    cases w with
    | p d =>
      cases d with
      | lst ds =>
        refine key h fun ys e => ?_
        subst e
        obtain ⟨p, zs, rfl, h1, h2⟩ := rw'
        rw [Reps.strs h2] at h1
        exact ⟨p, rfl, .inl (.inl (sm.sub.rd h1))⟩
      | tup ds =>
        refine key h fun ys e => ?_
        subst e
        obtain ⟨p, zs, rfl, h1, h2⟩ := rw'
        rw [Reps.strs h2] at h1
        exact ⟨p, rfl, .inr (sm.sub.sqT h1)⟩
      | _ => exact h.elim
    | _ => exact h.elim
theorem s_mth {mt : Mth} {o a : Ex} {Q : VK} {σ : L2.St} {H : Hp} {K : PySem.W.Frag} {Wx : WX} (h : tE P C N K Wx (.mth mt o a) σ H Q) : tM1 (rMth N K mt) (tE P C N K Wx o) (tE P C N K Wx a) σ H Q := by
  obtain ⟨env, m, M, F, s, h⟩ := h
  have h : ERes N K (RW N K) Wx Q σ env m F ((ev P C o env M).bind fun x M => match x with
    | .p (.str z) => (ev P C a env M).bind fun y M => Res.of (mthW mt z y) M
    | _ => .bad) := h
  refine tE.of s h fun x H1 m1 F1 w1 M1 s1 r1 g1 h1 => ?_
  split at h1
  · rename_i z
    cases (show x = .str z from r1)
    refine ⟨⟨z, rfl⟩, tE.of s1 h1 fun y H2 m2 F2 w2 M2 s2 r2 g2 h2 => ?_⟩
    exact ⟨m2, M2, F2, z, w2, y, rfl, rfl, s2.mem, r2, VRes.of s2 h2⟩
  · exact h1.elim
theorem s_fmt {a : Ex} {Q : VK} {σ : L2.St} {H : Hp} {K : PySem.W.Frag} {Wx : WX} (h : tE P C N K Wx (.fmt a) σ H Q) : tFmt (tE P C N K Wx a) σ H Q := by
  obtain ⟨env, m, M, F, s, h⟩ := h
  refine tE.of s h fun x H1 m1 F1 w1 M1 s1 r1 g1 h1 => ?_
  have h1 : ERes N K (RW N K) Wx Q σ env m1 F1 (Res.of (fmtW w1) M1) := h1
  unfold fmtW at h1
  split at h1
  · rename_i i _
    cases (show x = .int i from r1)
    split at h1
    · rename_i z
      exact .inr ⟨i, rfl, of_decide_eq_true z, VRes.same s1.mem (VRes.of (o := some _) s1 h1) rfl⟩
    · exact h1.elim
  · rename_i z _
    cases (show x = .str z from r1)
    split at h1
    · rename_i q
      exact .inl ⟨z, rfl, szOk_le q, VRes.same s1.mem (VRes.of (o := some _) s1 h1) rfl⟩
    · exact h1.elim
  · exact h1.elim
theorem s_fstr {Q : VK} {σ : L2.St} {env : G.Env} {K : PySem.W.Frag} {Wx : WX} : ∀ (es : List Ex) (acc : Str) (m : List Addr) (M : Mem) (F : Fx) (H : Hp), Sim N K σ env m M F H → ERes N K (RW N K) Wx Q σ env m F (evJ P C es acc env M) → tJs (es.map (tE P C N K Wx)) acc σ H fun out H1 => Q (.str out) H1
  | [], acc, m, M, F, H, s, h => VRes.same s.mem (VRes.of (o := some (.p (.str acc))) s h) rfl
  | e :: es, acc, m, M, F, H, s, h => by
    have h : ERes N K (RW N K) Wx Q σ env m F ((ev P C e env M).bind fun w M => match w with
      | .p (.str z) => if szOk (acc ++ z).length then evJ P C es (acc ++ z) env M else .bad
      | _ => .bad) := h
    refine tE.of s h fun x H1 m1 F1 w1 M1 s1 r1 g1 h1 => ?_
    split at h1
    · rename_i z
      cases (show x = .str z from r1)
      split at h1
      · rename_i q
        exact ⟨z, rfl, szOk_le q, s_fstr es (acc ++ z) m1 M1 F1 H1 s1 h1⟩
      · exact h1.elim
    · exact h1.elim
theorem gd_mth {mt : Mth} {o a : Ex} (go : Good Γ P C N L o) (ga : Good Γ P C N L a) : Good Γ P C N L (.mth mt o a) := by
  have inv : ∀ {sc e}, chk Γ L P.isis (.mth mt o a) sc e = true → ∃ l ap y p, e = .Call (.Attribute l (mnm mt) ap) [y] [] p ∧ chk Γ L P.isis o sc l = true ∧ noSup l = true ∧ chk Γ L P.isis a sc y = true ∧ noStar y = true ∧ (ap.endLine == p.line) = true := fun {sc e} h => by
    unfold chk at h
    split at h
    · obtain ⟨h, h6⟩ := and2 h
      obtain ⟨h, h5⟩ := and2 h
      obtain ⟨h, h4⟩ := and2 h
      obtain ⟨h, h3⟩ := and2 h
      obtain ⟨h1, h2⟩ := and2 h
      have e := of_decide_eq_true h1
      subst e
      exact ⟨_, _, _, _, rfl, h2, h3, h4, h5, h6⟩
    · cases h
  refine good_of (fun sc e X Wx cx tk h => ?_) (fun sc e h env whole => ?_) (fun _ _ _ _ h => by cases h) (fun _ _ _ h => by cases h)
  · obtain ⟨l, ap, y, p, rfl, h1, h2, h3, h4, h5⟩ := inv h
    have slot : Slot "str" (mnm mt) (mid mt) := by cases mt <;> first | exact F.slot_str_partition | exact F.slot_str_find | exact F.slot_str_split | exact F.slot_str_join
    have ty : typeOf (.builtin (mid mt)) = pure (.type "method_descriptor") := by cases mt <;> first | exact F.type_str_partition | exact F.type_str_find | exact F.type_str_split | exact F.type_str_join
    exact peI (pe_m1 slot ty (mth_ok (N := N) mt) (go.pe sc l X Wx cx tk h1) (ga.pe sc y X Wx cx tk h3) (star_of h4) (sup_of h2) h5) fun σ H Q q => s_mth q
  · obtain ⟨l, ap, y, p, rfl, _⟩ := inv h
    rfl
/-- a text split, the list a place of the memory -/
def rSpl (N : Nam) (K : PySem.W.Frag) : V → List V → Hp → VK → Prop := fun x xs H Q => ∃ m M F a b, x = .str a ∧ xs = [.str b] ∧ SimM N K m M F H ∧ (b.length == 0) = false ∧ a.length ≤ 100000 ∧
  ∀ v H' m' F', SimM N K m' (M ++ [.lst ((Txt.split a b).map fun t => .p (.str t))]) F' H' → RepW N K F' m' (.loc M.length) v → Gr m F m' F' → Q v H'
theorem repWs_strs {N : Nam} {K : PySem.W.Frag} {F : Hp} {m : List Addr} : ∀ bs : List Str, RepWs N K F m (bs.map fun t => .p (.str t)) (bs.map V.str)
  | [] => trivial
  | _ :: bs => ⟨rfl, repWs_strs bs⟩
theorem spl_ok {X : Cx} : MtR X (mid .split) (rSpl N X.K) := by
  intro pins s σ H x xs v us Q I rx rs h
  obtain ⟨m, M, F, a, b, rfl, rfl, sm, z1, z2, h⟩ := h
  have z3 : a.length + 2 ≤ sizeLine := Nat.le_trans (Nat.add_le_add_right z2 2) (by rw [sizeLine_eq]; decide)
  refine mt_split pins s σ H _ _ v us Q I rx rs ⟨a, b, rfl, rfl, by simpa using z1, z3, fun p hp => ?_⟩
  have fp : F.f p = none := by
    cases e : F.f p with
    | none => rfl
    | some u => rw [sm.sub _ _ e] at hp; cases hp
  obtain ⟨s2, g2⟩ := sm.alloc (p := p) (o := .lst ((Txt.split a b).map V.str)) (c := .lst ((Txt.split a b).map fun t => .p (.str t))) hp ⟨fp, _, upd_same, repWs_strs _⟩
  exact h _ _ _ _ s2 ⟨p, by rw [← sm.len]; simp, rfl⟩ g2
theorem s_spl {o a : Ex} {Q : VK} {σ : L2.St} {H : Hp} {K : PySem.W.Frag} {Wx : WX} (h : tE P C N K Wx (.splL o a) σ H Q) : tM1 (rSpl N K) (tE P C N K Wx o) (tE P C N K Wx a) σ H Q := by
  obtain ⟨env, m, M, F, s, h⟩ := h
  have h : ERes N K (RW N K) Wx Q σ env m F ((ev P C o env M).bind fun x M => match x with
    | .p (.str z) => (ev P C a env M).bind fun y M => match y with
      | .p (.str b) => if !(b.length == 0) && szOk z.length then .ok (.loc M.length) (M ++ [.lst ((PySem.Txt.split z b).map fun t => .p (.str t))]) else .bad
      | _ => .bad
    | _ => .bad) := h
  refine tE.of s h fun x H1 m1 F1 w1 M1 s1 r1 g1 h1 => ?_
  split at h1
  · rename_i z
    cases (show x = .str z from r1)
    refine ⟨⟨z, rfl⟩, tE.of s1 h1 fun y H2 m2 F2 w2 M2 s2 r2 g2 h2 => ?_⟩
    split at h2
    · rename_i b
      cases (show y = .str b from r2)
      split at h2
      · rename_i q
        obtain ⟨q1, q2⟩ := and2 q
        exact ⟨m2, M2, F2, z, b, rfl, rfl, s2.mem, by simpa using q1, of_decide_eq_true q2, fun v H' m' F' s' r g => h2 v H' m' F' (s2.to s' g.x) r g⟩
      · exact h2.elim
    · exact h2.elim
  · exact h1.elim
theorem gd_splL {o a : Ex} (go : Good Γ P C N L o) (ga : Good Γ P C N L a) : Good Γ P C N L (.splL o a) := by
  have inv : ∀ {sc e}, chk Γ L P.isis (.splL o a) sc e = true → ∃ l ap y p, e = .Call (.Attribute l (mnm .split) ap) [y] [] p ∧ chk Γ L P.isis o sc l = true ∧ noSup l = true ∧ chk Γ L P.isis a sc y = true ∧ noStar y = true ∧ (ap.endLine == p.line) = true := fun {sc e} h => by
    unfold chk at h
    split at h
    · obtain ⟨h, h6⟩ := and2 h
      obtain ⟨h, h5⟩ := and2 h
      obtain ⟨h, h4⟩ := and2 h
      obtain ⟨h, h3⟩ := and2 h
      obtain ⟨h1, h2⟩ := and2 h
      have e := of_decide_eq_true h1
      subst e
      exact ⟨_, _, _, _, rfl, h2, h3, h4, h5, h6⟩
    · cases h
  refine good_of (fun sc e X Wx cx tk h => ?_) (fun sc e h env whole => ?_) (fun _ _ _ _ h => by cases h) (fun _ _ _ h => by cases h)
  · obtain ⟨l, ap, y, p, rfl, h1, h2, h3, h4, h5⟩ := inv h
    exact peI (pe_m1 F.slot_str_split F.type_str_split (spl_ok (N := N)) (go.pe sc l X Wx cx tk h1) (ga.pe sc y X Wx cx tk h3) (star_of h4) (sup_of h2) h5) fun σ H Q q => s_spl q
  · obtain ⟨l, ap, y, p, rfl, _⟩ := inv h
    rfl
theorem gd_fmt {a : Ex} (ga : Good Γ P C N L a) : Good Γ P C N L (.fmt a) := by
  have inv : ∀ {sc e}, chk Γ L P.isis (.fmt a) sc e = true → ∃ l p, e = .FormattedValue l (-1) none p ∧ chk Γ L P.isis a sc l = true := fun {sc e} h => by
    unfold chk at h
    split at h
    · exact ⟨_, _, rfl, h⟩
    · cases h
  refine good_of (fun sc e X Wx cx tk h => ?_) (fun sc e h env whole => ?_) (fun _ _ _ _ h => by cases h) (fun _ _ _ h => by cases h)
  · obtain ⟨l, p, rfl, h1⟩ := inv h
    exact peI (pe_fmt (ga.pe sc l X Wx cx tk h1)) fun σ H Q q => s_fmt q
  · obtain ⟨l, p, rfl, _⟩ := inv h
    rfl
theorem pj_of {sc : Scope} {X : Cx} {Wx : WX} (cx : CxOk Γ P C N L sc X) (tk : Takes X Wx) : ∀ {es : List Ex} {vs : List Expr}, (∀ x ∈ es, Good Γ P C N L x) → chks Γ L P.isis es sc vs = true → PJ X vs (es.map (tE P C N X.K Wx))
  | [], vs, _, h => by
    cases vs with
    | nil => exact .nil
    | cons _ _ => cases h
  | x :: xs, vs, g, h => by
    cases vs with
    | nil => cases h
    | cons e vs =>
      obtain ⟨h1, h3⟩ := and2 (show ((chk Γ L P.isis x sc e && noStar e) && chks Γ L P.isis xs sc vs) = true from h)
      obtain ⟨h1, h2⟩ := and2 h1
      exact .cons ((g x (by simp)).pe sc e X Wx cx tk h1) (pj_of cx tk (fun y hy => g y (List.mem_cons_of_mem _ hy)) h3)
theorem gd_fstr {es : List Ex} (ge : ∀ x ∈ es, Good Γ P C N L x) : Good Γ P C N L (.fstr es) := by
  have inv : ∀ {sc e}, chk Γ L P.isis (.fstr es) sc e = true → ∃ v1 v2 rest p, e = .JoinedStr (v1 :: v2 :: rest) p ∧ chks Γ L P.isis es sc (v1 :: v2 :: rest) = true := fun {sc e} h => by
    unfold chk at h
    split at h
    · exact ⟨_, _, _, _, rfl, h⟩
    · cases h
  refine good_of (fun sc e X Wx cx tk h => ?_) (fun sc e h env whole => ?_) (fun _ _ _ _ h => by cases h) (fun _ _ _ h => by cases h)
  · obtain ⟨v1, v2, rest, p, rfl, h1⟩ := inv h
    refine peI (pe_joined (pj_of cx tk ge h1)) fun σ H Q q => ?_
    obtain ⟨env, m, M, F, s, q⟩ := q
    exact s_fstr es Str.empty m M F H s q
  · obtain ⟨v1, v2, rest, p, rfl, _⟩ := inv h
    rfl
theorem gd_it {a : Ex} (ga : Good Γ P C N L a) : Good Γ P C N L (.it a) :=
  gd_no (fun _ _ h => by cases h) fun sc tg e X Wx cx tk h => by
    obtain ⟨h1, h2⟩ := and2 (show (chk Γ L P.isis a sc e && noSet e) = true from h)
    exact pi_it (ga.pe sc e X Wx cx tk h1)
theorem gd_rng1 {a : Ex} (ga : Good Γ P C N L a) : Good Γ P C N L (.rng1 a) :=
  gd_no (fun _ _ h => by cases h) fun sc tg e X Wx cx tk h => by
    unfold chkI at h
    split at h
    · obtain ⟨h, h4⟩ := and2 h
      obtain ⟨h, h3⟩ := and2 h
      obtain ⟨h, h2⟩ := and2 h
      have e := of_decide_eq_true h
      subst e
      exact piI (pi_range1 (cx.gl h2) (cx.tn.free "range" (by decide)) (pa_cons (ga.pe sc _ X Wx cx tk h3) pa_nil (star_of h4)) (star_of h4)) fun σ H Q q => s_rng1 q
    · cases h
theorem gd_rng2 {a b : Ex} (ga : Good Γ P C N L a) (gb : Good Γ P C N L b) : Good Γ P C N L (.rng2 a b) :=
  gd_no (fun _ _ h => by cases h) fun sc tg e X Wx cx tk h => by
    unfold chkI at h
    split at h
    · obtain ⟨h, h6⟩ := and2 h
      obtain ⟨h, h5⟩ := and2 h
      obtain ⟨h, h4⟩ := and2 h
      obtain ⟨h, h3⟩ := and2 h
      obtain ⟨h, h2⟩ := and2 h
      have e := of_decide_eq_true h
      subst e
      exact piI (pi_range2 (cx.gl h2) (cx.tn.free "range" (by decide)) (pa_cons (ga.pe sc _ X Wx cx tk h3) (pa_cons (gb.pe sc _ X Wx cx tk h5) pa_nil (star_of h6)) (star_of h4)) (by rw [star_of h4, star_of h6]; rfl) (by rw [star_of h6]; rfl)) fun σ H Q q => s_rng2 q
    · cases h
theorem gd_enum {a : Ex} (ga : Good Γ P C N L a) : Good Γ P C N L (.enum a) :=
  gd_no (fun _ _ h => by cases h) fun sc tg e X Wx cx tk h => by
    unfold chkI at h
    split at h
    · obtain ⟨h, h5⟩ := and2 h
      obtain ⟨h, h4⟩ := and2 h
      obtain ⟨h, h3⟩ := and2 h
      obtain ⟨h, h2⟩ := and2 h
      have e := of_decide_eq_true h
      subst e
      cases tg with
      | Tuple es k p => exact pi_enum' (cx.gl h2) (cx.tn.free "enumerate" (by decide)) (ga.pe sc _ X Wx cx tk h3) (star_of h4)
      | _ => cases h5
    · cases h
theorem gd_zip {a b : Ex} (ga : Good Γ P C N L a) (gb : Good Γ P C N L b) : Good Γ P C N L (.zip a b) :=
  gd_no (fun _ _ h => by cases h) fun sc tg e X Wx cx tk h => by
    unfold chkI at h
    split at h
    · obtain ⟨h, h7⟩ := and2 h
      obtain ⟨h, h6⟩ := and2 h
      obtain ⟨h, h5⟩ := and2 h
      obtain ⟨h, h4⟩ := and2 h
      obtain ⟨h, h3⟩ := and2 h
      obtain ⟨h, h2⟩ := and2 h
      have e := of_decide_eq_true h
      subst e
      cases tg with
      | Tuple es k p => exact pi_zip' (cx.gl h2) (cx.tn.free "zip" (by decide)) (ga.pe sc _ X Wx cx tk h3) (gb.pe sc _ X Wx cx tk h5) (star_of h4) (by rw [star_of h6]; rfl)
      | _ => cases h7
    · cases h
theorem pa_of : ∀ {xs : List Ex}, (∀ x ∈ xs, Good Γ P C N L x) → PAg Γ P C N L xs
  | [], _, sc, es, X, Wx, cx, tk, h => by
    cases es with
    | nil => exact paI pa_nil fun _ _ _ q => s_nil q
    | cons _ _ => cases h
  | x :: xs, g, sc, es, X, Wx, cx, tk, h => by
    cases es with
    | nil => cases h
    | cons e es =>
      obtain ⟨h1, h3⟩ := and2 (show ((chk Γ L P.isis x sc e && noStar e) && chks Γ L P.isis xs sc es) = true from h)
      obtain ⟨h1, h2⟩ := and2 h1
      exact paI (pa_cons ((g x (by simp)).pe sc e X Wx cx tk h1) (pa_of (fun y hy => g y (List.mem_cons_of_mem _ hy)) sc es X Wx cx tk h3) (star_of h2)) fun _ _ _ q => s_cons q
/-! ### instances -/
theorem gd_fz {a : Ex} (ga : Good Γ P C N L a) : Good Γ P C N L (.fz a) := by
  have inv : ∀ {sc e}, chk Γ L P.isis (.fz a) sc e = true → fzE e = true ∧ chk Γ L P.isis a sc e = true := fun {sc e} h => and2 h
  refine good_of (fun sc e X Wx cx tk h => ?_) (fun sc e h env whole => ?_) (fun sc op es pos h => ?_) (fun _ _ _ h => by cases h)
  · exact peI (ga.pe sc e X Wx cx tk (inv h).2) fun σ H Q q => s_fz q
  · have k := (inv h).1
    cases e <;> first | rfl | cases k
  · cases (inv h).1
theorem ev_eqO_bl {ng : Bool} {a b : Ex} {env : G.Env} {M M' : Mem} {w : W} (h : ev P C (.eqO ng a b) env M = .ok w M') : ∃ r, w = .p (.bl r) := by
  have h : ((ev P C a env M).bind fun x M => (ev P C b env M).bind fun y M => match eqAsk P M x y with
    | some q => (C q.1 q.2 M).noX.bind fun w M' => match w with
      | .p (.bl r) => .ok (.p (.bl (if ng then !r else r))) M'
      | _ => .bad
    | none => .bad) = .ok w M' := h
  cases e1 : ev P C a env M with
  | bad => rw [e1] at h; cases h
  | exc c ns vs M2 => rw [e1] at h; cases h
  | ok x M1 =>
    rw [e1, Res.bind_ok] at h
    cases e2 : ev P C b env M1 with
    | bad => rw [e2] at h; cases h
    | exc c ns vs M2 => rw [e2] at h; cases h
    | ok y M2 =>
      rw [e2, Res.bind_ok] at h
      cases e3 : eqAsk P M2 x y with
      | none => rw [e3] at h; cases h
      | some q =>
        rw [e3] at h
        have h : ((C q.1 q.2 M2).noX.bind fun w M' => match w with
          | .p (.bl r) => .ok (.p (.bl (if ng then !r else r))) M'
          | _ => .bad : Res W) = .ok w M' := h
        cases e4 : C q.1 q.2 M2 with
        | bad => rw [e4] at h; cases h
        | exc c ns vs M3 => rw [e4] at h; cases h
        | ok u M3 =>
          rw [e4] at h
          cases u with
          | p d => cases d <;> first | (cases h; done) | (cases h; exact ⟨_, rfl⟩)
          | _ => cases h
theorem s_eqOT {ng : Bool} {a b : Ex} {Q : Bool → Hp → Prop} {σ : L2.St} {H : Hp} {K : PySem.W.Frag} {Wx : WX} (h : tT P C N K Wx (.eqO ng a b) σ H Q) : tTest (tOp (rEqO P C N K ng) (tE P C N K Wx a) (tE P C N K Wx b)) σ H Q := by
  obtain ⟨env, m, M, F, s, h⟩ := h
  refine s_eqO ⟨env, m, M, F, s, ?_⟩
  unfold evT at h
  cases e : ev P C (.eqO ng a b) env M with
  | bad => rw [e] at h; exact h
  | exc c ns vs M' => rw [e] at h; exact h
  | ok w M' =>
    obtain ⟨r, rfl⟩ := ev_eqO_bl e
    rw [e] at h
    intro v H' m' F' s' rv g
    cases (show v = .bl r from rv)
    exact ⟨r, rfl, h r H' m' F' s' rfl g⟩
theorem gd_eqO {ng : Bool} {a b : Ex} (ga : Good Γ P C N L a) (gb : Good Γ P C N L b) : Good Γ P C N L (.eqO ng a b) := by
  have inv : ∀ {sc e}, chk Γ L P.isis (.eqO ng a b) sc e = true → ∃ l r p, e = .Compare l [if ng then .NotEq else .Eq] [r] p ∧ chk Γ L P.isis a sc l = true ∧ chk Γ L P.isis b sc r = true ∧ noSet r = true ∧ Γ.calm = true := fun {sc e} h => by
    unfold chk at h
    split at h
    · obtain ⟨h, h4⟩ := and2 h
      obtain ⟨h, h3⟩ := and2 h
      obtain ⟨h, h2⟩ := and2 h
      obtain ⟨h0, h⟩ := and2 h
      rw [of_decide_eq_true h]
      exact ⟨_, _, _, rfl, h2, h3, h4, h0⟩
    · cases h
  have mk : ∀ r : Expr, noSet r = true → behindInMarks (if ng then .NotEq else .Eq) r = false := fun r h => by
    cases ng with
    | true => exact cop_in .ne r h
    | false => exact cop_in .eq r h
  refine ⟨fun sc e X Wx cx tk h => ?_, fun sc e X Wx cx tk h hn => ?_, fun _ _ _ _ _ _ _ h => by cases h⟩
  · obtain ⟨l, r, p, rfl, h1, h2, h3, h0⟩ := inv h
    exact peI (pe_cmpR ((cx.call h0 X rfl rfl rfl rfl rfl rfl rfl rfl).eq ng) (ga.pe sc l X Wx cx tk h1) (gb.pe sc r X Wx cx tk h2) (mk r h3)) fun σ H Q q => s_eqO q
  · obtain ⟨l, r, p, rfl, h1, h2, h3, h0⟩ := inv h
    exact ⟨ptI (pt_cmpR ((cx.call h0 X rfl rfl rfl rfl rfl rfl rfl rfl).eq ng) (ga.pe sc l X Wx cx tk h1) (gb.pe sc r X Wx cx tk h2) (mk r h3)) fun σ H Q q => s_eqOT q, fun op es pos q => by cases q⟩
theorem gd_strO {c f : Nat} {a : Ex} (ga : Good Γ P C N L a) : Good Γ P C N L (.strO c f a) := by
  have inv : ∀ {sc e}, chk Γ L P.isis (.strO c f a) sc e = true → ∃ p l p', e = .Call (.Name "str" p) [l] [] p' ∧ glB sc "str" = true ∧ chk Γ L P.isis a sc l = true ∧ noStar l = true ∧ Γ.mt.lookup (c, ("__str__" : Str)) = some (f, 0) ∧ Γ.calm = true := fun {sc e} h => by
    unfold chk at h
    split at h
    · obtain ⟨h, h6⟩ := and2 h
      obtain ⟨h, h5⟩ := and2 h
      obtain ⟨h, h4⟩ := and2 h
      obtain ⟨h, h3⟩ := and2 h
      obtain ⟨h0, h⟩ := and2 h
      have e := of_decide_eq_true h
      subst e
      exact ⟨_, _, _, rfl, h4, h5, h6, of_decide_eq_true h3, h0⟩
    · cases h
  refine good_of (fun sc e X Wx cx tk h => ?_) (fun sc e h env whole => ?_) (fun _ _ _ _ h => by cases h) (fun _ _ _ h => by cases h)
  · obtain ⟨p, l, p', rfl, h1, h2, h3, h4, h0⟩ := inv h
    have hm := cx.tn.free "str" (by decide)
    exact peI (pe_callTy ((cx.call h0 X rfl rfl rfl rfl rfl rfl rfl rfl).st c f h4) (cx.gl h1) hm (by rfl) (pa_cons (ga.pe sc l X Wx cx tk h2) pa_nil (star_of h3)) (by decide) (by decide) (star_of h3) (plain_of rfl)) fun σ H Q q => s_strO q
  · obtain ⟨p, l, p', rfl, _⟩ := inv h
    rfl
theorem gd_new {c f : Nat} {as ks : List Ex} {perm : List Nat} (ih : PAg Γ P C N L as) (ik : ∀ x ∈ ks, Good Γ P C N L x) : Good Γ P C N L (.new c f as ks perm) := by
  have inv : ∀ {sc e}, chk Γ L P.isis (.new c f as ks perm) sc e = true → ∃ x p es kws p' ps, e = .Call (.Name x p) es kws p' ∧ Γ.nw.lookup x = some (c, f, ps) ∧ permOk ps as.length (kws.filterMap (·.arg)) perm = true ∧ glB sc x = true ∧ kws.all (·.arg.isSome) = true ∧
      chks Γ L P.isis as sc es = true ∧ chks Γ L P.isis ks sc (kws.map (·.value)) = true ∧ Γ.calm = true := fun {sc e} h => by
    unfold chk at h
    split at h
    · obtain ⟨h, h5⟩ := and2 h
      obtain ⟨h, h4⟩ := and2 h
      obtain ⟨h, h3⟩ := and2 h
      obtain ⟨h, h2⟩ := and2 h
      obtain ⟨h0, h⟩ := and2 h
      split at h
      · rename_i c' f' ps eq
        obtain ⟨h, h1⟩ := and2 h
        obtain ⟨e1, e2⟩ := and2 h
        have e1 := of_decide_eq_true e1
        have e2 := of_decide_eq_true e2
        subst e1 e2
        exact ⟨_, _, _, _, _, ps, rfl, eq, h1, h2, h3, h4, h5, h0⟩
      · cases h
    · cases h
  refine good_of (fun sc e X Wx cx tk h => ?_) (fun sc e h env whole => ?_) (fun _ _ _ _ h => by cases h) (fun _ _ _ h => by cases h)
  · obtain ⟨x, p, es, kws, p', ps, rfl, h1, h2, h3, h4, h5, h6, h0⟩ := inv h
    obtain ⟨st, hl⟩ := star_all h5
    obtain ⟨_, hl2⟩ := star_all h6
    exact (cx.call h0 X rfl rfl rfl rfl rfl rfl rfl rfl).nw Wx tk x c f ps as ks perm es kws p p' h1 (cx.gl h3) h2 h4 st hl (by rw [← hl2, List.length_map]) (ih sc es X Wx cx tk h5) (pk_of ik cx tk h6)
  · obtain ⟨x, p, es, kws, p', ps, rfl, _⟩ := inv h
    rfl
theorem gd_mc {c f : Nat} {o : Ex} {as : List Ex} (go : Good Γ P C N L o) (ih : PAg Γ P C N L as) : Good Γ P C N L (.mc c f o as) := by
  have inv : ∀ {sc e}, chk Γ L P.isis (.mc c f o as) sc e = true → ∃ l m ap es p, e = .Call (.Attribute l m ap) es [] p ∧ Γ.mt.lookup (c, m) = some (f, as.length) ∧ chk Γ L P.isis o sc l = true ∧ noSup l = true ∧ chks Γ L P.isis as sc es = true ∧ (ap.endLine == p.line) = true ∧ as.length ≤ 20 ∧ Γ.calm = true := fun {sc e} h => by
    unfold chk at h
    split at h
    · obtain ⟨h, h7⟩ := and2 h
      obtain ⟨h, h6⟩ := and2 h
      obtain ⟨h, h5⟩ := and2 h
      obtain ⟨h, h4⟩ := and2 h
      obtain ⟨h, h3⟩ := and2 h
      obtain ⟨h0, h2⟩ := and2 h
      exact ⟨_, _, _, _, _, rfl, of_decide_eq_true h2, h3, h4, h5, h6, of_decide_eq_true h7, h0⟩
    · cases h
  refine good_of (fun sc e X Wx cx tk h => ?_) (fun sc e h env whole => ?_) (fun _ _ _ _ h => by cases h) (fun _ _ _ h => by cases h)
  · obtain ⟨l, m, ap, es, p, rfl, h1, h2, h3, h4, h5, h6, h0⟩ := inv h
    obtain ⟨st, hl⟩ := star_all h4
    exact (cx.call h0 X rfl rfl rfl rfl rfl rfl rfl rfl).mc Wx tk c m f o as l es ap p h1 (go.pe sc l X Wx cx tk h2) h3 st hl h6 h5 (ih sc es X Wx cx tk h4)
  · obtain ⟨l, m, ap, es, p, rfl, _⟩ := inv h
    rfl
theorem gd_scl {c f : Nat} {as : List Ex} (ih : PAg Γ P C N L as) : Good Γ P C N L (.scl c f as) := by
  have inv : ∀ {sc e}, chk Γ L P.isis (.scl c f as) sc e = true → ∃ x np m ap es p, e = .Call (.Attribute (.Name x np) m ap) es [] p ∧ Γ.sm.lookup (x, m) = some (c, f, as.length) ∧ glB sc x = true ∧ chks Γ L P.isis as sc es = true ∧ (ap.endLine == p.line) = true ∧ as.length ≤ 20 ∧ 0 < as.length ∧ Γ.calm = true := fun {sc e} h => by
    unfold chk at h
    split at h
    · obtain ⟨h, h7⟩ := and2 h
      obtain ⟨h, h6⟩ := and2 h
      obtain ⟨h, h5⟩ := and2 h
      obtain ⟨h, h4⟩ := and2 h
      obtain ⟨h, h3⟩ := and2 h
      obtain ⟨h0, h2⟩ := and2 h
      exact ⟨_, _, _, _, _, _, rfl, of_decide_eq_true h2, h3, h4, h5, of_decide_eq_true h6, of_decide_eq_true h7, h0⟩
    · cases h
  refine good_of (fun sc e X Wx cx tk h => ?_) (fun sc e h env whole => ?_) (fun _ _ _ _ h => by cases h) (fun _ _ _ h => by cases h)
  · obtain ⟨x, np, m, ap, es, p, rfl, h1, h2, h3, h4, h5, h6, h0⟩ := inv h
    obtain ⟨st, hl⟩ := star_all h3
    exact (cx.call h0 X rfl rfl rfl rfl rfl rfl rfl rfl).sc Wx tk x m c f as es np ap p h1 (cx.gl h2) st hl h5 h6 h4 (ih sc es X Wx cx tk h3)
  · obtain ⟨x, np, m, ap, es, p, rfl, _⟩ := inv h
    rfl
theorem pa_st {X : Cx} {Wx : WX} {sc : Scope} (cx : CxOk Γ P C N L sc X) (tk : Takes X Wx) : ∀ {ss : List Bool} {xs : List Ex} {es : List Expr}, (∀ x ∈ xs, Good Γ P C N L x) → starsB ss es = true → chks Γ L P.isis xs sc (es.map unStar) = true → PA X es (tSt P C N X.K Wx ss xs)
  | [], xs, es, g, hs, h => by
    have hs : es.isEmpty = true := hs
    obtain rfl : es = [] := List.isEmpty_iff.mp hs
    cases xs with
    | nil => exact paI pa_nil fun _ _ _ q => st_nil q
    | cons x xs => cases h
  | b :: ss, xs, es, g, hs, h => by
    cases es with
    | nil => cases hs
    | cons e es =>
      obtain ⟨q1, q2⟩ := and2 (show ((noStar e == !b) && starsB ss es) = true from hs)
      cases xs with
      | nil => cases h
      | cons x xs =>
        obtain ⟨h1, h3⟩ := and2 (show ((chk Γ L P.isis x sc (unStar e) && noStar (unStar e)) && chks Γ L P.isis xs sc (es.map unStar)) = true from h)
        obtain ⟨h1, h2⟩ := and2 h1
        have ih := pa_st cx tk (fun y hy => g y (List.mem_cons_of_mem _ hy)) q2 h3
        cases b with
        | false =>
          have hn : noStar e = true := by simpa using q1
          have eu : unStar e = e := by cases e <;> first | rfl | cases hn
          rw [eu] at h1
          exact paI (pa_cons ((g x (by simp)).pe sc e X Wx cx tk h1) ih (star_of hn)) fun _ _ _ q => st_plain q
        | true =>
          have hn : noStar e = false := by simpa using q1
          cases e with
          | Starred e' p => exact paI (StX.pa_star ((g x (by simp)).pe sc e' X Wx cx tk h1) ih) fun _ _ _ q => st_star q
          | _ => cases hn
theorem gd_lstS {ss : List Bool} {xs : List Ex} (ge : ∀ x ∈ xs, Good Γ P C N L x) : Good Γ P C N L (.lstS ss xs) := by
  have inv : ∀ {sc e}, chk Γ L P.isis (.lstS ss xs) sc e = true → ∃ es p, e = .List es p ∧ starsB ss es = true ∧ chks Γ L P.isis xs sc (es.map unStar) = true := fun {sc e} h => by
    unfold chk at h
    split at h
    · obtain ⟨h, h3⟩ := and2 h
      exact ⟨_, _, rfl, (and2 h).1, h3⟩
    · cases h
  refine good_of (fun sc e X Wx cx tk h => ?_) (fun sc e h env whole => ?_) (fun _ _ _ _ h => by cases h) (fun _ _ _ h => by cases h)
  · obtain ⟨es, p, rfl, h1, h2⟩ := inv h
    exact peI (pe_lst (pa_st cx tk ge h1 h2)) fun σ H Q q => s_lstS q
  · obtain ⟨es, p, rfl, _⟩ := inv h
    rfl
variable (Γ P C N L)
mutual
theorem good : ∀ x : Ex, Good Γ P C N L x
  | .var i => gd_var i
  | .frz _ => gd_no (fun _ _ h => by cases h) fun _ _ _ _ _ _ _ h => by cases h
  | .int i => gd_int i
  | .str i => gd_str i
  | .bl i => gd_bl i
  | .non => gd_non
  | .glob g => gd_glob g
  | .tup xs => gd_tup (pa_of (goods xs))
  | .lst xs => gd_lst (pa_of (goods xs))
  | .lstL xs => gd_lstL (pa_of (goods xs))
  | .dct ks vs => gd_dct (goods vs)
  | .bin _ a b => gd_bin (good a) (good b)
  | .neg a => gd_neg (good a)
  | .not a => gd_not (good a)
  | .cmp _ a b => gd_cmp (good a) (good b)
  | .and a b => gd_and (good a) (good b)
  | .or a b => gd_or (good a) (good b)
  | .ite c a b => gd_ite (good c) (good a) (good b)
  | .idx a i => gd_idx (good a) (good i)
  | .slc a lo hi => gd_slc (good a) (goods lo) (goods hi)
  | .att a f => gd_att (good a)
  | .splL o a => gd_splL (good o) (good a)
  | .mth _ o a => gd_mth (good o) (good a)
  | .fstr es => gd_fstr (goods es)
  | .fmt a => gd_fmt (good a)
  | .call f as ks perm => gd_call (pa_of (goods as)) (goods ks)
  | .blt b as => gd_blt (pa_of (goods as))
  | .isi a cs => gd_isi (good a)
  | .comp elt own t it ifs => gd_comp (good elt) (good it) (goods ifs)
  | .compX _ _ _ _ _ => gd_no (fun _ _ h => by cases h) fun _ _ _ _ _ _ _ h => by cases h
  | .new c f as ks perm => gd_new (pa_of (goods as)) (goods ks)
  | .mc c f o as => gd_mc (good o) (pa_of (goods as))
  | .scl c f as => gd_scl (pa_of (goods as))
  | .fz a => gd_fz (good a)
  | .eqO ng a b => gd_eqO (good a) (good b)
  | .strO c f a => gd_strO (good a)
  | .lstS ss xs => gd_lstS (goods xs)
  | .it a => gd_it (good a)
  | .rng1 a => gd_rng1 (good a)
  | .rng2 a b => gd_rng2 (good a) (good b)
  | .enum a => gd_enum (good a)
  | .zip a b => gd_zip (good a) (good b)
theorem goods : ∀ xs : List Ex, ∀ x ∈ xs, Good Γ P C N L x
  | [], x, h => by cases h
  | y :: ys, x, h => by
    rcases List.mem_cons.mp h with e | h
    · rw [e]; exact good y
    · exact goods ys x h
end
end
end G

set_option maxHeartbeats 4000000
/-! Statements, read. -/
namespace G
open PySem PySem.Spec PyProof.Rows L2

def SRes (N : Nam) (K : PySem.W.Frag) (Wx : WX) (D : Ends) (m : List Addr) (F : Fx) : SR → Prop
  | .nx env M' => ∀ σ' H' m' F', Sim N K σ' env m' M' F' H' → Gr m F m' F' → D.nx σ' H'
  | .rt w M' => ∀ v H' m' F', SimM N K m' M' F' H' → RepW N K F' m' w v → Gr m F m' F' → D.rt v H'
  | .bk env M' => ∀ σ' H' m' F', Sim N K σ' env m' M' F' H' → Gr m F m' F' → D.bk σ' H'
  | .ct env M' => ∀ σ' H' m' F', Sim N K σ' env m' M' F' H' → Gr m F m' F' → D.ct σ' H'
  | .exc c ns vs env M' => ∀ cls d σ' H' m' F', Sim N K σ' env m' M' F' H' → Gr m F m' F' → ExcV N K F' cls d c ns vs → Wx cls d σ' H'
  | .bad => False
section
variable (P : Prog) (C : Calls) (N : Nam) (K : PySem.W.Frag) (Wx : WX)
def tS (x : G.St) : TS := fun D σ H => ∃ env m M F, Sim N K σ env m M F H ∧ SRes N K Wx D m F (ex P C x env M)
def tSs (x : List G.St) : TS := fun D σ H => ∃ env m M F, Sim N K σ env m M F H ∧ SRes N K Wx D m F (exs P C x env M)
end
section
variable {P : Prog} {C : Calls} {N : Nam} {K : PySem.W.Frag} {Wx : WX} {α β : Type} {D : Ends} {σ : L2.St} {env : G.Env} {m m' : List Addr} {M M' : Mem} {F F' : Fx} {H H' : Hp}
theorem SRes.rebase (g : Gr m F m' F') : ∀ {r : SR}, SRes N K Wx D m F r → SRes N K Wx D m' F' r
  | .nx _ _, h => fun σ' H' m2 F2 s g2 => h σ' H' m2 F2 s (g.trans g2)
  | .rt _ _, h => fun v H' m2 F2 s r g2 => h v H' m2 F2 s r (g.trans g2)
  | .bk _ _, h => fun σ' H' m2 F2 s g2 => h σ' H' m2 F2 s (g.trans g2)
  | .ct _ _, h => fun σ' H' m2 F2 s g2 => h σ' H' m2 F2 s (g.trans g2)
  | .exc _ _ _ _ _, h => fun cls d σ' H' m2 F2 s g2 e => h cls d σ' H' m2 F2 s (g.trans g2) e
  | .bad, h => h
/-- an expression, then a statement's rest -/
theorem tE.st {x : Ex} {f : W → Mem → SR} {Q' : VK} (s : Sim N K σ env m M F H) (h : SRes N K Wx D m F ((ev P C x env M).st env f))
    (k : ∀ b H' m' F' c M', Sim N K σ env m' M' F' H' → RepW N K F' m' c b → Gr m F m' F' → SRes N K Wx D m' F' (f c M') → Q' b H') : tE P C N K Wx x σ H Q' := by
  refine ⟨env, m, M, F, s, ?_⟩
  cases e : ev P C x env M with
  | ok w M' =>
    rw [e] at h
    exact fun b H' m' F' s' r g => k b H' m' F' w M' s' r g (h.rebase g)
  | exc c ns vs M' =>
    rw [e] at h
    exact fun cls d H' m' F' s' g ex => h cls d σ H' m' F' s' g ex
  | bad => rw [e] at h; exact h
theorem tT.st {x : Ex} {f : W → Mem → SR} {Q' : Bool → Hp → Prop} (s : Sim N K σ env m M F H) (h : SRes N K Wx D m F ((ev P C x env M).st env f)) (hf : ∀ w M', tru M' w = none → f w M' = .bad)
    (k : ∀ b H' m' F' c M', Sim N K σ env m' M' F' H' → tru M' c = some b → Gr m F m' F' → SRes N K Wx D m' F' (f c M') → Q' b H') : tT P C N K Wx x σ H Q' := by
  refine ⟨env, m, M, F, s, ?_⟩
  unfold evT
  cases e : ev P C x env M with
  | ok w M' =>
    rw [e] at h
    have h : SRes N K Wx D m F (f w M') := h
    rw [Res.bind_ok]
    cases q : tru M' w with
    | none => rw [hf w M' q] at h; exact h.elim
    | some b =>
      intro b' H' m' F' s' r g
      cases (show b = b' from r)
      exact k b H' m' F' w M' s' q g (h.rebase g)
  | exc c ns vs M' =>
    rw [e] at h
    exact fun cls d H' m' F' s' g ex => h cls d σ H' m' F' s' g ex
  | bad => rw [e] at h; exact h
theorem q_asg {i : Nat} {x : Ex} (h : tS P C N K Wx (.asg i x) D σ H) : tAsg (tE P C N K Wx x) (gName i) D σ H := by
  obtain ⟨env, m, M, F, s, h⟩ := h
  refine tE.st s h fun b H' m' F' c M' s' r g h' => ?_
  exact h' _ H' m' F' ⟨s'.mem, s'.env.set r⟩ (Gr.refl _ _)
theorem q_asgT {t : Tg} {x : Ex} (h : tS P C N K Wx (.asgT t x) D σ H) : tAsg (tE P C N K Wx x) (tTgt K t) D σ H := by
  obtain ⟨env, m, M, F, s, h⟩ := h
  refine tE.st s h fun b H' m' F' c M' s' r g h' => ?_
  cases e : give t c env with
  | none => rw [e] at h'; exact h'.elim
  | some env' =>
    rw [e] at h'
    exact give_ok s'.mem.sub e r s'.env fun σ2 re _ => h' σ2 H' m' F' ⟨s'.mem, re⟩ (Gr.refl _ _)
theorem q_par {i j : Nat} {a b : Ex} (h : tS P C N K Wx (.par i j a b) D σ H) : tPar i j (tEs P C N K Wx [a, b]) D σ H := by
  obtain ⟨env, m, M, F, s, h⟩ := h
  refine ⟨env, m, M, F, s, ?_⟩
  have ee : evs P C [a, b] env M = (ev P C a env M).bind fun x M => (ev P C b env M).bind fun y M => .ok [x, y] M := by
    show ((ev P C a env M).bind fun w M => ((ev P C b env M).bind fun w M => (Res.ok [] M).bind fun ws M => .ok (w :: ws) M).bind fun ws M => .ok (w :: ws) M) = _
    congr 1
    funext w M1
    rw [bind_asc]
    rfl
  rw [ee]
  have h : SRes N K Wx D m F ((ev P C a env M).st env fun x M => (ev P C b env M).st env fun y M => .nx ((env.set i (some x)).set j (some y)) M) := h
  cases e : ev P C a env M with
  | bad => rw [e] at h; exact h
  | exc c ns vs M' =>
    rw [e] at h
    exact fun cls d H' m' F' s' g ex => h cls d σ H' m' F' s' g ex
  | ok w M1 =>
    rw [e] at h
    have h : SRes N K Wx D m F ((ev P C b env M1).st env fun y M => .nx ((env.set i (some w)).set j (some y)) M) := h
    rw [Res.bind_ok]
    cases e2 : ev P C b env M1 with
    | bad => rw [e2] at h; exact h
    | exc c ns vs M' =>
      rw [e2] at h
      exact fun cls d H' m' F' s' g ex => h cls d σ H' m' F' s' g ex
    | ok u M2 =>
      rw [e2] at h
      intro vs H' m' F' s' r g
      obtain ⟨r, rl⟩ := r
      obtain ⟨x, y, rfl, r1, r2⟩ := RepWs.two r
      exact ⟨x, y, rfl, h _ H' m' F' ⟨s'.mem, (s'.env.set r1).set r2⟩ g⟩
theorem q_set {o i x : Ex} (h : tS P C N K Wx (.setIdx o i x) D σ H) : tAsg (tE P C N K Wx x) (gSub (tE P C N K Wx o) (tE P C N K Wx i) rSetL) D σ H := by
  obtain ⟨env, m, M, F, s, h⟩ := h
  refine tE.st s h fun v H1 m1 F1 w1 M1 s1 r1 g1 h1 => ?_
  refine tE.st s1 h1 fun a H2 m2 F2 w2 M2 s2 r2 g2 h2 => tE.st s2 h2 fun k H3 m3 F3 w3 M3 s3 r3 g3 h3 => ?_
  have h3 : SRes N K Wx D m3 F3 (match setCell M3 w2 w3 w1 with
    | some M' => .nx env M'
    | none => .bad) := h3
  cases e : setCell M3 w2 w3 w1 with
  | none => rw [e] at h3; exact h3.elim
  | some M' =>
    rw [e] at h3
    unfold setCell at e
    split at e
    · rename_i l i
      split at e
      · rename_i ws hM
        split at e
        · rename_i hi
          cases e
          obtain ⟨p, hp, rfl⟩ := RepW.mono g3.x _ _ r2
          obtain ⟨hF, ys, hH, ry⟩ := s3.mem.cell l p _ hp hM
          have rv := RepW.mono (g2.trans g3).x _ _ r1
          cases (show k = .int i from r3)
          refine ⟨p, ys, i, i.toNat, rfl, rfl, hH, ?_, ?_⟩
          · unfold ixN
            rw [← ry.length]
            rw [if_pos hi.1, if_pos (by have := hi.2; omega)]
          · have s4 := s3.mem.write (o := .lst (ys.set i.toNat v)) (c' := .lst (ws.set i.toNat w1)) hp hM hF ⟨hF, _, upd_same, RepWs.set _ ry rv⟩
            exact h3 σ _ m3 F3 ⟨s4, s3.env⟩ (Gr.refl _ _)
        · cases e
      · cases e
    · cases e
theorem q_if {c : Ex} {a b : List G.St} (h : tS P C N K Wx (.ifs c a b) D σ H) : tIfS (tT P C N K Wx c) (tSs P C N K Wx a) (tSs P C N K Wx b) D σ H := by
  obtain ⟨env, m, M, F, s, h⟩ := h
  refine tT.st s h (fun w M' e => by rw [e]) fun k H1 m1 F1 w1 M1 s1 e g1 h1 => ?_
  rw [e] at h1
  cases k with
  | true => exact ⟨env, m1, M1, F1, s1, h1⟩
  | false => exact ⟨env, m1, M1, F1, s1, h1⟩
theorem q_ret {x : Ex} (h : tS P C N K Wx (.ret x) D σ H) : tRet (tE P C N K Wx x) D σ H := by
  obtain ⟨env, m, M, F, s, h⟩ := h
  refine tE.st s h fun b H' m' F' c M' s' r g h' => ?_
  exact h' b H' m' F' s'.mem r (Gr.refl _ _)
theorem q_retN (h : tS P C N K Wx .retN D σ H) : tRetN D σ H := by
  obtain ⟨env, m, M, F, s, h⟩ := h
  exact h .non H m F s.mem rfl (Gr.refl _ _)
theorem q_expr {x : Ex} (h : tS P C N K Wx (.expr x) D σ H) : tDrop (tE P C N K Wx x) D σ H := by
  obtain ⟨env, m, M, F, s, h⟩ := h
  refine tE.st s h fun b H' m' F' c M' s' r g h' => ?_
  exact h' σ H' m' F' s' (Gr.refl _ _)
theorem q_pass (h : tS P C N K Wx .pass D σ H) : tNext D σ H := by
  obtain ⟨env, m, M, F, s, h⟩ := h
  exact h σ H m F s (Gr.refl _ _)
theorem q_brk (h : tS P C N K Wx .brk D σ H) : tBreak D σ H := by
  obtain ⟨env, m, M, F, s, h⟩ := h
  exact h σ H m F s (Gr.refl _ _)
theorem q_cnt (h : tS P C N K Wx .cnt D σ H) : tCont D σ H := by
  obtain ⟨env, m, M, F, s, h⟩ := h
  exact h σ H m F s (Gr.refl _ _)
theorem q_nil (h : tSs P C N K Wx [] D σ H) : tNext D σ H := by
  obtain ⟨env, m, M, F, s, h⟩ := h
  exact h σ H m F s (Gr.refl _ _)
theorem q_cons {x : G.St} {r : List G.St} (h : tSs P C N K Wx (x :: r) D σ H) : tSeq (tS P C N K Wx x) (tSs P C N K Wx r) D σ H := by
  obtain ⟨env, m, M, F, s, h⟩ := h
  refine ⟨env, m, M, F, s, ?_⟩
  have h : SRes N K Wx D m F (match ex P C x env M with
    | .nx env' M' => exs P C r env' M'
    | z => z) := h
  cases e : ex P C x env M with
  | nx env' M' =>
    rw [e] at h
    exact fun σ' H' m' F' s' g => ⟨env', m', M', F', s', SRes.rebase g h⟩
  | rt w M' => rw [e] at h; exact h
  | bk w M' => rw [e] at h; exact h
  | ct w M' => rw [e] at h; exact h
  | exc c ns vs w M' => rw [e] at h; exact h
  | bad => rw [e] at h; exact h
theorem q_while {c : Ex} {body : List G.St} (h : tS P C N K Wx (.while_ c body) D σ H) : tWhile (tT P C N K Wx c) (tSs P C N K Wx body) D σ H := by
  obtain ⟨env, m, M, F, s, h⟩ := h
  have h : SRes N K Wx D m F (whileL (ev P C c) (exs P C body) P.fuel env M) := h
  refine ⟨fun n σ H => ∃ env' m' M' F', Sim N K σ env' m' M' F' H ∧ Gr m F m' F' ∧ SRes N K Wx D m F (whileL (ev P C c) (exs P C body) n env' M'), ⟨P.fuel, env, m, M, F, s, Gr.refl _ _, h⟩, ?_⟩
  rintro n σ1 H1 ⟨env1, m1, M1, F1, s1, g1, h1⟩
  cases n with
  | zero => exact h1.elim
  | succ n =>
    have h1 : SRes N K Wx D m F (match ev P C c env1 M1 with
      | .ok x M' => match tru M' x with
        | some true => match exs P C body env1 M' with
          | .nx env' M'' => whileL (ev P C c) (exs P C body) n env' M''
          | .ct env' M'' => whileL (ev P C c) (exs P C body) n env' M''
          | .bk env' M'' => .nx env' M''
          | z => z
        | some false => .nx env1 M'
        | none => .bad
      | .exc c ns vs M' => .exc c ns vs env1 M'
      | .bad => .bad) := h1
    refine ⟨env1, m1, M1, F1, s1, ?_⟩
    unfold evT
    cases e : ev P C c env1 M1 with
    | bad => rw [e] at h1; exact h1
    | exc c ns vs M' =>
      rw [e] at h1
      exact fun cls d H' m' F' s' g ex => h1 cls d σ1 H' m' F' s' (g1.trans g) ex
    | ok w M2 =>
      rw [e] at h1
      rw [Res.bind_ok]
      dsimp only at h1
      cases e2 : tru M2 w with
      | none => rw [e2] at h1; exact h1
      | some k =>
        rw [e2] at h1
        intro b H2 m2 F2 s2 r g2
        cases (show k = b from r)
        cases k with
        | false =>
          show D.nx σ1 H2
          exact h1 σ1 H2 m2 F2 s2 (g1.trans g2)
        | true =>
          show ∃ N', _ ∧ _
          refine ⟨fun σ' H' => ∃ env' m' M' F', Sim N K σ' env' m' M' F' H' ∧ Gr m F m' F' ∧ SRes N K Wx D m F (whileL (ev P C c) (exs P C body) n env' M'), fun σ' H' q => ⟨n, Nat.lt_succ_self n, q⟩, env1, m2, M2, F2, s2, ?_⟩
          dsimp only at h1
          cases e3 : exs P C body env1 M2 with
          | bad => rw [e3] at h1; exact h1
          | nx env' M3 => rw [e3] at h1; exact fun σ' H' m' F' s' g => ⟨env', m', M3, F', s', (g1.trans g2).trans g, h1⟩
          | ct env' M3 => rw [e3] at h1; exact fun σ' H' m' F' s' g => ⟨env', m', M3, F', s', (g1.trans g2).trans g, h1⟩
          | bk env' M3 => rw [e3] at h1; exact fun σ' H' m' F' s' g => h1 σ' H' m' F' s' ((g1.trans g2).trans g)
          | rt w M3 => rw [e3] at h1; exact fun v H' m' F' s' r g => h1 v H' m' F' s' r ((g1.trans g2).trans g)
          | exc c ns vs env' M3 => rw [e3] at h1; exact fun cls d σ' H' m' F' s' g ex => h1 cls d σ' H' m' F' s' ((g1.trans g2).trans g) ex
theorem q_for {t : Tg} {it : Ex} {body : List G.St} (h : tS P C N K Wx (.for_ t it body) D σ H) : tFor (tI P C N K Wx it) (tTgt K t) (tSs P C N K Wx body) D σ H := by
  obtain ⟨env, m, M, F, s, h⟩ := h
  let step : W → G.Env → Mem → SR := fun w env M => match give t w env with
    | some env' => exs P C body env' M
    | none => .bad
  have h : SRes N K Wx D m F ((ev P C it env M).st env fun x M => match iterW x with
    | some ws => forL step ws env M
    | none => .bad) := h
  refine ⟨env, m, M, F, s, ?_⟩
  unfold evI
  cases e0 : ev P C it env M with
  | bad => rw [e0] at h; exact h
  | exc c ns vs M' =>
    rw [e0] at h
    exact fun cls d H' m' F' s' g ex => h cls d σ H' m' F' s' g ex
  | ok w0 M1 =>
    rw [e0] at h
    show ERes N K (RJ N K) Wx _ σ env m F (Res.of (iterW w0) M1)
    have h : SRes N K Wx D m F (match iterW w0 with
      | some ws => forL step ws env M1
      | none => .bad) := h
    cases e1 : iterW w0 with
    | none => rw [e1] at h; exact h
    | some ws =>
      rw [e1] at h
      intro J H1 m1 F1 s1 j g1
      have h : SRes N K Wx D m F (forL step ws env M1) := h
      have h1 := SRes.rebase g1 h
      clear h
      let WI : Nat → Nat → L2.St → Hp → Prop := fun i n σ H => ∃ (env' : G.Env) (m' : List Addr) (M' : Mem) (F' : Fx), n = ws.length - i ∧ i ≤ ws.length ∧ Sim N K σ env' m' M' F' H ∧ Gr m1 F1 m' F' ∧ SRes N K Wx D m1 F1 (forL step (ws.drop i) env' M')
      refine ⟨WI, ⟨ws.length, env, m1, M1, F1, rfl, Nat.zero_le _, s1, Gr.refl _ _, h1⟩, ?_⟩
      rintro i n σ2 H2 ⟨env2, m2, M2, F2, rfl, hil, s2, g2, hh⟩
      obtain ⟨jl, jj⟩ := j
      obtain ⟨jg, js⟩ := jj i H2 m2 M2 F2 s2.mem g2.x
      by_cases hlt : i < ws.length
      · have hw : ws[i]? = some ws[i] := List.getElem?_eq_getElem hlt
        obtain ⟨go, yl⟩ := jg _ hw
        refine .inr ⟨go, WI (i + 1) (ws.length - (i + 1)), fun σ' H' h' => ⟨ws.length - (i + 1), by omega, h'⟩, fun x H3 y => ?_⟩
        obtain ⟨F3, sm3, g3, rx⟩ := yl x H3 y
        rw [List.drop_eq_getElem_cons hlt] at hh
        have hh : SRes N K Wx D m1 F1 (match (match give t ws[i] env2 with
            | some env' => exs P C body env' M2
            | none => .bad) with
          | .nx env' M' => forL step (ws.drop (i + 1)) env' M'
          | .ct env' M' => forL step (ws.drop (i + 1)) env' M'
          | .bk env' M' => .nx env' M'
          | z => z) := hh
        cases eg : give t ws[i] env2 with
        | none => rw [eg] at hh; exact hh.elim
        | some env3 =>
          rw [eg] at hh
          dsimp only at hh
          refine give_ok sm3.sub eg rx (s2.env.mono g3.x) fun σ3 re _ => ⟨env3, m2, M2, F3, ⟨sm3, re⟩, ?_⟩
          have g23 := g2.trans g3
          cases e3 : exs P C body env3 M2 with
          | bad => rw [e3] at hh; exact hh
          | nx env' M3 => rw [e3] at hh; exact fun σ' H' m' F' s' g => ⟨env', m', M3, F', rfl, hlt, s', g23.trans g, hh⟩
          | ct env' M3 => rw [e3] at hh; exact fun σ' H' m' F' s' g => ⟨env', m', M3, F', rfl, hlt, s', g23.trans g, hh⟩
          | bk env' M3 => rw [e3] at hh; exact fun σ' H' m' F' s' g => hh σ' H' m' F' s' (g23.trans g)
          | rt w M3 => rw [e3] at hh; exact fun v H' m' F' s' r g => hh v H' m' F' s' r (g23.trans g)
          | exc c ns vs env' M3 => rw [e3] at hh; exact fun cls d σ' H' m' F' s' g ex => hh cls d σ' H' m' F' s' (g23.trans g) ex
      · have hie : i = ws.length := by omega
        refine .inl ⟨js hie, ?_⟩
        rw [hie, List.drop_length] at hh
        exact hh σ2 H2 m2 F2 s2 g2
end
end G

set_option maxHeartbeats 4000000
/-! Statements about instances and lists, read. -/
namespace G
open PySem PySem.Spec PyProof.Rows L2
section
variable {P : Prog} {C : Calls} {N : Nam} {K : PySem.W.Frag} {Wx : WX} {D : Ends} {σ : L2.St} {H : Hp}
theorem q_app {o x : Ex} (h : tS P C N K Wx (.app o x) D σ H) : tDrop (tBM K "list" rAppend (tE P C N K Wx o) (tCons (tE P C N K Wx x) tNil)) D σ H := by
  obtain ⟨env, m, M, F, s, h⟩ := h
  refine tE.st s h fun a H1 m1 F1 w1 M1 s1 r1 g1 h1 => ?_
  replace h1 : SRes N K Wx D m1 F1 (if isLst M1 w1 then (ev P C x env M1).st env fun v M => match appCell M w1 v with
    | some M' => .nx env M'
    | none => .bad
    else .bad) := h1
  split at h1
  · rename_i hl
    refine ⟨?_, ?_⟩
    · unfold isLst at hl
      clear h1
      split at hl
      · rename_i l
        split at hl
        · rename_i ws hM
          obtain ⟨p, hp, rfl⟩ := r1
          obtain ⟨_, ys, hH, _⟩ := s1.mem.cell l p _ hp hM
          exact .inl ⟨rfl, ys, SqL.of hH⟩
        · cases hl
      · cases hl
    · refine tE.st s1 h1 fun b H2 m2 F2 w2 M2 s2 r2 g2 h2 => ?_
      replace h2 : SRes N K Wx D m2 F2 (match appCell M2 w1 w2 with
        | some M' => .nx env M'
        | none => .bad) := h2
      cases e : appCell M2 w1 w2 with
      | none => rw [e] at h2; exact h2.elim
      | some M' =>
        rw [e] at h2
        unfold appCell at e
        clear h1 hl
        split at e
        · rename_i l
          split at e
          · rename_i ws hM
            split at e
            · rename_i hz
              cases e
              obtain ⟨p, hp, rfl⟩ := RepW.mono g2.x _ _ r1
              obtain ⟨hF, ys, hH, ry⟩ := s2.mem.cell l p _ hp hM
              refine ⟨p, ys, b, rfl, rfl, hH, ?_, ?_⟩
              · have := szOk_le hz
                rw [← ry.length]
                omega
              · have s3 := s2.mem.write (o := .lst (ys ++ [b])) (c' := .lst (ws ++ [w2])) hp hM hF ⟨hF, _, upd_same, RepWs.append ry ⟨r2, trivial⟩⟩
                exact h2 σ _ m2 F2 ⟨s3, s2.env⟩ (Gr.refl _ _)
            · cases e
          · cases e
        · cases e
  · exact h1.elim
/-! an attribute is stored -/
theorem putF_len {f : Str} {v u : V} : ∀ {fs : List (Str × V)}, fs.lookup f = some u → (putF f v fs).length = fs.length
  | [], h => by cases h
  | (k, x) :: r, h => by
    rw [show putF f v ((k, x) :: r) = (if k = f then (k, v) :: r else (k, x) :: putF f v r) from rfl]
    by_cases hk : k = f
    · rw [if_pos hk]; rfl
    · rw [if_neg hk, List.length_cons, List.length_cons]
      rw [List.lookup_cons] at h
      have hb : (f == k) = false := beq_eq_false_iff_ne.mpr fun e => hk e.symm
      rw [hb] at h
      rw [putF_len h]
theorem putF_key {f : Str} {v : V} : ∀ {fs : List (Str × V)} {p : Str × V}, p ∈ putF f v fs → p.1 = f ∨ ∃ q ∈ fs, q.1 = p.1
  | [], p, h => by
    have h : p ∈ [(f, v)] := h
    rw [List.mem_singleton.mp h]
    exact .inl rfl
  | (k, x) :: r, p, h => by
    rw [show putF f v ((k, x) :: r) = (if k = f then (k, v) :: r else (k, x) :: putF f v r) from rfl] at h
    by_cases hk : k = f
    · rw [if_pos hk] at h
      rcases List.mem_cons.mp h with rfl | h
      · exact .inl hk
      · exact .inr ⟨p, List.mem_cons_of_mem _ h, rfl⟩
    · rw [if_neg hk] at h
      rcases List.mem_cons.mp h with rfl | h
      · exact .inr ⟨(k, x), List.mem_cons_self, rfl⟩
      · rcases putF_key h with e | ⟨q, hq, e⟩
        · exact .inl e
        · exact .inr ⟨q, List.mem_cons_of_mem _ hq, e⟩
theorem putA_out {f : Nat} {v : W} : ∀ {ns : List Nat} {ws : List W}, f ∉ ns → ns.length = ws.length → putA f v ns ws = (ns ++ [f], ws ++ [v])
  | [], [], _, _ => rfl
  | n :: ns, w :: ws, h, hl => by
    have hn : ¬ n = f := fun e => h (e ▸ List.mem_cons_self)
    have ih := putA_out (f := f) (v := v) (ns := ns) (ws := ws) (fun q => h (List.mem_cons_of_mem _ q)) (by simpa using hl)
    show (if n = f then _ else ((n :: (putA f v ns ws).1), (w :: (putA f v ns ws).2))) = _
    rw [if_neg hn, ih]; rfl
  | [], _ :: _, _, hl => by cases hl
  | _ :: _, [], _, hl => by cases hl
theorem putA_in {f : Nat} {v : W} : ∀ {ns : List Nat} {ws : List W}, f ∈ ns → ns.length = ws.length → (putA f v ns ws).1 = ns
  | [], _, h, _ => by cases h
  | n :: ns, w :: ws, h, hl => by
    show (if n = f then (n :: ns, v :: ws) else ((n :: (putA f v ns ws).1), (w :: (putA f v ns ws).2))).1 = _
    by_cases e : n = f
    · rw [if_pos e]
    · rw [if_neg e]
      show n :: (putA f v ns ws).1 = _
      rw [putA_in ((List.mem_cons.mp h).resolve_left fun q => e q.symm) (by simpa using hl)]
  | _ :: _, [], _, hl => by cases hl
theorem RepWF.len {F : Hp} {m : List Addr} {L : Str → Option V} : ∀ {ns : List Nat} {ws : List W}, RepWF N K F m ns ws L → ns.length = ws.length
  | [], [], _ => rfl
  | _ :: _, _ :: _, h => by simp [RepWF.len h.2]
  | [], _ :: _, h => h.elim
  | _ :: _, [], h => h.elim
theorem RepWF.has {F : Hp} {m : List Addr} {L : Str → Option V} : ∀ {ns : List Nat} {ws : List W} {f : Nat}, RepWF N K F m ns ws L → f ∈ ns → ∃ v, L (N.at_ f) = some v
  | n :: ns, w :: ws, f, h, hf => by
    rcases List.mem_cons.mp hf with rfl | hf
    · obtain ⟨⟨v, e, _⟩, _⟩ := h
      exact ⟨v, e⟩
    · exact RepWF.has h.2 hf
  | [], _, _, _, hf => by cases hf
  | _ :: _, [], _, h, _ => h.elim
theorem RepWF.swapL {F : Hp} {m : List Addr} {L L' : Str → Option V} : ∀ {ns : List Nat} {ws : List W}, RepWF N K F m ns ws L → (∀ n ∈ ns, L' (N.at_ n) = L (N.at_ n)) → RepWF N K F m ns ws L'
  | [], [], _, _ => trivial
  | n :: ns, w :: ws, h, e => by
    obtain ⟨⟨v, h1, h2⟩, h3⟩ := h
    exact ⟨⟨v, by rw [e n List.mem_cons_self]; exact h1, h2⟩, RepWF.swapL h3 fun k hk => e k (List.mem_cons_of_mem _ hk)⟩
  | [], _ :: _, h, _ => h.elim
  | _ :: _, [], h, _ => h.elim
theorem RepWF.put {F : Hp} {m : List Addr} {L : Str → Option V} {f : Nat} {v : W} {y : V} (r : RepW N K F m v y) : ∀ {ns : List Nat} {ws : List W}, RepWF N K F m ns ws L → ns.Nodup → (∀ n ∈ ns, N.at_ n = N.at_ f → n = f) →
    RepWF N K F m (putA f v ns ws).1 (putA f v ns ws).2 (fun g => if g = N.at_ f then some y else L g)
  | [], [], _, _, _ => ⟨⟨y, if_pos rfl, r⟩, trivial⟩
  | n :: ns, w :: ws, h, nd, inj => by
    obtain ⟨⟨u, h1, h2⟩, h3⟩ := h
    have nd' := List.nodup_cons.mp nd
    by_cases e : n = f
    · have ep : putA f v (n :: ns) (w :: ws) = (n :: ns, v :: ws) := by
        show (if n = f then _ else _) = _
        rw [if_pos e]
      rw [ep]
      subst e
      refine ⟨⟨y, if_pos rfl, r⟩, RepWF.swapL h3 fun k hk => ?_⟩
      have hk' : N.at_ k ≠ N.at_ n := fun q => nd'.1 (inj k (List.mem_cons_of_mem _ hk) q ▸ hk)
      exact if_neg hk'
    · have ep : putA f v (n :: ns) (w :: ws) = ((n :: (putA f v ns ws).1), (w :: (putA f v ns ws).2)) := by
        show (if n = f then _ else _) = _
        rw [if_neg e]
      rw [ep]
      refine ⟨⟨u, ?_, h2⟩, RepWF.put r h3 nd'.2 fun k hk => inj k (List.mem_cons_of_mem _ hk)⟩
      have hk' : N.at_ n ≠ N.at_ f := fun q => e (inj n List.mem_cons_self q)
      show (if N.at_ n = N.at_ f then some y else L (N.at_ n)) = some u
      rw [if_neg hk']
      exact h1
  | [], _ :: _, h, _, _ => h.elim
  | _ :: _, [], h, _, _ => h.elim
theorem FsOk.put {F : Hp} {m : List Addr} {fs : List (Str × V)} {ns : List Nat} {ws : List W} {f : Nat} {v : W} {y : V} (h : FsOk N ns fs) (r : RepWF N K F m ns ws (fun g => fs.lookup g)) : FsOk N (putA f v ns ws).1 (putF (N.at_ f) y fs) := by
  obtain ⟨h1, h2⟩ := h
  by_cases hf : f ∈ ns
  · rw [putA_in hf r.len]
    obtain ⟨u, hu⟩ := r.has hf
    refine ⟨by rw [putF_len hu]; exact h1, fun p hp => ?_⟩
    rcases putF_key hp with e | ⟨q, hq, e⟩
    · exact ⟨f, hf, e.symm⟩
    · rw [← e]; exact h2 q hq
  · rw [putA_out hf r.len]
    refine ⟨?_, fun p hp => ?_⟩
    · have := length_putF (N.at_ f) y fs
      rw [List.length_append, List.length_singleton]
      omega
    · rcases putF_key hp with e | ⟨q, hq, e⟩
      · exact ⟨f, by simp, e.symm⟩
      · obtain ⟨n, hn, e2⟩ := h2 q hq
        exact ⟨n, List.mem_append_left _ hn, by rw [e2, e]⟩
theorem q_setA {X : Cx} {o x : Ex} {f : Nat} (T : TieC P N X.K) (h : tS P C N X.K Wx (.setA o f x) D σ H) : sFld X.K (tE P C N X.K Wx o) (tE P C N X.K Wx x) (N.at_ f) D σ H := by
  obtain ⟨env, m, M, F, s, h⟩ := h
  refine tE.st s h fun y H1 m1 F1 w1 M1 s1 r1 g1 h1 => tE.st s1 h1 fun a H2 m2 F2 w2 M2 s2 r2 g2 h2 => ?_
  replace h2 : SRes N X.K Wx D m2 F2 (match attCell P M2 w2 f w1 with
    | some M' => .nx env M'
    | none => .bad) := h2
  cases e : attCell P M2 w2 f w1 with
  | none => rw [e] at h2; exact h2.elim
  | some M' =>
    rw [e] at h2
    unfold attCell at e
    clear h1 h
    split at e
    · rename_i l
      split at e
      · rename_i c ns ws hM
        split at e
        · rename_i hc
          cases e
          obtain ⟨hc, c4⟩ := Bool.and_eq_true_iff.mp hc
          obtain ⟨hc, c3⟩ := Bool.and_eq_true_iff.mp hc
          obtain ⟨c1, c2⟩ := Bool.and_eq_true_iff.mp hc
          obtain ⟨p, hp, rfl⟩ := r2
          obtain ⟨hF, dx, fs, hH, rf, fo⟩ := s2.mem.cell l p _ hp hM
          obtain ⟨k, hk, hx, hn⟩ := fld_tie T c1
          have kf : k.flds.contains f = true := by
            unfold fldOk at c1
            rw [hk] at c1
            exact (Bool.and_eq_true_iff.mp c1).1
          have kn : ∀ n ∈ ns, k.flds.contains n = true := fun n hn' => by
            have z := List.all_eq_true.mp c2 n hn'
            unfold fldOk at z
            rw [hk] at z
            exact (Bool.and_eq_true_iff.mp z).1
          have c3 := of_decide_eq_true c3
          refine ⟨p, N.cA c, dx, fs, rfl, hH, (T.own c k hk hx).1, hn, by have := fo.1; omega, ?_⟩
          have rv := RepW.mono g2.x _ _ r1
          have hw : RepWF N X.K F2 m2 (putA f w1 ns ws).1 (putA f w1 ns ws).2 (fun g => (putF (N.at_ f) y fs).lookup g) := by
            have z := RepWF.put (L := fun g => fs.lookup g) rv rf (of_decide_eq_true c4) fun n hn' q => T.inj c k n f hk (kn n hn') kf q
            refine RepWF.swapL z fun n _ => ?_
            exact lookup_putF (N.at_ f) (N.at_ n) y fs
          have s3 := s2.mem.write (o := .ins (N.cA c) dx (putF (N.at_ f) y fs)) (c' := .ins c (putA f w1 ns ws).1 (putA f w1 ns ws).2) hp hM hF ⟨hF, dx, _, upd_same, hw, fo.put rf⟩
          exact h2 σ _ m2 F2 ⟨s3, s2.env⟩ (Gr.refl _ _)
        · cases e
      · cases e
    · cases e
/-! two items exchanged -/
theorem tE_var {k : Nat} {w : W} {env : G.Env} {m : List Addr} {M : Mem} {F : Fx} {Q : VK} (s : Sim N K σ env m M F H) (e : (getV env k).map (rd M) = some w) (q : ∀ v H' m' F', Sim N K σ env m' M F' H' → RepW N K F' m' w v → Gr m F m' F' → Q v H') : tE P C N K Wx (.var k) σ H Q := by
  refine ⟨env, m, M, F, s, ?_⟩
  show ERes N K (RW N K) Wx Q σ env m F (Res.of ((getV env k).map (rd M)) M)
  rw [e]
  exact fun v H' m' F' s' r g => q v H' m' F' s' r g
/-- o[i] = v, o, i names -/
theorem g_put {a b : Nat} {l : Nat} {i : Int} {ws : List W} {w : W} {v : V} {env : G.Env} {m : List Addr} {M : Mem} {F : Fx} {Q : L2.St → Hp → Prop} (s : Sim N K σ env m M F H) (ea : (getV env a).map (rd M) = some (.loc l)) (eb : (getV env b).map (rd M) = some (.p (.int i))) (hM : M[l]? = some (.lst ws)) (hi : 0 ≤ i ∧ i.toNat < ws.length)
    (r : RepW N K F m w v) (q : ∀ H' m' F', Sim N K σ env m' (M.set l (.lst (ws.set i.toNat w))) F' H' → Gr m F m' F' → Q σ H') : gSub (tE P C N K Wx (.var a)) (tE P C N K Wx (.var b)) rSetL v σ H Q := by
  refine tE_var s ea fun o H1 m1 F1 s1 r1 g1 => tE_var s1 eb fun k H2 m2 F2 s2 r2 g2 => ?_
  obtain ⟨p, hp, rfl⟩ := RepW.mono g2.x _ _ r1
  cases (show k = .int i from r2)
  obtain ⟨hF, ys, hH, ry⟩ := s2.mem.cell l p _ hp hM
  have rv := RepW.mono (g1.trans g2).x _ _ r
  refine ⟨p, ys, i, i.toNat, rfl, rfl, hH, ?_, ?_⟩
  · unfold ixN
    rw [← ry.length]
    rw [if_pos hi.1, if_pos (by have := hi.2; have := hi.1; omega)]
  · have s4 := s2.mem.write (o := .lst (ys.set i.toNat v)) (c' := .lst (ws.set i.toNat w)) hp hM hF ⟨hF, _, upd_same, RepWs.set _ ry rv⟩
    exact q _ m2 F2 ⟨s4, s2.env⟩ (g1.trans g2)
theorem rd_set {M : Mem} {l : Nat} {ws us : List W} {w : W} (hM : M[l]? = some (.lst ws)) : rd (M.set l (.lst us)) w = rd M w := by
  cases w with
  | loc k =>
    show (match (M.set l (.lst us))[k]? with
      | some (.fz d) => W.p d
      | _ => .loc k) = (match M[k]? with
      | some (.fz d) => W.p d
      | _ => .loc k)
    by_cases q : l = k
    · subst q
      rw [List.getElem?_set_self (List.getElem?_eq_some_iff.mp hM).1, hM]
    · rw [List.getElem?_set_ne q]
  | _ => rfl
theorem at_nat {α : Type} {xs : List α} {i : Int} (h : 0 ≤ i ∧ i.toNat < xs.length) : at? xs i = xs[i.toNat]? := by
  unfold at? ixI
  rw [if_pos h.1, if_pos (by have := h.1; have := h.2; omega)]
  rfl
theorem q_swp {a b c : Nat} (h : tS P C N K Wx (.swp (.var a) (.var b) (.var c)) D σ H) :
    tAsg (tTup (tEs P C N K Wx [.idx (.var a) (.var c), .idx (.var a) (.var b)])) (gTup K 2 (gCons (gSub (tE P C N K Wx (.var a)) (tE P C N K Wx (.var b)) rSetL) (gCons (gSub (tE P C N K Wx (.var a)) (tE P C N K Wx (.var c)) rSetL) gNil))) D σ H := by
  obtain ⟨env, m, M, F, s, h⟩ := h
  replace h : SRes N K Wx D m F ((Res.of ((getV env a).map (rd M)) M).st env fun a M => (Res.of ((getV env b).map (rd M)) M).st env fun x M => (Res.of ((getV env c).map (rd M)) M).st env fun y M => match swpCell M a x y with
    | some M' => .nx env M'
    | none => .bad) := h
  cases ea : (getV env a).map (rd M) with
  | none => rw [ea] at h; exact h.elim
  | some wa =>
    rw [ea] at h
    replace h : SRes N K Wx D m F ((Res.of ((getV env b).map (rd M)) M).st env fun x M => (Res.of ((getV env c).map (rd M)) M).st env fun y M => match swpCell M wa x y with
      | some M' => .nx env M'
      | none => .bad) := h
    cases eb : (getV env b).map (rd M) with
    | none => rw [eb] at h; exact h.elim
    | some wb =>
      rw [eb] at h
      replace h : SRes N K Wx D m F ((Res.of ((getV env c).map (rd M)) M).st env fun y M => match swpCell M wa wb y with
        | some M' => .nx env M'
        | none => .bad) := h
      cases ec : (getV env c).map (rd M) with
      | none => rw [ec] at h; exact h.elim
      | some wc =>
        rw [ec] at h
        replace h : SRes N K Wx D m F (match swpCell M wa wb wc with
          | some M' => .nx env M'
          | none => .bad) := h
        cases e : swpCell M wa wb wc with
        | none => rw [e] at h; exact h.elim
        | some M' =>
          rw [e] at h
          unfold swpCell at e
          split at e
          · rename_i l i j
            split at e
            · rename_i ws hM
              split at e
              · rename_i hc
                obtain ⟨i1, i2, j1, j2⟩ := hc
                have gi : ws[i.toNat]? = some ws[i.toNat] := List.getElem?_eq_getElem i2
                have gj : ws[j.toNat]? = some ws[j.toNat] := List.getElem?_eq_getElem j2
                rw [gi, gj] at e
                cases e
                have ix : ∀ {k : Nat} {n : Int} (hk : (getV env k).map (rd M) = some (.p (.int n))) (hn : 0 ≤ n ∧ n.toNat < ws.length), ev P C (.idx (.var a) (.var k)) env M = .ok (rd M ws[n.toNat]) M := fun {k n} hk hn => by
                  show ((Res.of ((getV env a).map (rd M)) M).bind fun x M => (Res.of ((getV env k).map (rd M)) M).bind fun y M => Res.of ((idxW M x y).map (rd M)) M) = _
                  rw [ea, Res.of_some, Res.bind_ok, hk, Res.of_some, Res.bind_ok]
                  have z : idxW M (.loc l) (.p (.int n)) = some ws[n.toNat] := by
                    show (match W.items M (.loc l) with
                      | some ws => at? ws n
                      | none => none) = _
                    have y : W.items M (.loc l) = some ws := by
                      show (match M[l]? with
                        | some (.lst ws) => some ws
                        | some (.fz (.lst ds)) => some (ds.map .p)
                        | _ => none) = _
                      rw [hM]
                    rw [y]
                    show at? ws n = _
                    rw [at_nat hn]
                    exact List.getElem?_eq_getElem hn.2
                  rw [z]
                  rfl
                refine ⟨env, m, M, F, s, ?_⟩
                show ERes N K _ Wx _ σ env m F ((ev P C (.idx (.var a) (.var c)) env M).bind fun w M => ((ev P C (.idx (.var a) (.var b)) env M).bind fun w M => (Res.ok [] M).bind fun ws M => .ok (w :: ws) M).bind fun ws M => .ok (w :: ws) M)
                rw [ix ec ⟨j1, j2⟩, Res.bind_ok, ix eb ⟨i1, i2⟩]
                intro vs H1 m1 F1 s1 r1 g1
                obtain ⟨r1, _⟩ := r1
                obtain ⟨v1, v2, rfl, ra, rb⟩ := RepWs.two r1
                refine ⟨by simp [sizeLine_eq], fun p hp => ?_⟩
                obtain ⟨s2, g2⟩ := s1.mem.new (o := .tup [v1, v2]) hp
                refine ⟨p, [v1, v2], rfl, SqT.of upd_same, rfl, v1, [v2], rfl, ?_⟩
                refine g_put (s1.to s2 g2.x) ea eb hM ⟨i1, i2⟩ (RepW.mono g2.x _ _ ra) fun H3 m3 F3 s3 g3 => ?_
                refine ⟨v2, [], rfl, ?_⟩
                have hl : l < M.length := (List.getElem?_eq_some_iff.mp hM).1
                have ea' : (getV env a).map (rd (M.set l (.lst (ws.set i.toNat (rd M ws[j.toNat]))))) = some (.loc l) := by
                  rw [show rd (M.set l (.lst (ws.set i.toNat (rd M ws[j.toNat])))) = rd M from funext fun w => rd_set hM]; exact ea
                have ec' : (getV env c).map (rd (M.set l (.lst (ws.set i.toNat (rd M ws[j.toNat]))))) = some (.p (.int j)) := by
                  rw [show rd (M.set l (.lst (ws.set i.toNat (rd M ws[j.toNat])))) = rd M from funext fun w => rd_set hM]; exact ec
                refine g_put s3 ea' ec' (List.getElem?_set_self hl) ⟨j1, by rw [List.length_set]; exact j2⟩ (RepW.mono (g2.trans g3).x _ _ rb) fun H4 m4 F4 s4 g4 => ?_
                refine ⟨rfl, ?_⟩
                rw [List.set_set] at s4
                exact h σ H4 m4 F4 s4 (((g1.trans g2).trans g3).trans g4)
              · cases e
            · cases e
          · cases e
end
end G

set_option maxHeartbeats 4000000
/-! How the arguments are bound. -/
namespace G
open PySem PySem.Spec PyProof.Rows L2

def simpleP (ps : List Str) (p : Arguments) : Bool := p.posonlyargs.isEmpty && p.vararg.isNone && p.kwonlyargs.isEmpty && p.kw_defaults.isEmpty && p.kwarg.isNone && p.defaults.isEmpty && decide (p.args.map (·.arg) = ps)
theorem noneItems : seqItems? Value.none = pure none := by rfl
theorem kw_loop {F : Str × Value → List (Str × Value) × List (Str × Value) → Sem (ForInStep (List (Str × Value) × List (Str × Value)))} (S : List (Str × Value)) : ∀ (kw : List (Str × Value)) (done : List (Str × Value)),
    (∀ (pre : List (Str × Value)) (x : Str × Value) (post : List (Str × Value)), kw = pre ++ x :: post → F x (S ++ (done ++ pre), []) = pure (.yield (S ++ (done ++ pre) ++ [(x.1, x.2)], []))) → forIn kw (S ++ done, []) F = pure (S ++ (done ++ kw), [])
  | [], done, _ => by rw [List.forIn_nil, List.append_nil]
  | x :: kw, done, h => by
    rw [List.forIn_cons]
    have h0 := h [] x kw rfl
    rw [List.append_nil] at h0
    rw [h0, pure_bind]
    have e : S ++ done ++ [(x.1, x.2)] = S ++ (done ++ [x]) := by rw [List.append_assoc]
    show forIn kw (S ++ done ++ [(x.1, x.2)], []) F = _
    rw [e, kw_loop S kw (done ++ [x]) fun pre y post q => by
      have := h (x :: pre) y post (by rw [q]; rfl)
      rw [show done ++ [x] ++ pre = done ++ x :: pre by simp]
      exact this]
    rw [List.append_assoc]
    rfl
theorem lookup_app {α : Type} {a b : List (Str × α)} {x : Str} (h : a.lookup x = none) : (a ++ b).lookup x = b.lookup x := by
  induction a with
  | nil => rfl
  | cons p a ih =>
    obtain ⟨k, v⟩ := p
    rw [List.cons_append, List.lookup_cons]
    rw [List.lookup_cons] at h
    cases e : x == k with
    | true => rw [e] at h; cases h
    | false => rw [e] at h; exact ih h
theorem lookup_out {α : Type} {x : Str} : ∀ {ks : List Str} {vs : List α}, x ∉ ks.take vs.length → (ks.zip vs).lookup x = none
  | [], vs, _ => by simp
  | _ :: _, [], _ => by simp
  | k :: ks, v :: vs, h => by
    rw [List.zip_cons_cons, List.lookup_cons]
    have h : x ∉ k :: ks.take vs.length := h
    have hk : (x == k) = false := by
      cases e : x == k with
      | true => exact absurd (List.mem_cons.mpr (.inl (by simpa using e))) h
      | false => rfl
    rw [hk]
    exact lookup_out fun q => h (List.mem_cons_of_mem _ q)
theorem lookup_in {α : Type} {x : Str} : ∀ {ks : List Str} {vs : List α} {i : Nat}, ks.Nodup → ks[i]? = some x → (ks.zip vs).lookup x = vs[i]?
  | [], _, _, _, h => by simp at h
  | k :: ks, [], i, _, _ => by simp
  | k :: ks, v :: vs, 0, _, h => by
    simp at h
    subst h
    simp [List.zip_cons_cons, List.lookup_cons]
  | k :: ks, v :: vs, i + 1, nd, h => by
    have nd' := List.nodup_cons.mp nd
    have h : ks[i]? = some x := by simpa using h
    have hk : (x == k) = false := by
      cases e : x == k with
      | true => exact absurd (show k ∈ ks by
        have e : x = k := by simpa using e
        subst e
        exact List.mem_of_getElem? h) nd'.1
      | false => rfl
    rw [List.zip_cons_cons, List.lookup_cons, hk]
    simpa using lookup_in nd'.2 h
theorem look_idx {α : Type} {ks : List Str} {vs : List α} {x : Str} (nd : ks.Nodup) (hx : x ∈ ks) : (ks.zip vs).lookup x = vs[ks.idxOf x]? := by
  refine lookup_in nd ?_
  have h := List.idxOf_lt_length_of_mem hx
  rw [List.getElem?_eq_getElem h, List.getElem_idxOf h]
theorem fmap_all {α β : Type} {f : α → Option β} {g : α → β} : ∀ {l : List α}, (∀ x ∈ l, f x = some (g x)) → l.filterMap f = l.map g
  | [], _ => rfl
  | x :: l, h => by
    rw [List.filterMap_cons, h x List.mem_cons_self, List.map_cons, fmap_all fun y hy => h y (List.mem_cons_of_mem _ hy)]
theorem zip_get {α β : Type} {a : List α} {b : List β} {i : Nat} : (a.zip b)[i]? = match a[i]?, b[i]? with
    | some x, some y => some (x, y)
    | _, _ => none := by
  rw [List.zip, List.getElem?_zipWith]
  cases a[i]? <;> cases b[i]? <;> rfl
def permG {α : Type} (d : α) (xs : List α) : List Nat → List α
  | [] => xs
  | is => is.map fun i => xs.getD i d
theorem permG_cons {α : Type} {d : α} {xs : List α} {is : List Nat} (h : is ≠ []) : permG d xs is = is.map fun i => xs.getD i d := by
  cases is with
  | nil => exact absurd rfl h
  | cons _ _ => rfl
/-- what the binder's table gives for each parameter -/
theorem bound {ps ks : List Str} {us ws : List Value} {perm : List Nat} (nd : ps.Nodup) (h : permOk ps us.length ks perm = true) (hw : ws.length = ks.length) :
    (∀ p ∈ ps, ((ps.zip us ++ ks.zip ws).lookup p).isSome = true) ∧ (ps.filterMap fun n => ((ps.zip us ++ ks.zip ws).lookup n).map (n, ·)) = ps.zip (permG .none (us ++ ws) perm) ∧ us.length ≤ ps.length ∧ (permG .none (us ++ ws) perm).length = ps.length := by
  have first : ∀ (i : Nat) (p : Str), ps[i]? = some p → i < us.length → (ps.zip us ++ ks.zip ws).lookup p = us[i]? := fun i p hp hi => by
    have e := lookup_in (vs := us) nd hp
    have hs : us[i]? = some us[i] := List.getElem?_eq_getElem hi
    rw [hs] at e ⊢
    exact List.lookup_append.trans (by rw [e]; rfl)
  unfold permOk at h
  cases hk : ks.isEmpty with
  | true =>
    rw [hk, if_pos rfl] at h
    obtain ⟨h1, h2⟩ := and2 h
    have hl := of_decide_eq_true h2
    obtain rfl : ks = [] := List.isEmpty_iff.mp hk
    obtain rfl : perm = [] := List.isEmpty_iff.mp h1
    obtain rfl : ws = [] := List.length_eq_zero_iff.mp (by simpa using hw)
    have key : ∀ p ∈ ps, ∃ i, ps[i]? = some p ∧ i < us.length := fun p hp => by
      obtain ⟨i, hi, e⟩ := List.getElem_of_mem hp
      exact ⟨i, by rw [List.getElem?_eq_getElem hi, e], by omega⟩
    refine ⟨fun p hp => ?_, ?_, by omega, by simp [permG, hl]⟩
    · obtain ⟨i, h1, h2⟩ := key p hp
      rw [first i p h1 h2, List.getElem?_eq_getElem h2]
      rfl
    · refine List.ext_getElem? fun i => ?_
      have fm : (ps.filterMap fun n => ((ps.zip us ++ ([] : List Str).zip ([] : List Value)).lookup n).map (n, ·)) = ps.map fun n => (n, ((ps.zip us ++ ([] : List Str).zip ([] : List Value)).lookup n).getD .none) := by
        refine fmap_all fun p hp => ?_
        obtain ⟨i, h1, h2⟩ := key p hp
        rw [first i p h1 h2, List.getElem?_eq_getElem h2]
        rfl
      rw [fm]
      show _ = (ps.zip (us ++ []))[i]?
      rw [List.append_nil, List.getElem?_map, zip_get]
      cases hp : ps[i]? with
      | none => simp
      | some p =>
        have hi : i < us.length := by
          have := (List.getElem?_eq_some_iff.mp hp).1
          omega
        have f := first i p hp hi
        simp only [List.zip_nil_left] at f
        simp only [Option.map_some, List.zip_nil_left, f, List.getElem?_eq_getElem hi]
        rfl
  | false =>
    rw [hk, if_neg Bool.false_ne_true] at h
    obtain ⟨h, h5⟩ := and2 h
    obtain ⟨h, h6⟩ := and2 h
    obtain ⟨h, h4⟩ := and2 h
    obtain ⟨h, h3⟩ := and2 h
    obtain ⟨h1, h2⟩ := and2 h
    have h1 := of_decide_eq_true h1
    have h2 := of_decide_eq_true h2
    have h3 : ks.Nodup := of_decide_eq_true h3
    have h5 := of_decide_eq_true h5
    have h4 : ∀ k ∈ ks, k ∈ ps.drop us.length := fun k q => by simpa using List.all_eq_true.mp h4 k q
    have hdk : ∀ p ∈ ps.drop us.length, p ∈ ks := fun p q => by simpa using List.all_eq_true.mp h6 p q
    have second : ∀ (i : Nat) (p : Str), ps[i]? = some p → us.length ≤ i → (ps.zip us ++ ks.zip ws).lookup p = some (ws.getD (ks.idxOf p) .none) ∧ p ∈ ks := fun i p hp hi => by
      have hd : p ∈ ps.drop us.length := by
        have : (ps.drop us.length)[i - us.length]? = some p := by rw [List.getElem?_drop, show us.length + (i - us.length) = i by omega]; exact hp
        exact List.mem_of_getElem? this
      have hn : p ∉ ps.take us.length := fun q => by
        have dj := (List.nodup_append.mp (by rw [List.take_append_drop us.length ps]; exact nd)).2.2
        exact dj p q p hd rfl
      have hx := hdk p hd
      refine ⟨?_, hx⟩
      rw [lookup_app (lookup_out hn), look_idx h3 hx]
      have hi := List.idxOf_lt_length_of_mem hx
      rw [List.getD_eq_getElem?_getD, List.getElem?_eq_getElem (by omega)]
      rfl
    have key : ∀ (i : Nat) (p : Str), ps[i]? = some p → (ps.zip us ++ ks.zip ws).lookup p = some (if i < us.length then us.getD i .none else ws.getD (ks.idxOf p) .none) := fun i p hp => by
      by_cases hi : i < us.length
      · rw [if_pos hi, first i p hp hi, List.getD_eq_getElem?_getD, List.getElem?_eq_getElem hi]; rfl
      · rw [if_neg hi]; exact (second i p hp (by omega)).1
    have memk : ∀ p ∈ ps, ∃ v, (ps.zip us ++ ks.zip ws).lookup p = some v := fun p hp => by
      obtain ⟨i, hi, e⟩ := List.getElem_of_mem hp
      exact ⟨_, key i p (by rw [List.getElem?_eq_getElem hi, e])⟩
    have pl : perm.length = ps.length := by rw [h5]; simp; omega
    have pne : perm ≠ [] := fun e => by
      rw [e] at pl
      have : ks ≠ [] := fun e => by rw [e] at hk; cases hk
      have := List.length_pos_iff.mpr this
      simp at pl; omega
    refine ⟨fun p hp => ?_, ?_, h1, by rw [permG_cons pne, List.length_map, pl]⟩
    · obtain ⟨v, e⟩ := memk p hp
      rw [e]; rfl
    · have fm : (ps.filterMap fun n => ((ps.zip us ++ ks.zip ws).lookup n).map (n, ·)) = ps.map fun n => (n, ((ps.zip us ++ ks.zip ws).lookup n).getD .none) := by
        refine fmap_all fun p hp => ?_
        obtain ⟨v, e⟩ := memk p hp
        rw [e]; rfl
      rw [fm, permG_cons pne]
      refine List.ext_getElem? fun i => ?_
      rw [List.getElem?_map, zip_get, List.getElem?_map]
      cases hp : ps[i]? with
      | none => simp
      | some p =>
        have hi : i < ps.length := (List.getElem?_eq_some_iff.mp hp).1
        have ep : perm[i]? = some (if i < us.length then i else us.length + ks.idxOf p) := by
          rw [h5]
          by_cases q : i < us.length
          · rw [if_pos q, List.getElem?_append_left (by simpa using q), List.getElem?_range q]
          · rw [if_neg q, List.getElem?_append_right (by simp; omega), List.length_range, List.getElem?_map, List.getElem?_drop, show us.length + (i - us.length) = i by omega, hp]
            rfl
        rw [ep]
        simp only [Option.map_some, key i p hp, Option.getD_some]
        by_cases q : i < us.length
        · rw [if_pos q, if_pos q]
          simp [List.getD_eq_getElem?_getD, List.getElem?_append_left q]
        · rw [if_neg q, if_neg q]
          simp only [List.getD_eq_getElem?_getD]
          rw [List.getElem?_append_right (Nat.le_add_right _ _), Nat.add_sub_cancel_left]
theorem bind_simple {fd : FuncData} {ps ks : List Str} {us ws : List Value} {perm : List Nat} (sp : simpleP ps fd.params = true) (hd : fd.defaults = .none) (nd : ps.Nodup) (h : permOk ps us.length ks perm = true) (hw : ws.length = ks.length) :
    bindArgs fd ⟨us, ks.zip ws⟩ = pure (ps.zip (permG .none (us ++ ws) perm)) := by
  obtain ⟨b1, b2, b3, b4⟩ := bound nd h hw
  obtain ⟨nm, qn, pr, bd, sc, gl, cl, df, kd, dc, pm, an, cd, ct, bu⟩ := fd
  obtain ⟨po, ar, va, ko, kwd, ka, de⟩ := pr
  unfold simpleP at sp
  obtain ⟨sp, q7⟩ := and2 sp
  obtain ⟨sp, q6⟩ := and2 sp
  obtain ⟨sp, q5⟩ := and2 sp
  obtain ⟨sp, q4⟩ := and2 sp
  obtain ⟨sp, q3⟩ := and2 sp
  obtain ⟨q1, q2⟩ := and2 sp
  obtain rfl : po = [] := List.isEmpty_iff.mp q1
  obtain rfl : va = none := Option.isNone_iff_eq_none.mp q2
  obtain rfl : ko = [] := List.isEmpty_iff.mp q3
  obtain rfl : kwd = [] := List.isEmpty_iff.mp q4
  obtain rfl : ka = none := Option.isNone_iff_eq_none.mp q5
  obtain rfl : de = [] := List.isEmpty_iff.mp q6
  have q7 : ar.map (·.arg) = ps := of_decide_eq_true q7
  subst q7
  generalize hps : ar.map (·.arg) = ps at *
  have hd : df = .none := hd
  subst hd
  unfold bindArgs
  simp only [List.map_nil, List.nil_append, List.append_nil, hps, noneItems, pure_bind]
  have ksp : ∀ k ∈ ks, k ∈ ps ∧ k ∉ ps.take us.length := fun k hk => by
    unfold permOk at h
    cases e : ks.isEmpty with
    | true => rw [List.isEmpty_iff.mp e] at hk; cases hk
    | false =>
      rw [e, if_neg Bool.false_ne_true] at h
      have h4 := (and2 (and2 (and2 h).1).1).2
      have hd : k ∈ ps.drop us.length := by simpa using List.all_eq_true.mp h4 k hk
      refine ⟨List.mem_of_mem_drop hd, fun q => ?_⟩
      have dj := (List.nodup_append.mp (by rw [List.take_append_drop us.length ps]; exact nd)).2.2
      exact dj k q k hd rfl
  have ksn : ks.Nodup := by
    unfold permOk at h
    cases e : ks.isEmpty with
    | true => rw [List.isEmpty_iff.mp e]; simp
    | false =>
      rw [e, if_neg Bool.false_ne_true] at h
      exact of_decide_eq_true (and2 (and2 (and2 (and2 h).1).1).1).2
  have e1 : (ps.zip us, ([] : List (Str × Value))) = (ps.zip us ++ [], []) := by rw [List.append_nil]
  rw [e1, kw_loop (ps.zip us) (ks.zip ws) [] (fun pre x post q => ?_)]
  · rw [pure_bind, List.nil_append]
    have e2 : (decide (us.length > ps.length) && (none : Option Arg).isNone) = false := by simp; exact b3
    simp only [e2, Bool.false_eq_true, if_false]
    have e3 : ps.filter (fun n => ((ps.zip us ++ ks.zip ws).lookup n).isNone) = [] := List.filter_eq_nil_iff.mpr fun p hp => by
      have := b1 p hp
      cases e : (ps.zip us ++ ks.zip ws).lookup p with
      | none => rw [e] at this; cases this
      | some v => simp
    simp [e3, b2]
  · have hx : x ∈ ks.zip ws := by rw [q]; simp
    obtain ⟨k, v⟩ := x
    have hk := (List.of_mem_zip hx).1
    obtain ⟨h1, h2⟩ := ksp k hk
    have c1 : ps.contains k = true := by simpa using h1
    have c2 : (ps.zip us ++ ([] ++ pre)).lookup k = none := by
      rw [lookup_app (lookup_out h2), List.nil_append]
      cases e : pre.lookup k with
      | none => rfl
      | some u =>
        exfalso
        have m1 : (k, u) ∈ pre := PySem.mem_of_lookup e
        have ez : (ks.zip ws).map (·.1) = ks := List.map_fst_zip (by omega)
        rw [q, List.map_append, List.map_cons] at ez
        rw [← ez] at ksn
        exact (List.nodup_append.mp ksn).2.2 k (List.mem_map.mpr ⟨_, m1, rfl⟩) k (by simp) rfl
    simp only [c1, c2, Bool.true_or, if_true, Option.isSome_none, Bool.false_eq_true, if_false]
end G

set_option maxHeartbeats 4000000
/-! Functions: what is promised, how they are called. -/
namespace G
open PySem PySem.Spec PyProof.Rows L2

def FRes (N : Nam) (K : PySem.W.Frag) (Q : VK) (E : XK) (m : List Addr) (F : Fx) : Res W → Prop
  | .ok w M' => ∀ v H' m' F', SimM N K m' M' F' H' → RepW N K F' m' w v → Gr m F m' F' → Q v H'
  | .exc c ns vs M' => ∀ cls d H' m' F', SimM N K m' M' F' H' → Gr m F m' F' → ExcV N K F' cls d c ns vs → E cls d H'
  | .bad => False
def spF (N : Nam) (K : PySem.W.Frag) (C : Calls) (f : Nat) (n : Nat) : Sp := fun vs H Q E => vs.length = n ∧ ∃ m M F ws, SimM N K m M F H ∧ RepWs N K F m ws vs ∧ FRes N K Q E m F (C f ws M)
/-- a def's promise where no repr is under way -/
structure FnG (Pr : Program) (w : World) (K : PySem.W.Frag) (mg : Str → Option Value) (base : Heap) (k : Nat) (a : Addr) (fd : FuncData) (ps : List Str) (sp : Sp) : Prop where
  len : ∀ vs H Q E, sp vs H Q E → vs.length = ps.length
  run : ∀ (A : Around) (outer : List PySem.Env) (s : Shared) (H : Hp) (args : Args) (us : List Value) (vs : List V) (Q : VK) (E : XK), Room k A → A.guards = some [] → Env0 Pr w K mg base A outer s H → BindsTo s fd args (ps.zip us) → Vals vs us → sp vs H Q E →
    codeAny (model Pr w) A (.call (.ref a) args) (CR (L2.CX Pr w) outer Pr w H s Q E) s
/-- what is known of a function of the table -/
structure FnFact (K : PySem.W.Frag) (a : Addr) (fd : FuncData) (ps : List Str) : Prop where
  simp : simpleP ps fd.params = true
  dfl : fd.defaults = .none
  nd : ps.Nodup
section
variable {env : PySem.Env} {pos : Pos}
theorem kw_of : ∀ {kws : List Keyword}, kws.all (·.arg.isSome) = true → (backToKw pos (keywordEach kws env)).all (·.1.isSome) = true ∧ (backToKw pos (keywordEach kws env)).filterMap (·.1) = kws.filterMap (·.arg) ∧ (backToKw pos (keywordEach kws env)).any (·.1.isNone) = false ∧ (kws.filterMap (·.arg)).length = kws.length
  | [], _ => ⟨rfl, rfl, rfl, rfl⟩
  | ⟨nm, e, p⟩ :: kws, h => by
    obtain ⟨h1, h2⟩ := and2 (show (nm.isSome && kws.all (·.arg.isSome)) = true from h)
    obtain ⟨a, b, c, d⟩ := kw_of h2
    cases nm with
    | none => cases h1
    | some n =>
      refine ⟨?_, ?_, ?_, ?_⟩
      · show (true && (backToKw pos (keywordEach kws env)).all (·.1.isSome)) = true
        rw [a]; rfl
      · show List.filterMap (·.1) ((some n, _) :: backToKw pos (keywordEach kws env)) = List.filterMap (·.arg) (⟨some n, e, p⟩ :: kws)
        simp only [List.filterMap_cons, b]
      · show (false || (backToKw pos (keywordEach kws env)).any (·.1.isNone)) = false
        rw [c]; rfl
      · simp only [List.filterMap_cons, List.length_cons, d]
end
theorem vals_getD : ∀ {vs : List V} {us : List Value} (i : Nat), Vals vs us → RelV (vs.getD i .non) (us.getD i .none)
  | _, _, _, .nil => rfl
  | _, _, 0, .cons r _ => r
  | _, _, i + 1, .cons _ t => by simpa using vals_getD i t
theorem Vals.perm {vs : List V} {us : List Value} (r : Vals vs us) (is : List Nat) : Vals (permG .non vs is) (permG .none us is) := by
  cases is with
  | nil => exact r
  | cons i is =>
    rw [permG_cons (by simp), permG_cons (by simp)]
    generalize i :: is = l
    induction l with
    | nil => exact .nil
    | cons i l ih => exact .cons (vals_getD i r) ih
section
variable {N : Nam} {K : PySem.W.Frag} {F : Hp} {m : List Addr}
theorem reps_getD : ∀ {ws : List W} {vs : List V} (i : Nat), RepWs N K F m ws vs → RepW N K F m (ws.getD i default) (vs.getD i .non)
  | [], [], _, _ => rfl
  | _ :: _, _ :: _, 0, h => h.1
  | _ :: _, _ :: _, i + 1, h => by simpa using reps_getD i h.2
  | [], _ :: _, _, h => h.elim
  | _ :: _, [], _, h => h.elim
theorem RepWs.perm {ws : List W} {vs : List V} (r : RepWs N K F m ws vs) (is : List Nat) : RepWs N K F m (permW ws is) (permG .non vs is) := by
  cases is with
  | nil => exact r
  | cons i is =>
    rw [permG_cons (by simp)]
    show RepWs N K F m ((i :: is).map fun i => ws.getD i default) _
    generalize i :: is = l
    induction l with
    | nil => exact trivial
    | cons i l ih => exact ⟨reps_getD i r, ih⟩
end
theorem ERes.fres {N : Nam} {K : PySem.W.Frag} {Wx : WX} {Q : VK} {σ : L2.St} {env : G.Env} {m : List Addr} {F : Fx} {M : Mem} {H : Hp} (s : Sim N K σ env m M F H) : ∀ {r : Res W}, ERes N K (RW N K) Wx Q σ env m F r → FRes N K Q (fun cls d H' => Wx cls d σ H') m F r
  | .ok w M', h => fun v H' m' F' s' r g => h v H' m' F' (s.to s' g.x) r g
  | .exc c ns vs M', h => fun cls d H' m' F' s' g e => h cls d H' m' F' (s.to s' g.x) g e
  | .bad, h => h
theorem guards_in1 {A : Around} : A.in1.guards = A.guards := rfl
theorem guards_make {A : Around} {C : Addr} {us : List Value} {kw : List (Str × Value)} : (A.under (.builtin "type.__call__" ⟨.ref C :: us, kw⟩)).guards = A.guards := by
  first | rfl | simp [Around.under, Code.weight, Code.isCreation, Code.isGuard, Code.isCaller, Code.frames, Code.isFrame, guardIds]
/-- the functions at hand -/
def FG (Γ : Tab) (P : Prog) (C : Calls) (N : Nam) (n : Nat) (X : Cx) : Prop := ∀ f ps, Γ.fp.lookup f = some ps → ∃ fd, FnFact X.K (N.fA f) fd ps ∧ FnG X.prog X.w X.K X.mg X.base n (N.fA f) fd ps (spF N X.K C f ps.length)
section
variable {Γ : Tab} {P : Prog} {C : Calls} {N : Nam} {n : Nat} {X : Cx}
/-- the callee runs -/
theorem run_G {k : Nat} {A : Around} {a : Addr} {fd : FuncData} {ps : List Str} {sp : Sp} {pins : List (Addr × Obj)} {σ : L2.St} {H : Hp} {s : Shared} {Q : VK} {E : XK} {us bs : List Value} {kw : List (Str × Value)} {vs : List V} {G2 : Value → Shared → Prop} (G : FnG X.prog X.w X.K X.mg X.base k a fd ps sp) (hr : Room k A) (hg : A.guards = some [])
    (e0 : Env0 X.prog X.w X.K X.mg X.base A X.stack s H) (I : L2.Inv X pins σ H s) (bd : BindsTo s fd ⟨us, kw⟩ (ps.zip bs)) (r : Vals vs bs) (h : sp vs H Q E) (hx : ∀ e s', L2.CX X.prog X.w X.stack H s E e s' → G2 e s') :
    wpAny (model X.prog X.w) A (call (.ref a) us kw) (EP X pins σ Q) G2 s := by
  refine wpAny_call (codeAny_mono (G.run A X.stack s H ⟨us, kw⟩ bs vs Q E hr hg e0 bd r h) fun r s' hq => ?_)
  cases r with
  | error e => exact hx e s' hq
  | ok fl =>
    cases fl with
    | ret u => exact I.after hq
    | next => exact False.elim hq
    | brk => exact False.elim hq
    | cont => exact False.elim hq
theorem bind_pos {fd : FuncData} {ps : List Str} {us : List Value} {s : Shared} {a : Addr} (ff : FnFact X.K a fd ps) (hl : us.length = ps.length) : BindsTo s fd ⟨us, []⟩ (ps.zip us) := by
  have hp : permOk ps us.length [] [] = true := by
    show (true && decide (us.length = ps.length)) = true
    rw [decide_eq_true hl]; rfl
  have b := bind_simple (us := us) (ws := []) (ks := []) (perm := []) ff.simp ff.dfl ff.nd hp rfl
  have e : permG Value.none (us ++ []) [] = us := by
    show us ++ [] = us
    exact List.append_nil us
  rw [e] at b
  exact BindsTo.of_eq b
theorem noxe {H : Hp} {s : Shared} {e : Value} {s' : Shared} {Q : Prop} (h : L2.CX X.prog X.w X.stack H s (fun _ _ _ => False) e s') : Q := by
  obtain ⟨_, _, _, _, _, _, _, _, _, _, _, _, z⟩ := h
  exact z.elim
theorem insB_at {M : Mem} {m : List Addr} {F : Fx} {H : Hp} {c : Nat} {w : W} {v : V} (sm : SimM N X.K m M F H) (r : RepW N X.K F m w v) (h : insB P M c w = true) : ∃ a dx fs ns, v = .ref a ∧ H a = some (.ins (N.cA c) dx fs) ∧ FsOk N ns fs ∧ ns.all (fun g => fldOk P c g false) = true := by
  unfold insB at h
  split at h
  · rename_i c' ns vs
    obtain ⟨h1, h2⟩ := and2 h
    obtain ⟨a, dx, fs, rfl, e, _, fo⟩ := r
    have h1 := of_decide_eq_true h1
    subst h1
    exact ⟨a, dx, fs, ns, rfl, sm.sub _ _ e, fo, h2⟩
  · rename_i l
    obtain ⟨a, h1, rfl⟩ := r
    split at h
    · rename_i c' ns ws hM
      obtain ⟨q1, q2⟩ := and2 h
      have q1 := of_decide_eq_true q1
      subst q1
      obtain ⟨_, dx, fs, e, _, fo⟩ := sm.cell l a _ h1 hM
      exact ⟨a, dx, fs, ns, rfl, e, fo, q2⟩
    · rename_i c' ns ws hM
      obtain ⟨q1, q2⟩ := and2 h
      have q1 := of_decide_eq_true q1
      subst q1
      obtain ⟨a', dx, fs, e0, e, _, fo⟩ := sm.cell l a _ h1 hM
      cases e0
      exact ⟨a, dx, fs, ns, rfl, sm.sub _ _ e, fo, q2⟩
    · cases h
  · cases h
theorem no_attr {c : Nat} {m : Str} {ns : List Nat} {fs : List (Str × V)} (hn : ∀ k g, P.cls c = some k → k.flds.contains g = true → N.at_ g ≠ m) (fo : FsOk N ns fs) (h : ns.all (fun g => fldOk P c g false) = true) : fs.lookup m = none := by
  cases e : fs.lookup m with
  | none => rfl
  | some v =>
    exfalso
    obtain ⟨g, hg, eg⟩ := fo.2 (m, v) (PySem.mem_of_lookup e)
    have z := List.all_eq_true.mp h g hg
    unfold fldOk at z
    split at z
    · rename_i k hk
      exact hn k g hk (and2 z).1 eg
    · cases z
end
theorem call_ok {Γ : Tab} {P : Prog} {C : Calls} {N : Nam} {n : Nat} {X : Cx} (tn : TieN Γ P N X.K X.mg) (hr : Room n X.A) (hg : X.A.guards = some []) (fg : FG Γ P C N n X) : Callable Γ P C N X := by
  intro Wx tk x f ps as ks perm es kws p pos hf gl hp hka hes hl hlk pa pk
  obtain ⟨mgx, dbx, kpx, hfp⟩ := tn.fn x f ps hf
  obtain ⟨fd, ff, G⟩ := fg f ps hfp
  obtain ⟨k1, k2, k3, k4⟩ := kw_of (env := X.env) (pos := pos) hka
  refine ⟨fun pins s σ H Q I h => ?_⟩
  refine wpAny_Call_Name_kw (ld_glob I gl mgx ?_ dbx)
  obtain ⟨env, m, M, F, sm, h⟩ := h
  have h : ERes N X.K (RW N X.K) Wx Q σ env m F ((evs P C as env M).bind fun ws M => (evs P C ks env M).bind fun us M => C f (permW (ws ++ us) perm) M) := h
  let Z : List V → List V → Hp → Prop := fun vs zs H2 => vs.length = as.length ∧ zs.length = ks.length ∧ ∃ m M F ws us, Sim N X.K σ env m M F H2 ∧ RepWs N X.K F m ws vs ∧ RepWs N X.K F m us zs ∧ ERes N X.K (RW N X.K) Wx Q σ env m F (C f (permW (ws ++ us) perm) M)
  have st : tEs P C N X.K Wx as σ H fun vs H1 => tEs P C N X.K Wx ks σ H1 fun zs H2 => Z vs zs H2 :=
    tEs.of sm h (fun _ _ => evs_len) fun vs H1 m1 F1 ws M1 s1 r1 l1 g1 h1 => tEs.of s1 h1 (fun _ _ => evs_len) fun zs H2 m2 F2 us M2 s2 r2 l2 g2 h2 =>
      ⟨by rw [← r1.length, l1], by rw [← r2.length, l2], m2, M2, F2, ws, us, s2, RepWs.mono g2.x _ _ r1, r2, h2⟩
  have fin : ∀ {s2 : Shared} {H2 : Hp} {vs zs : List V} {us ws : List Value}, L2.Inv X pins σ H2 s2 → Vals vs us → Vals zs ws → Z vs zs H2 →
      wpAny (model X.prog X.w) X.A (call (.ref (N.fA f)) us ((kws.filterMap (·.arg)).zip ws)) (EP X pins σ Q) X.xe s2 := fun {s2 H2 vs zs us ws} I2 rv rz z => by
    obtain ⟨l1, l2, m2, M2, F2, wv, wz, s3, r1, r2, hh⟩ := z
    have lu : us.length = as.length := by rw [← rv.length, l1]
    have lw : ws.length = (kws.filterMap (·.arg)).length := by rw [← rz.length, l2, k4, hlk]
    rw [← lu] at hp
    have b := bind_simple ff.simp ff.dfl ff.nd hp lw
    have rr := Vals.perm (rv.append rz) perm
    have ll := (bound ff.nd hp lw).2.2.2
    exact run_G G hr hg I2.env0 I2 (BindsTo.of_eq b) rr ⟨by rw [rr.length, ll], m2, M2, F2, _, s3.mem, RepWs.perm (RepWs.append r1 r2) perm, ERes.fres s3 hh⟩ fun e s' hq => tk e s' (XE.of_call I2 (fun _ _ _ h => h) hq)
  cases es with
  | nil =>
    refine PySem.W.callWith_KW0 (h₀ := X.base) I.ok.mod.kin kpx k1 ?_ (by rw [k3]; rfl)
    have e0 : as = [] := List.length_eq_zero_iff.mp hl.symm
    subst e0
    obtain ⟨env', m', M', F', s', h'⟩ := st
    have h' := ERes.now (a := []) (b := ([] : List V)) h' s' ⟨trivial, rfl⟩
    refine thn (pk.run pos pins s σ H _ I h') fun ws s2 ⟨zs, H2, I2, rz, z⟩ => ⟨I2.kIn, ?_⟩
    rw [k2]
    exact fin I2 .nil rz z
  | cons e es =>
    obtain ⟨e1, e2⟩ := and2 (show (noStar e && es.all noStar) = true from hes)
    refine PySem.W.callWith_KW (h₀ := X.base) I.ok.mod.kin kpx k1 (thn (pa.run pos pins s σ H _ I st) fun us s1 ⟨vs, H1, I1, r, q⟩ => ?_) (by rw [k3, plain_of hes]; rfl) (star_of e1)
    refine thn (pk.run pos pins s1 σ H1 _ I1 q) fun ws s2 ⟨zs, H2, I2, rz, z⟩ => ⟨I2.kIn, ?_⟩
    rw [k2]
    exact fin I2 r rz z
end G

set_option maxHeartbeats 4000000
/-! An exception's class of the text, called with keywords too. -/
namespace PySem
namespace GK
open PySem.HandSPX
section
variable {M : Model} {A : Around} {E : Value → Shared → Prop} {hp : Heap} {gg : Array GenState} {dr : Drawn} {tk : Nat} {oo : OsState}
variable {nm q : Str} {C N : Addr} {bs bm bmB : List Value} {hx : Bool} {sn : List Str} {sub : List Value} {ab : Bool} {col : Option Bool} {dd : Option Addr} {k0 k1 k2 k3 k5 : Option Value} {B newId initId : String} {us : List Value} {kw : List (Str × Value)}
theorem chk_new (F : ExcBaseFacts B newId initId bmB) (same : ∀ Y : String, bm.contains (.type Y) = bmB.contains (.type Y)) {Q : Unit → Shared → Prop}
    (ho : hp.get? C = some (excClassObj nm q C N bs bm hx sn sub ab col dd k0 k1 k2 k3 k5 newId)) (fin : Q () ⟨hp, gg, dr, tk, oo⟩) :
    wpAny M A (checkBuiltinCall newId ⟨Value.ref C :: us, kw⟩) Q E ⟨hp, gg, dr, tk, oo⟩ := by
  have cB : (Value.ref C :: bm).contains (.type B) = true := by rw [List.contains_cons, same B, F.hasB, Bool.or_true]
  have st := F.noStar
  simp only [checkBuiltinCall, F.newKind, F.newSplit, F.newRow]
  repeat (first
    | refine wpAny_loadPart_at ho ?_
    | (refine wpAny_isSubtype_exc ho ?_; rw [cB])
    | refine wpAny_staticBase_exc ho ?_
    | refine wpAny_madeBy_exc ho ?_
    | simp only [bne_self_eq_false, Bool.false_eq_true, if_false]
    | wp_step)
  exact fin
end
section
variable {prog : Program} {w : World} {A : Around} {E : Value → Shared → Prop} {R : Result → Shared → Prop} {hp : Heap} {gg : Array GenState} {dr : Drawn} {tk : Nat} {oo : OsState}
variable {nm q : Str} {C N : Addr} {bs bm bmB : List Value} {hx : Bool} {sn : List Str} {sub : List Value} {ab : Bool} {col : Option Bool} {dd : Option Addr} {k0 k1 k2 k3 k5 : Option Value} {B newId initId : String} {us : List Value} {kw : List (Str × Value)} {fI : Addr}
theorem new_kw (F : ExcBaseFacts B newId initId bmB) (same : ∀ Y : String, bm.contains (.type Y) = bmB.contains (.type Y))
    (ho : hp.get? C = some (excClassObj nm q C N bs bm hx sn sub ab col dd k0 k1 k2 k3 k5 newId))
    (fin : R (.ok (.ret (.ref (hp.objs.size + 1)))) ⟨(hp.push (W.kdv_tup us)).push (excO C hp.objs.size), gg, dr, tk, oo⟩) (short : us.length ≤ sizeLine) :
    codeAny (model prog w) A (.builtin newId ⟨Value.ref C :: us, kw⟩) R ⟨hp, gg, dr, tk, oo⟩ := by
  have en := F.ends
  have cB : (Value.ref C :: bm).contains (.type B) = true := by rw [List.contains_cons, same B, F.hasB, Bool.or_true]
  have cA : (Value.ref C :: bm).contains (.type "AttributeError") = false := by
    rw [List.contains_cons, same "AttributeError", F.noAttr] <;> rfl
  have cN : (Value.ref C :: bm).contains (.type "NameError") = false := by
    rw [List.contains_cons, same "NameError", F.noName] <;> rfl
  refine codeAny_builtinAt F.entry ?_
  unfold Builtin.«BaseException.__new__»
  refine wpAt_bind ?_
  show wpAt _ _ _ (stack >>= _) _ _ _
  refine wpAt_bind (wpAt_stack fun _ _ => wpAt_of_wpAny ?_)
  wp_walk
  refine wpAt_of_wpAny ?_
  rw [F.owner]
  repeat (first
    | with_reducible refine wpAny_madeHere_exc F.canon ho ?_
    | with_reducible refine wpAny_loadPart_at ho ?_
    | (with_reducible refine wpAny_isSubtype_exc ho ?_; first | rw [cB] | rw [cA] | rw [cN])
    | wp_step)
  show R _ _
  rw [Heap.size_push]
  exact fin
theorem type_call_kw {Q : Fin → Shared → Prop} (F : ExcBaseFacts B newId initId bmB) (same : ∀ Y : String, bm.contains (.type Y) = bmB.contains (.type Y))
    (ho : hp.get? C = some (excClassObj nm q C N bs bm hx sn sub ab col dd k0 k1 k2 k3 k5 newId))
    (li : W.Looks (model prog w) hp (typeLookup (.ref C) "__init__") (some (.ref fI))) (lb : ∀ me, W.Looks (model prog w) hp (bindSpecial (.ref fI) me) (.ref fI, [me])) (short : us.length ≤ sizeLine)
    (fin : codeAny (model prog w) A (.call (.ref fI) ⟨Value.ref (hp.objs.size + 1) :: us, kw⟩)
      (fun r s' => match r with
        | .ok (.ret v) => v = .none ∧ Q (.done (.ret (.ref (hp.objs.size + 1)))) s'
        | .ok _ => False
        | .error e => E e s') ⟨(hp.push (W.kdv_tup us)).push (excO C hp.objs.size), gg, dr, tk, oo⟩) :
    wpAny (model prog w) A (Builtin.«type.__call__» ⟨Value.ref C :: us, kw⟩) Q E ⟨hp, gg, dr, tk, oo⟩ := by
  repeat (first
    | with_reducible refine wpAny_loadPart_at ho ?_
    | with_reducible refine wpAny_madeBy_exc ho ?_
    | wp_step)
  refine codeAny_call_builtin_code (Code.quiet_builtin _ F.quiet) (chk_new F same ho ?_)
  refine new_kw F same ho ?_ short
  show wpAny _ _ _ _ _ _
  have kp : ∀ b o, hp.get? b = some o → ((hp.push (W.kdv_tup us)).push (excO C hp.objs.size)).get? b = some o := fun b o e =>
    Heap.get?_push_of_some _ (Heap.get?_push_of_some _ e)
  have ho' := kp _ _ ho
  have hg : ((hp.push (W.kdv_tup us)).push (excO C hp.objs.size)).get? (hp.objs.size + 1) = some (excO C hp.objs.size) := by
    heap_get
  have cC : (Value.ref C :: bm).contains (.ref C) = true := by simp
  have li' := li.keeps kp
  have lb' := (lb (.ref (hp.objs.size + 1))).keeps kp
  unfold isInstance
  repeat (first
    | with_reducible refine wpAny_loadPart_at hg ?_
    | (with_reducible refine wpAny_isSubtype_exc ho' ?_; rw [cC])
    | wp_step)
  show wpAny _ _ (typeLookup (.ref C) _) _ _ _
  refine li'.at ?_
  refine wpAny_holding (wpAny_bind (lb'.at ?_))
  refine wpAny_bind (wpAny_call (codeAny_mono fin fun r s' z => ?_))
  cases r with
  | error e => exact z
  | ok f =>
    cases f with
    | ret v =>
      have z' : v = Value.none ∧ Q (.done (.ret (.ref (hp.objs.size + 1)))) s' := z
      obtain ⟨v0, z2⟩ := z'
      clear z
      subst v0
      first
        | exact wpAny_pure (wpAny_pure z2)
        | (wp_walk; done)
        | (wp_walk; exact z2)
    | next => exact z.elim
    | brk => exact z.elim
    | cont => exact z.elim
theorem call_kw (F : ExcBaseFacts B newId initId bmB) (same : ∀ Y : String, bm.contains (.type Y) = bmB.contains (.type Y))
    (ho : hp.get? C = some (excClassObj nm q C N bs bm hx sn sub ab col dd k0 k1 k2 k3 k5 newId))
    (li : W.Looks (model prog w) hp (typeLookup (.ref C) "__init__") (some (.ref fI))) (lb : ∀ me, W.Looks (model prog w) hp (bindSpecial (.ref fI) me) (.ref fI, [me])) (short : us.length ≤ sizeLine)
    (fin : codeAny (model prog w) (A.under (.builtin "type.__call__" ⟨Value.ref C :: us, kw⟩)) (.call (.ref fI) ⟨Value.ref (hp.objs.size + 1) :: us, kw⟩) (W.InitBack (hp.objs.size + 1) R)
      ⟨(hp.push (W.kdv_tup us)).push (excO C hp.objs.size), gg, dr, tk, oo⟩) :
    codeAny (model prog w) A (.call (.ref C) ⟨us, kw⟩) R ⟨hp, gg, dr, tk, oo⟩ := by
  have t1 := tc_lookup
  have t2 := tc_bind (.ref C)
  have ty : (⟨hp, gg, dr, tk, oo⟩ : Shared).TypeIs (.ref C) "type" := ⟨_, ho, rfl⟩
  refine codeAny_of_tree ?_
  show wpAny _ _ (callAny (.ref C) _) _ _ _
  repeat (any_goals (first
    | assumption
    | with_reducible refine wpAny_loadPart_at ho ?_
    | wp_step))
  refine ⟨rfl, ?_⟩
  exact codeAny_call_builtin_at (Code.quiet_builtin _ (by decide +kernel)) entry_typeCall (wpAny_check_type_call_sub ho (type_call_kw F same ho li lb short fin))
end
end GK
end PySem

set_option maxHeartbeats 4000000
/-! raise of an exception of the text, whose __init__ calls its base's and stores its arguments. -/
namespace G
open PySem PySem.Spec PyProof.Rows L2

def mkfs (names : List Str) (args : List V) : List (Str × V) := (names.zip args).reverse
theorem look_mem {l : List (Str × V)} {x : Str} {v : V} (nd : (l.map (·.1)).Nodup) (h : (x, v) ∈ l) : l.lookup x = some v := by
  induction l with
  | nil => cases h
  | cons p l ih =>
    obtain ⟨k, u⟩ := p
    have nd' := List.nodup_cons.mp nd
    rw [List.lookup_cons]
    rcases List.mem_cons.mp h with e | h
    · cases e; simp
    · have hk : (x == k) = false := by
        cases e : x == k with
        | true =>
          have e : x = k := by simpa using e
          exact absurd (List.mem_map.mpr ⟨_, h, e⟩) nd'.1
        | false => rfl
      rw [hk]
      exact ih nd'.2 h
theorem mkfs_look {names : List Str} {args : List V} {i : Nat} {x : Str} {v : V} (nd : names.Nodup) (hl : args.length = names.length) (h1 : names[i]? = some x) (h2 : args[i]? = some v) : (mkfs names args).lookup x = some v := by
  refine look_mem ?_ ?_
  · unfold mkfs
    rw [List.map_reverse, List.map_fst_zip (by omega)]
    unfold List.Nodup
    rw [List.pairwise_reverse]
    exact List.Pairwise.imp (fun h => Ne.symm h) nd
  · unfold mkfs
    rw [List.mem_reverse]
    have : (names.zip args)[i]? = some (x, v) := by rw [zip_get, h1, h2]
    exact List.mem_of_getElem? this
theorem repF_of {N : Nam} {K : PySem.W.Frag} {F : Hp} {L : Str → Option V} : ∀ {ns : List Nat} {ds : List D} {vs : List V}, Reps N K F ds vs → ns.length = ds.length → (∀ (i : Nat) (n : Nat) (v : V), ns[i]? = some n → vs[i]? = some v → L (N.at_ n) = some v) → RepF N K F ns ds L
  | [], [], _, _, _, _ => trivial
  | n :: ns, d :: ds, v :: vs, r, hl, h => ⟨⟨v, h 0 n v rfl rfl, r.1⟩, repF_of r.2 (by simpa using hl) fun i m u h1 h2 => h (i + 1) m u (by simpa using h1) (by simpa using h2)⟩
  | [], _ :: _, _, _, hl, _ => by cases hl
  | _ :: _, [], _, _, hl, _ => by cases hl
  | _ :: _, _ :: _, [], r, _, _ => r.elim
/-! ### the text of such an __init__ -/
def iniR (L : List Str) (sc : Scope) : List Str → Nat → List Stmt → Bool
  | [], _, [] => true
  | f :: fs, i, .Assign [.Attribute (.Name s _) g _] (.Name y _) _ :: r => decide (g = f) && decide (L[0]? = some s) && decide (L[i]? = some y) && visB sc s && visB sc y && okN s && okN y && iniR L sc fs (i + 1) r
  | _, _, _ => false
/-- its base's __init__(self, 'text'), then the fields -/
def iniB (L : List Str) (sc : Scope) (B : Str) (fs : List Str) : List Stmt → Bool
  | .Expr (.Call (.Attribute (.Name b _) m p2) [.Name s _, .Constant (.str _) _ _] [] p5) _ :: r => (p2.endLine == p5.line) && decide (b = B) && decide (m = "__init__") && glB sc b && decide (L[0]? = some s) && visB sc s && okN s && iniR L sc fs 1 r && !fs.isEmpty && decide (fs.length ≤ 800)
  | _ => false
/-- the base class at B0 inherits ValueError.__init__ -/
structure BaseC (K : PySem.W.Frag) (mg : Str → Option Value) (B : Str) (B0 : Addr) : Prop where
  mg : mg B = some (.ref B0)
  db : (B == ("__debug__" : Str)) = false
  ga : PySem.W.specialIn K (.ref B0) "__getattribute__" = some (some (.builtin "type.__getattribute__"))
  ty : PySem.W.typeIn K (.ref B0) = some (.type "type")
  rd : PySem.W.readsIn K B0 (.type "type") = true
  ini : PySem.W.findCls K (.ref B0) (.type "type") "__init__" = some (.val (.builtin "ValueError.__init__"))
theorem icall {env : PySem.Env} {B s t m : Str} {p1 p2 p3 p4 pos : Pos} {j : Nat} (hl : (p2.endLine == pos.line) = true) : eval (.Call (.Attribute (.Name B p1) m p2) [.Name s p3, .Constant (.str t) j p4] [] pos) env = (do
    let ov ← eval (.Name B p1) env
    standAt p2.atName
    let (f, first) ← holding [ov] (getMethod ov m (do return (← importBound (.Name B p1) env).getD true))
    callWith pos f first (backTo pos (starEach [.Name s p3, .Constant (.str t) j p4] env)) (backToKw pos (keywordEach [] env))) := by
  have e1 : methodCallPos true (.Name B p1) env p2 pos = pure pos := by
    unfold methodCallPos
    rw [hl]
    rfl
  have e2 : methodCallForm 2 (backTo pos (starEach [.Name s p3, .Constant (.str t) j p4] env)) (backToKw pos (keywordEach [] env)) = true := rfl
  show (attributeBase (.Name B p1) m env (eval (.Name B p1) env) >>= fun ov => standAt p2.atName >>= fun _ => methodCall (.Name B p1) m p2 pos env ov 2 (backTo pos (starEach [.Name s p3, .Constant (.str t) j p4] env)) (backToKw pos (keywordEach [] env))) = _
  rw [sup_of rfl]
  unfold methodCall
  rw [e2, e1]
  simp only [pure_bind]
  rfl
section
variable {X : Cx}
theorem pe_binit {B : Str} {B0 : Addr} {e : Expr} {es : List Expr} {ta : TA} {p1 p2 pos : Pos} (T : BaseC X.K X.mg B B0) (hg : Gl X B) (ha : PA X (e :: es) ta) (he : starEach (e :: es) X.env = (false, eval e X.env) :: starEach es X.env) (hpl : (backTo pos (starEach es X.env)).any (·.1) = false) {pl : Sem Bool}
    (hc : eval (.Call (.Attribute (.Name B p1) "__init__" p2) (e :: es) [] pos) X.env = (do
      let ov ← eval (.Name B p1) X.env
      standAt p2.atName
      let (f, first) ← holding [ov] (getMethod ov "__init__" pl)
      callWith pos f first (backTo pos (starEach (e :: es) X.env)) (backToKw pos (keywordEach [] X.env)))) :
    PE X (.Call (.Attribute (.Name B p1) "__init__" p2) (e :: es) [] pos) (tVeI X.K ta) := by
  refine ⟨fun pins s σ H Q I h => ?_⟩
  refine PySem.W.methodCall_KW (ld_glob I hg T.mg ?_ T.db) hc
  obtain ⟨m, fr⟩ := I.fr
  refine PySem.W.method_of_cls fr I.ok.mod.kin T.ga (PySem.W.cls_val fr I.ok.mod.kin T.ty T.rd T.ini (by decide +kernel) ?_)
  refine PyProof.Rows.callWith_method1 (first := []) (id := "ValueError.__init__") ?_ he hpl
  refine thn (ha.run pos pins _ σ H _ (I.tok _) h) fun us s1 ⟨vs, H1, I1, r1, a, C, ws, ev, hl, TC, ea, q⟩ => ?_
  subst ev
  cases r1 with
  | @cons _ u0 _ ur ra rw' =>
    cases (show u0 = Value.ref a from ra)
    exact oinit_ok TC I1 ea (by rw [← rw'.length, sizeLine_eq]; omega) fun s' J => ⟨.non, H1, J, rfl, q⟩
def tIniR (K : PySem.W.Frag) : List Str → Nat → TS
  | [], _ => tNext
  | f :: fs, i => tSeq (tOst K f (tVar 0) (tVar i)) (tIniR K fs (i + 1))
theorem ini_rest {L : List Str} {sc : Scope} (hN : X.N = L) (hs : X.env.scope = sc) : ∀ {fs : List Str} {i : Nat} {body : List Stmt}, iniR L sc fs i body = true → PSs X body (tIniR X.K fs i) := by
  intro fs
  induction fs with
  | nil =>
    intro i body h
    cases body with
    | nil => exact pss_nil
    | cons _ _ => cases h
  | cons f fs ih =>
    intro i body h
    unfold iniR at h
    split at h
    · rename_i e
      cases e
    · rename_i f' fs' i' s p1 g p2 y p3 p4 r e1
      cases e1
      obtain ⟨h, h8⟩ := and2 h
      obtain ⟨h, h7⟩ := and2 h
      obtain ⟨h, h6⟩ := and2 h
      obtain ⟨h, h5⟩ := and2 h
      obtain ⟨h, h4⟩ := and2 h
      obtain ⟨h, h3⟩ := and2 h
      obtain ⟨h1, h2⟩ := and2 h
      have e := of_decide_eq_true h1
      subst e
      have vis : ∀ {x : Str}, visB sc x = true → Vis X.env.scope x := fun {x} v => by
        rw [hs]
        rcases Bool.or_eq_true_iff.mp v with v | v
        · rcases Bool.or_eq_true_iff.mp v with v | v
          · exact .inl (of_decide_eq_true v)
          · exact .inr (.inl (of_decide_eq_true v))
        · exact .inr (.inr (of_decide_eq_true v))
      obtain ⟨a1, a2⟩ := okN_ok h6
      obtain ⟨b1, b2⟩ := okN_ok h7
      exact pss_cons (ps_ost (pe_var (by rw [hN]; exact of_decide_eq_true h2) (vis h4) a1 a2) (pe_var (by rw [hN]; exact of_decide_eq_true h3) (vis h5) b1 b2)) (ih h8)
    · cases h
end
theorem upd_comm {H : Hp} {a b : Addr} {o u : HO} (h : a ≠ b) : upd (upd H a o) b u = upd (upd H b u) a o := by
  funext c
  by_cases q : c = a
  · subst q; rw [upd_ne h, upd_same, upd_same]
  · by_cases q2 : c = b
    · subst q2; rw [upd_same, upd_ne q, upd_same]
    · rw [upd_ne q2, upd_ne q, upd_ne q, upd_ne q2]
/-- further fields -/
theorem ini_more {K : PySem.W.Frag} {a C d : Addr} (T : OexC K C) {σ : L2.St} {D : Ends} : ∀ {fs : List Str} {i : Nat} {args : List V} {gs : List (Str × V)} {H : Hp}, (∀ f ∈ fs, PySem.W.findIn K (.ref C) f = some none) → σ[0]? = some (some (.ref a)) → (∀ (j : Nat) (v : V), args[j]? = some v → σ[i + j]? = some (some v)) → args.length = fs.length →
    H a = some (exo a C (some d)) → H d = some (exd d gs) → d ≠ a → gs.length + fs.length ≤ 900 → D.nx σ (upd H d (exd d ((fs.zip args).reverse ++ gs))) → tIniR K fs i D σ H
  | [], i, args, gs, H, hf, h0, ha, hl, ea, ed, hd, hz, q => by
    have e : upd H d (exd d (((([] : List Str).zip args).reverse) ++ gs)) = H := by
      funext c
      by_cases z : c = d
      · subst z; rw [upd_same, ed]; simp
      · rw [upd_ne z]
    rw [e] at q
    exact q
  | f :: fs, i, [], gs, H, hf, h0, ha, hl, ea, ed, hd, hz, q => by cases hl
  | f :: fs, i, v :: args, gs, H, hf, h0, ha, hl, ea, ed, hd, hz, q => by
    refine ⟨v, ha 0 v rfl, .ref a, h0, a, C, rfl, T, hf f (by simp), .inr ⟨d, gs, ea, ed, by simp at hz; omega, ?_⟩⟩
    refine ini_more T (gs := (f, v) :: gs) (fun g hg => hf g (List.mem_cons_of_mem _ hg)) h0 (fun j u hj => ?_) (by simpa using hl) (by rw [upd_ne (Ne.symm hd)]; exact ea) upd_same hd (by simp at hz ⊢; omega) ?_
    · have := ha (j + 1) u (by simpa using hj)
      rw [show i + 1 + j = i + (j + 1) by omega]
      exact this
    · rw [upd_upd]
      simpa using q
/-- what such an __init__ does -/
def spI (C : Addr) (names : List Str) : Sp := fun vs H Q _ => ∃ a args, vs = V.ref a :: args ∧ args.length = names.length ∧ H a = some (exo a C none) ∧ ∀ d, H d = none → d ≠ a → Q .non (upd (upd H d (exd d (mkfs names args))) a (exo a C (some d)))
structure IniC (K : PySem.W.Frag) (mg : Str → Option Value) (C : Addr) (ps names : List Str) (fI : Addr) (fd : FuncData) : Prop where
  oex : OexC K C
  ini : PySem.W.findIn K (.ref C) "__init__" = some (some (.ref fI))
  ty : PySem.W.typeIn K (.ref fI) = some (.type "function")
  fn : ∃ oc od osl nm qual params body scope dV kV doc pm an cdv ct L B B0 s0, fd = PySem.W.fnOf nm qual params body scope dV kV doc pm an cdv ct ∧ K.lookup fI = some ⟨oc, od, .func fd, osl⟩ ∧ PySem.W.codeIn K cdv qual = true ∧ FnScope L (s0 :: ps) scope ∧ L = s0 :: ps ∧ simpleP (s0 :: ps) params = true ∧ dV = .none ∧ iniB L scope B names body = true ∧ BaseC K mg B B0
  len : ps.length = names.length
  nd : names.Nodup
  no : ∀ f ∈ names, PySem.W.findIn K (.ref C) f = some none
theorem ini_fn {Pr : Program} {w : World} {K : PySem.W.Frag} {mg : Str → Option Value} {base : Heap} {C fI : Addr} {ps names : List Str} {fd : FuncData} (T : IniC K mg C ps names fI fd) :
    ∃ s0, FnOk Pr w K mg base (L2.CX Pr w) 1 fI fd (s0 :: ps) (spI C names) ∧ simpleP (s0 :: ps) fd.params = true ∧ fd.defaults = .none ∧ (s0 :: ps).Nodup := by
  obtain ⟨oc, od, osl, nm, qual, params, body, scope, dV, kV, doc, pm, an, cdv, ct, L, B, B0, s0, rfl, lk, hcd, S, hL, sp, rfl, hb, hB⟩ := T.fn
  have nd : (s0 :: ps).Nodup := by rw [← hL]; exact S.nd
  refine ⟨s0, fn_of lk hcd S (fun vs H Q E h => ?_) (fun A outer s H vs Q E hr h => ?_), sp, rfl, nd⟩
  · obtain ⟨a, args, rfl, hl, _⟩ := h
    simp [hl, T.len]
  · obtain ⟨a, args, rfl, hl, ea, q⟩ := h
    generalize hX : cxOf (L2.CX Pr w) Pr w K mg base L qual scope fI cdv A outer s H E = X
    have hN : X.N = L := by rw [← hX]; rfl
    have hs : X.env.scope = scope := by rw [← hX]; rfl
    have hK : X.K = K := by rw [← hX]; rfl
    have hm : X.mg = mg := by rw [← hX]; rfl
    unfold iniB at hb
    split at hb
    · rename_i b p1 m p2 s p3 t j p4 p5 p6 r
      obtain ⟨hb, h9⟩ := and2 hb
      obtain ⟨hb, h8⟩ := and2 hb
      obtain ⟨hb, h7⟩ := and2 hb
      obtain ⟨hb, h6⟩ := and2 hb
      obtain ⟨hb, h5⟩ := and2 hb
      obtain ⟨hb, h4⟩ := and2 hb
      obtain ⟨hb, h3⟩ := and2 hb
      obtain ⟨hb, h2⟩ := and2 hb
      obtain ⟨h0, h1⟩ := and2 hb
      have e := of_decide_eq_true h1
      subst e
      have e := of_decide_eq_true h2
      subst e
      have h9 := of_decide_eq_true h9
      obtain ⟨a1, a2⟩ := okN_ok h6
      have gl : Gl X b := by
        have e := of_decide_eq_true h3
        rw [← hs] at e
        exact e
      have vis : Vis X.env.scope s := by
        rw [hs]
        rcases Bool.or_eq_true_iff.mp h5 with v | v
        · rcases Bool.or_eq_true_iff.mp v with v | v
          · exact .inl (of_decide_eq_true v)
          · exact .inr (.inl (of_decide_eq_true v))
        · exact .inr (.inr (of_decide_eq_true v))
      have pv : PE X (.Name s p3) (tVar 0) := pe_var (by rw [hN]; exact of_decide_eq_true h4) vis a1 a2
      have st : ∀ {z : Expr} {zs : List Expr}, noStar z = true → starEach (z :: zs) X.env = (false, eval z X.env) :: starEach zs X.env := fun h => star_of h
      have pc := pe_binit (X := X) (e := .Name s p3) (es := [.Constant (.str t) j p4]) (ta := tCons (tVar 0) (tCons (tC (.str t)) tNil)) (p1 := p1) (p2 := p2) (pos := p5) (hK ▸ hm ▸ hB) gl (pa_cons pv (pa_cons pe_str pa_nil (st rfl)) (st rfl)) (st rfl) (plain_of rfl) (icall h0)
      refine ⟨_, pss_cons (ps_expr (pos := p6) pc) (ini_rest hN hs h7), ?_⟩
      have hlen : L.length = args.length + 1 := by rw [hL, List.length_cons, T.len, hl]
      have e0 : (L2.start L (V.ref a :: args))[0]? = some (some (.ref a)) := rfl
      have e1 : ∀ (j : Nat) (v : V), args[j]? = some v → (L2.start L (V.ref a :: args))[1 + j]? = some (some v) := fun j v hj => by
        have hj' := (List.getElem?_eq_some_iff.mp hj).1
        unfold L2.start
        rw [List.getElem?_append_left (by simp; omega), List.getElem?_map, show 1 + j = j + 1 by omega]
        simp [hj]
      unfold tSeq tDrop tVeI
      refine ⟨.ref a, e0, ?_⟩
      refine ⟨a, C, [.str t], rfl, by simp, hK ▸ T.oex, ea, ?_⟩
      rw [hK]
      cases names with
      | nil => cases h8
      | cons f fs =>
        cases args with
        | nil => cases hl
        | cons v args =>
          refine ⟨v, e1 0 v rfl, .ref a, e0, a, C, rfl, T.oex, T.no f (by simp), .inl ⟨ea, fun d hd hda => ?_⟩⟩
          refine ini_more T.oex (d := d) (gs := [(f, v)]) (args := args) (fun g hg => T.no g (List.mem_cons_of_mem _ hg)) e0 (fun j u hj => by
            have := e1 (j + 1) u (by simpa using hj)
            rw [show 1 + 1 + j = 1 + (j + 1) by omega]
            exact this) (by simpa using hl) upd_same (by rw [upd_ne hda]; exact upd_same) hda (by simp at h9 ⊢; omega) ?_
          have := q d hd hda
          show Q .non _
          rw [upd_comm (Ne.symm hda), upd_upd]
          have em : (fs.zip args).reverse ++ [(f, v)] = mkfs (f :: fs) (v :: args) := by simp [mkfs]
          rw [em]
          exact this
    · cases hb
end G

set_option maxHeartbeats 4000000
/-! raise, by values. -/
namespace G
open PySem PySem.Spec PyProof.Rows L2

def selfP : List Nat → List Nat
  | [] => []
  | is => 0 :: is.map (· + 1)
theorem selfP_ok {ps ks : List Str} {n : Nat} {perm : List Nat} {s0 : Str} (h : permOk ps n ks perm = true) : permOk (s0 :: ps) (n + 1) ks (selfP perm) = true := by
  unfold permOk at h ⊢
  cases e : ks.isEmpty with
  | true =>
    rw [e, if_pos rfl] at h
    obtain ⟨h1, h2⟩ := and2 h
    obtain rfl : perm = [] := List.isEmpty_iff.mp h1
    have h2 := of_decide_eq_true h2
    rw [if_pos rfl]
    simp [selfP, h2]
  | false =>
    rw [e, if_neg Bool.false_ne_true] at h
    obtain ⟨h, h5⟩ := and2 h
    obtain ⟨h, h6⟩ := and2 h
    obtain ⟨h, h4⟩ := and2 h
    obtain ⟨h, h3⟩ := and2 h
    obtain ⟨h1, h2⟩ := and2 h
    have h1 := of_decide_eq_true h1
    have h2 := of_decide_eq_true h2
    have h5 := of_decide_eq_true h5
    have ne : ks ≠ [] := fun q => by rw [q] at e; cases e
    have kl := List.length_pos_iff.mpr ne
    rw [if_neg Bool.false_ne_true]
    have pne : perm ≠ [] := fun q => by
      rw [h5] at q
      have := congrArg List.length q
      simp at this
      omega
    have sp : selfP perm = 0 :: perm.map (· + 1) := by
      cases perm with
      | nil => exact absurd rfl pne
      | cons _ _ => rfl
    have e5 : selfP perm = List.range (n + 1) ++ ((s0 :: ps).drop (n + 1)).map fun p => n + 1 + ks.idxOf p := by
      rw [sp, h5, List.range_succ_eq_map]
      rw [List.map_append, List.map_map, List.cons_append, List.drop_succ_cons]
      congr 2
      refine List.map_congr_left fun p _ => ?_
      show n + ks.idxOf p + 1 = n + 1 + ks.idxOf p
      omega
    simp only [List.drop_succ_cons] at *
    rw [h3, h4, h6, decide_eq_true e5]
    simp
    omega
theorem selfP_get {α : Type} {d a : α} {xs : List α} (perm : List Nat) : permG d (a :: xs) (selfP perm) = a :: permG d xs perm := by
  cases perm with
  | nil => rfl
  | cons i is =>
    rw [show selfP (i :: is) = 0 :: (i :: is).map (· + 1) from rfl, permG_cons (by simp), permG_cons (by simp)]
    simp [List.map_map, Function.comp_def]
/-- what the head says of an exception's class -/
structure XFact (K : PySem.W.Frag) (mg : Str → Option Value) (N : Nam) (x : Str) (c : Nat) (ps : List Str) (flds : List Nat) : Prop where
  mgx : mg x = some (.ref (N.cA c))
  db : (x == ("__debug__" : Str)) = false
  ini : ∃ fI fd, IniC K mg (N.cA c) ps (flds.map N.at_) fI fd
section
variable {X : Cx} {P : Prog} {C : Calls} {N : Nam} {Wx : WX} {Γ : Tab}
theorem ps_raiseX {x : Str} {c : Nat} {ps : List Str} {k : ClsDef} {as ks : List Ex} {perm : List Nat} {es : List Expr} {kws : List Keyword} {p pos pos' : Pos} {n : Nat} (hr : Room (n + 2) X.A) (hc : X.calm = true) (tk : Takes X Wx) (hk : P.cls c = some k) (T : XFact X.K X.mg N x c ps k.flds) (gl : Gl X x)
    (hp : permOk ps as.length (kws.filterMap (·.arg)) perm = true) (hka : kws.all (·.arg.isSome) = true) (hes : es.all noStar = true) (hl : es.length = as.length) (hlk : kws.length = ks.length) (ha9 : as.length ≤ 900) (hk9 : ks.length ≤ 90) (pa : PA X es (tEs P C N X.K Wx as)) (pk : PK X kws (tEs P C N X.K Wx ks)) :
    PS X (.Raise (some (.Call (.Name x p) es kws pos)) none pos') (tS P C N X.K Wx (.raise c as ks perm)) := by
  obtain ⟨fI, fd, IC⟩ := T.ini
  obtain ⟨s0, F1, sp, df, nd⟩ := ini_fn (Pr := X.prog) (w := X.w) (base := X.base) IC
  obtain ⟨k1, k2, k3, k4⟩ := kw_of (env := X.env) (pos := pos) hka
  let Z : List V → List V → Hp → XK → Prop := fun vs zs H2 Q => vs.length = as.length ∧ zs.length = ks.length ∧ ∀ d, H2 d = none → Q (.ref (N.cA c)) (some d) (upd H2 d (.xd (mkfs (k.flds.map N.at_) (permG .non (vs ++ zs) perm))))
  let t : L2.St → Hp → XK → Prop := fun σ H Q => tEs P C N X.K Wx as σ H fun vs H1 => tEs P C N X.K Wx ks σ H1 fun zs H2 => Z vs zs H2 Q
  have mk : PMk X (.Call (.Name x p) es kws pos) t := by
    intro pins s σ H Q I h
    refine wpAny_Call_Name_kw (ld_glob I gl T.mgx ?_ T.db)
    obtain ⟨nm, qn, Na, bs, bm, sn, sub, ab, col, dd, q0, q1, q2, q3, q5, hC, hbm⟩ := IC.oex.cls
    have fin : ∀ {s1 : Shared} {H1 : Hp} {vs zs : List V} {us ws : List Value}, L2.Inv X pins σ H1 s1 → Vals vs us → Vals zs ws → Z vs zs H1 Q →
        wpAny (model X.prog X.w) X.A (call (.ref (N.cA c)) us ((kws.filterMap (·.arg)).zip ws)) (MkP X pins σ Q) X.xe s1 := fun {s1 H1 vs zs us ws} I1 rv rz z => by
      obtain ⟨l1, l2, q1⟩ := z
      have lu : us.length = as.length := by rw [← rv.length, l1]
      have lw : ws.length = (kws.filterMap (·.arg)).length := by rw [← rz.length, l2, k4, hlk]
      obtain ⟨hp1, g, dr, tk1, os⟩ := s1
      have hsz : hp1.objs.size ≤ hp1.objs.size + 1 := Nat.le_succ _
      have hn : H1 (hp1.objs.size + 1) = none := I1.hok.fresh hsz
      have kk : ∀ b o, hp1.get? b = some o → ((hp1.push (PySem.W.kdv_tup us)).push (PySem.HandSPX.excO (N.cA c) hp1.objs.size)).get? b = some o := fun b o e =>
        Heap.get?_push_of_some _ (Heap.get?_push_of_some _ e)
      have hget : ((hp1.push (PySem.W.kdv_tup us)).push (PySem.HandSPX.excO (N.cA c) hp1.objs.size)).get? (hp1.objs.size + 1) = some (PySem.HandSPX.excO (N.cA c) hp1.objs.size) := by
        heap_get
      have I2 := I1.laid (t' := tk1) (a := hp1.objs.size + 1) (o := exo (hp1.objs.size + 1) (N.cA c) none) kk hsz (exo_ok hget)
      have hp' := selfP_ok (s0 := s0) hp
      rw [← lu] at hp'
      have hp'' : permOk (s0 :: ps) (Value.ref (hp1.objs.size + 1) :: us).length (kws.filterMap (·.arg)) (selfP perm) = true := hp'
      have bd := bind_simple (us := Value.ref (hp1.objs.size + 1) :: us) (ws := ws) sp df nd hp'' lw
      have ll := (bound nd hp'' lw).2.2.2
      have r2 : Vals (V.ref (hp1.objs.size + 1) :: permG .non (vs ++ zs) perm) (permG .none ((Value.ref (hp1.objs.size + 1) :: us) ++ ws) (selfP perm)) := by
        rw [List.cons_append, selfP_get]
        exact .cons rfl (Vals.perm (rv.append rz) perm)
      have al : (permG V.non (vs ++ zs) perm).length = (k.flds.map N.at_).length := by
        have e := r2.length
        rw [ll, List.length_cons, List.length_cons] at e
        rw [← IC.len]
        omega
      have hus : us.length ≤ sizeLine := by
        rw [lu, sizeLine_eq]
        omega
      have spq : spI (N.cA c) (k.flds.map N.at_) (V.ref (hp1.objs.size + 1) :: permG .non (vs ++ zs) perm) (upd H1 (hp1.objs.size + 1) (exo (hp1.objs.size + 1) (N.cA c) none))
          (fun v H2 => v = .non ∧ ∃ (d : Addr) (fs : List (Str × V)), H2 (hp1.objs.size + 1) = some (exo (hp1.objs.size + 1) (N.cA c) (some d)) ∧ H2 d = some (exd d fs) ∧ H1 d = none ∧ Q (.ref (N.cA c)) (some d) (upd (del H2 (hp1.objs.size + 1)) d (.xd fs))) (fun _ _ _ => False) := by
        refine ⟨_, _, rfl, al, upd_same, fun d hd hda => ⟨rfl, d, mkfs (k.flds.map N.at_) (permG .non (vs ++ zs) perm), upd_same, ?_, ?_, ?_⟩⟩
        · rw [upd_ne hda, upd_same]
        · rw [upd_ne hda] at hd; exact hd
        · have hd1 : H1 d = none := by rw [upd_ne hda] at hd; exact hd
          have e : upd (del (upd (upd (upd H1 (hp1.objs.size + 1) (exo (hp1.objs.size + 1) (N.cA c) none)) d (exd d (mkfs (k.flds.map N.at_) (permG .non (vs ++ zs) perm)))) (hp1.objs.size + 1) (exo (hp1.objs.size + 1) (N.cA c) (some d))) (hp1.objs.size + 1)) d (.xd (mkfs (k.flds.map N.at_) (permG .non (vs ++ zs) perm))) =
              upd H1 d (.xd (mkfs (k.flds.map N.at_) (permG .non (vs ++ zs) perm))) := by
            funext b
            by_cases zb : b = d
            · subst zb; rw [upd_same, upd_same]
            · rw [upd_ne zb, upd_ne zb]
              by_cases za : b = hp1.objs.size + 1
              · rw [za, del_same, hn]
              · rw [del_ne za, upd_ne za, upd_ne zb, upd_ne za]
          rw [e]
          exact q1 d hd1
      refine wpAny_call (PySem.GK.call_kw F.excBase_ValueError (fun Y => PySem.HandSPX.refsVE_contains Y bm hbm) (I1.kIn _ _ hC) (PySem.W.looks_findIn I1.kIn IC.ini) (fun me => PySem.W.bind_fn I1.kIn me IC.ty) hus
        (codeAny_mono (F1.run _ X.stack _ _ ⟨Value.ref (hp1.objs.size + 1) :: us, (kws.filterMap (·.arg)).zip ws⟩ _ _ _ (fun _ _ _ => False) ((hr.mono (by omega : 2 ≤ n + 2)).make (N.cA c) us _) (I2.env0.make (N.cA c) us _) (BindsTo.of_eq bd) r2 spq) fun r s' hq' => ?_))
      cases r with
      | error er =>
        exact tk er s' (XE.of_call I2 (fun _ _ _ z => z.elim) hq')
      | ok fl =>
        cases fl with
        | ret u =>
          obtain ⟨v, H2, os2, bare2, un2, hok2, rvv, ev, d, fs, ea, ed, hd1, qq⟩ := hq'
          subst ev
          obtain ⟨h2, g2, d2, t2, os'⟩ := s'
          exact ⟨rvv, mk_end (raises_own IC.oex.exC IC.oex.tyC) I1 hsz kk un2 hok2 os2 bare2 ea ed hd1 qq⟩
        | next => exact False.elim hq'
        | brk => exact False.elim hq'
        | cont => exact False.elim hq'
    cases es with
    | nil =>
      refine PySem.W.callWith_KW0 (h₀ := X.base) I.ok.mod.kin IC.oex.kC k1 ?_ (by rw [k3]; rfl)
      have e0 : as = [] := List.length_eq_zero_iff.mp hl.symm
      subst e0
      obtain ⟨env', m', M', F', s', h'⟩ := h
      have h' := ERes.now (a := []) (b := ([] : List V)) h' s' ⟨trivial, rfl⟩
      refine thn (pk.run pos pins s σ H _ I h') fun ws s2 ⟨zs, H2, I2, rz, z⟩ => ⟨I2.kIn, ?_⟩
      rw [k2]
      exact fin I2 .nil rz z
    | cons e es =>
      obtain ⟨e1, e2⟩ := and2 (show (noStar e && es.all noStar) = true from hes)
      refine PySem.W.callWith_KW (h₀ := X.base) I.ok.mod.kin IC.oex.kC k1 (thn (pa.run pos pins s σ H _ I h) fun us s1 ⟨vs, H1, I1, r, q⟩ => ?_) (by rw [k3, plain_of hes]; rfl) (star_of e1)
      refine thn (pk.run pos pins s1 σ H1 _ I1 q) fun ws s2 ⟨zs, H2, I2, rz, z⟩ => ⟨I2.kIn, ?_⟩
      rw [k2]
      exact fin I2 r rz z
  have rs := ps_raise (pos := pos') hc tk mk
  refine ⟨fun pins s σ H D I h => rs.run pins s σ H D I ?_⟩
  obtain ⟨env, m, M, F, sm, h⟩ := h
  have h : SRes N X.K Wx D m F ((evs P C as env M).st env fun ws M => (evs P C ks env M).st env fun us M => match P.cls c, W.pures (permW (ws ++ us) perm) with
    | some k, some vs => if k.flds.length = vs.length ∧ k.isX = true then .exc c k.flds vs env M else .bad
    | _, _ => .bad) := h
  refine ⟨env, m, M, F, sm, ?_⟩
  cases e1 : evs P C as env M with
  | bad => rw [e1] at h; exact h
  | exc c' ns vs M' =>
    rw [e1] at h
    exact fun cls d H' m' F' s' g ex => h cls d σ H' m' F' s' g ex
  | ok ws M1 =>
    rw [e1] at h
    intro vs H1 m1 F1' s1 r1 g1
    obtain ⟨r1, l1⟩ := r1
    refine ⟨env, m1, M1, F1', s1, ?_⟩
    have h : SRes N X.K Wx D m F ((evs P C ks env M1).st env fun us M => match P.cls c, W.pures (permW (ws ++ us) perm) with
      | some k, some vs => if k.flds.length = vs.length ∧ k.isX = true then .exc c k.flds vs env M else .bad
      | _, _ => .bad) := h
    cases e2 : evs P C ks env M1 with
    | bad => rw [e2] at h; exact h
    | exc c' ns vs' M' =>
      rw [e2] at h
      exact fun cls d H' m' F' s' g ex => h cls d σ H' m' F' s' (g1.trans g) ex
    | ok us M2 =>
      rw [e2] at h
      intro zs H2 m2 F2 s2 r2 g2
      obtain ⟨r2, l2⟩ := r2
      have h : SRes N X.K Wx D m F (match P.cls c, W.pures (permW (ws ++ us) perm) with
        | some k, some vs => if k.flds.length = vs.length ∧ k.isX = true then .exc c k.flds vs env M2 else .bad
        | _, _ => .bad) := h
      rw [hk] at h
      refine ⟨by rw [← r1.length, l1], by rw [← r2.length, l2], fun d hd => ?_⟩
      cases e3 : W.pures (permW (ws ++ us) perm) with
      | none => rw [e3] at h; exact h.elim
      | some ds =>
        rw [e3] at h
        have h : SRes N X.K Wx D m F (if k.flds.length = ds.length ∧ k.isX = true then .exc c k.flds ds env M2 else .bad) := h
        by_cases cd : k.flds.length = ds.length ∧ k.isX = true
        · rw [if_pos cd] at h
          obtain ⟨s3, g3⟩ := s2.mem.new (o := .xd (mkfs (k.flds.map N.at_) (permG .non (vs ++ zs) perm))) hd
          have rr : Reps N X.K F2 ds (permG .non (vs ++ zs) perm) := (RepWs.perm (RepWs.append (RepWs.mono g2.x _ _ r1) r2) perm).pures e3
          refine h (.ref (N.cA c)) (some d) σ _ m2 _ (s2.to s3 g3.x) ((g1.trans g2).trans g3) ⟨rfl, d, _, rfl, upd_same, ?_⟩
          refine repF_of (Reps.mono g3.ex _ _ rr) cd.1 fun i n v h1 h2 => ?_
          exact mkfs_look IC.nd (by rw [← rr.length, List.length_map, cd.1]) (by rw [List.getElem?_map, h1]; rfl) h2
        · rw [if_neg cd] at h; exact h.elim
end
end G

set_option maxHeartbeats 4000000
/-! Instances made, their methods called. -/
namespace G
open PySem PySem.Spec PyProof.Rows L2
section
variable {N : Nam} {K : PySem.W.Frag} {m : List Addr} {M : Mem} {F : Fx} {H : Hp}
/-- an object of no concern -/
theorem SimM.aside {p : Addr} {o : HO} (s : SimM N K m M F H) (hp : H p = none) : SimM N K m M F (upd H p o) := by
  have fp : F.g p = none := apart_none s hp
  exact (s.hold (o := o) hp).less fun a u h => by
    have na : a ≠ p := fun q => by rw [q, fp] at h; cases h
    show upd F.g p o a = some u
    rw [upd_ne na]; exact h
end
theorem stars_not {env : PySem.Env} {pos : Pos} : ∀ {es : List Expr}, es.all noStar = true → (backTo pos (starEach es env)).all (!·.1) = true ∧ (backTo pos (starEach es env)).length = es.length
  | [], _ => ⟨rfl, rfl⟩
  | e :: es, h => by
    obtain ⟨h1, h2⟩ := and2 (show (noStar e && es.all noStar) = true from h)
    obtain ⟨a, b⟩ := stars_not (env := env) (pos := pos) h2
    rw [star_of h1]
    refine ⟨?_, ?_⟩
    · show (true && (backTo pos (starEach es env)).all (!·.1)) = true
      rw [a]; rfl
    · show (backTo pos (starEach es env)).length + 1 = es.length + 1
      rw [b]
theorem ocall {env : PySem.Env} {o : Expr} {m : Str} {es : List Expr} {ap pos : Pos} (hs : noSup o = true) (hes : es.all noStar = true) (hn : es.length ≤ 20) (hl : (ap.endLine == pos.line) = true) :
    eval (.Call (.Attribute o m ap) es [] pos) env = (do
      let ov ← eval o env
      standAt ap.atName
      let (f, first) ← holding [ov] (getMethod ov m (do return (← importBound o env).getD true))
      callWith pos f first (backTo pos (starEach es env)) (backToKw pos (keywordEach [] env))) := by
  have e1 : methodCallPos true o env ap pos = pure pos := by
    unfold methodCallPos
    rw [hl]
    rfl
  have e2 : methodCallForm (es.length + ([] : List Keyword).length) (backTo pos (starEach es env)) (backToKw pos (keywordEach [] env)) = true := by
    unfold methodCallForm
    rw [(stars_not hes).1]
    show (true && true && decide (es.length + 0 + 0 < 30)) = true
    rw [decide_eq_true (by omega)]; rfl
  show (attributeBase o m env (eval o env) >>= fun ov => standAt ap.atName >>= fun _ => methodCall o m ap pos env ov (es.length + ([] : List Keyword).length) (backTo pos (starEach es env)) (backToKw pos (keywordEach [] env))) = _
  rw [sup_of hs]
  unfold methodCall
  rw [e2, e1]
  simp only [pure_bind]
  rfl
section
variable {Γ : Tab} {P : Prog} {C : Calls} {N : Nam} {n : Nat} {X : Cx}
theorem mc_ok (tc : TieC P N X.K) (tn : TieN Γ P N X.K X.mg) (hr : Room n X.A) (hg : X.A.guards = some []) (fg : FG Γ P C N n X) (Wx : WX) (tk : Takes X Wx) (c : Nat) (m : Str) (f : Nat) (o : Ex) (as : List Ex) (l : Expr) (es : List Expr) (ap p : Pos)
    (hm : Γ.mt.lookup (c, m) = some (f, as.length)) (po : PE X l (tE P C N X.K Wx o)) (hs : noSup l = true) (hes : es.all noStar = true) (hl : es.length = as.length) (h20 : as.length ≤ 20) (hln : (ap.endLine == p.line) = true) (pa : PA X es (tEs P C N X.K Wx as)) :
    PE X (.Call (.Attribute l m ap) es [] p) (tE P C N X.K Wx (.mc c f o as)) := by
  obtain ⟨MT, ⟨k, hk, hx⟩, hno, ps, hfp, hlen⟩ := tn.mt c m f _ hm
  obtain ⟨fd, ff, G⟩ := fg f ps hfp
  have cls := (tc.own c k hk hx).1
  refine ⟨fun pins s σ H Q I h => ?_⟩
  obtain ⟨env, m0, M, F, sm, h⟩ := h
  replace h : ERes N X.K (RW N X.K) Wx Q σ env m0 F ((ev P C o env M).bind fun x M => if insB P M c x then (evs P C as env M).bind fun ws M => C f (x :: ws) M else .bad) := h
  let Z : V → Hp → Prop := fun x H1 => ∃ m M F w, Sim N X.K σ env m M F H1 ∧ RepW N X.K F m w x ∧ insB P M c w = true ∧ ERes N X.K (RW N X.K) Wx Q σ env m F ((evs P C as env M).bind fun ws M => C f (w :: ws) M)
  have st : tE P C N X.K Wx o σ H Z := tE.of sm h fun x H1 m1 F1 w1 M1 s1 r1 g1 h1 => by
    split at h1
    · rename_i hi
      exact ⟨m1, M1, F1, w1, s1, r1, hi, h1⟩
    · exact h1.elim
  refine PySem.W.methodCall_KW (thn (po.run pins s σ H _ I st) fun u s1 ⟨x, H1, I1, rx, z⟩ => ?_) (ocall hs hes (by omega) hln)
  obtain ⟨m1, M1, F1, w1, s1', r1, hi, h1⟩ := z
  obtain ⟨a, dx, fs, ns, rfl, ea, fo, hns⟩ := insB_at s1'.mem r1 hi
  cases rx
  refine getmeth_ok I1 ea cls MT (no_attr hno fo hns) ?_
  have fin : ∀ {s2 : Shared} {H2 : Hp} {vs : List V} {us : List Value}, L2.Inv X pins σ H2 s2 → Vals vs us → (vs.length = as.length ∧ ∃ m M F ws, Sim N X.K σ env m M F H2 ∧ RepWs N X.K F m ws vs ∧ RepW N X.K F m w1 (.ref a) ∧ ERes N X.K (RW N X.K) Wx Q σ env m F (C f (w1 :: ws) M)) →
      wpAny (model X.prog X.w) X.A (call (.ref (N.fA f)) (.ref a :: us)) (EP X pins σ Q) X.xe s2 := fun {s2 H2 vs us} I2 rv z => by
    obtain ⟨l1, m2, M2, F2, ws, s2', r2, ra, h2⟩ := z
    have rr : Vals (V.ref a :: vs) (Value.ref a :: us) := .cons rfl rv
    have lu : (Value.ref a :: us).length = ps.length := by rw [hlen, ← rr.length, List.length_cons, l1]
    refine run_G G hr hg I2.env0 I2 (bind_pos ff lu) rr ⟨by rw [rr.length, lu], m2, M2, F2, w1 :: ws, s2'.mem, ⟨ra, r2⟩, ERes.fres s2' h2⟩ fun e s' hq => tk e s' (XE.of_call I2 (fun _ _ _ h => h) hq)
  have sts : tEs P C N X.K Wx as σ H1 fun vs H2 => vs.length = as.length ∧ ∃ m M F ws, Sim N X.K σ env m M F H2 ∧ RepWs N X.K F m ws vs ∧ RepW N X.K F m w1 (.ref a) ∧ ERes N X.K (RW N X.K) Wx Q σ env m F (C f (w1 :: ws) M) :=
    tEs.of s1' h1 (fun _ _ => evs_len) fun vs H2 m2 F2 ws M2 s2 r2 l2 g2 h2 => ⟨by rw [← r2.length, l2], m2, M2, F2, ws, s2, r2, RepW.mono g2.x _ _ r1, h2⟩
  cases es with
  | nil =>
    have e0 : as = [] := List.length_eq_zero_iff.mp hl.symm
    subst e0
    obtain ⟨env', m', M', F', s', h'⟩ := sts
    have h' := ERes.now (a := []) (b := ([] : List V)) h' s' ⟨trivial, rfl⟩
    exact PySem.W.callWith_K0 (first := [.ref a]) I1.kIn MT.kp (fin I1 .nil h')
  | cons e es =>
    obtain ⟨e1, e2⟩ := and2 (show (noStar e && es.all noStar) = true from hes)
    refine PySem.W.callWith_K (first := [.ref a]) (h₀ := X.base) I.ok.mod.kin MT.kp (thn (pa.run p pins s1 σ H1 _ I1 sts) fun us s2 ⟨vs, H2, I2, r, q2⟩ => ⟨I2.kIn, ?_⟩) (star_of e1) (plain_of e2)
    exact fin I2 r q2
theorem sc_ok (tn : TieN Γ P N X.K X.mg) (hr : Room n X.A) (hg : X.A.guards = some []) (fg : FG Γ P C N n X) (Wx : WX) (tk : Takes X Wx) (x m : Str) (c f : Nat) (as : List Ex) (es : List Expr) (np ap p : Pos)
    (hm : Γ.sm.lookup (x, m) = some (c, f, as.length)) (gl : Gl X x) (hes : es.all noStar = true) (hl : es.length = as.length) (h20 : as.length ≤ 20) (hpos : 0 < as.length) (hln : (ap.endLine == p.line) = true) (pa : PA X es (tEs P C N X.K Wx as)) :
    PE X (.Call (.Attribute (.Name x np) m ap) es [] p) (tE P C N X.K Wx (.scl c f as)) := by
  obtain ⟨mgx, dbx, ty, rdx, ga, kp, hd, q, rest, fc, rc, ps, hfp, hlen⟩ := tn.sm x m c f _ hm
  obtain ⟨fd, ff, G⟩ := fg f ps hfp
  refine ⟨fun pins s σ H Q I h => ?_⟩
  refine PySem.W.methodCall_KW (ld_glob I gl mgx ?_ dbx) (ocall rfl hes (by omega) hln)
  obtain ⟨mf, fr⟩ := I.fr
  refine PySem.W.method_of_cls fr I.ok.mod.kin ga (PySem.W.cls_sm fr I.ok.mod.kin ty rdx fc rc hd ?_)
  obtain ⟨env, m0, M, F, sm, h⟩ := h
  replace h : ERes N X.K (RW N X.K) Wx Q σ env m0 F ((evs P C as env M).bind fun ws M => C f ws M) := h
  have sts : tEs P C N X.K Wx as σ H fun vs H2 => vs.length = as.length ∧ ∃ m M F ws, Sim N X.K σ env m M F H2 ∧ RepWs N X.K F m ws vs ∧ ERes N X.K (RW N X.K) Wx Q σ env m F (C f ws M) :=
    tEs.of sm h (fun _ _ => evs_len) fun vs H2 m2 F2 ws M2 s2 r2 l2 g2 h2 => ⟨by rw [← r2.length, l2], m2, M2, F2, ws, s2, r2, h2⟩
  cases es with
  | nil => exact absurd hl (by simp; omega)
  | cons e es =>
    obtain ⟨e1, e2⟩ := and2 (show (noStar e && es.all noStar) = true from hes)
    refine PySem.W.callWith_K (first := []) (h₀ := X.base) I.ok.mod.kin kp (thn (pa.run p pins _ σ H _ (I.tok _) sts) fun us s2 ⟨vs, H2, I2, r, q2⟩ => ⟨I2.kIn, ?_⟩) (star_of e1) (plain_of e2)
    obtain ⟨l1, m2, M2, F2, ws, s2', r2, h2⟩ := q2
    have lu : us.length = ps.length := by rw [hlen, ← r.length, l1]
    exact run_G G hr hg I2.env0 I2 (bind_pos ff lu) r ⟨by rw [r.length, lu], m2, M2, F2, ws, s2'.mem, r2, ERes.fres s2' h2⟩ fun e s' hq => tk e s' (XE.of_call I2 (fun _ _ _ h => h) hq)
theorem nw_ok (tn : TieN Γ P N X.K X.mg) (hr : Room (n + 1) X.A) (hg : X.A.guards = some []) (fg : FG Γ P C N n X) (Wx : WX) (tk : Takes X Wx) (x : Str) (c f : Nat) (ps : List Str) (as ks : List Ex) (perm : List Nat) (es : List Expr) (kws : List Keyword) (p pos : Pos)
    (hf : Γ.nw.lookup x = some (c, f, ps)) (gl : Gl X x) (hp : permOk ps as.length (kws.filterMap (·.arg)) perm = true) (hka : kws.all (·.arg.isSome) = true) (hes : es.all noStar = true) (hl : es.length = as.length) (hlk : kws.length = ks.length)
    (pa : PA X es (tEs P C N X.K Wx as)) (pk : PK X kws (tEs P C N X.K Wx ks)) : PE X (.Call (.Name x p) es kws pos) (tE P C N X.K Wx (.new c f as ks perm)) := by
  obtain ⟨mgx, dbx, MK, s0, hfp⟩ := tn.nw x c f ps hf
  obtain ⟨fd, ff, G⟩ := fg f _ hfp
  obtain ⟨k1, k2, k3, k4⟩ := kw_of (env := X.env) (pos := pos) hka
  refine ⟨fun pins s σ H Q I h => ?_⟩
  refine wpAny_Call_Name_kw (ld_glob I gl mgx ?_ dbx)
  obtain ⟨env, m, M, F, sm, h⟩ := h
  replace h : ERes N X.K (RW N X.K) Wx Q σ env m F ((evs P C as env M).bind fun ws M => (evs P C ks env M).bind fun us M => (C f (.loc M.length :: permW (ws ++ us) perm) (M ++ [.ins c [] []])).bind fun w M' => match w with
      | .p .non => .ok (.loc M.length) M'
      | _ => .bad) := h
  let Z : List V → List V → Hp → Prop := fun vs zs H2 => vs.length = as.length ∧ zs.length = ks.length ∧ ∃ m M F ws us, Sim N X.K σ env m M F H2 ∧ RepWs N X.K F m ws vs ∧ RepWs N X.K F m us zs ∧ ERes N X.K (RW N X.K) Wx Q σ env m F ((C f (.loc M.length :: permW (ws ++ us) perm) (M ++ [.ins c [] []])).bind fun w M' => match w with
      | .p .non => .ok (.loc M.length) M'
      | _ => .bad)
  have st : tEs P C N X.K Wx as σ H fun vs H1 => tEs P C N X.K Wx ks σ H1 fun zs H2 => Z vs zs H2 :=
    tEs.of sm h (fun _ _ => evs_len) fun vs H1 m1 F1 ws M1 s1 r1 l1 g1 h1 => tEs.of s1 h1 (fun _ _ => evs_len) fun zs H2 m2 F2 us M2 s2 r2 l2 g2 h2 =>
      ⟨by rw [← r1.length, l1], by rw [← r2.length, l2], m2, M2, F2, ws, us, s2, RepWs.mono g2.x _ _ r1, r2, h2⟩
  have fin : ∀ {s2 : Shared} {H2 : Hp} {vs zs : List V} {us ws : List Value}, L2.Inv X pins σ H2 s2 → Vals vs us → Vals zs ws → Z vs zs H2 →
      wpAny (model X.prog X.w) X.A (call (.ref (N.cA c)) us ((kws.filterMap (·.arg)).zip ws)) (EP X pins σ Q) X.xe s2 := fun {s2 H2 vs zs us ws} I2 rv rz z => by
    obtain ⟨l1, l2, m2, M2, F2, wv, wz, s3, r1, r2, hh⟩ := z
    have lu : us.length = as.length := by rw [← rv.length, l1]
    have lw : ws.length = (kws.filterMap (·.arg)).length := by rw [← rz.length, l2, k4, hlk]
    obtain ⟨ax, hax⟩ : ∃ ax, ax = s2.heap.objs.size + 1 := ⟨_, rfl⟩
    have I3 := Inv.made (C := N.cA c) I2
    have n1 : H2 s2.heap.objs.size = none := I2.hok.fresh (Nat.le_refl _)
    have n2 : H2 (s2.heap.objs.size + 1) = none := I2.hok.fresh (Nat.le_succ _)
    have ne : s2.heap.objs.size + 1 ≠ s2.heap.objs.size := Nat.succ_ne_self _
    have hp' := selfP_ok (s0 := s0) hp
    rw [← lu] at hp'
    have hp'' : permOk (s0 :: ps) (Value.ref (s2.heap.objs.size + 1) :: us).length (kws.filterMap (·.arg)) (selfP perm) = true := hp'
    have bd := bind_simple (us := Value.ref (s2.heap.objs.size + 1) :: us) (ws := ws) ff.simp ff.dfl ff.nd hp'' lw
    have ll := (bound ff.nd hp'' lw).2.2.2
    have rr : Vals (V.ref (s2.heap.objs.size + 1) :: permG .non (vs ++ zs) perm) (permG .none ((Value.ref (s2.heap.objs.size + 1) :: us) ++ ws) (selfP perm)) := by
      rw [List.cons_append, selfP_get]
      exact .cons rfl (Vals.perm (rv.append rz) perm)
    have sA := s3.mem.aside (o := .own (s2.heap.objs.size + 1)) n1
    have n3 : (upd H2 s2.heap.objs.size (.own (s2.heap.objs.size + 1))) (s2.heap.objs.size + 1) = none := by rw [upd_ne ne]; exact n2
    have fz : F2.f (s2.heap.objs.size + 1) = none := by
      cases e : F2.f (s2.heap.objs.size + 1) with
      | none => rfl
      | some u =>
        have z := s3.mem.sub _ _ e
        rw [n2] at z; cases z
    obtain ⟨sB, gB⟩ := sA.alloc (o := .ins (N.cA c) s2.heap.objs.size []) (c := .ins c [] []) n3 ⟨fz, s2.heap.objs.size, [], upd_same, trivial, Nat.le_refl _, fun p hp => absurd hp (by simp)⟩
    have rB : RepWs N X.K F2 (m2 ++ [s2.heap.objs.size + 1]) (.loc M2.length :: permW (wv ++ wz) perm) (V.ref (s2.heap.objs.size + 1) :: permG .non (vs ++ zs) perm) := by
      refine ⟨⟨s2.heap.objs.size + 1, ?_, rfl⟩, RepWs.mono gB.x _ _ (RepWs.perm (RepWs.append r1 r2) perm)⟩
      rw [← s3.mem.len, List.getElem?_append_right (Nat.le_refl _), Nat.sub_self]
      rfl
    have fr : FRes N X.K (fun v H' => v = .non ∧ Q (.ref (s2.heap.objs.size + 1)) H') (fun cls d H' => Wx cls d σ H') (m2 ++ [s2.heap.objs.size + 1]) F2 (C f (.loc M2.length :: permW (wv ++ wz) perm) (M2 ++ [.ins c [] []])) := by
      cases e : C f (.loc M2.length :: permW (wv ++ wz) perm) (M2 ++ [.ins c [] []]) with
      | bad => rw [e] at hh; exact hh
      | exc c' ns vs' M' =>
        rw [e] at hh
        exact fun cls d H' m' F' s' g ex => hh cls d H' m' F' (s3.to s' (gB.trans g).x) (gB.trans g) ex
      | ok w M' =>
        rw [e] at hh
        cases w with
        | p d =>
          cases d with
          | non =>
            intro v H' m' F' s' r g
            refine ⟨r, hh (.ref (s2.heap.objs.size + 1)) H' m' F' (s3.to s' (gB.trans g).x) ⟨s2.heap.objs.size + 1, g.x.at ?_, rfl⟩ (gB.trans g)⟩
            rw [← s3.mem.len, List.getElem?_append_right (Nat.le_refl _), Nat.sub_self]
            rfl
          | _ => exact hh.elim
        | _ => exact hh.elim
    refine wpAny_call (make_map (f := N.fA f) I2.kIn MK.makes MK.init (beq_iff_eq.mp MK.fn) (codeAny_mono (G.run _ X.stack _ _ ⟨Value.ref (s2.heap.objs.size + 1) :: us, (kws.filterMap (·.arg)).zip ws⟩ _ _ _ _ (hr.make (N.cA c) us _) (by rw [guards_make]; exact hg)
      (I3.env0.make (N.cA c) us _) (BindsTo.of_eq bd) rr ⟨by rw [rr.length, ll], _, _, F2, _, sB, rB, fr⟩) fun r s' hq' => ?_))
    cases r with
    | error e => exact tk e s' (XE.of_call I3 (fun _ _ _ h => h) hq')
    | ok fl =>
      cases fl with
      | ret u =>
        obtain ⟨v, H', I4, rv, ev, q3⟩ := I3.after hq'
        subst ev
        exact ⟨rv, ⟨V.ref (s2.heap.objs.size + 1), H', I4, rfl, q3⟩⟩
      | next => exact False.elim hq'
      | brk => exact False.elim hq'
      | cont => exact False.elim hq'
  cases es with
  | nil =>
    refine PySem.W.callWith_KW0 (h₀ := X.base) I.ok.mod.kin MK.kp k1 ?_ (by rw [k3]; rfl)
    have e0 : as = [] := List.length_eq_zero_iff.mp hl.symm
    subst e0
    obtain ⟨env', m', M', F', s', h'⟩ := st
    have h' := ERes.now (a := []) (b := ([] : List V)) h' s' ⟨trivial, rfl⟩
    refine thn (pk.run pos pins s σ H _ I h') fun ws s2 ⟨zs, H2, I2, rz, z⟩ => ⟨I2.kIn, ?_⟩
    rw [k2]
    exact fin I2 .nil rz z
  | cons e es =>
    obtain ⟨e1, e2⟩ := and2 (show (noStar e && es.all noStar) = true from hes)
    refine PySem.W.callWith_KW (h₀ := X.base) I.ok.mod.kin MK.kp k1 (thn (pa.run pos pins s σ H _ I st) fun us s1 ⟨vs, H1, I1, r, q⟩ => ?_) (by rw [k3, plain_of hes]; rfl) (star_of e1)
    refine thn (pk.run pos pins s1 σ H1 _ I1 q) fun ws s2 ⟨zs, H2, I2, rz, z⟩ => ⟨I2.kIn, ?_⟩
    rw [k2]
    exact fin I2 r rz z
/-! == by an own __eq__; str by an own __str__ -/
theorem own_at {M : Mem} {m : List Addr} {F : Fx} {H : Hp} {c : Nat} {w : W} {v : V} (sm : SimM N X.K m M F H) (r : RepW N X.K F m w v) (h : ownC P M w = some c) : ∃ a dx fs, v = .ref a ∧ H a = some (.ins (N.cA c) dx fs) ∧ ∃ k, P.cls c = some k ∧ k.isX = false := by
  unfold ownC at h
  split at h
  · rename_i c' e
    split at h
    · rename_i k hk
      split at h
      · cases h
      · rename_i hx
        cases h
        have hx : k.isX = false := by simpa using hx
        have dat : ∀ {d : D} {v : V}, tyD P d = some (.own c) → Rep N X.K F d v → ∃ a dx fs, v = .ref a ∧ F.f a = some (.ins (N.cA c) dx fs) := fun {d v} e r => by
          cases d with
          | obj c2 ns vs =>
            obtain ⟨a, dx, fs, rfl, q, _⟩ := r
            obtain ⟨z, _⟩ := own_kit e
            cases z
            exact ⟨a, dx, fs, rfl, q⟩
          | exc c2 ns vs =>
            obtain ⟨z, k', hk', hx'⟩ := own_kit e
            cases z
            rw [hk] at hk'
            cases hk'
            rw [hx] at hx'
            cases hx'
          | _ => cases e
        cases w with
        | tp ws => cases e
        | p d =>
          obtain ⟨a, dx, fs, rfl, q⟩ := dat e r
          exact ⟨a, dx, fs, rfl, sm.sub _ _ q, k, hk, hx⟩
        | loc l =>
          obtain ⟨a, h1, rfl⟩ := r
          unfold tyW at e
          dsimp only at e
          cases q : M[l]? with
          | none => rw [q] at e; cases e
          | some cc =>
            rw [q] at e
            have co := sm.cell l a cc h1 q
            cases cc with
            | lst us => cases e
            | dic ks ws => cases e
            | fz d =>
              obtain ⟨a', dx, fs, e0, q2⟩ := dat e co
              cases e0
              exact ⟨a, dx, fs, rfl, sm.sub _ _ q2, k, hk, hx⟩
            | ins c2 ns ws =>
              obtain ⟨z, _⟩ := own_kit e
              cases z
              obtain ⟨_, dx, fs, q2, _⟩ := co
              exact ⟨a, dx, fs, rfl, q2, k, hk, hx⟩
    · cases h
  · cases h
end
end G

set_option maxHeartbeats 4000000
/-! == by an own __eq__, str by an own __str__; all calls. -/
namespace G
open PySem PySem.Spec PyProof.Rows L2
theorem FB.fres {N : Nam} {K : PySem.W.Frag} {Q : Bool → Hp → Prop} {m : List Addr} {F : Fx} : ∀ {r : Res W}, FB N K Q m F r → FRes N K (fun v H' => ∃ b, v = .bl b ∧ Q b H') (fun _ _ _ => False) m F r
  | .ok w M', h => by
    cases w with
    | p d =>
      cases d with
      | bl b => exact fun v H' m' F' s' r g => ⟨b, r, h H' m' F' s' g⟩
      | _ => exact h.elim
    | _ => exact h.elim
  | .exc _ _ _ _, h => h.elim
  | .bad, h => h.elim
theorem FS.fres {N : Nam} {K : PySem.W.Frag} {Q : Str → Hp → Prop} {m : List Addr} {F : Fx} : ∀ {r : Res W}, FS N K Q m F r → FRes N K (fun v H' => ∃ b, v = .str b ∧ Q b H') (fun _ _ _ => False) m F r
  | .ok w M', h => by
    cases w with
    | p d =>
      cases d with
      | str b => exact fun v H' m' F' s' r g => ⟨b, r, h H' m' F' s' g⟩
      | _ => exact h.elim
    | _ => exact h.elim
  | .exc _ _ _ _, h => h.elim
  | .bad, h => h.elim
section
variable {Γ : Tab} {P : Prog} {C : Calls} {N : Nam} {n : Nat} {X : Cx}
def ngN (ng : Bool) : Str := if ng then "__ne__" else "__eq__"
theorem try_ok (tc : TieC P N X.K) (tn : TieN Γ P N X.K X.mg) (hr : Room (n + 1) X.A) (hg : X.A.guards = some []) (fg : FG Γ P C N n X) {c f : Nat} (hf : P.eqf c = some f) {ng : Bool} {pins : List (Addr × Obj)} {s : Shared} {σ : L2.St} {H : Hp} {Q : VK}
    {m : List Addr} {M : Mem} {F : Fx} {w1 w2 : W} {a dx : Addr} {fs : List (Str × V)} {y : V} {u : Value} (I : L2.Inv X pins σ H s) (sm : SimM N X.K m M F H) (r1 : RepW N X.K F m w1 (.ref a)) (r2 : RepW N X.K F m w2 y) (ry : RelV y u) (ea : H a = some (.ins (N.cA c) dx fs))
    (h : FB N X.K (fun r H' => Q (.bl (if ng then !r else r)) H') m F (C f [w1, w2] M)) : PySem.W.TryC (model X.prog X.w) X.A X.xe s (.ref a) (ngN ng) u (EP X pins σ Q) := by
  obtain ⟨e1, e2, e3, e4⟩ := tc.eqf c f hf
  obtain ⟨ps, hfp, hlen⟩ := tn.eq2 c f hf
  obtain ⟨fd, ff, G⟩ := fg f ps hfp
  obtain ⟨mA, O, _⟩ := ins_get I.hok ea
  obtain ⟨od, J, _⟩ := O.look
  have lu : [Value.ref a, u].length = ps.length := by rw [hlen]; rfl
  have rr : Vals [V.ref a, y] [Value.ref a, u] := .cons rfl (.cons ry .nil)
  have call : ∀ {A : Around} {G2 : Value → Shared → Prop}, Room n A → A.guards = some [] → Env0 X.prog X.w X.K X.mg X.base A X.stack s H → wpAny (model X.prog X.w) A (call (.ref (N.fA f)) [.ref a, u]) (EP X pins σ fun v H' => ∃ b, v = .bl b ∧ Q (.bl (if ng then !b else b)) H') G2 s :=
    fun {A G2} h1 h2 h3 => run_G (kw := []) G h1 h2 h3 I (bind_pos ff lu) rr ⟨by rw [hlen]; rfl, m, M, F, [w1, w2], sm, ⟨r1, r2, trivial⟩, h.fres⟩ fun e s' hq => noxe hq
  cases ng with
  | false =>
    refine PySem.W.tryE I.kIn J e1 e2 (thn (call (hr.mono (Nat.le_succ _)) hg I.env0) fun v s' hv => ?_)
    obtain ⟨x, H', I', rx, b, rfl, q⟩ := hv
    cases (show v = Value.bool b from rx)
    exact ⟨b, rfl, _, H', I', (show L2.RelV (.bl b) (Value.bool b) from rfl), q⟩
  | true =>
    refine PySem.W.tryN (by have := hr.un; omega) I.kIn J e3 e4 e1 e2 (thn (call hr.in1 hg I.env0.in1) fun v s' hv => ?_)
    obtain ⟨x, H', I', rx, b, rfl, q⟩ := hv
    cases (show v = Value.bool b from rx)
    exact ⟨b, rfl, _, H', I', (show L2.RelV (.bl (!b)) (Value.bool (!b)) from rfl), q⟩
theorem eq_ok (tc : TieC P N X.K) (tn : TieN Γ P N X.K X.mg) (hr : Room (n + 1) X.A) (hg : X.A.guards = some []) (fg : FG Γ P C N n X) (ng : Bool) : OpR X (compareOp (if ng then .NotEq else .Eq)) (rEqO P C N X.K ng) := by
  intro pins s σ H x y v u Q I rx ry h
  obtain ⟨m, M, F, a, b, q, sm, ra, rb, hq, hb⟩ := h
  obtain ⟨mf, fr⟩ := I.fr
  have go : ∀ {op : CmpOp}, op = (if ng then .NotEq else .Eq) → wpAny (model X.prog X.w) X.A (richCompare op v u) (EP X pins σ Q) X.xe s := fun {op} eop => by
    have n1 : (cmpInfo op).2.1 = ngN ng := by subst eop; cases ng <;> rfl
    have n2 : (cmpInfo op).2.2 = ngN ng := by subst eop; cases ng <;> rfl
    unfold eqAsk at hq
    split at hq
    · rename_i c hc
      obtain ⟨ad, dx, fs, rfl, ea, k, hk, hx⟩ := own_at sm ra hc
      obtain ⟨mA, O, _⟩ := ins_get I.hok ea
      obtain ⟨od, J, _⟩ := O.look
      cases rx
      have left : ∀ {t : Ty} {f : Nat}, tyW P M b = some t → P.eqf c = some f → q = (f, [a, b]) → PySem.W.notFirst X.K (N.cA c) (tyV N t) = true → wpAny (model X.prog X.w) X.A (richCompare op (.ref ad) u) (EP X pins σ Q) X.xe s := fun {t f} ht hf e hn => by
        subst e
        obtain ⟨⟨Z, kx, hz, _⟩, _⟩ := kit_W tc sm I rb ry ht
        refine PySem.W.rc_left hr.units0 fr I.ok.mod.kin J (kx.ty _ _ I.kIn hz) hn ?_
        rw [n1]
        exact try_ok tc tn hr hg fg hf I sm ra rb ry ea hb
      split at hq
      · rename_i c' ht
        split at hq
        · rename_i k' hk'
          split at hq
          · cases hq
          · rename_i hx'
            have hx' : k'.isX = false := by simpa using hx'
            split at hq
            · rename_i hz
              cases e0 : P.eqf c with
              | none => rw [e0] at hq; cases hq
              | some f0 =>
              rw [e0] at hq
              replace hq : ((P.eqf c').map fun f => (f, [b, a])) = some q := hq
              cases e : P.eqf c' with
              | none => rw [e] at hq; cases hq
              | some f =>
                rw [e] at hq
                cases hq
                have hco : ownC P M b = some c' := by
                  unfold ownC
                  rw [ht]
                  dsimp only
                  rw [hk']
                  dsimp only
                  rw [hx']
                  rfl
                obtain ⟨bd, dy, gs, rfl, eb, _⟩ := own_at sm rb hco
                obtain ⟨mB, OB, _⟩ := ins_get I.hok eb
                obtain ⟨oe, JB, _⟩ := OB.look
                cases ry
                obtain ⟨q1, q2⟩ := tc.sub c c' f0 k' e0 hk' hx' hz.1
                refine PySem.W.rc_right hr.units0 fr I.ok.mod.kin J JB q1 (by rw [q2, hz.2]) ?_
                rw [n2]
                exact try_ok tc tn hr hg fg e I sm rb ra rfl eb hb
            · rename_i hz
              cases e : P.eqf c with
              | none => rw [e] at hq; cases hq
              | some f =>
                rw [e] at hq
                cases hq
                refine left ht e rfl ?_
                unfold PySem.W.notFirst
                by_cases hcc : c = c'
                · subst hcc
                  rw [show tyV N (.own c) = Value.ref (N.cA c) from rfl, beq_self_eq_true]; rfl
                · have z : k'.anc.contains c = false := by
                    cases z : k'.anc.contains c with
                    | false => rfl
                    | true => exact absurd ⟨hcc, z⟩ hz
                  obtain ⟨_, q2⟩ := tc.sub c c' f k' e hk' hx' hcc
                  rw [show tyV N (.own c') = Value.ref (N.cA c') from rfl, q2, z]
                  simp
        · cases hq
      all_goals first
        | (cases hq; done)
        | (rename_i ht
           cases e : P.eqf c with
           | none => rw [e] at hq; cases hq
           | some f =>
             rw [e] at hq
             cases hq
             exact left ht e rfl (tc.nof c f _ e (by simp)))
    · cases hq
  cases ng with
  | false => exact go rfl
  | true => exact go rfl
theorem st_ok (tc : TieC P N X.K) (tn : TieN Γ P N X.K X.mg) (hr : Room (n + 2) X.A) (hg : X.A.guards = some []) (fg : FG Γ P C N n X) (c f : Nat) (hm : Γ.mt.lookup (c, ("__str__" : Str)) = some (f, 0)) : CallR X (.type "str") (rStrO P C N X.K c f) := by
  intro pins s σ H xs us Q I r h
  obtain ⟨x, m, M, F, a, rfl, sm, ra, hi, hb⟩ := h
  obtain ⟨MT, _, _, ps, hfp, hlen⟩ := tn.mt c _ f _ hm
  obtain ⟨fd, ff, G⟩ := fg f ps hfp
  obtain ⟨ad, dx, fs, ns, rfl, ea, _⟩ := insB_at sm ra hi
  obtain ⟨mA, O, _⟩ := ins_get I.hok ea
  obtain ⟨od, J, _⟩ := O.look
  cases r with
  | cons r1 r2 =>
    cases r2
    cases r1
    have lu : [Value.ref ad].length = ps.length := by rw [hlen]; rfl
    have rr : Vals [V.ref ad] [Value.ref ad] := .cons rfl .nil
    have u2 : X.A.in1.in1.units < cLine := by have := hr.un; show X.A.units + 1 + 1 < _; omega
    refine PySem.W.kso_call u2 I.kIn J (tn.st2 c f hm) MT.fn (thn (run_G (kw := []) G hr.in1.in1 hg I.env0.in1.in1 I (bind_pos ff lu) rr ⟨by rw [hlen]; rfl, m, M, F, [a], sm, ⟨ra, trivial⟩, hb.fres⟩ fun e s' hq => noxe hq) fun v s' hv => ?_)
    obtain ⟨x, H', I', rx, b, rfl, q⟩ := hv
    obtain ⟨t, rfl⟩ : ∃ t, v = Value.str b t := rx
    exact ⟨.str b, H', I', (show L2.RelV (.str b) (Value.str b t) from ⟨t, rfl⟩), q⟩
theorem calls_ok (tc : TieC P N X.K) (tn : TieN Γ P N X.K X.mg) (hr : Room (n + 2) X.A) (hg : X.A.guards = some []) (fg : FG Γ P C N n X) : CallsOk Γ P C N X :=
  ⟨call_ok tn (hr.mono (by omega)) hg fg, nw_ok tn (hr.mono (by omega)) hg fg, mc_ok tc tn (hr.mono (by omega)) hg fg, sc_ok tn (hr.mono (by omega)) hg fg, eq_ok tc tn (hr.mono (by omega)) hg fg, st_ok tc tn hr hg fg⟩
end
end G

set_option maxHeartbeats 4000000
/-! try: the caught exception becomes an object of the abstract heap. -/
namespace G
open PySem PySem.Spec PyProof.Rows L2

theorem exc_ok {P : Program} {w : World} {H : Hp} {h : Heap} {a C : Addr} {d : Option Addr} {oe : Obj} {vs : Array Value} (he : h.get? a = some oe) (hz : Zc (.ref C) d oe) (hd : oe.data = .fields vs) : ObjOk P w H h a (excHO C d a) :=
  ⟨⟨oe, vs, he, hz, hd⟩, ⟨_, he⟩, fun h1 h2 z k => by
    obtain ⟨o, v, e, z, q⟩ := z
    exact ⟨o, v, k _ e, z, q⟩⟩
section
variable {X : Cx} {pins : List (Addr × Obj)} {σ : L2.St} {H : Hp} {s : Shared}
theorem inv_hot {a C : Addr} {d : Option Addr} {oe : Obj} {vs : Array Value} (I : L2.Inv X pins σ H s) (he : s.heap.get? a = some oe) (hz : Zc (.ref C) d oe) (hd : oe.data = .fields vs) (na : H a = none) (nL : a ≠ X.env.locals) (n0 : X.s_0.heap.get? a = none) (np : ∀ p ∈ X.pn ++ pins, p.1 ≠ a) :
    L2.Inv (X.suite a (X.pn ++ pins)) [] σ (upd H a (excHO C d a)) s := by
  have ne : ∀ {b : Addr} {o : HO}, H b = some o → b ≠ a := fun {b o} e q => by rw [q, na] at e; cases e
  have b0 : ∀ {b : Addr} {o : Obj}, X.s_0.heap.get? b = some o → b ≠ a := fun {b o} e q => by rw [q, n0] at e; cases e
  refine ⟨I.ok.suite _ _, I.os, I.bare, ⟨I.base.keep, I.base.slot, fun b o e n hx => ?_, I.base.there, fun b xs e => ?_, fun b o u e => ?_, fun b ps e => ?_⟩, I.loc, I.cell, ?_, fun x c e => ?_, fun p hp => ?_, fun b o e => ?_, I.len⟩
  · rw [upd_ne (b0 e)]; exact I.base.free b o e n hx
  · have z := I.base.tups b xs e
    rw [upd_ne (ne z)]; exact z
  · have z := I.base.frzs b o u e
    rw [upd_ne (ne z)]; exact z
  · obtain ⟨more, z⟩ := I.base.tbls b ps e
    exact ⟨more, by rw [upd_ne (ne z)]; exact z⟩
  · show upd H a _ X.env.locals = none
    rw [upd_ne (Ne.symm nL)]; exact I.free
  · have hc : c ≠ a := fun q => by
      obtain ⟨v, o, e1, e2⟩ := I.cell x c e
      rw [q, he] at e1
      cases e1
      rw [hd] at e2
      cases e2
    rw [upd_ne hc]; exact I.freeC x c e
  · have hp' : p ∈ X.pn ++ pins := by rw [List.append_nil] at hp; exact hp
    obtain ⟨q1, q2, q3, q4, q5⟩ := I.pin p hp'
    exact ⟨q1, by rw [upd_ne (np p hp')]; exact q2, q3, q4, q5⟩
  · by_cases q : b = a
    · subst q
      rw [upd_same] at e
      cases e
      exact exc_ok he hz hd
    · rw [upd_ne q] at e
      exact (I.hok b o e).stay (fun c u hc z => z) (fun c hc => by rw [upd_ne (ne hc)]; exact hc) fun c xs hc => by rw [upd_ne (ne hc)]; exact hc
theorem inv_cold {a : Addr} {pn' : List (Addr × Obj)} (I : L2.Inv (X.suite a (X.pn ++ pins)) pn' σ H s) (ok : X.Ok) : L2.Inv X pins σ H s :=
  ⟨ok, I.os, I.bare, I.base, I.loc, I.cell, I.free, I.freeC, fun p hp => I.pin p (List.mem_append_left _ hp), I.hok, I.len⟩
end
/-- what is known of the clauses: their classes, their names, their suites -/
inductive HdG (P : Prog) (C : Calls) (N : Nam) (X : Cx) : List ExceptHandler → List (Nat × Option Nat) → List (List G.St) → Prop
  | nil : HdG P C N X [] [] []
  | plain {x : Str} {t : Nat} {b₀ : Stmt} {r : List Stmt} {su : List G.St} {np pos : Pos} {hds hcs sus} (hm : X.mg x = some (.ref (N.cA t))) (hg : Gl X x) (hdb : (x == ("__debug__" : Str)) = false)
      (hx : ∀ c k, P.cls c = some k → k.isX = true → PySem.W.exmOne X.K (.ref (N.cA c)) (.ref (N.cA t)) = some (k.anc.contains t))
      (hs : ∀ (a : Addr) (pn : List (Addr × Obj)), PSs (X.suite a pn) (b₀ :: r) (tSs P C N X.K WF su)) (hr : HdG P C N X hds hcs sus) : HdG P C N X (.ExceptHandler (some (.Name x np)) none (b₀ :: r) pos :: hds) ((t, none) :: hcs) (su :: sus)
  | named {x n : Str} {t i : Nat} {b₀ : Stmt} {r : List Stmt} {su : List G.St} {np pos : Pos} {hds hcs sus} (hm : X.mg x = some (.ref (N.cA t))) (hg : Gl X x) (hdb : (x == ("__debug__" : Str)) = false)
      (hx : ∀ c k, P.cls c = some k → k.isX = true → PySem.W.exmOne X.K (.ref (N.cA c)) (.ref (N.cA t)) = some (k.anc.contains t)) (hi : X.N[i]? = some n) (hn : X.env.kindOf n = some .local)
      (hs : ∀ (a : Addr) (pn : List (Addr × Obj)), PSs (X.suite a pn) (b₀ :: r) (tSs P C N X.K WF su)) (hr : HdG P C N X hds hcs sus) : HdG P C N X (.ExceptHandler (some (.Name x np)) (some n) (b₀ :: r) pos :: hds) ((t, some i) :: hcs) (su :: sus)
theorem isX_of {P : Prog} {N : Nam} {K : PySem.W.Frag} {F : Hp} {cls : Value} {d : Option Addr} {c : Nat} {ns : List Nat} {vs : List D} (h : ExcV N K F cls d c ns vs) : cls = .ref (N.cA c) := h.1
section
variable {X : Cx} {P : Prog} {C : Calls} {N : Nam} {Wx : WX}
/-- what the body's exception must meet -/
def wTry (P : Prog) (C : Calls) (N : Nam) (K : PySem.W.Frag) (Wx : WX) (De : Ends) (hcs : List (Nat × Option Nat)) (sus : List (List G.St)) : WX := fun cls d σ H =>
  ∃ (env : G.Env) (m : List Addr) (M : Mem) (F : Fx) (c : Nat) (ns : List Nat) (vs : List D), Sim N K σ env m M F H ∧ ExcV N K F cls d c ns vs ∧ SRes N K Wx De m F (exh P C hcs sus c ns vs env M)
theorem ps_tryG {body : List Stmt} {bi : List G.St} {h₀ : ExceptHandler} {hds : List ExceptHandler} {hcs : List (Nat × Option Nat)} {sus : List (List G.St)} {pos : Pos} (hs : X.stack = X.env :: X.outer) (hf : X.env.frame = some X.env.locals) (hex : X.ex = []) (nd : X.N.Nodup) (tk : Takes X Wx)
    (hb : ∀ (W : WX) (pn : List (Addr × Obj)) (xe : Value → Shared → Prop), Takes (X.tr pn xe) W → PassesOwn (model X.prog X.w) X.A X.env xe → PSs (X.tr pn xe) body (tSs P C N X.K W bi))
    (hh : HdG P C N X (h₀ :: hds) hcs sus) : PS X (.Try body (h₀ :: hds) [] [] pos) (tS P C N X.K Wx (.try_ bi hcs sus)) := by
  refine ⟨fun pins s σ H D I h => ?_⟩
  have ok := I.ok
  have hfr : X.A.frames = some (X.env :: X.outer) := by rw [ok.frames, hs]
  -- the body's reading
  have h0 : tSs P C N X.K (wTry P C N X.K Wx D hcs sus) bi D σ H := by
    obtain ⟨env, m, M, F, sm, h⟩ := h
    refine ⟨env, m, M, F, sm, ?_⟩
    have h : SRes N X.K Wx D m F (match exs P C bi env M with
      | .exc c ns vs env' M' => exh P C hcs sus c ns vs env' M'
      | z => z) := h
    cases e : exs P C bi env M with
    | exc c ns vs env' M' =>
      rw [e] at h
      exact fun cls d σ' H' m' F' s' g ex => ⟨env', m', M', F', c, ns, vs, s', ex, SRes.rebase g h⟩
    | nx _ _ => rw [e] at h; exact h
    | rt _ _ => rw [e] at h; exact h
    | bk _ _ => rw [e] at h; exact h
    | ct _ _ => rw [e] at h; exact h
    | bad => rw [e] at h; exact h
  refine wpAny_Try_except ?_
  let xe' : Value → Shared → Prop := fun e s₁ => wpAny (model X.prog X.w) X.A (noteFrame e X.env) (fun _ s₂ => wpAny (model X.prog X.w) X.A (setFlight e none) (fun _ s₃ =>
    wpAny (model X.prog X.w) X.A (handleBy e X.env (h₀ :: hds)) (SP X pins D) X.xe s₃) X.xe s₂) X.xe s₁
  refine wpAny_mono ((hb (wTry P C N X.K Wx D hcs sus) (X.pn ++ pins) xe' (fun u s' xx => ?_) PassesOwn.looking).run [] s σ H D (I.toTry _) h0) (fun f s1 hsp => ?_) (fun e s1 he => he)
  · obtain ⟨a, B, sI, pins', σ', H', cls, d, rfl, J', nb, up, sky, na, os, ag, w⟩ := xx
    have J : L2.Inv X pins σ' H' sI := J'.ofTry ok
    have sky' : Sky B (X.env :: X.outer) a (Zc cls d) X.env.locals s'.heap := by rw [← hs]; exact sky
    show wpAny (model X.prog X.w) X.A (noteFrame (.ref a) X.env) _ _ _
    refine Sky.land Zc.steady hfr hf sky' fun h3 fl3 up3 => ?_
    have J3 : L2.Inv X pins σ' H' { s' with heap := h3 } := J.landed nb fl3.1 (up.trans up3) os ag
    obtain ⟨oe3, vs3, he3, hz3, hd3⟩ := fl3.there
    have nfr : a ∉ frs (X.env :: X.outer) := fun hm => by
      obtain ⟨_, o', e', hnf⟩ := fl3.2.2.1.mem hm
      rw [he3] at e'
      cases e'
      exact hnf _ hd3
    have nL : a ≠ X.env.locals := fun z => nfr (List.mem_filterMap.mpr ⟨X.env, List.mem_cons_self, by rw [hf, z]⟩)
    have nF : a ∉ X.fs := fun hm => by
      obtain ⟨e, he, q⟩ := List.mem_filterMap.mp hm
      exact nfr (List.mem_filterMap.mpr ⟨e, List.mem_cons_of_mem _ he, q⟩)
    have nI : sI.heap.get? a = none := by
      cases e : sI.heap.get? a with
      | none => rfl
      | some o =>
        have z := nb a o e (by rw [hs]; exact nfr)
        rw [fl3.2.1] at z
        cases z
    have n0 : X.s_0.heap.get? a = none := by
      cases e : X.s_0.heap.get? a with
      | none => rfl
      | some o =>
        obtain ⟨o', z⟩ := J.base.there a o e (by rw [hex]; simp)
        rw [nI] at z
        cases z
    have np : ∀ p ∈ X.pn ++ pins, p.1 ≠ a := fun p hp q => by
      have z := (J.pin p hp).1
      rw [q, nI] at z
      cases z
    have S3 := J3.suite he3 hd3 na nL nF
    obtain ⟨env, m, M, F, c, ns, vs, sm, ex, w⟩ := w
    have ecls := ex.1
    subst ecls
    have go : ∀ {hds' : List ExceptHandler} {hcs' : List (Nat × Option Nat)} {sus' : List (List G.St)}, HdG P C N X hds' hcs' sus' → SRes N X.K Wx D m F (exh P C hcs' sus' c ns vs env M) →
        wpAny (model X.prog X.w) X.A (handleBy (.ref a) X.env hds') (SP X pins D) X.xe { s' with heap := h3 } := by
      intro hds' hcs' sus' hk
      induction hk with
      | nil =>
        intro w
        refine wpAny_handleBy_nil ?_
        obtain ⟨k1, k2, k3, oe, vs', T, oT, ts', he, hz, hd, h1, hr⟩ := id fl3
        unfold PySem.passOn
        refine wpAny_bind (wpAny_field he hd h1 ?_)
        rw [if_neg (show ¬ ((Value.ref T == Value.none) = true) from by simp)]
        have fin : wpAny (model X.prog X.w) X.A (setFlight (.ref a) X.env.frame) (fun _ s4 => wpAny (model X.prog X.w) X.A (throw (.ref a) : Sem Flow) (SP X pins D) X.xe s4) X.xe { s' with heap := h3 } := by
          rw [hf]
          refine HandSPX.setFlight_upZ fl3 fun h4 hh4 up4 => wpAny_throw (tk _ _ ?_)
          have w' : Wx (.ref (N.cA c)) d σ' H' := w (.ref (N.cA c)) d σ' H' m F sm (Gr.refl _ _) ex
          exact ⟨a, B, sI, pins, σ', H', _, d, rfl, J, nb, (up.trans up3).trans up4, .inr (.inr (by rw [hs]; exact hh4)), na, os, ag, w'⟩
        first
          | exact wpAny_bind (wpAny_pure (wpAny_bind fin))
          | exact wpAny_bind fin
      | @plain x t b₀ r su npx pos' hds2 hcs2 sus2 hm hg hdb hx hsu hr ih =>
        intro w
        have w : SRes N X.K Wx D m F (match P.cls c with
          | some k => if k.isX = false then .bad else if k.anc.contains t then (match exs P C su env M with
              | .nx e M => .nx e M
              | .bk e M => .bk e M
              | .ct e M => .ct e M
              | .rt w M => .rt w M
              | _ => .bad)
            else exh P C hcs2 sus2 c ns vs env M
          | none => .bad) := w
        cases ek : P.cls c with
        | none => rw [ek] at w; exact w.elim
        | some k =>
          rw [ek] at w
          dsimp only at w
          cases ix : k.isX with
          | false => rw [ix, if_pos rfl] at w; exact w.elim
          | true =>
            rw [ix, if_neg (by decide)] at w
            refine wpAny_handleBy_cons (codeAny_handlers_test ?_) (by intro q; cases q)
            have LT : PySem.W.Looks (model X.prog X.w) h3 (typeOf (.ref a)) (.ref (N.cA c)) := fun A Q E s k q => wpAny_typeOf_ref (k _ _ he3) (by rw [hz3.1]; exact q)
            have LM := PySem.W.exm_one (M := model X.prog X.w) J3.kIn LT (hx c k ek ix)
            refine ld_glob (X := X.suite a ((a, oe3) :: (X.pn ++ pins))) S3 hg hm ?_ hdb
            refine LM.here ?_
            cases ea : k.anc.contains t with
            | false =>
              rw [ea, if_neg Bool.false_ne_true] at w
              exact ih w
            | true =>
              rw [ea, if_pos rfl] at w
              refine codeAny_handlers_suite ?_
              refine HandSPX.lands_againZ fl3 fun h4 fl4 up4 => ?_
              have J4 : L2.Inv X pins σ' H' { s' with heap := h4 } := J.landed nb fl4.1 ((up.trans up3).trans up4) os ag
              obtain ⟨oe4, vs4, he4, hz4, hd4⟩ := fl4.there
              have S4 := inv_hot J4 he4 hz4 hd4 na nL n0 np
              obtain ⟨sm4, g4⟩ := sm.mem.new (o := excHO (N.cA c) d a) na
              have sim4 : Sim N X.K σ' env m M (F.put a (excHO (N.cA c) d a)) (upd H' a (excHO (N.cA c) d a)) := sm.to sm4 g4.x
              refine wpAny_mono ((hsu a (X.pn ++ pins)).run [] _ σ' _ D S4 ⟨env, m, M, _, sim4, ?_⟩) (fun f s6 hsp => ?_) (fun _ _ z => False.elim z)
              · have w := SRes.rebase g4 w
                cases e6 : exs P C su env M with
                | nx _ _ => rw [e6] at w; exact w
                | rt _ _ => rw [e6] at w; exact w
                | bk _ _ => rw [e6] at w; exact w
                | ct _ _ => rw [e6] at w; exact w
                | exc _ _ _ _ _ => rw [e6] at w; exact w.elim
                | bad => rw [e6] at w; exact w.elim
              · cases f with
                | next =>
                  obtain ⟨σ6, H6, S6, q6⟩ := hsp
                  exact ⟨_, _, inv_cold S6 ok, q6⟩
                | brk =>
                  obtain ⟨σ6, H6, S6, q6⟩ := hsp
                  exact ⟨_, _, inv_cold S6 ok, q6⟩
                | cont =>
                  obtain ⟨σ6, H6, S6, q6⟩ := hsp
                  exact ⟨_, _, inv_cold S6 ok, q6⟩
                | ret u =>
                  obtain ⟨v6, σ6, H6, S6, r6, q6⟩ := hsp
                  exact ⟨_, _, _, inv_cold S6 ok, r6, q6⟩
      | @named x n t i b₀ r su npx pos' hds2 hcs2 sus2 hm hg hdb hx hi hn hsu hr ih =>
        intro w
        have w : SRes N X.K Wx D m F (match P.cls c with
          | some k => if k.isX = false then .bad else if k.anc.contains t then (match exs P C su (env.set i (some (.p (.exc c ns vs)))) M with
              | .nx e M => .nx (e.set i none) M
              | .bk e M => .bk (e.set i none) M
              | .ct e M => .ct (e.set i none) M
              | .rt w M => .rt w M
              | _ => .bad)
            else exh P C hcs2 sus2 c ns vs env M
          | none => .bad) := w
        cases ek : P.cls c with
        | none => rw [ek] at w; exact w.elim
        | some k =>
          rw [ek] at w
          dsimp only at w
          cases ix : k.isX with
          | false => rw [ix, if_pos rfl] at w; exact w.elim
          | true =>
            rw [ix, if_neg (by decide)] at w
            refine wpAny_handleBy_cons (codeAny_handlers_test ?_) (by intro q; cases q)
            have LT : PySem.W.Looks (model X.prog X.w) h3 (typeOf (.ref a)) (.ref (N.cA c)) := fun A Q E s k q => wpAny_typeOf_ref (k _ _ he3) (by rw [hz3.1]; exact q)
            have LM := PySem.W.exm_one (M := model X.prog X.w) J3.kIn LT (hx c k ek ix)
            refine ld_glob (X := X.suite a ((a, oe3) :: (X.pn ++ pins))) S3 hg hm ?_ hdb
            refine LM.here ?_
            cases ea : k.anc.contains t with
            | false =>
              rw [ea, if_neg Bool.false_ne_true] at w
              exact ih w
            | true =>
              rw [ea, if_pos rfl] at w
              refine codeAny_handlers_suite_as ?_
              refine HandSPX.lands_againZ fl3 fun h4 fl4 up4 => ?_
              have J4 : L2.Inv X pins σ' H' { s' with heap := h4 } := J.landed nb fl4.1 ((up.trans up3).trans up4) os ag
              obtain ⟨oe4, vs4, he4, hz4, hd4⟩ := fl4.there
              have S4 := inv_hot J4 he4 hz4 hd4 na nL n0 np
              obtain ⟨sm4, g4⟩ := sm.mem.new (o := excHO (N.cA c) d a) na
              obtain ⟨_, dd, fs, ed, efd, erf⟩ := ex
              have rx : RepW N X.K (F.put a (excHO (N.cA c) d a)) m (.p (.exc c ns vs)) (.ref a) := by
                subst ed
                exact ⟨a, dd, fs, rfl, upd_same, g4.ex _ _ efd, RepF.mono g4.ex _ _ _ erf⟩
              have sim4 : Sim N X.K (σ'.set i (some (.ref a))) (env.set i (some (.p (.exc c ns vs)))) m M (F.put a (excHO (N.cA c) d a)) (upd H' a (excHO (N.cA c) d a)) := ⟨sm4, (sm.env.mono g4.x).set rx⟩
              refine store_ok (X := X.suite a (X.pn ++ pins)) (v := .ref a) S4 nd hi (.inl hn) rfl (fun s5 S5 => ?_) (.inr hn)
              refine wpAny_mono ((hsu a (X.pn ++ pins)).run [] s5 _ _ { nx := fun σ' H' => D.nx (σ'.set i none) H', rt := D.rt, bk := fun σ' H' => D.bk (σ'.set i none) H', ct := fun σ' H' => D.ct (σ'.set i none) H' } S5 ⟨_, m, M, _, sim4, ?_⟩) (fun f s6 hsp => ?_) (fun _ _ z => False.elim z)
              · have w := SRes.rebase g4 w
                have un : ∀ {σ6 : L2.St} {e6 : G.Env} {m6 : List Addr} {M6 : Mem} {F6 : Fx} {H6 : Hp}, Sim N X.K σ6 e6 m6 M6 F6 H6 → Sim N X.K (σ6.set i none) (e6.set i none) m6 M6 F6 H6 := fun q => ⟨q.mem, q.env.unset⟩
                cases e6 : exs P C su (env.set i (some (.p (.exc c ns vs)))) M with
                | nx _ _ => rw [e6] at w; exact fun σ6 H6 m6 F6 s6 g6 => w _ H6 m6 F6 (un s6) g6
                | rt _ _ => rw [e6] at w; exact w
                | bk _ _ => rw [e6] at w; exact fun σ6 H6 m6 F6 s6 g6 => w _ H6 m6 F6 (un s6) g6
                | ct _ _ => rw [e6] at w; exact fun σ6 H6 m6 F6 s6 g6 => w _ H6 m6 F6 (un s6) g6
                | exc _ _ _ _ _ => rw [e6] at w; exact w.elim
                | bad => rw [e6] at w; exact w.elim
              · have end_ : ∀ {σ6 : L2.St} {H6 : Hp} {Q : Shared → Prop}, L2.Inv (X.suite a (X.pn ++ pins)) [] σ6 H6 s6 → (∀ s7, L2.Inv X pins (σ6.set i none) H6 s7 → Q s7) →
                    wpAny (model X.prog X.w) X.A (do bindName X.env n .none; unbindBehindTheSuite X.env n pos') (fun _ s7 => Q s7) X.xe s6 := fun {σ6 H6 Q} S6 hq => gone_ok (inv_cold S6 ok) nd hi hn hq
                cases f with
                | next =>
                  obtain ⟨σ6, H6, S6, q6⟩ := hsp
                  exact end_ S6 fun s7 J7 => ⟨_, _, J7, q6⟩
                | brk =>
                  obtain ⟨σ6, H6, S6, q6⟩ := hsp
                  exact end_ S6 fun s7 J7 => ⟨_, _, J7, q6⟩
                | cont =>
                  obtain ⟨σ6, H6, S6, q6⟩ := hsp
                  exact end_ S6 fun s7 J7 => ⟨_, _, J7, q6⟩
                | ret u =>
                  obtain ⟨v6, σ6, H6, S6, r6, q6⟩ := hsp
                  exact end_ S6 fun s7 J7 => ⟨_, _, _, J7, r6, q6⟩
    exact go hh w
  · cases f with
    | next =>
      obtain ⟨σ', H', J', q⟩ := hsp
      exact wpAny_execs_nil ⟨σ', H', J'.ofTry ok, q⟩
    | brk =>
      obtain ⟨σ', H', J', q⟩ := hsp
      exact ⟨σ', H', J'.ofTry ok, q⟩
    | cont =>
      obtain ⟨σ', H', J', q⟩ := hsp
      exact ⟨σ', H', J'.ofTry ok, q⟩
    | ret u =>
      obtain ⟨v, σ', H', J', r, q⟩ := hsp
      exact ⟨v, σ', H', J'.ofTry ok, r, q⟩
end
end G

set_option maxHeartbeats 4000000
/-! The checker of statements. -/
namespace G
open PySem PySem.Spec PyProof.Rows L2
def Tab.quiet (Γ : Tab) : Tab := { Γ with calm := false }
def isXb (P : Prog) (t : Nat) : Bool := match P.cls t with
  | some k => k.isX
  | none => false
def lcB (x : Str) (p : Pos) : Expr → Bool
  | .ListComp _ _ scope cp => (p.line == cp.line) && !(scope.names.any fun (n, k) => n == x && (k == .local || k == .cell))
  | .SetComp _ _ _ _ => false
  | .DictComp _ _ _ _ _ => false
  | _ => true
def nameT : Expr → Bool
  | .Name _ _ => true
  | _ => false
/-- brackets, not all of them names -/
def nestT : Expr → Bool
  | .Tuple es _ _ => es.any fun e => !nameT e
  | _ => false
def foldT : Expr → Bool
  | .Tuple vs _ _ => vs.all (foldedForSure 8)
  | _ => false
def noLc : Expr → Bool
  | .ListComp _ _ _ _ => false
  | .SetComp _ _ _ _ => false
  | .DictComp _ _ _ _ _ => false
  | _ => true
def isVarE : Ex → Bool
  | .var _ => true
  | _ => false
/-- x = [.. for ..], its items may raise -/
def lcXB (Γ : Tab) (L : List Str) (isis : List TyC) (e : Ex) (sc : Scope) (x : Str) (p : Pos) (v : Expr) : Bool := match e with
  | .compX elt own t it ifs => match v with
    | .ListComp l [⟨tg, iter, fs, 0⟩] scope cp => Γ.calm && decide (sc.names.lookup x = some .local) && (p.line == cp.line) && !(scope.names.any fun (n, k) => n == x && (k == .local || k == .cell)) && chkI Γ L isis it sc tg iter && noSet iter && tgtB L (relS scope sc) t tg && blkC L sc scope (ownP L own) && t.vars.all own.contains &&
        chk Γ L isis elt (relS scope sc) l && chks Γ L isis ifs (relS scope sc) fs && decide (fs.length ≤ 1) && fs.all noIf
    | _ => false
  | _ => false
def slotB (L : List Str) (sc : Scope) : Option Nat → Option Str → Bool
  | none, none => true
  | some i, some n => decide (L[i]? = some n) && decide (sc.names.lookup n = some .local)
  | _, _ => false
section
variable (P : Prog) (L : List Str)
mutual
def chkS : G.St → Tab → Scope → Stmt → Bool
  | .asg i e, Γ, sc, st => match st with
    | .Assign [.Name x p] v _ => decide (L[i]? = some x) && (lcXB Γ L P.isis e sc x p v || (chk Γ L P.isis e sc v && (decide (sc.names.lookup x = some .cell) || (decide (sc.names.lookup x = some .local) && lcB x p v && (noLc v || Γ.calm)))))
    | _ => false
  | .asgT t e, Γ, sc, st => match st with
    | .Assign [tg] v _ => tgtB L sc t tg && isTupT tg && chk Γ L P.isis e sc v && (!isTupT v || nestT tg || foldT v) && Γ.calm
    | _ => false
  | .par i j a b, Γ, sc, st => match st with
    | .Assign [.Tuple [.Name x px, .Name y py] _ _] (.Tuple [l, r] _ _) _ => decide (L[i]? = some x) && decide (L[j]? = some y) && decide (i ≠ j) && decide (sc.names.lookup x = some .local) && decide (sc.names.lookup y = some .local) && (py.line == px.line) && decide (x ≠ y) &&
        !([l, r].all (foldedForSure 8)) && !([l, r].all (constantsAlone 8)) && chk Γ L P.isis a sc l && chk Γ L P.isis b sc r && noStar l && noStar r && Γ.calm
    | _ => false
  | .setIdx o i e, Γ, sc, st => match st with
    | .Assign [.Subscript l r _] v _ => chk Γ L P.isis o sc l && chk Γ L P.isis i sc r && chk Γ L P.isis e sc v && noSlc r
    | _ => false
  | .ifs c a b, Γ, sc, st => match st with
    | .If t x y _ => chk Γ L P.isis c sc t && noIf t && chkSs a Γ sc x && chkSs b Γ sc y
    | _ => false
  | .for_ t it body, Γ, sc, st => match st with
    | .For tg iter x [] _ => Γ.calm && chkI Γ L P.isis it sc tg iter && noSet iter && tgtB L sc t tg && chkSs body Γ sc x
    | _ => false
  | .while_ c body, Γ, sc, st => match st with
    | .While t x [] _ => Γ.calm && chk Γ L P.isis c sc t && noIf t && chkSs body Γ sc x
    | _ => false
  | .ret e, Γ, sc, st => match st with
    | .Return (some v) _ => chk Γ L P.isis e sc v
    | _ => false
  | .retN, _, _, st => match st with
    | .Return none _ => true
    | _ => false
  | .expr e, Γ, sc, st => match st with
    | .Expr v _ => chk Γ L P.isis e sc v && noLc v
    | _ => false
  | .app o e, Γ, sc, st => match st with
    | .Expr (.Call (.Attribute l m ap) [v] [] p) _ => decide (m = "append") && chk Γ L P.isis o sc l && noSup l && chk Γ L P.isis e sc v && noStar v && (ap.endLine == p.line)
    | _ => false
  | .swp o i j, Γ, sc, st => match st with
    | .Assign [.Tuple [.Subscript l1 r1 _, .Subscript l2 r2 _] _ _] (.Tuple [v1, v2] _ _) _ => isVarE o && isVarE i && isVarE j && chk Γ L P.isis o sc l1 && chk Γ L P.isis i sc r1 && chk Γ L P.isis o sc l2 && chk Γ L P.isis j sc r2 && noSlc r1 && noSlc r2 &&
        chk Γ L P.isis (.idx o j) sc v1 && noStar v1 && chk Γ L P.isis (.idx o i) sc v2 && noStar v2 && Γ.calm
    | _ => false
  | .setA o f e, Γ, sc, st => match st with
    | .Assign [.Attribute l x _] v _ => chk Γ L P.isis o sc l && decide (Γ.fa.lookup x = some f) && chk Γ L P.isis e sc v && noLc v
    | _ => false
  | .raise c as ks perm, Γ, sc, st => match st with
    | .Raise (some (.Call (.Name x _) es kws _)) none _ => Γ.calm && (match Γ.xs.lookup x with
      | some (g, ps) => decide (g = c) && permOk ps as.length (kws.filterMap (·.arg)) perm
      | none => false) && glB sc x && (kws.all (·.arg.isSome)) && chks Γ L P.isis as sc es && chks Γ L P.isis ks sc (kws.map (·.value)) && decide (as.length ≤ 900) && decide (ks.length ≤ 90)
    | _ => false
  | .try_ body hcs sus, Γ, sc, st => match st with
    | .Try x (h :: hds) [] [] _ => Γ.calm && chkSs body Γ sc x && chkH sus hcs Γ sc (h :: hds)
    | _ => false
  | .pass, _, _, st => match st with
    | .Pass _ => true
    | _ => false
  | .brk, _, _, st => match st with
    | .Break _ => true
    | _ => false
  | .cnt, _, _, st => match st with
    | .Continue _ => true
    | _ => false
def chkSs : List G.St → Tab → Scope → List Stmt → Bool
  | [], _, _, sts => sts.isEmpty
  | s :: r, Γ, sc, sts => match sts with
    | st :: sts => chkS s Γ sc st && chkSs r Γ sc sts
    | [] => false
def chkH : List (List G.St) → List (Nat × Option Nat) → Tab → Scope → List ExceptHandler → Bool
  | [], hcs, _, _, hds => hcs.isEmpty && hds.isEmpty
  | su :: sus, hcs, Γ, sc, hds => match hcs, hds with
    | (t, slot) :: hcs, .ExceptHandler (some (.Name x _)) nm (b :: r) _ :: hds => decide (Γ.cl.lookup x = some t) && glB sc x && isXb P t && slotB L sc slot nm && chkSs su Γ.quiet sc (b :: r) && chkH sus hcs Γ sc hds
    | _, _ => false
end
end
/-- what a statement's context must give -/
structure StX (Γ : Tab) (P : Prog) (C : Calls) (N : Nam) (L : List Str) (sc : Scope) (X : Cx) : Prop where
  cx : CxOk Γ P C N L sc X
  kd : X.env.scope.kind = .function
  own : Γ.calm = true → PassesOwn (model X.prog X.w) X.A X.env X.xe
  stk : X.stack = X.env :: X.outer
  frm : X.env.frame = some X.env.locals
  ex : X.ex = []
  fnt : ∀ x, X.fn x = true
  xs : ∀ x c ps, Γ.xs.lookup x = some (c, ps) → ∃ k, P.cls c = some k ∧ XFact X.K X.mg N x c ps k.flds
  rm : Γ.calm = true → ∃ n, Room (n + 2) X.A
  hd : ∀ c k t, P.cls c = some k → k.isX = true → isXb P t = true → PySem.W.exmOne X.K (.ref (N.cA c)) (.ref (N.cA t)) = some (k.anc.contains t)
section
variable {Γ : Tab} {P : Prog} {C : Calls} {N : Nam} {L : List Str} {sc : Scope} {X : Cx}
theorem StX.tr (h : StX Γ P C N L sc X) {pn : List (Addr × Obj)} {xe : Value → Shared → Prop} (ow : PassesOwn (model X.prog X.w) X.A X.env xe) : StX Γ P C N L sc (X.tr pn xe) :=
  ⟨⟨h.cx.nm, h.cx.sc, h.cx.nd, ⟨h.cx.blt.sys, h.cx.blt.grd, h.cx.blt.unt⟩, h.cx.tc, h.cx.tn, h.cx.cal, h.cx.call⟩, h.kd, fun _ => ow, h.stk, h.frm, h.ex, h.fnt, h.xs, h.rm, h.hd⟩
theorem noq {p : Prop} (q : Γ.quiet.calm = true) : p := absurd (show false = true from q) Bool.false_ne_true
theorem StX.suite (h : StX Γ P C N L sc X) (a : Addr) (pn : List (Addr × Obj)) : StX Γ.quiet P C N L sc (X.suite a pn) :=
  ⟨⟨h.cx.nm, h.cx.sc, h.cx.nd, ⟨h.cx.blt.sys, h.cx.blt.grd, h.cx.blt.unt⟩, h.cx.tc, ⟨h.cx.tn.free, h.cx.tn.oerr, h.cx.tn.cls, h.cx.tn.gv, h.cx.tn.fa, h.cx.tn.nw, h.cx.tn.mt, h.cx.tn.sm, h.cx.tn.fn, h.cx.tn.eq2, h.cx.tn.st2⟩, noq, noq⟩, h.kd, noq, h.stk, h.frm, h.ex, h.fnt, h.xs, noq, h.hd⟩
theorem suite_takes {a : Addr} {pn : List (Addr × Obj)} : Takes (X.suite a pn) WF := fun u s' h => by
  obtain ⟨_, _, _, _, _, _, _, _, _, _, _, _, _, _, _, _, w⟩ := h
  exact w.elim
end
end G

set_option maxHeartbeats 4000000
/-! The checker of statements is sound. -/
namespace G
open PySem PySem.Spec PyProof.Rows L2
section
variable {P : Prog} {C : Calls} {N : Nam} {L : List Str}
theorem psI {X : Cx} {st : Stmt} {t t' : TS} (h : PS X st t) (k : ∀ D σ H, t' D σ H → t D σ H) : PS X st t' := ⟨fun pins s σ H D I q => h.run pins s σ H D I (k _ _ _ q)⟩
theorem pssI {X : Cx} {st : List Stmt} {t t' : TS} (h : PSs X st t) (k : ∀ D σ H, t' D σ H → t D σ H) : PSs X st t' := ⟨fun pins s σ H D I q => h.run pins s σ H D I (k _ _ _ q)⟩
def PSg (P : Prog) (C : Calls) (N : Nam) (L : List Str) (x : G.St) : Prop := ∀ (Γ : Tab) (sc : Scope) (st : Stmt) (X : Cx) (Wx : WX), StX Γ P C N L sc X → Takes X Wx → chkS P L x Γ sc st = true → PS X st (tS P C N X.K Wx x)
def PSsg (P : Prog) (C : Calls) (N : Nam) (L : List Str) (xs : List G.St) : Prop := ∀ (Γ : Tab) (sc : Scope) (sts : List Stmt) (X : Cx) (Wx : WX), StX Γ P C N L sc X → Takes X Wx → chkSs P L xs Γ sc sts = true → PSs X sts (tSs P C N X.K Wx xs)
def PHg (P : Prog) (C : Calls) (N : Nam) (L : List Str) (sus : List (List G.St)) : Prop := ∀ (hcs : List (Nat × Option Nat)) (Γ : Tab) (sc : Scope) (hds : List ExceptHandler) (X : Cx), StX Γ P C N L sc X → chkH P L sus hcs Γ sc hds = true → HdG P C N X hds hcs sus
theorem local_of {Γ : Tab} {sc : Scope} {X : Cx} (h : CxOk Γ P C N L sc X) {x : Str} (e : sc.names.lookup x = some .local) : X.env.scope.names.lookup x = some .local := by rw [h.sc]; exact e
theorem sw_none {v : Expr} {t : Option Expr} {l : Nat} {env : PySem.Env} (h : noLc v = true) : swapsWith v t l env = pure false := by
  cases v <;> first | rfl | cases h
theorem sw_cell {v : Expr} {x : Str} {p : Pos} {l : Nat} {env : PySem.Env} (h : env.scope.names.lookup x = some .cell) : swapsWith v (some (.Name x p)) l env = pure false := by
  have k : (env.kindOf x == some .local) = false := by
    have e : env.kindOf x = some .cell := h
    rw [e]; rfl
  have key : ∀ (a b c : Bool), (a && (env.kindOf x == some .local) && b && c) = false := fun a b c => by rw [k]; simp
  cases v <;> first | rfl | (show pure _ = pure false; congr 1; exact key _ _ _)
theorem tAsg_mono {t t' : TE} {g : TG} (k : ∀ σ H Q, t σ H Q → t' σ H Q) : ∀ D σ H, tAsg t g D σ H → tAsg t' g D σ H := fun D σ H h => k _ _ _ h
theorem st_asgX {i : Nat} {e : Ex} {Γ : Tab} {sc : Scope} {X : Cx} {Wx : WX} {x : Str} {p : Pos} {v : Expr} {pos : Pos} (sx : StX Γ P C N L sc X) (tk : Takes X Wx) (hi : X.N[i]? = some x) (h : lcXB Γ L P.isis e sc x p v = true) : PS X (.Assign [.Name x p] v pos) (tS P C N X.K Wx (.asg i e)) := by
  have cx := sx.cx
  have nd : X.N.Nodup := by rw [cx.nm]; exact cx.nd
  cases e with
  | compX elt own t it ifs =>
    unfold lcXB at h
    dsimp only at h
    split at h
    · rename_i l tg iter fs scope cp
      obtain ⟨h, c9⟩ := and2 h
      obtain ⟨h, c8⟩ := and2 h
      obtain ⟨h, c7⟩ := and2 h
      obtain ⟨h, c6⟩ := and2 h
      obtain ⟨h, c5⟩ := and2 h
      obtain ⟨h, c4⟩ := and2 h
      obtain ⟨h, c3⟩ := and2 h
      obtain ⟨h, c2⟩ := and2 h
      obtain ⟨h, c1⟩ := and2 h
      obtain ⟨h, hl5⟩ := and2 h
      obtain ⟨h, hl4⟩ := and2 h
      obtain ⟨hc, hl⟩ := and2 h
      have hl := local_of cx (of_decide_eq_true hl)
      have hl5 : (scope.names.any fun (n, k) => n == x && (k == .local || k == .cell)) = false := by simpa using hl5
      have hcal := cx.cal hc
      have bk : BlkOk X.N X.env.scope scope (ownP L own) := by rw [cx.nm, cx.sc]; exact blkOk_by c4
      have ho : (ownP L own).map (·.2) = own := by simp [ownP, List.map_map, Function.comp_def]
      have hll : ifs.length ≤ 1 := by rw [← (star_all c7).2]; exact of_decide_eq_true c8
      have ht : ∀ i ∈ t.vars, i ∈ own := fun i hi => by
        have := List.all_eq_true.mp c5 i hi
        simpa using this
      have ps := ps_lcX (wi := tI P C N X.K Wx it) (g := tTgt X.K t) (tt := tIfs P C N X.K ifs) (te := fun σ0 => tE P C N X.K (fun cls d _ H => Wx cls d σ0 H) elt) (pos := cp) (spos := pos) (X := X) (elt := l) (tg := tg) (iter := iter) (ifs := fs) (scope := scope) (own := ownP L own) (y := x) (py := p) (Wx := Wx) sx.stk sx.frm tk hcal nd hi hl
        (sw_true sx.kd hl hl4 hl5) ((good Γ P C N L it).pi sc tg iter X Wx cx tk c1) bk
        (fun s H D cl fp => pg_ok (sc := relS scope sc) (cx.blk s H scope D cl fp).nm (cx.blk s H scope D cl fp).sc cx.nd hcal c3)
        (fun s H D cl fp => by
          cases fs with
          | nil =>
            cases ifs with
            | nil => exact pts_nil
            | cons _ _ => cases c7
          | cons f fs =>
            cases fs with
            | cons _ _ => simp at c8
            | nil =>
              cases ifs with
              | nil => cases c7
              | cons c cs =>
                obtain ⟨q, q3⟩ := and2 (show ((chk Γ L P.isis c (relS scope sc) f && noStar f) && chks Γ L P.isis cs (relS scope sc) []) = true from c7)
                have hn : noIf f = true := by simpa using c9
                exact pts_one ((good Γ P C N L c).pt (relS scope sc) f _ WF (cx.blk s H scope D cl fp) blk_takes (and2 q).1 hn).1)
        (fun σ0 s H D cl fp => (good Γ P C N L elt).pe (relS scope sc) l _ _ (cx.blkE s H scope D cl fp _) blkE_takes c6) (fold_of c2)
      rw [ho] at ps
      exact psI ps (fun D σ H q => tAsg_mono (fun σ H Q q => s_compX hll ht q) D σ H (q_asg q))
    · cases h
  | _ => cases h
theorem st_asg (i : Nat) (e : Ex) : PSg P C N L (.asg i e) := by
  intro Γ sc st X Wx sx tk h
  have cx := sx.cx
  unfold chkS at h
  split at h
  · rename_i x p v pos
    obtain ⟨h1, h⟩ := and2 h
    have hi : X.N[i]? = some x := by rw [cx.nm]; exact of_decide_eq_true h1
    have nd : X.N.Nodup := by rw [cx.nm]; exact cx.nd
    rcases Bool.or_eq_true_iff.mp h with hx | h
    · exact st_asgX sx tk hi hx
    obtain ⟨h3, h2⟩ := and2 h
    rcases Bool.or_eq_true_iff.mp h2 with hc | h2
    · have hl : X.env.scope.names.lookup x = some .cell := by rw [cx.sc]; exact of_decide_eq_true hc
      exact psI (ps_set nd hi (.inr hl) ((good Γ P C N L e).pe sc v X Wx cx tk h3) (sw_cell hl) (.inl (sx.fnt x))) fun D σ H q => q_asg q
    obtain ⟨h, h5⟩ := and2 h2
    obtain ⟨h2, h4⟩ := and2 h
    have hl := local_of cx (of_decide_eq_true h2)
    refine psI ?_ fun D σ H q => q_asg q
    cases hv : noLc v with
    | true => exact ps_set nd hi (.inl hl) ((good Γ P C N L e).pe sc v X Wx cx tk h3) (sw_none hv) (.inr hl)
    | false =>
      have hc : Γ.calm = true := by rw [hv] at h5; simpa using h5
      cases v with
      | ListComp l gens scope cp =>
        obtain ⟨hl4, hl5⟩ := and2 (show ((p.line == cp.line) && !(scope.names.any fun (n, k) => n == x && (k == .local || k == .cell))) = true from h4)
        have hl5 : (scope.names.any fun (n, k) => n == x && (k == .local || k == .cell)) = false := by simpa using hl5
        cases e with
        | comp elt own t it ifs =>
          unfold chk at h3
          split at h3
          · rename_i l' tg iter fs scope' cp' e1
            cases e1
            obtain ⟨h, c9⟩ := and2 h3
            obtain ⟨h, c8⟩ := and2 h
            obtain ⟨h, c7⟩ := and2 h
            obtain ⟨h, c6⟩ := and2 h
            obtain ⟨h, c5⟩ := and2 h
            obtain ⟨h, c4⟩ := and2 h
            obtain ⟨h, c3⟩ := and2 h
            obtain ⟨h, c2⟩ := and2 h
            obtain ⟨c0, c1⟩ := and2 h
            have hcal := cx.cal hc
            have bk : BlkOk X.N X.env.scope scope (ownP L own) := by rw [cx.nm, cx.sc]; exact blkOk_by c4
            have ho : (ownP L own).map (·.2) = own := by simp [ownP, List.map_map, Function.comp_def]
            have hll : ifs.length ≤ 1 := by rw [← (star_all c7).2]; exact of_decide_eq_true c8
            have ht : ∀ i ∈ t.vars, i ∈ own := fun i hi => by
              have := List.all_eq_true.mp c5 i hi
              simpa using this
            have ps := ps_setLc (wi := tI P C N X.K Wx it) (g := tTgt X.K t) (tt := tIfs P C N X.K ifs) (te := tE P C N X.K WF elt) (pos := cp) (spos := pos) (X := X) (elt := l) (tg := tg) (iter := iter) (ifs := fs) (scope := scope) (own := ownP L own) (y := x) (py := p) hcal nd hi hl
              (sw_true sx.kd hl hl4 hl5) ((good Γ P C N L it).pi sc tg iter X Wx cx tk c1) bk
              (fun s H D cl fp => pg_ok (sc := relS scope sc) (cx.blk s H scope D cl fp).nm (cx.blk s H scope D cl fp).sc cx.nd hcal c3)
              (fun s H D cl fp => by
                cases fs with
                | nil =>
                  cases ifs with
                  | nil => exact pts_nil
                  | cons _ _ => cases c7
                | cons f fs =>
                  cases fs with
                  | cons _ _ => simp at c8
                  | nil =>
                    cases ifs with
                    | nil => cases c7
                    | cons c cs =>
                      obtain ⟨q, q3⟩ := and2 (show ((chk Γ L P.isis c (relS scope sc) f && noStar f) && chks Γ L P.isis cs (relS scope sc) []) = true from c7)
                      have hn : noIf f = true := by simpa using c9
                      exact pts_one ((good Γ P C N L c).pt (relS scope sc) f _ WF (cx.blk s H scope D cl fp) blk_takes (and2 q).1 hn).1)
              (fun s H D cl fp => (good Γ P C N L elt).pe (relS scope sc) l _ WF (cx.blk s H scope D cl fp) blk_takes c6) (fold_of c2)
            rw [ho] at ps
            exact psI ps (tAsg_mono fun σ H Q q => s_comp hll ht q)
          · cases h3
        | _ => cases h3
      | SetComp _ _ _ _ => cases h4
      | DictComp _ _ _ _ _ => cases h4
      | _ => cases hv
  · cases h
theorem sw_tup {v tg : Expr} {l : Nat} {env : PySem.Env} (h : isTupT tg = true) : swapsWithSole [tg] v l env = pure false := by
  cases tg <;> first | (cases v <;> rfl) | cases h
theorem sto_none {v tg : Expr} {env : PySem.Env} (h : isTupT v = false) : swappedStores [tg] v env = pure none := by
  cases v <;> first | (cases tg <;> rfl) | cases h
theorem filter_lt {α β : Type} {f : α → Option β} {p : α → Bool} (h : ∀ a, p a = true → f a = none) : ∀ {l : List α}, l.any p = true → (l.filterMap f).length < l.length
  | [], q => by cases q
  | a :: l, q => by
    have hle : (l.filterMap f).length ≤ l.length := List.length_filterMap_le f l
    cases e : f a with
    | none => rw [List.filterMap_cons_none e, List.length_cons]; omega
    | some b =>
      rw [List.filterMap_cons_some e, List.length_cons, List.length_cons]
      have pa : p a = false := by
        cases z : p a with
        | false => rfl
        | true => rw [h a z] at e; cases e
      have q : l.any p = true := by simpa [List.any_cons, pa] using q
      have := filter_lt h q
      omega
theorem sto_nest {v tg : Expr} {env : PySem.Env} (h : nestT tg = true) : swappedStores [tg] v env = pure none := by
  cases tg with
  | Tuple es k p =>
    cases v with
    | Tuple vs k2 p2 =>
      have hn := filter_lt (f := fun e => match e with
        | .Name id pos => if env.kindOf id == some .local && pos.line == ((es.head?.map (·.pos.line)).getD 0) then some id else none
        | _ => none) (fun e he => by cases e <;> first | rfl | cases he) (show es.any (fun e => !nameT e) = true from h)
      unfold swappedStores
      dsimp only
      split
      · rfl
      · split
        · rfl
        · rw [if_pos]
          refine Bool.or_eq_true_iff.mpr (.inl ?_)
          rw [bne_iff_ne]
          exact Nat.ne_of_lt hn
    | _ => rfl
  | _ => cases h
theorem sto_fold {v tg : Expr} {env : PySem.Env} (h : foldT v = true) : swappedStores [tg] v env = pure none := by
  cases v with
  | Tuple vs k2 p2 =>
    have h : vs.all (foldedForSure 8) = true := h
    have key : ∀ es : List Expr, (swappedStores [.Tuple es 0 p2] (.Tuple vs k2 p2) env = pure none) := fun es => by
      unfold swappedStores
      dsimp only
      split
      · rfl
      · split
        · rfl
        · split
          · rfl
          · rfl
    cases tg <;> first | rfl | exact key _
  | _ => cases h
theorem ase_tup {tg : Expr} {env : PySem.Env} (h : isTupT tg = true) : (assignEach [tg] env).map (·.2) = [assign tg env] := by
  cases tg <;> first | rfl | cases h
theorem st_asgT (t : Tg) (e : Ex) : PSg P C N L (.asgT t e) := by
  intro Γ sc st X Wx sx tk h
  have cx := sx.cx
  unfold chkS at h
  split at h
  · rename_i tg v pos
    obtain ⟨h, h5⟩ := and2 h
    obtain ⟨h, h4⟩ := and2 h
    obtain ⟨h, h3⟩ := and2 h
    obtain ⟨h1, h2⟩ := and2 h
    have sto : swappedStores [tg] v X.env = pure none := by
      rcases Bool.or_eq_true_iff.mp h4 with h4 | h4
      · rcases Bool.or_eq_true_iff.mp h4 with h4 | h4
        · exact sto_none (by simpa using h4)
        · exact sto_nest h4
      · exact sto_fold h4
    exact psI (ps_asg ((good Γ P C N L e).pe sc v X Wx cx tk h3) (pg_ok cx.nm cx.sc cx.nd (cx.cal h5) h1) (sw_tup h2) sto (ase_tup h2)) fun D σ H q => q_asgT q
  · cases h
theorem star_m {l : Expr} (n1 : noStar l = true) : (match l with | .Starred .. => true | _ => false) = false := by
  cases l <;> first | rfl | exact absurd n1 Bool.false_ne_true
theorem sto_pair {x y : Str} {px py p1 p2 : Pos} {k1 k2 : Nat} {l r : Expr} {env : PySem.Env} (kd : env.scope.kind = .function) (hx : env.scope.names.lookup x = some .local) (hy : env.scope.names.lookup y = some .local) (hp : (py.line == px.line) = true) (hxy : x ≠ y)
    (f1 : ([l, r].all (foldedForSure 8)) = false) (f2 : ([l, r].all (constantsAlone 8)) = false) (n1 : noStar l = true) (n2 : noStar r = true) : swappedStores [.Tuple [.Name x px, .Name y py] k1 p1] (.Tuple [l, r] k2 p2) env = pure (some [x, y]) := by
  have kx : env.kindOf x = some .local := hx
  have ky : env.kindOf y = some .local := hy
  have hb : env.blockKind = .function := by unfold Env.blockKind; rw [kd]; rfl
  have hyx : (y == x) = false := by
    cases e : y == x with
    | true => exact absurd (by simpa using e) (Ne.symm hxy)
    | false => rfl
  have hxy' : (x == y) = false := by
    cases e : x == y with
    | true => exact absurd (by simpa using e) hxy
    | false => rfl
  unfold swappedStores
  have hp' : (Expr.pos (.Name x px)).line = px.line := rfl
  simp only [List.length_cons, List.length_nil, hb, f1, f2, kx, ky, Expr.pos, List.head?_cons, Option.map_some, Option.getD_some, List.filterMap_cons, List.filterMap_nil, beq_self_eq_true, Bool.and_self, Bool.and_true, hp, if_true]
  have ed : [x, y].eraseDups = [x, y] := by
    simp [List.eraseDups_cons, List.filter, hyx]
  simp [ed]
  intro q
  rcases q with q | q
  · exfalso
    cases l <;> first | exact absurd n1 Bool.false_ne_true | cases q
  · exfalso
    cases r <;> first | exact absurd n2 Bool.false_ne_true | cases q
theorem notB {b : Bool} (h : (!b) = true) : b = false := by cases b <;> first | rfl | cases h
theorem st_par (i j : Nat) (a b : Ex) : PSg P C N L (.par i j a b) := by
  intro Γ sc st X Wx sx tk h
  have cx := sx.cx
  unfold chkS at h
  split at h
  · rename_i x px y py k1 p1 l r k2 p2 pos
    obtain ⟨h, c14⟩ := and2 h
    obtain ⟨h, c13⟩ := and2 h
    obtain ⟨h, c12⟩ := and2 h
    obtain ⟨h, c11⟩ := and2 h
    obtain ⟨h, c10⟩ := and2 h
    obtain ⟨h, c9⟩ := and2 h
    obtain ⟨h, c8⟩ := and2 h
    obtain ⟨h, c7⟩ := and2 h
    obtain ⟨h, c6⟩ := and2 h
    obtain ⟨h, c5⟩ := and2 h
    obtain ⟨h, c4⟩ := and2 h
    obtain ⟨h, c3⟩ := and2 h
    obtain ⟨c1, c2⟩ := and2 h
    have hx := local_of cx (of_decide_eq_true c4)
    have hy := local_of cx (of_decide_eq_true c5)
    have pa : PA X [l, r] (tEs P C N X.K Wx [a, b]) := paI (pa_cons ((good Γ P C N L a).pe sc l X Wx cx tk c10) (pa_cons ((good Γ P C N L b).pe sc r X Wx cx tk c11) pa_nil (star_of c13)) (star_of c12)) fun σ H Q q => by
      have q1 := s_cons q
      refine q1.imp fun env q => ?_
      obtain ⟨m, M, F, s, q⟩ := q
      exact ⟨m, M, F, s, ERes.imp (fun b H z => by
        obtain ⟨e2, m2, M2, F2, s2, z⟩ := s_cons z
        exact ⟨e2, m2, M2, F2, s2, ERes.imp (fun b H z => s_nil z) z⟩) q⟩
    exact psI (ps_par (cx.cal c14) (by rw [cx.nm]; exact cx.nd) (by rw [cx.nm]; exact of_decide_eq_true c1) (by rw [cx.nm]; exact of_decide_eq_true c2) (of_decide_eq_true c3) hx hy pa (sto_pair sx.kd hx hy c6 (of_decide_eq_true c7) (notB c8) (notB c9) c12 c13)) fun D σ H q => q_par q
  · cases h
theorem st_app (o e : Ex) : PSg P C N L (.app o e) := by
  intro Γ sc st X Wx sx tk h
  have cx := sx.cx
  unfold chkS at h
  split at h
  · rename_i l m ap v p pos
    obtain ⟨h, h6⟩ := and2 h
    obtain ⟨h, h5⟩ := and2 h
    obtain ⟨h, h4⟩ := and2 h
    obtain ⟨h, h3⟩ := and2 h
    obtain ⟨h1, h2⟩ := and2 h
    have e1 := of_decide_eq_true h1
    subst e1
    refine psI (ps_expr (pe_bm F.plainAttrs_list F.slot_list_append F.type_list_append mt_append ((good Γ P C N L o).pe sc l X Wx cx tk h2) (pa_cons ((good Γ P C N L e).pe sc v X Wx cx tk h4) pa_nil (star_of h5)) (sup_of h3) (by rw [star_of h5]; rfl) h6 (star_of h5)) rfl) fun D σ H q => q_app q
  · cases h
theorem st_setA (o : Ex) (f : Nat) (e : Ex) : PSg P C N L (.setA o f e) := by
  intro Γ sc st X Wx sx tk h
  have cx := sx.cx
  unfold chkS at h
  split at h
  · rename_i l x ap v pos
    obtain ⟨h, h4⟩ := and2 h
    obtain ⟨h, h3⟩ := and2 h
    obtain ⟨h1, h2⟩ := and2 h
    have ea := cx.tn.fa x f (of_decide_eq_true h2)
    subst ea
    exact psI (ps_fld ((good Γ P C N L o).pe sc l X Wx cx tk h1) ((good Γ P C N L e).pe sc v X Wx cx tk h3) (sw_none h4)) fun D σ H q => q_setA cx.tc q
  · cases h
theorem st_swp (o i j : Ex) : PSg P C N L (.swp o i j) := by
  intro Γ sc st X Wx sx tk h
  have cx := sx.cx
  unfold chkS at h
  split at h
  · rename_i l1 r1 p1 l2 r2 p2 k3 p3 v1 v2 k4 p4 pos
    obtain ⟨h, h14⟩ := and2 h
    obtain ⟨h, h13⟩ := and2 h
    obtain ⟨h, h12⟩ := and2 h
    obtain ⟨h, h11⟩ := and2 h
    obtain ⟨h, h10⟩ := and2 h
    obtain ⟨h, h9⟩ := and2 h
    obtain ⟨h, h8⟩ := and2 h
    obtain ⟨h, h7⟩ := and2 h
    obtain ⟨h, h6⟩ := and2 h
    obtain ⟨h, h5⟩ := and2 h
    obtain ⟨h, h4⟩ := and2 h
    obtain ⟨h, h3⟩ := and2 h
    obtain ⟨h1, h2⟩ := and2 h
    have gd := fun x => good Γ P C N L x
    have sub : ∀ {a b : Ex} {l r : Expr} {p : Pos}, chk Γ L P.isis a sc l = true → chk Γ L P.isis b sc r = true → noSlc r = true → PG X (.Subscript l r p) (gSub (tE P C N X.K Wx a) (tE P C N X.K Wx b) rSetL) := fun {a b l r p} ha hb hr =>
      pg_sub ((gd a).pe sc l X Wx cx tk ha) ((gd b).pe sc r X Wx cx tk hb) set_list (fun u => by cases r <;> first | rfl | exact absurd hr Bool.false_ne_true)
    have pt : PG X (.Tuple [.Subscript l1 r1 p1, .Subscript l2 r2 p2] k3 p3) (gTup X.K 2 (gCons (gSub (tE P C N X.K Wx o) (tE P C N X.K Wx i) rSetL) (gCons (gSub (tE P C N X.K Wx o) (tE P C N X.K Wx j) rSetL) gNil))) :=
      pg_tup (cx.cal h14) (pgs_cons (sub h4 h5 h8) (pgs_cons (sub h6 h7 h9) pgs_nil))
    have pv : PA X [v1, v2] (tEs P C N X.K Wx [.idx o j, .idx o i]) := paI (pa_cons ((gd _).pe sc v1 X Wx cx tk h10) (pa_cons ((gd _).pe sc v2 X Wx cx tk h12) pa_nil (star_of h13)) (star_of h11)) fun σ H Q q => by
      have q1 := s_cons q
      refine q1.imp fun env q => ?_
      obtain ⟨m, M, F, s, q⟩ := q
      exact ⟨m, M, F, s, ERes.imp (fun b H z => by
        obtain ⟨e2, m2, M2, F2, s2, z⟩ := s_cons z
        exact ⟨e2, m2, M2, F2, s2, ERes.imp (fun b H z => s_nil z) z⟩) q⟩
    cases o with
    | var a =>
      cases i with
      | var b =>
        cases j with
        | var c => exact psI (ps_asg (pe_tup pv) pt rfl (sto_nest rfl) rfl) fun D σ H q => q_swp q
        | _ => cases h3
      | _ => cases h2
    | _ => cases h1
  · cases h
theorem st_set (o i e : Ex) : PSg P C N L (.setIdx o i e) := by
  intro Γ sc st X Wx sx tk h
  have cx := sx.cx
  unfold chkS at h
  split at h
  · rename_i l r p v pos
    obtain ⟨h, h4⟩ := and2 h
    obtain ⟨h, h3⟩ := and2 h
    obtain ⟨h1, h2⟩ := and2 h
    exact psI (ps_asg ((good Γ P C N L e).pe sc v X Wx cx tk h3) (pg_sub ((good Γ P C N L o).pe sc l X Wx cx tk h1) ((good Γ P C N L i).pe sc r X Wx cx tk h2) set_list (fun u => by cases r <;> first | rfl | exact absurd h4 Bool.false_ne_true)) (by cases v <;> rfl) (by cases v <;> rfl) rfl) fun D σ H q => q_set q
  · cases h
end
end G

set_option maxHeartbeats 4000000
/-! The checker of statements is sound: the end. -/
namespace G
open PySem PySem.Spec PyProof.Rows L2
section
variable {P : Prog} {C : Calls} {N : Nam} {L : List Str}
theorem st_if {c : Ex} {a b : List G.St} (ha : PSsg P C N L a) (hb : PSsg P C N L b) : PSg P C N L (.ifs c a b) := by
  intro Γ sc st X Wx sx tk h
  unfold chkS at h
  split at h
  · obtain ⟨h, h4⟩ := and2 h
    obtain ⟨h, h3⟩ := and2 h
    obtain ⟨h1, h2⟩ := and2 h
    exact psI (ps_if ((good Γ P C N L c).pt sc _ X Wx sx.cx tk h1 h2).1 (ha Γ sc _ X Wx sx tk h3) (hb Γ sc _ X Wx sx tk h4)) fun D σ H q => q_if q
  · cases h
theorem st_for {t : Tg} {it : Ex} {body : List G.St} (hb : PSsg P C N L body) : PSg P C N L (.for_ t it body) := by
  intro Γ sc st X Wx sx tk h
  unfold chkS at h
  split at h
  · obtain ⟨h, h5⟩ := and2 h
    obtain ⟨h, h4⟩ := and2 h
    obtain ⟨h, h3⟩ := and2 h
    obtain ⟨h1, h2⟩ := and2 h
    exact psI (ps_for (sx.own h1) (sx.cx.cal h1) ((good Γ P C N L it).pi sc _ _ X Wx sx.cx tk h2) (pg_ok sx.cx.nm sx.cx.sc sx.cx.nd (sx.cx.cal h1) h4) (hb Γ sc _ X Wx sx tk h5) (fold_of h3)) fun D σ H q => q_for q
  · cases h
theorem st_while {c : Ex} {body : List G.St} (hb : PSsg P C N L body) : PSg P C N L (.while_ c body) := by
  intro Γ sc st X Wx sx tk h
  unfold chkS at h
  split at h
  · obtain ⟨h, h4⟩ := and2 h
    obtain ⟨h, h3⟩ := and2 h
    obtain ⟨h1, h2⟩ := and2 h
    exact psI (ps_while (sx.own h1) ((good Γ P C N L c).pt sc _ X Wx sx.cx tk h2 h3).1 (hb Γ sc _ X Wx sx tk h4)) fun D σ H q => q_while q
  · cases h
theorem st_ret (e : Ex) : PSg P C N L (.ret e) := by
  intro Γ sc st X Wx sx tk h
  unfold chkS at h
  split at h
  · exact psI (ps_ret ((good Γ P C N L e).pe sc _ X Wx sx.cx tk h)) fun D σ H q => q_ret q
  · cases h
theorem st_retN : PSg P C N L .retN := by
  intro Γ sc st X Wx sx tk h
  unfold chkS at h
  split at h
  · exact psI ps_retN fun D σ H q => q_retN q
  · cases h
theorem st_expr (e : Ex) : PSg P C N L (.expr e) := by
  intro Γ sc st X Wx sx tk h
  unfold chkS at h
  split at h
  · obtain ⟨h1, h2⟩ := and2 h
    exact psI (ps_expr ((good Γ P C N L e).pe sc _ X Wx sx.cx tk h1) (sw_none h2)) fun D σ H q => q_expr q
  · cases h
theorem st_pass : PSg P C N L .pass := by
  intro Γ sc st X Wx sx tk h
  unfold chkS at h
  split at h
  · exact psI ps_pass fun D σ H q => q_pass q
  · cases h
theorem st_brk : PSg P C N L .brk := by
  intro Γ sc st X Wx sx tk h
  unfold chkS at h
  split at h
  · exact psI ps_break fun D σ H q => q_brk q
  · cases h
theorem st_cnt : PSg P C N L .cnt := by
  intro Γ sc st X Wx sx tk h
  unfold chkS at h
  split at h
  · exact psI ps_continue fun D σ H q => q_cnt q
  · cases h
theorem st_no {x : G.St} (h : ∀ Γ sc st, chkS P L x Γ sc st = true → False) : PSg P C N L x := fun Γ sc st X Wx sx tk hc => (h Γ sc st hc).elim
theorem st_raise (c : Nat) (as ks : List Ex) (perm : List Nat) : PSg P C N L (.raise c as ks perm) := by
  intro Γ sc st X Wx sx tk h
  unfold chkS at h
  split at h
  · rename_i x p es kws p2 p3
    obtain ⟨h, h8⟩ := and2 h
    obtain ⟨h, h7⟩ := and2 h
    obtain ⟨h, h6⟩ := and2 h
    obtain ⟨h, h5⟩ := and2 h
    obtain ⟨h, h4⟩ := and2 h
    obtain ⟨h, h3⟩ := and2 h
    obtain ⟨h1, h2⟩ := and2 h
    split at h2
    · rename_i g ps eq
      obtain ⟨q1, q2⟩ := and2 h2
      have e := of_decide_eq_true q1
      subst e
      obtain ⟨k, hk, T⟩ := sx.xs x g ps eq
      obtain ⟨n, hr⟩ := sx.rm h1
      obtain ⟨a1, a2⟩ := star_all h5
      obtain ⟨b1, b2⟩ := star_all h6
      rw [List.length_map] at b2
      exact ps_raiseX hr (sx.cx.cal h1) tk hk T (sx.cx.gl h3) q2 h4 a1 a2 b2 (of_decide_eq_true h7) (of_decide_eq_true h8) (pa_of (goods Γ P C N L as) sc es X Wx sx.cx tk h5) (pk_of (goods Γ P C N L ks) sx.cx tk h6)
    · cases h2
  · cases h
theorem st_try {body : List G.St} {hcs : List (Nat × Option Nat)} {sus : List (List G.St)} (hb : PSsg P C N L body) (hh : PHg P C N L sus) : PSg P C N L (.try_ body hcs sus) := by
  intro Γ sc st X Wx sx tk h
  unfold chkS at h
  split at h
  · rename_i x h0 hds p
    obtain ⟨h, h3⟩ := and2 h
    obtain ⟨h1, h2⟩ := and2 h
    exact ps_tryG sx.stk sx.frm sx.ex (by rw [sx.cx.nm]; exact sx.cx.nd) tk (fun W pn xe tk' ow => hb Γ sc x (X.tr pn xe) W (sx.tr ow) tk' h2) (hh hcs Γ sc (h0 :: hds) X sx h3)
  · cases h
theorem pss_of0 : PSsg P C N L [] := by
  intro Γ sc sts X Wx sx tk h
  cases sts with
  | nil => exact pssI pss_nil fun D σ H q => q_nil q
  | cons _ _ => cases h
theorem pss_of1 {x : G.St} {r : List G.St} (hx : PSg P C N L x) (hr : PSsg P C N L r) : PSsg P C N L (x :: r) := by
  intro Γ sc sts X Wx sx tk h
  cases sts with
  | nil => cases h
  | cons st sts =>
    obtain ⟨h1, h2⟩ := and2 (show (chkS P L x Γ sc st && chkSs P L r Γ sc sts) = true from h)
    exact pssI (pss_cons (hx Γ sc st X Wx sx tk h1) (hr Γ sc sts X Wx sx tk h2)) fun D σ H q => q_cons q
theorem ph_of0 : PHg P C N L [] := by
  intro hcs Γ sc hds X sx h
  obtain ⟨h1, h2⟩ := and2 (show (hcs.isEmpty && hds.isEmpty) = true from h)
  obtain rfl : hcs = [] := List.isEmpty_iff.mp h1
  obtain rfl : hds = [] := List.isEmpty_iff.mp h2
  exact .nil
theorem ph_of1 {su : List G.St} {sus : List (List G.St)} (hs : PSsg P C N L su) (hr : PHg P C N L sus) : PHg P C N L (su :: sus) := by
  intro hcs Γ sc hds X sx h
  unfold chkH at h
  split at h
  · rename_i t slot hcs' x np nm b r pos hds'
    obtain ⟨h, h6⟩ := and2 h
    obtain ⟨h, h5⟩ := and2 h
    obtain ⟨h, h4⟩ := and2 h
    obtain ⟨h, h3⟩ := and2 h
    obtain ⟨h1, h2⟩ := and2 h
    obtain ⟨m1, m2⟩ := sx.cx.tn.cls x t (of_decide_eq_true h1)
    have hx : ∀ c k, P.cls c = some k → k.isX = true → PySem.W.exmOne X.K (.ref (N.cA c)) (.ref (N.cA t)) = some (k.anc.contains t) := fun c k h h' => sx.hd c k t h h' h3
    have su' : ∀ (a : Addr) (pn : List (Addr × Obj)), PSs (X.suite a pn) (b :: r) (tSs P C N X.K WF su) := fun a pn => hs Γ.quiet sc (b :: r) (X.suite a pn) WF (sx.suite a pn) suite_takes h5
    have r' := hr hcs' Γ sc hds' X sx h6
    cases slot with
    | none =>
      cases nm with
      | none => exact .plain m1 (sx.cx.gl h2) m2 hx su' r'
      | some _ => cases h4
    | some i =>
      cases nm with
      | none => cases h4
      | some n =>
        obtain ⟨q1, q2⟩ := and2 (show (decide (L[i]? = some n) && decide (sc.names.lookup n = some .local)) = true from h4)
        exact .named m1 (sx.cx.gl h2) m2 hx (by rw [sx.cx.nm]; exact of_decide_eq_true q1) (local_of sx.cx (of_decide_eq_true q2)) su' r'
  · cases h
variable (P C N L)
mutual
theorem ps_of : ∀ x : G.St, PSg P C N L x
  | .asg i e => st_asg i e
  | .asgT t e => st_asgT t e
  | .par i j a b => st_par i j a b
  | .setIdx o i e => st_set o i e
  | .ifs c a b => st_if (pss_of a) (pss_of b)
  | .for_ t it body => st_for (pss_of body)
  | .while_ c body => st_while (pss_of body)
  | .ret e => st_ret e
  | .retN => st_retN
  | .expr e => st_expr e
  | .app o e => st_app o e
  | .swp o i j => st_swp o i j
  | .setA o f e => st_setA o f e
  | .raise c as ks perm => st_raise c as ks perm
  | .try_ body hcs sus => st_try (pss_of body) (ph_of sus)
  | .pass => st_pass
  | .brk => st_brk
  | .cnt => st_cnt
theorem pss_of : ∀ xs : List G.St, PSsg P C N L xs
  | [] => pss_of0
  | x :: r => pss_of1 (ps_of x) (pss_of r)
theorem ph_of : ∀ sus : List (List G.St), PHg P C N L sus
  | [] => ph_of0
  | su :: sus => ph_of1 (pss_of su) (ph_of sus)
end
end
end G

set_option maxHeartbeats 4000000
/-! The functions of the text keep what the evaluator says. -/
namespace G
open PySem PySem.Spec PyProof.Rows L2

section
variable {N : Nam} {K : PySem.W.Frag} {F : Fx} {H : Hp} {m r : List Addr} {M : Mem}
mutual
theorem RepW.below {F : Hp} : ∀ (w : W) (v : V), RepW N K F (m ++ r) w v → belowW m.length w = true → RepW N K F m w v
  | .p d, v, h, _ => h
  | .loc l, v, h, hb => by
    obtain ⟨a, h1, h2⟩ := h
    have hl : l < m.length := of_decide_eq_true hb
    exact ⟨a, by rw [List.getElem?_append_left hl] at h1; exact h1, h2⟩
  | .tp ws, v, h, hb => by
    obtain ⟨a, ys, h1, h2, h3⟩ := h
    exact ⟨a, ys, h1, h2, RepWs.below ws ys h3 hb⟩
theorem RepWs.below {F : Hp} : ∀ (ws : List W) (vs : List V), RepWs N K F (m ++ r) ws vs → belowWs m.length ws = true → RepWs N K F m ws vs
  | [], [], _, _ => trivial
  | w :: ws, v :: vs, h, hb => by
    obtain ⟨h1, h2⟩ := and2 (show (belowW m.length w && belowWs m.length ws) = true from hb)
    exact ⟨RepW.below w v h.1 h1, RepWs.below ws vs h.2 h2⟩
  | [], _ :: _, h, _ => h.elim
  | _ :: _, [], h, _ => h.elim
end
theorem RepWF.below {F : Hp} {L : Str → Option V} : ∀ (ns : List Nat) (ws : List W), RepWF N K F (m ++ r) ns ws L → belowWs m.length ws = true → RepWF N K F m ns ws L
  | [], [], _, _ => trivial
  | n :: ns, w :: ws, h, hb => by
    obtain ⟨h1, h2⟩ := and2 (show (belowW m.length w && belowWs m.length ws) = true from hb)
    obtain ⟨⟨v, q1, q2⟩, q3⟩ := h
    exact ⟨⟨v, q1, RepW.below w v q2 h1⟩, RepWF.below ns ws q3 h2⟩
  | [], _ :: _, h, _ => h.elim
  | _ :: _, [], h, _ => h.elim
theorem CellOk.below {F : Hp} {a : Addr} : ∀ {c : Cell}, CellOk N K F (m ++ r) H a c → belowC m.length c = true → CellOk N K F m H a c
  | .lst ws, h, hb => by
    obtain ⟨h0, ys, h1, h2⟩ := h
    exact ⟨h0, ys, h1, RepWs.below _ _ h2 hb⟩
  | .ins c ns ws, h, hb => by
    obtain ⟨h0, dx, fs, h1, h2, h3⟩ := h
    exact ⟨h0, dx, fs, h1, RepWF.below _ _ h2 hb, h3⟩
  | .dic ks ws, h, hb => by
    obtain ⟨h0, kvs, h1, h2, h3⟩ := h
    exact ⟨h0, kvs, h1, h2, RepWs.below _ _ h3 hb⟩
  | .fz d, h, hb => h
/-- the places behind go -/
theorem SimM.pop (s : SimM N K (m ++ r) M F H) (hl : m.length ≤ M.length) (hb : (M.take m.length).all (belowC m.length) = true) : SimM N K m (M.take m.length) F H := by
  refine ⟨s.sub, by rw [List.length_take]; omega, fun l a c h1 h2 => ?_, (List.nodup_append.mp s.nd).1, fun a ha => s.live a (List.mem_append_left _ ha), fun a o e => ?_⟩
  · have hlm : l < m.length := (List.getElem?_eq_some_iff.mp h1).1
    have h2' : M[l]? = some c := by rw [List.getElem?_take_of_lt hlm] at h2; exact h2
    have hc := s.cell l a c (by rw [List.getElem?_append_left hlm]; exact h1) h2'
    exact CellOk.below hc (List.all_eq_true.mp hb c (List.mem_of_getElem? h2))
  · obtain ⟨h1, h2, h3⟩ := s.apart a o e
    exact ⟨h1, fun q => h2 (List.mem_append_left _ q), h3⟩
end
/-- what a body must keep so that its call keeps what is said -/
theorem body_res {N : Nam} {K : PySem.W.Frag} {Q : VK} {E : XK} {m : List Addr} {F : Fx} {M : Mem} {pop : Bool} (lm : m.length = M.length) : ∀ {z : SR}, FRes N K Q E m F (fnR pop M z) → SRes N K (fun cls d _ H' => E cls d H') { nx := fun _ H' => Q .non H', rt := Q } m F z := by
  have pp : ∀ {w : W} {M' : Mem}, FRes N K Q E m F (popR M w M') → ∀ v H' m' F', SimM N K m' M' F' H' → RepW N K F' m' w v → Gr m F m' F' → Q v H' := fun {w M'} h v H' m' F' s r g => by
    unfold popR at h
    split at h
    · exact h v H' m' F' s r g
    · split at h
      · rename_i hb
        obtain ⟨h1, h2⟩ := and2 hb
        obtain ⟨⟨x, rfl⟩, g1, g2⟩ := g
        have ml : M'.length = m.length + x.length := by rw [← s.len, List.length_append]
        rw [← lm] at h1 h2 h
        exact h v H' m F' (s.pop (by omega) h2) (RepW.below w v r h1) ⟨⟨[], by simp⟩, g1, g2⟩
      · exact h.elim
  intro z h
  cases z with
  | nx env M' =>
    cases pop with
    | true => exact fun σ' H' m' F' s g => pp h .non H' m' F' s.mem rfl g
    | false => exact fun σ' H' m' F' s g => h .non H' m' F' s.mem rfl g
  | rt w M' =>
    cases pop with
    | true => exact fun v H' m' F' s r g => pp h v H' m' F' s r g
    | false => exact fun v H' m' F' s r g => h v H' m' F' s r g
  | bk env M' => exact h.elim
  | ct env M' => exact h.elim
  | bad => exact h.elim
  | exc c ns vs env M' =>
    intro cls d σ' H' m' F' s g ex
    have h : FRes N K Q E m F (if pop && decide (M.length < M'.length) then (if (M'.take M.length).all (belowC M.length) then .exc c ns vs (M'.take M.length) else .bad) else .exc c ns vs M') := h
    split at h
    · split at h
      · rename_i hb
        obtain ⟨⟨x, rfl⟩, g1, g2⟩ := g
        have ml : M'.length = m.length + x.length := by rw [← s.mem.len, List.length_append]
        rw [← lm] at hb h
        exact h cls d H' m F' (s.mem.pop (by omega) hb) ⟨⟨[], by simp⟩, g1, g2⟩ ex
      · exact h.elim
    · exact h cls d H' m' F' s.mem g ex
theorem fn_ofG {Pr : Program} {w : World} {K : PySem.W.Frag} {mg : Str → Option Value} {base : Heap} {k : Nat} {f : Addr} {nm qual : Str} {params : Arguments} {body : List Stmt} {scope : Scope} {dV kV doc pm cdv ct oc : Value} {an od : Option Addr}
    {osl : Array (Option Value)} {L ps : List Str} {sp : Sp} (lk : K.lookup f = some ⟨oc, od, .func (PySem.W.fnOf nm qual params body scope dV kV doc pm an cdv ct), osl⟩) (hcd : PySem.W.codeIn K cdv qual = true) (S : FnScope L ps scope)
    (len : ∀ vs H Q E, sp vs H Q E → vs.length = ps.length)
    (hbody : ∀ (A : Around) (outer : List PySem.Env) (s : Shared) (H : Hp) (vs : List V) (Q : VK) (E : XK), Room k (A.deeper (envOfC qual scope s.heap.objs.size f cdv)) → A.guards = some [] → sp vs H Q E →
      ∃ t, PSs (cxOf (L2.CX Pr w) Pr w K mg base L qual scope f cdv A outer s H E) body t ∧ t { nx := fun _ H' => Q .non H', rt := Q } (L2.start L vs) H) :
    FnG Pr w K mg base (k + 1) f (PySem.W.fnOf nm qual params body scope dV kV doc pm an cdv ct) ps sp := by
  refine ⟨len, fun A outer s H args us vs Q E hr hg e0 hb r hsp => ?_⟩
  have KX : K.In s.heap := e0.mod.kin.keeps fun b o e => (e0.bs b o e).1
  have lim : s.heap.NoLimit := e0.mod.nolimit.keeps fun b o e => (e0.bs b o e).1
  have kinds : ∀ y ∈ ps.zip us, scope.names.lookup y.1 = some .local ∨ (scope.names.lookup y.1 = some .cell ∧ ((cellsFrom (s.heap.objs.size + 1) scope.names []).lookup y.1).isSome = true) := by
    intro y hy
    obtain ⟨n, v⟩ := y
    rcases S.par n (List.of_mem_zip hy).1 with q | q
    · exact Or.inl q
    · exact Or.inr ⟨q, PySem.W.cellsFrom_some _ _ _ (Or.inl q)⟩
  refine codeAny_call_function hr.depth (KX _ _ lk) rfl S.co S.gen rfl (PySem.W.codeRec_of KX hcd) (hb _ _ _ _ ?_)
  refine wpAny_newFunctionEnv_cells S.kind kinds fun env he s1 x => ?_
  subst he
  refine ⟨lim.keeps x.toInCall.keep, codeAny_func ?_⟩
  obtain ⟨t, ht, hq⟩ := hbody A outer s H vs Q E (hr.deeper _) hg hsp
  have I : L2.Inv (cxOf (L2.CX Pr w) Pr w K mg base L qual scope f cdv A outer s H E) [] (L2.start L vs) H s1 := inv_start S hr.hd e0 (len _ _ _ _ hsp) r x
  refine wpAny_mono (ht.run [] s1 (L2.start L vs) H _ I hq) (fun fl s' hs => ?_) fun e s' hs => hs
  cases fl with
  | ret u =>
    obtain ⟨v, σ', H', J, rv, q⟩ := hs
    exact ⟨v, H', J.os, J.bare, J.base, J.hok, rv, q⟩
  | next =>
    obtain ⟨σ', H', J, q⟩ := hs
    exact ⟨V.non, H', J.os, J.bare, J.base, J.hok, rfl, q⟩
  | brk =>
    obtain ⟨_, _, _, q⟩ := hs
    exact False.elim q
  | cont =>
    obtain ⟨_, _, _, q⟩ := hs
    exact False.elim q
/-- a function of the text against the evaluator's table -/
structure FnTie (Γ : Tab) (P : Prog) (N : Nam) (K : PySem.W.Frag) (f : Nat) (ps : List Str) : Prop where
  at_ : ∃ fd, FnFact K (N.fA f) fd ps ∧ ∃ L d oc od osl nm qual params body scope dV kV doc pm an cdv ct, fd = PySem.W.fnOf nm qual params body scope dV kV doc pm an cdv ct ∧ K.lookup (N.fA f) = some ⟨oc, od, .func fd, osl⟩ ∧
    PySem.W.codeIn K cdv qual = true ∧ FnScope L ps scope ∧ P.fn f = some d ∧ d.par = ps.length ∧ d.slots = L.length ∧ chkSs P L d.body Γ scope body = true
structure ModTie (Γ : Tab) (P : Prog) (N : Nam) (K : PySem.W.Frag) (mg : Str → Option Value) : Prop where
  calm : Γ.calm = true
  tc : TieC P N K
  tn : TieN Γ P N K mg
  fns : ∀ f ps, Γ.fp.lookup f = some ps → FnTie Γ P N K f ps
  xs : ∀ x c ps, Γ.xs.lookup x = some (c, ps) → ∃ k, P.cls c = some k ∧ XFact K mg N x c ps k.flds
  hd : ∀ c k t, P.cls c = some k → k.isX = true → isXb P t = true → PySem.W.exmOne K (.ref (N.cA c)) (.ref (N.cA t)) = some (k.anc.contains t)
theorem start_rep {N : Nam} {K : PySem.W.Frag} {F : Hp} {m : List Addr} {L : List Str} {ws : List W} {vs : List V} {n : Nat} (r : RepWs N K F m ws vs) (h : n = L.length - vs.length) : RepE N K F m (ws.map some ++ List.replicate n none) (L2.start L vs) := by
  unfold L2.start
  subst h
  refine ⟨by simp [r.length], fun i w e => ?_⟩
  by_cases hi : i < ws.length
  · rw [List.getElem?_append_left (by simpa using hi), List.getElem?_map] at e
    cases e1 : ws[i]? with
    | none => rw [e1] at e; cases e
    | some u =>
      rw [e1] at e
      cases e
      obtain ⟨v, h1, h2⟩ := r.get e1
      exact ⟨v, by rw [List.getElem?_append_left (by simp; rw [← r.length]; exact hi), List.getElem?_map, h1]; rfl, h2⟩
  · rw [List.getElem?_append_right (by simp; omega), List.getElem?_replicate] at e
    split at e <;> cases e
theorem fn_level {Γ : Tab} {P : Prog} {N : Nam} {K : PySem.W.Frag} {mg : Str → Option Value} (T : ModTie Γ P N K mg) (Pr : Program) (w : World) : ∀ (n : Nat) (f : Nat) (ps : List Str), Γ.fp.lookup f = some ps →
    ∃ fd, FnFact K (N.fA f) fd ps ∧ ∀ base : Heap, FnG Pr w K mg base (4 * n + 3) (N.fA f) fd ps (spF N K (callF P n) f ps.length)
  | 0, f, ps, h => by
    obtain ⟨fd, ff, _⟩ := (T.fns f ps h).at_
    refine ⟨fd, ff, fun base => ⟨fun vs H Q E q => q.1, fun A outer s H args us vs Q E hr hg e0 hb r q => ?_⟩⟩
    obtain ⟨_, m, M, F, ws, _, _, q⟩ := q
    exact q.elim
  | n + 1, f, ps, h => by
    obtain ⟨fd, ff, L, d, oc, od, osl, nm, qual, params, body, scope, dV, kV, doc, pm, an, cdv, ct, rfl, lk, hcd, S, hf, hp, hsl, hchk⟩ := (T.fns f ps h).at_
    refine ⟨_, ff, fun base => fn_ofG (k := 4 * n + 6) lk hcd S (fun vs H Q E q => q.1) fun A outer s H vs Q E hr hg q => ?_⟩
    obtain ⟨hl, m, M, F, ws, sm, rw', q⟩ := q
    have q : FRes N K Q E m F (match P.fn f with
      | some d => if ws.length = d.par then fnR d.pop M (exs P (callF P n) d.body (ws.map some ++ List.replicate (d.slots - d.par) none) M) else .bad
      | none => .bad) := q
    rw [hf] at q
    have hw : ws.length = d.par := by rw [rw'.length, hl, hp]
    have q : FRes N K Q E m F (if ws.length = d.par then fnR d.pop M (exs P (callF P n) d.body (ws.map some ++ List.replicate (d.slots - d.par) none) M) else .bad) := q
    rw [if_pos hw] at q
    have sr := body_res sm.len q
    let X := cxOf (L2.CX Pr w) Pr w K mg base L qual scope (N.fA f) cdv A outer s H E
    have hrX : Room (4 * n + 6) X.A := hr
    have hgX : X.A.guards = some [] := hg
    have tk : Takes X (fun cls d _ H' => E cls d H') := takes_of (X := X) (E := E) rfl rfl rfl rfl
    have cx : CxOk Γ P (callF P n) N L scope X :=
      ⟨rfl, rfl, S.nd, ⟨T.tc.sysm, hgX, by have := hrX.un; show X.A.units + 64 < cLine; omega⟩, T.tc, T.tn, fun _ => rfl, fun _ X' e1 e2 e3 e4 e5 e6 _ _ =>
        calls_ok (n := 4 * n + 3) (by rw [e3]; exact T.tc) (by rw [e3, e4]; exact T.tn) (by rw [e6]; exact hrX.mono (by omega)) (by rw [e6]; exact hgX) fun f' ps' h' => by
          rw [e1, e2, e3, e4, e5]
          obtain ⟨fd1, ff1, g1⟩ := fn_level T Pr w n f' ps' h'
          exact ⟨fd1, ff1, g1 _⟩⟩
    have sx : StX Γ P (callF P n) N L scope X :=
      ⟨cx, S.kind, fun _ => passes_of (X := X) rfl, rfl, rfl, rfl, fun _ => rfl, T.xs, fun _ => ⟨4 * n + 4, hrX⟩, T.hd⟩
    refine ⟨_, pss_of P (callF P n) N L d.body Γ scope body X _ sx tk hchk, ?_⟩
    have e0 : d.slots - d.par = L.length - vs.length := by rw [hsl, hp, hl]
    exact ⟨_, m, M, F, ⟨sm, start_rep rw' e0⟩, sr⟩
end G

set_option maxHeartbeats 4000000
/-! What the head reads of the module, as one Bool. -/
namespace G
open PySem PySem.Spec PyProof.Rows L2

def oexB (K : PySem.W.Frag) (C : Addr) : Bool := (match K.lookup C with
  | some ⟨.type t, _, .cls cd, sl⟩ => (t == "type") && (match cd.mro, sl.toList with
    | .ref C' :: bm, [_, _, _, _, some (.builtin n), _] => (C' == C) && (n == "ValueError.__new__") && !cd.hasDel && cd.hasDict && PySem.HandSPX.refsVE bm
    | _, _ => false)
  | _ => false) && decide (PySem.W.findIn K (.ref C) "__setattr__" = some (some (.builtin "object.__setattr__"))) && decide (PySem.W.subIn K (.ref C) (.type "BaseException") = some true) && decide (PySem.W.typeIn K (.ref C) = some (.type "type")) && PySem.W.keepIn K (.ref C)
theorem oexB_ok {K : PySem.W.Frag} {C : Addr} (h : oexB K C = true) : OexC K C := by
  unfold oexB at h
  obtain ⟨h, h5⟩ := and2 h
  obtain ⟨h, h4⟩ := and2 h
  obtain ⟨h, h3⟩ := and2 h
  obtain ⟨h1, h2⟩ := and2 h
  refine ⟨?_, of_decide_eq_true h2, of_decide_eq_true h3, of_decide_eq_true h4, h5⟩
  split at h1
  · rename_i t dd cd sl ho
    obtain ⟨q0, q⟩ := and2 h1
    split at q
    · rename_i C' bm k0 k1 k2 k3 n k5 hm hs
      obtain ⟨q, q5⟩ := and2 q
      obtain ⟨q, q4⟩ := and2 q
      obtain ⟨q, q3⟩ := and2 q
      obtain ⟨q1, q2⟩ := and2 q
      have e1 : C' = C := beq_iff_eq.mp q1
      have e2 : n = "ValueError.__new__" := beq_iff_eq.mp q2
      have e0 : t = "type" := beq_iff_eq.mp q0
      subst e0 e1 e2
      obtain ⟨nm, bs, mro, ns, qn, hd, sn, sub, ab, col, del⟩ := cd
      dsimp only at hm q3 q4
      subst hm
      have e3 : del = false := notB q3
      have e4 : hd = true := q4
      subst e3 e4
      have es : sl = #[k0, k1, k2, k3, some (.builtin "ValueError.__new__"), k5] := by
        rw [← hs]
      subst es
      exact ⟨nm, qn, ns, bs, bm, sn, sub, ab, col, dd, k0, k1, k2, k3, k5, ho, q5⟩
    · cases q
  · cases h1
/-- a def's object -/
def fnB (K : PySem.W.Frag) (a : Addr) (ps L : List Str) (B : Scope → List Stmt → Bool) : Bool := match K.lookup a with
  | some ⟨_, _, .func fd, _⟩ => decide (fd.globals = mainGlobals) && fd.closure.isEmpty && decide (fd.builtins = builtinsNs) && decide (fd.defaults = .none) && simpleP ps fd.params && PySem.W.codeIn K fd.code fd.qualname &&
    decide (fd.scope.kind = .function) && !fd.scope.isCoroutine && !fd.scope.isGenerator && decide (L.Nodup) && decide (L.take ps.length = ps) && (ps.all fun x => decide (fd.scope.names.lookup x = some .local) || decide (fd.scope.names.lookup x = some .cell)) && (fd.scope.names.all fun y => decide (y.2 ≠ .free)) && decide (ps.Nodup) &&
    (match fd.body with
    | .stmts body => B fd.scope body
    | _ => false)
  | _ => false
theorem fnB_ok {K : PySem.W.Frag} {a : Addr} {ps L : List Str} {B : Scope → List Stmt → Bool} (h : fnB K a ps L B = true) : ∃ fd oc od osl nm qual params body scope dV kV doc pm an cdv ct, fd = PySem.W.fnOf nm qual params body scope dV kV doc pm an cdv ct ∧ K.lookup a = some ⟨oc, od, .func fd, osl⟩ ∧
    PySem.W.codeIn K cdv qual = true ∧ FnScope L ps scope ∧ simpleP ps params = true ∧ dV = .none ∧ ps.Nodup ∧ B scope body = true := by
  unfold fnB at h
  split at h
  · rename_i oc od fd osl ho
    obtain ⟨nm, qn, pr, bd, sc, gl, cl, df, kd, dc, pm, an, cd, ct, bu⟩ := fd
    obtain ⟨h, c15⟩ := and2 h
    obtain ⟨h, c14⟩ := and2 h
    obtain ⟨h, c13⟩ := and2 h
    obtain ⟨h, c12⟩ := and2 h
    obtain ⟨h, c11⟩ := and2 h
    obtain ⟨h, c10⟩ := and2 h
    obtain ⟨h, c9⟩ := and2 h
    obtain ⟨h, c8⟩ := and2 h
    obtain ⟨h, c7⟩ := and2 h
    obtain ⟨h, c6⟩ := and2 h
    obtain ⟨h, c5⟩ := and2 h
    obtain ⟨h, c4⟩ := and2 h
    obtain ⟨h, c3⟩ := and2 h
    obtain ⟨c1, c2⟩ := and2 h
    have e1 : gl = mainGlobals := of_decide_eq_true c1
    have e2 : cl = [] := List.isEmpty_iff.mp c2
    have e3 : bu = builtinsNs := of_decide_eq_true c3
    have e4 : df = .none := of_decide_eq_true c4
    subst e1 e2 e3 e4
    cases bd with
    | stmts body =>
      refine ⟨_, oc, od, osl, nm, qn, pr, body, sc, .none, kd, dc, pm, an, cd, ct, rfl, ho, c6, ⟨of_decide_eq_true c7, notB c8, notB c9, of_decide_eq_true c10, of_decide_eq_true c11, fun x hx => (Bool.or_eq_true_iff.mp (List.all_eq_true.mp c12 x hx)).imp (fun z => of_decide_eq_true z) (fun z => of_decide_eq_true z), fun y hy => of_decide_eq_true (List.all_eq_true.mp c13 y hy)⟩, c5, rfl, of_decide_eq_true c14, c15⟩
    | _ => cases c15
  · cases h
end G

set_option maxHeartbeats 4000000
/-! The whole tie as one Bool. -/
namespace G
open PySem PySem.Spec PyProof.Rows L2

/-- where a function stands -/
inductive FAt where
  | top (x : Str) | me (c m : Str) | st (c m : Str)
def saOf (K : PySem.W.Frag) (C : Addr) (m : Str) : Addr := match PySem.W.findCls K (.ref C) (.type "type") m with
  | some (.get _ (.ref p) _ _) => match PySem.W.recIn K p "staticmethod" with
    | some (.ref f :: _) => f
    | _ => 0
  | _ => 0
def atA (K : PySem.W.Frag) : FAt → Addr
  | .top x => He.ga K x
  | .me c m => He.ma K (He.ga K c) m
  | .st c m => saOf K (He.ga K c) m
/-- a law's text, for the evaluator -/
structure Tx where
  fnL : List (Nat × FnDef)
  clsL : List (Nat × ClsDef)
  cnm : List Str
  anm : List Str
  isis : List TyC
  fuel : Nat
  fns : List (Str × (Nat × List Str × List Str))
  exs : List (Str × (Nat × List Str × Str))
  cl : List (Str × Nat)
  fa : List (Str × Nat)
  gv : List (Str × Nat) := []
  glD : List (Nat × D) := []
  fps : List (Nat × (FAt × List Str × List Str))
  nw : List (Str × (Nat × Nat × List Str)) := []
  mt : List ((Nat × Str) × (Nat × Nat)) := []
  sm : List ((Str × Str) × (Nat × Nat × Nat)) := []
  eqs : List (Nat × Nat) := []
namespace Tx
variable (T : Tx)
def P : Prog := { fn := fun f => T.fnL.lookup f, clsL := T.clsL, glob := fun g => T.glD.lookup g, isis := T.isis, fuel := T.fuel, eqf := fun c => T.eqs.lookup c }
def Γ : Tab := { fn := T.fns.map fun q => (q.1, (q.2.1, q.2.2.1)), cl := T.cl, gv := T.gv, fa := T.fa, xs := T.exs.map fun q => (q.1, (q.2.1, q.2.2.1)), calm := true, fp := T.fps.map fun q => (q.1, q.2.2.1), nw := T.nw, mt := T.mt, sm := T.sm }
def N (K : PySem.W.Frag) : Nam := { cA := fun c => He.ga K (T.cnm.getD c ""), at_ := fun f => T.anm.getD f "", fA := fun f => match T.fps.lookup f with
  | some q => atA K q.1
  | none => 0 }
def gloB (K : PySem.W.Frag) (x : Str) : Bool := decide (PySem.W.nsIn K mainGlobals x = some (some (.ref (He.ga K x)))) && !(x == ("__debug__" : Str))
def clsB (K : PySem.W.Frag) (q : Nat × ClsDef) : Bool :=
  (if q.2.isX then xfB K ((T.N K).cA q.1) else (PySem.W.plainGet K ((T.N K).cA q.1) Str.empty && PySem.W.hasDictIn K ((T.N K).cA q.1) && PySem.W.plainOver K ((T.N K).cA q.1) && decide (PySem.W.findIn K (.ref ((T.N K).cA q.1)) "__setattr__" = some (some (.builtin "object.__setattr__"))))) &&
  decide (PySem.W.findIn K (.ref ((T.N K).cA q.1)) "__class__" = some (some (.builtin "object.__class__"))) && decide (PySem.W.mroIn K ((T.N K).cA q.1) (.type "object") = some true) &&
  (q.2.flds.all fun f => decide (PySem.W.findIn K (.ref ((T.N K).cA q.1)) ((T.N K).at_ f) = some none) && q.2.flds.all fun g => decide ((T.N K).at_ f ≠ (T.N K).at_ g) || decide (f = g)) &&
  (T.clsL.all fun r => !(q.2.isX && r.2.isX) || decide (PySem.W.exmOne K (.ref ((T.N K).cA q.1)) (.ref ((T.N K).cA r.1)) = some (q.2.anc.contains r.1))) &&
  (T.isis.all fun tc => decide (PySem.W.kitOne K (.ref ((T.N K).cA q.1)) (tycV (T.N K) tc) = some (isT T.P (.own q.1) tc)))
def tyB (K : PySem.W.Frag) (t : Ty) : Bool := T.isis.all fun tc => decide (PySem.W.kitOne K (tyV (T.N K) t) (tycV (T.N K) tc) = some (isT T.P t tc))
def oerrB (K : PySem.W.Frag) : TyC → Bool
  | .oerr n => decide (PySem.W.nsIn K mainGlobals (Str.ofString n) = some none) && decide (bootBuiltins (Str.ofString n) = some (.type n)) && decide (Str.ofString n ≠ "__name__") && !(Str.ofString n == ("__debug__" : Str))
  | _ => true
def parB (f n : Nat) : Bool := match T.fps.lookup f with
  | some q => decide (q.2.1.length = n)
  | none => false
def fnsB (K : PySem.W.Frag) (q : Str × (Nat × List Str × List Str)) : Bool := gloB K q.1 && PySem.W.keepIn K (.ref (He.ga K q.1)) && (match T.fps.lookup q.2.1 with
  | some r => decide (r.2.1 = q.2.2.1) && (match r.1 with
    | .top x => decide (x = q.1)
    | _ => false)
  | none => false)
/-- a function of the table: its def -/
def fpsB (K : PySem.W.Frag) (q : Nat × (FAt × List Str × List Str)) : Bool := match T.fnL.lookup q.1 with
  | some d => decide (d.par = q.2.2.1.length) && decide (d.slots = q.2.2.2.length) && fnB K ((T.N K).fA q.1) q.2.2.1 q.2.2.2 (fun sc body => chkSs T.P q.2.2.2 d.body T.Γ sc body) && (match T.fps.lookup q.1 with
    | some r => decide (r.2.1 = q.2.2.1)
    | none => false)
  | none => false
def nwB (K : PySem.W.Frag) (q : Str × (Nat × Nat × List Str)) : Bool := gloB K q.1 && decide (T.cnm.getD q.2.1 "" = q.1) && PySem.W.makesIn K ((T.N K).cA q.2.1) && decide (PySem.W.findIn K (.ref ((T.N K).cA q.2.1)) "__init__" = some (some (.ref ((T.N K).fA q.2.2.1)))) && PySem.W.isFn K (.ref ((T.N K).fA q.2.2.1)) &&
  PySem.W.keepIn K (.ref ((T.N K).cA q.2.1)) && (match T.fps.lookup q.2.2.1 with
    | some r => (match r.2.1 with
      | _ :: ps => decide (ps = q.2.2.2)
      | [] => false)
    | none => false)
def mtB (K : PySem.W.Frag) (q : (Nat × Str) × (Nat × Nat)) : Bool := decide (PySem.W.findIn K (.ref ((T.N K).cA q.1.1)) q.1.2 = some (some (.ref ((T.N K).fA q.2.1)))) && PySem.W.isFn K (.ref ((T.N K).fA q.2.1)) && PySem.W.keepIn K (.ref ((T.N K).fA q.2.1)) &&
  (match T.clsL.lookup q.1.1 with
    | some k => !k.isX && k.flds.all fun g => decide ((T.N K).at_ g ≠ q.1.2)
    | none => false) && T.parB q.2.1 (q.2.2 + 1)
def smB (K : PySem.W.Frag) (q : (Str × Str) × (Nat × Nat × Nat)) : Bool := gloB K q.1.1 && decide (T.cnm.getD q.2.1 "" = q.1.1) && decide (PySem.W.typeIn K (.ref ((T.N K).cA q.2.1)) = some (.type "type")) && PySem.W.readsIn K ((T.N K).cA q.2.1) (.type "type") &&
  decide (PySem.W.specialIn K (.ref ((T.N K).cA q.2.1)) "__getattribute__" = some (some (.builtin "type.__getattribute__"))) && PySem.W.keepIn K (.ref ((T.N K).fA q.2.2.1)) && PySem.W.handedIn (.ref ((T.N K).fA q.2.2.1)) &&
  (match PySem.W.findCls K (.ref ((T.N K).cA q.2.1)) (.type "type") q.1.2 with
    | some (.get (.builtin n) (.ref p) .none (.ref c)) => (n == "staticmethod.__get__") && decide (c = (T.N K).cA q.2.1) && (match PySem.W.recIn K p "staticmethod" with
      | some (.ref f :: _) => decide (f = (T.N K).fA q.2.2.1)
      | _ => false)
    | _ => false) && T.parB q.2.2.1 q.2.2.2
def eqsB (K : PySem.W.Frag) (q : Nat × Nat) : Bool := decide (PySem.W.findIn K (.ref ((T.N K).cA q.1)) "__eq__" = some (some (.ref ((T.N K).fA q.2)))) && PySem.W.isFn K (.ref ((T.N K).fA q.2)) && decide (PySem.W.findIn K (.ref ((T.N K).cA q.1)) "__ne__" = some (some (.builtin "object.__ne__"))) &&
  decide (PySem.W.subIn K (.ref ((T.N K).cA q.1)) (.type "object") = some true) && ([Ty.tup, .str, .non].all fun t => PySem.W.notFirst K ((T.N K).cA q.1) (tyV (T.N K) t)) &&
  (T.clsL.all fun r => r.2.isX || decide (q.1 = r.1) || (decide ((T.N K).cA q.1 ≠ (T.N K).cA r.1) && decide (PySem.W.subIn K (.ref ((T.N K).cA r.1)) (.ref ((T.N K).cA q.1)) = some (r.2.anc.contains q.1)))) && T.parB q.2 2
def baseB (K : PySem.W.Frag) (B : Str) : Bool := gloB K B && decide (PySem.W.specialIn K (.ref (He.ga K B)) "__getattribute__" = some (some (.builtin "type.__getattribute__"))) && decide (PySem.W.typeIn K (.ref (He.ga K B)) = some (.type "type")) && PySem.W.readsIn K (He.ga K B) (.type "type") &&
  (match PySem.W.findCls K (.ref (He.ga K B)) (.type "type") "__init__" with
  | some (.val (.builtin n)) => n == "ValueError.__init__"
  | _ => false)
def exsB (K : PySem.W.Frag) (q : Str × (Nat × List Str × Str)) : Bool := gloB K q.1 && decide (T.cnm.getD q.2.1 "" = q.1) && oexB K (He.ga K q.1) && decide (PySem.W.findIn K (.ref (He.ga K q.1)) "__init__" = some (some (.ref (He.ma K (He.ga K q.1) "__init__")))) &&
  decide (PySem.W.typeIn K (.ref (He.ma K (He.ga K q.1) "__init__")) = some (.type "function")) && baseB K q.2.2.2 && (match T.clsL.lookup q.2.1 with
  | some k => decide (q.2.2.1.length = (k.flds.map (T.N K).at_).length) && decide (k.flds.map (T.N K).at_).Nodup && (k.flds.map (T.N K).at_).all (fun f => decide (PySem.W.findIn K (.ref (He.ga K q.1)) f = some none)) &&
    fnB K (He.ma K (He.ga K q.1) "__init__") ("self" :: q.2.2.1) ("self" :: q.2.2.1) (fun sc body => iniB ("self" :: q.2.2.1) sc q.2.2.2 (k.flds.map (T.N K).at_) body)
  | none => false)
/-- a constant of the module -/
def gconB (K : PySem.W.Frag) (q : Str × Nat) : Bool := !(q.1 == ("__debug__" : Str)) && (match PySem.W.nsIn K mainGlobals q.1, T.glD.lookup q.2 with
  | some (some (.int i _)), some (.int j) => decide (i = j)
  | some (some (.str i _)), some (.str j) => decide (i = j)
  | _, _ => false)
def tieB (K : PySem.W.Frag) : Bool := T.eqs.all (T.eqsB K) && (T.sm.all (T.smB K) && (T.mt.all (T.mtB K) && (T.nw.all (T.nwB K) && (T.fps.all (T.fpsB K) && (T.gv.all (T.gconB K) && ((K.lookup sysModules).isSome && T.clsL.all (T.clsB K) && [Ty.non, .bool, .int, .str, .tup, .lst, .dct].all (T.tyB K) &&
  decide (PySem.W.specialIn K (.builtin "object.__class__") "__get__" = some (some (.builtin "getset_descriptor.__get__"))) && decide (PySem.W.takesIn K (.builtin "object.__class__") = some true) &&
  freeNs.all (fun x => decide (PySem.W.nsIn K mainGlobals x = some none)) && T.isis.all (oerrB K) && T.cl.all (fun q => decide (T.cnm.getD q.2 "" = q.1) && gloB K q.1) && T.fa.all (fun q => decide (T.anm.getD q.2 "" = q.1)) && T.fns.all (T.fnsB K) && T.exs.all (T.exsB K)))))))
end Tx
section
variable {T : Tx} {K : PySem.W.Frag} {h : Heap} {mg : Str → Option Value}
theorem gloB_ok (X : K.In h) (G : h.Ns mainGlobals mg) {x : Str} (c : Tx.gloB K x = true) : mg x = some (.ref (He.ga K x)) ∧ (x == ("__debug__" : Str)) = false := by
  obtain ⟨c1, c2⟩ := and2 c
  exact ⟨PySem.W.mg_of X G (of_decide_eq_true c1), notB c2⟩
theorem map_lookup {α β : Type} {f : α → β} {x : Str} {b : β} : ∀ {l : List (Str × α)}, (l.map fun q => (q.1, f q.2)).lookup x = some b → ∃ a, (x, a) ∈ l ∧ f a = b
  | [], h => by cases h
  | (k, a) :: l, h => by
    rw [List.map_cons, List.lookup_cons] at h
    cases e : x == k with
    | true =>
      rw [e] at h
      have e : x = k := by simpa using e
      subst e
      exact ⟨a, List.mem_cons_self, Option.some.inj h⟩
    | false =>
      rw [e] at h
      obtain ⟨a', h1, h2⟩ := map_lookup h
      exact ⟨a', List.mem_cons_of_mem _ h1, h2⟩
theorem nat_lookup {α : Type} {c : Nat} {k : α} : ∀ {l : List (Nat × α)}, l.lookup c = some k → (c, k) ∈ l
  | [], h => by cases h
  | (a, b) :: l, h => by
    rw [List.lookup_cons] at h
    cases e : c == a with
    | true =>
      rw [e] at h
      have e : c = a := by simpa using e
      subst e
      cases h
      exact List.mem_cons_self
    | false =>
      rw [e] at h
      exact List.mem_cons_of_mem _ (nat_lookup h)
theorem clsB_ok (c : T.clsL.all (T.clsB K) = true) {i : Nat} {k : ClsDef} (e : T.P.cls i = some k) : T.clsB K (i, k) = true := List.all_eq_true.mp c _ (nat_lookup e)
theorem key_lookup {κ α : Type} [BEq κ] [LawfulBEq κ] {c : κ} {k : α} : ∀ {l : List (κ × α)}, l.lookup c = some k → (c, k) ∈ l
  | [], h => by cases h
  | (a, b) :: l, h => by
    rw [List.lookup_cons] at h
    cases e : c == a with
    | true =>
      rw [e] at h
      have e : c = a := by simpa using e
      subst e
      cases h
      exact List.mem_cons_self
    | false =>
      rw [e] at h
      exact List.mem_cons_of_mem _ (key_lookup h)
theorem mapN_lookup {κ α β : Type} [BEq κ] [LawfulBEq κ] {f : α → β} {x : κ} {b : β} : ∀ {l : List (κ × α)}, (l.map fun q => (q.1, f q.2)).lookup x = some b → ∃ a, l.lookup x = some a ∧ f a = b
  | [], h => by cases h
  | (k, a) :: l, h => by
    rw [List.map_cons, List.lookup_cons] at h
    rw [List.lookup_cons]
    cases e : x == k with
    | true =>
      rw [e] at h
      exact ⟨a, rfl, Option.some.inj h⟩
    | false =>
      rw [e] at h
      exact mapN_lookup h
theorem mapL_some {κ α β : Type} [BEq κ] {f : α → β} {x : κ} {a : α} : ∀ {l : List (κ × α)}, l.lookup x = some a → (l.map fun q => (q.1, f q.2)).lookup x = some (f a)
  | [], h => by cases h
  | (k, b) :: l, h => by
    rw [List.map_cons, List.lookup_cons]
    rw [List.lookup_cons] at h
    cases e : x == k with
    | true =>
      rw [e] at h
      cases h
      rfl
    | false =>
      rw [e] at h
      exact mapL_some h
theorem fp_of {f : Nat} {q : FAt × List Str × List Str} (h : T.fps.lookup f = some q) : T.Γ.fp.lookup f = some q.2.1   := mapL_some (f := fun q : FAt × List Str × List Str => q.2.1) h
theorem par_ok {f n : Nat} (h : T.parB f n = true) : ∃ ps, T.Γ.fp.lookup f = some ps ∧ ps.length = n := by
  unfold Tx.parB at h
  split at h
  · rename_i q hq
    exact ⟨_, fp_of hq, of_decide_eq_true h⟩
  · cases h
theorem mtB_ok (c : T.mt.all (T.mtB K) = true) {k : Nat} {m : Str} {f n : Nat} (e : T.mt.lookup (k, m) = some (f, n)) : Meth K ((T.N K).cA k) m ((T.N K).fA f) ∧ (∃ q, T.P.cls k = some q ∧ q.isX = false) ∧ (∀ q g, T.P.cls k = some q → q.flds.contains g = true → (T.N K).at_ g ≠ m) ∧ ∃ ps, T.Γ.fp.lookup f = some ps ∧ ps.length = n + 1 := by
  have b := List.all_eq_true.mp c ((k, m), (f, n)) (key_lookup e)
  unfold Tx.mtB at b
  obtain ⟨b, b5⟩ := and2 b
  obtain ⟨b, b4⟩ := and2 b
  obtain ⟨b, b3⟩ := and2 b
  obtain ⟨b1, b2⟩ := and2 b
  dsimp only at b4
  split at b4
  · rename_i q hq
    obtain ⟨q1, q2⟩ := and2 b4
    refine ⟨⟨of_decide_eq_true b1, b2, b3⟩, ⟨q, hq, notB q1⟩, fun q' g hq' hg => ?_, par_ok b5⟩
    have hq' : T.clsL.lookup k = some q' := hq'
    rw [hq] at hq'
    cases hq'
    exact of_decide_eq_true (List.all_eq_true.mp q2 g (by simpa using hg))
  · cases b4
theorem nwB_ok (X : K.In h) (G : h.Ns mainGlobals mg) (c : T.nw.all (T.nwB K) = true) {x : Str} {i f : Nat} {ps : List Str} (e : T.nw.lookup x = some (i, f, ps)) : mg x = some (.ref ((T.N K).cA i)) ∧ (x == ("__debug__" : Str)) = false ∧ Mk K ((T.N K).cA i) ((T.N K).fA f) ∧ ∃ s0, T.Γ.fp.lookup f = some (s0 :: ps) := by
  have b := List.all_eq_true.mp c (x, (i, f, ps)) (key_lookup e)
  unfold Tx.nwB at b
  obtain ⟨b, b7⟩ := and2 b
  obtain ⟨b, b6⟩ := and2 b
  obtain ⟨b, b5⟩ := and2 b
  obtain ⟨b, b4⟩ := and2 b
  obtain ⟨b, b3⟩ := and2 b
  obtain ⟨b1, b2⟩ := and2 b
  obtain ⟨m1, m2⟩ := gloB_ok X G b1
  have b2 : T.cnm.getD i "" = x := of_decide_eq_true b2
  have ea : (T.N K).cA i = He.ga K x := by show He.ga K (T.cnm.getD i "") = _; rw [b2]
  dsimp only at b7
  split at b7
  · rename_i q hq
    split at b7
    · rename_i s0 ps' hs
      refine ⟨by rw [ea]; exact m1, m2, ⟨b3, of_decide_eq_true b4, b5, b6⟩, s0, ?_⟩
      have z := fp_of hq
      rw [hs, of_decide_eq_true b7] at z
      exact z
    · cases b7
  · cases b7
theorem smB_ok (X : K.In h) (G : h.Ns mainGlobals mg) (c : T.sm.all (T.smB K) = true) {x m : Str} {i f n : Nat} (e : T.sm.lookup (x, m) = some (i, f, n)) : mg x = some (.ref ((T.N K).cA i)) ∧ (x == ("__debug__" : Str)) = false ∧ PySem.W.typeIn K (.ref ((T.N K).cA i)) = some (.type "type") ∧ PySem.W.readsIn K ((T.N K).cA i) (.type "type") = true ∧
    PySem.W.specialIn K (.ref ((T.N K).cA i)) "__getattribute__" = some (some (.builtin "type.__getattribute__")) ∧ PySem.W.keepIn K (.ref ((T.N K).fA f)) = true ∧ PySem.W.handedIn (.ref ((T.N K).fA f)) = true ∧
    ∃ p rest, PySem.W.findCls K (.ref ((T.N K).cA i)) (.type "type") m = some (.get (.builtin "staticmethod.__get__") (.ref p) .none (.ref ((T.N K).cA i))) ∧ PySem.W.recIn K p "staticmethod" = some (.ref ((T.N K).fA f) :: rest) ∧ ∃ ps, T.Γ.fp.lookup f = some ps ∧ ps.length = n := by
  have b := List.all_eq_true.mp c ((x, m), (i, f, n)) (key_lookup e)
  unfold Tx.smB at b
  obtain ⟨b, b9⟩ := and2 b
  obtain ⟨b, b8⟩ := and2 b
  obtain ⟨b, b7⟩ := and2 b
  obtain ⟨b, b6⟩ := and2 b
  obtain ⟨b, b5⟩ := and2 b
  obtain ⟨b, b4⟩ := and2 b
  obtain ⟨b, b3⟩ := and2 b
  obtain ⟨b1, b2⟩ := and2 b
  obtain ⟨m1, m2⟩ := gloB_ok X G b1
  have b2 : T.cnm.getD i "" = x := of_decide_eq_true b2
  have ea : (T.N K).cA i = He.ga K x := by show He.ga K (T.cnm.getD i "") = _; rw [b2]
  dsimp only at b8
  split at b8
  · rename_i nn p cc hfc
    obtain ⟨b8, d3⟩ := and2 b8
    obtain ⟨d1, d2⟩ := and2 b8
    have d1 : nn = "staticmethod.__get__" := beq_iff_eq.mp d1
    have d2 := of_decide_eq_true d2
    subst d1 d2
    split at d3
    · rename_i ff rest hr
      have d3 := of_decide_eq_true d3
      subst d3
      exact ⟨by rw [ea]; exact m1, m2, of_decide_eq_true b3, b4, of_decide_eq_true b5, b6, b7, p, rest, hfc, hr, par_ok b9⟩
    · cases d3
  · cases b8
theorem tie_ok (X : K.In h) (G : h.Ns mainGlobals mg) (c : T.tieB K = true) : ModTie T.Γ T.P (T.N K) K mg := by
  unfold Tx.tieB at c
  obtain ⟨ceq, c⟩ := and2 c
  obtain ⟨csm, c⟩ := and2 c
  obtain ⟨cmt, c⟩ := and2 c
  obtain ⟨cnw, c⟩ := and2 c
  obtain ⟨cfp, c⟩ := and2 c
  obtain ⟨c0, c⟩ := and2 c
  obtain ⟨c, c11⟩ := and2 c
  obtain ⟨c, c10⟩ := and2 c
  obtain ⟨c, c9⟩ := and2 c
  obtain ⟨c, c8⟩ := and2 c
  obtain ⟨c, c7⟩ := and2 c
  obtain ⟨c, c6⟩ := and2 c
  obtain ⟨c, c5⟩ := and2 c
  obtain ⟨c, c4⟩ := and2 c
  obtain ⟨c, c3⟩ := and2 c
  obtain ⟨c1, c2⟩ := and2 c
  have cp : ∀ {i : Nat} {k : ClsDef}, T.P.cls i = some k → _ := fun {i k} e => clsB_ok c2 e
  have tyb : ∀ t : Ty, t ∈ [Ty.non, .bool, .int, .str, .tup, .lst, .dct] → T.tyB K t = true := fun t ht => List.all_eq_true.mp c3 t ht
  refine ⟨rfl, ⟨c1, fun i k e hx => ?_, fun i k e hx => ?_, ⟨of_decide_eq_true c4, of_decide_eq_true c5⟩, fun tc htc t ho => ?_, fun i k f e hf => ?_, fun i k f g e hf hg hn => ?_, fun i f e => ?_, fun i f t e ht => ?_, fun i j f k e hk hx hn => ?_⟩, ⟨fun x hx => ?_, fun n hn => ?_, fun x i e => ?_, fun x g e => ?_, fun x f e => ?_, fun x i f ps e => nwB_ok X G cnw e, fun i m f n e => mtB_ok cmt e, fun x m i f n e => smB_ok X G csm e, fun x f ps e => ?_, fun i f e => ?_, fun i f e => (mtB_ok cmt e).1.at_⟩, fun f ps e => ?_, fun x i ps e => ?_, fun i k t e hx ht => ?_⟩
  · have b := cp e
    unfold Tx.clsB at b
    obtain ⟨b, b6⟩ := and2 b
    obtain ⟨b, b5⟩ := and2 b
    obtain ⟨b, b4⟩ := and2 b
    obtain ⟨b, b3⟩ := and2 b
    obtain ⟨b1, b2⟩ := and2 b
    have b1 : (if k.isX = true then xfB K ((T.N K).cA i) else (PySem.W.plainGet K ((T.N K).cA i) Str.empty && PySem.W.hasDictIn K ((T.N K).cA i) && PySem.W.plainOver K ((T.N K).cA i) && decide (PySem.W.findIn K (.ref ((T.N K).cA i)) "__setattr__" = some (some (.builtin "object.__setattr__"))))) = true := b1
    rw [hx, if_neg Bool.false_ne_true] at b1
    obtain ⟨d, d4⟩ := and2 b1
    obtain ⟨d, d3⟩ := and2 d
    obtain ⟨d1, d2⟩ := and2 d
    exact ⟨⟨d1, d2, d3, of_decide_eq_true d4⟩, of_decide_eq_true b2, of_decide_eq_true b3⟩
  · have b := cp e
    unfold Tx.clsB at b
    obtain ⟨b, b6⟩ := and2 b
    obtain ⟨b, b5⟩ := and2 b
    obtain ⟨b, b4⟩ := and2 b
    obtain ⟨b, b3⟩ := and2 b
    obtain ⟨b1, b2⟩ := and2 b
    have b1 : (if k.isX = true then xfB K ((T.N K).cA i) else (PySem.W.plainGet K ((T.N K).cA i) Str.empty && PySem.W.hasDictIn K ((T.N K).cA i) && PySem.W.plainOver K ((T.N K).cA i) && decide (PySem.W.findIn K (.ref ((T.N K).cA i)) "__setattr__" = some (some (.builtin "object.__setattr__"))))) = true := b1
    rw [hx, if_pos rfl] at b1
    exact ⟨xfB_ok b1, of_decide_eq_true b2, of_decide_eq_true b3⟩
  · have hm : tc ∈ T.isis := List.contains_iff_mem.mp htc
    have base : ∀ t : Ty, t ∈ [Ty.non, .bool, .int, .str, .tup, .lst, .dct] → PySem.W.kitOne K (tyV (T.N K) t) (tycV (T.N K) tc) = some (isT T.P t tc) := fun t ht => of_decide_eq_true (List.all_eq_true.mp (tyb t ht) tc hm)
    cases t with
    | own i =>
      obtain ⟨k, e⟩ := ho i rfl
      have b := cp e
      unfold Tx.clsB at b
      exact of_decide_eq_true (List.all_eq_true.mp (and2 b).2 tc hm)
    | non => exact base _ (by simp)
    | bool => exact base _ (by simp)
    | int => exact base _ (by simp)
    | str => exact base _ (by simp)
    | tup => exact base _ (by simp)
    | lst => exact base _ (by simp)
    | dct => exact base _ (by simp)
  · have b := cp e
    unfold Tx.clsB at b
    obtain ⟨b, b6⟩ := and2 b
    obtain ⟨b, b5⟩ := and2 b
    obtain ⟨b, b4⟩ := and2 b
    exact of_decide_eq_true (and2 (List.all_eq_true.mp b4 f (by simpa using hf))).1
  · have b := cp e
    unfold Tx.clsB at b
    obtain ⟨b, b6⟩ := and2 b
    obtain ⟨b, b5⟩ := and2 b
    obtain ⟨b, b4⟩ := and2 b
    have z := List.all_eq_true.mp (and2 (List.all_eq_true.mp b4 f (by simpa using hf))).2 g (by simpa using hg)
    rcases Bool.or_eq_true_iff.mp z with z | z
    · exact absurd hn (of_decide_eq_true z)
    · exact of_decide_eq_true z
  · have b := List.all_eq_true.mp ceq (i, f) (key_lookup (show T.eqs.lookup i = some f from e))
    unfold Tx.eqsB at b
    obtain ⟨b, b7⟩ := and2 b
    obtain ⟨b, b6⟩ := and2 b
    obtain ⟨b, b5⟩ := and2 b
    obtain ⟨b, b4⟩ := and2 b
    obtain ⟨b, b3⟩ := and2 b
    obtain ⟨b1, b2⟩ := and2 b
    exact ⟨of_decide_eq_true b1, b2, of_decide_eq_true b3, of_decide_eq_true b4⟩
  · have b := List.all_eq_true.mp ceq (i, f) (key_lookup (show T.eqs.lookup i = some f from e))
    unfold Tx.eqsB at b
    obtain ⟨b, b7⟩ := and2 b
    obtain ⟨b, b6⟩ := and2 b
    obtain ⟨b, b5⟩ := and2 b
    exact List.all_eq_true.mp b5 t ht
  · have b := List.all_eq_true.mp ceq (i, f) (key_lookup (show T.eqs.lookup i = some f from e))
    unfold Tx.eqsB at b
    obtain ⟨b, b7⟩ := and2 b
    obtain ⟨b, b6⟩ := and2 b
    have z := List.all_eq_true.mp b6 (j, k) (nat_lookup (show T.clsL.lookup j = some k from hk))
    rcases Bool.or_eq_true_iff.mp z with z | z
    · rcases Bool.or_eq_true_iff.mp z with z | z
      · have z : k.isX = true := z
        rw [hx] at z; cases z
      · exact absurd (of_decide_eq_true z) hn
    · obtain ⟨z1, z2⟩ := and2 z
      exact ⟨of_decide_eq_true z1, of_decide_eq_true z2⟩
  · exact PySem.W.mg_none_of X G (of_decide_eq_true (List.all_eq_true.mp c6 x hx))
  · have b : Tx.oerrB K (.oerr n) = true := List.all_eq_true.mp c7 _ hn
    obtain ⟨b, b4⟩ := and2 b
    obtain ⟨b, b3⟩ := and2 b
    obtain ⟨b1, b2⟩ := and2 b
    exact ⟨PySem.W.mg_none_of X G (of_decide_eq_true b1), of_decide_eq_true b2, of_decide_eq_true b3, notB b4⟩
  · have b := List.all_eq_true.mp c8 (x, i) (PySem.mem_of_lookup (show T.cl.lookup x = some i from e))
    obtain ⟨b1, b2⟩ := and2 b
    have b1 : T.cnm.getD i "" = x := of_decide_eq_true b1
    obtain ⟨q1, q2⟩ := gloB_ok X G b2
    refine ⟨?_, q2⟩
    show mg x = some (.ref (He.ga K (T.cnm.getD i "")))
    rw [b1]
    exact q1
  · have b := List.all_eq_true.mp c0 (x, g) (PySem.mem_of_lookup (show T.gv.lookup x = some g from e))
    obtain ⟨b1, b2⟩ := and2 b
    refine ⟨notB b1, ?_⟩
    dsimp only at b2
    split at b2
    · rename_i i t j n1 n2
      have z := of_decide_eq_true b2
      subst z
      refine ⟨_, .int i, PySem.W.mg_of X G n1, ⟨t, rfl⟩, fun d hd F => ?_⟩
      have hd : T.glD.lookup g = some d := hd
      rw [n2] at hd
      cases hd
      exact rfl
    · rename_i i t j n1 n2
      have z := of_decide_eq_true b2
      subst z
      refine ⟨_, .str i, PySem.W.mg_of X G n1, ⟨t, rfl⟩, fun d hd F => ?_⟩
      have hd : T.glD.lookup g = some d := hd
      rw [n2] at hd
      cases hd
      exact rfl
    · cases b2
  · exact of_decide_eq_true (List.all_eq_true.mp c9 (x, f) (PySem.mem_of_lookup (show T.fa.lookup x = some f from e)))
  · obtain ⟨q, hq, e2⟩ := map_lookup (f := fun q : Nat × List Str × List Str => (q.1, q.2.1)) e
    obtain ⟨i, ps', L⟩ := q
    cases e2
    have b := List.all_eq_true.mp c10 _ hq
    unfold Tx.fnsB at b
    obtain ⟨b, b3⟩ := and2 b
    obtain ⟨b1, b2⟩ := and2 b
    obtain ⟨m1, m2⟩ := gloB_ok X G b1
    dsimp only at b3
    split at b3
    · rename_i r hr
      obtain ⟨d1, d2⟩ := and2 b3
      split at d2
      · rename_i y hy
        have d2 : y = x := of_decide_eq_true d2
        subst d2
        have ef : (T.N K).fA i = He.ga K y := by
          show (match T.fps.lookup i with
            | some q => atA K q.1
            | none => 0) = _
          rw [hr]
          show atA K r.1 = _
          rw [hy] <;> rfl
        have z := fp_of hr
        rw [of_decide_eq_true d1] at z
        exact ⟨by rw [ef]; exact m1, m2, by rw [ef]; exact b2, z⟩
      · cases d2
    · cases b3
  · have b := List.all_eq_true.mp ceq (i, f) (key_lookup (show T.eqs.lookup i = some f from e))
    unfold Tx.eqsB at b
    exact par_ok (and2 b).2
  · obtain ⟨q, hq, e2⟩ := mapN_lookup (f := fun q : FAt × List Str × List Str => q.2.1) (show (T.fps.map fun q => (q.1, q.2.2.1)).lookup f = some ps from e)
    obtain ⟨t, ps', L⟩ := q
    cases e2
    have b := List.all_eq_true.mp cfp _ (key_lookup hq)
    unfold Tx.fpsB at b
    dsimp only at b
    split at b
    · rename_i d hd
      obtain ⟨b, d4⟩ := and2 b
      obtain ⟨b, d3⟩ := and2 b
      obtain ⟨d1, d2⟩ := and2 b
      obtain ⟨fd, oc, od, osl, nm, qual, params, body, scope, dV, kV, doc, pm, an, cdv, ct, rfl, lk, hcd, S, sp, dn, nd, hb⟩ := fnB_ok d3
      exact ⟨⟨_, ⟨sp, dn, nd⟩, L, d, oc, od, osl, nm, qual, params, body, scope, dV, kV, doc, pm, an, cdv, ct, rfl, lk, hcd, S, hd, of_decide_eq_true d1, of_decide_eq_true d2, hb⟩⟩
    · cases b
  · obtain ⟨q, hq, e2⟩ := map_lookup (f := fun q : Nat × List Str × Str => (q.1, q.2.1)) e
    obtain ⟨j, ps', B⟩ := q
    cases e2
    have b := List.all_eq_true.mp c11 _ hq
    unfold Tx.exsB at b
    obtain ⟨b, b7⟩ := and2 b
    obtain ⟨b, b6⟩ := and2 b
    obtain ⟨b, b5⟩ := and2 b
    obtain ⟨b, b4⟩ := and2 b
    obtain ⟨b, b3⟩ := and2 b
    obtain ⟨b1, b2⟩ := and2 b
    obtain ⟨m1, m2⟩ := gloB_ok X G b1
    have b2 : T.cnm.getD j "" = x := of_decide_eq_true b2
    have ea : (T.N K).cA j = He.ga K x := by show He.ga K (T.cnm.getD j "") = _; rw [b2]
    dsimp only at b7
    split at b7
    · rename_i k hk
      obtain ⟨b7, d4⟩ := and2 b7
      obtain ⟨b7, d3⟩ := and2 b7
      obtain ⟨d1, d2⟩ := and2 b7
      obtain ⟨fd, oc, od, osl, nm, qual, params, body, scope, dV, kV, doc, pm, an, cdv, ct, rfl, lk, hcd, S, sp, dn, nd, hb⟩ := fnB_ok d4
      unfold Tx.baseB at b6
      obtain ⟨b6, f5⟩ := and2 b6
      obtain ⟨b6, f4⟩ := and2 b6
      obtain ⟨b6, f3⟩ := and2 b6
      obtain ⟨f1, f2⟩ := and2 b6
      obtain ⟨n1, n2⟩ := gloB_ok X G f1
      have f5' : PySem.W.findCls K (.ref (He.ga K B)) (.type "type") "__init__" = some (.val (.builtin "ValueError.__init__")) := by
        split at f5
        · rename_i n en
          have e : n = "ValueError.__init__" := beq_iff_eq.mp f5
          rw [en, e]
        · cases f5
      refine ⟨k, hk, ⟨by rw [ea]; exact m1, m2, He.ma K (He.ga K x) "__init__", PySem.W.fnOf nm qual params body scope dV kV doc pm an cdv ct, ?_⟩⟩
      rw [ea]
      exact ⟨oexB_ok b3, of_decide_eq_true b4, of_decide_eq_true b5, ⟨oc, od, osl, nm, qual, params, body, scope, dV, kV, doc, pm, an, cdv, ct, "self" :: ps', B, He.ga K B, "self", rfl, lk, hcd, S, rfl, sp, dn, hb, ⟨n1, n2, of_decide_eq_true f2, of_decide_eq_true f3, f4, f5'⟩⟩,
        of_decide_eq_true d1, of_decide_eq_true d2, fun f hf => of_decide_eq_true (List.all_eq_true.mp d3 f hf)⟩
    · cases b7
  · have b := cp e
    unfold Tx.clsB at b
    obtain ⟨b, b6⟩ := and2 b
    obtain ⟨b, b5⟩ := and2 b
    unfold isXb at ht
    split at ht
    · rename_i kt et
      have z := List.all_eq_true.mp b5 (t, kt) (nat_lookup et)
      have z : (!(k.isX && kt.isX) || decide (PySem.W.exmOne K (.ref ((T.N K).cA i)) (.ref ((T.N K).cA t)) = some (k.anc.contains t))) = true := z
      rw [hx, ht] at z
      simpa using z
    · cases ht
end
end G

set_option maxHeartbeats 4000000
/-! The head: a law by the evaluator's answer. -/
namespace G
open PySem PySem.Spec PyProof.Rows L2

def noLists (K : PySem.W.Frag) : Bool := K.all fun p => !(p.2.cls == .type "list")
theorem noLists_at {K : PySem.W.Frag} (h : noLists K = true) {a : Addr} {o : Obj} (e : K.lookup a = some o) : o.cls ≠ .type "list" := by
  have m : (a, o) ∈ K := by
    clear h
    induction K with
    | nil => cases e
    | cons p K ih =>
      obtain ⟨b, u⟩ := p
      rw [List.lookup_cons] at e
      cases q : a == b with
      | true =>
        rw [q] at e
        have q : a = b := by simpa using q
        subst q
        cases e
        exact List.mem_cons_self
      | false =>
        rw [q] at e
        exact List.mem_cons_of_mem _ (ih e)
  have z := notB (List.all_eq_true.mp h _ m)
  exact fun q => by
    have z : (o.cls == .type "list") = false := z
    rw [q] at z
    exact absurd z (by decide)
def asX (g : Addr → Option Obj) (n : Nat) : List Addr := (sysModules :: cStatics :: He.asD g n).filter fun a => match g a with
  | some o => !(o.cls == .type "list")
  | none => false
def headB (T : Tx) (K : PySem.W.Frag) : Bool := T.tieB K && noLists K
def obsX (n : Nat) (T : Tx) (g : Addr → Option Obj) : Bool := headB T (He.frG g (asX g n))
def hookX (n : Nat) (T : Tx) : PySem.W.Hook where
  α := Bool
  obs := fun s => obsX n T s.heap.get?
  val := fun _ => true
  says := fun _ h => ∃ K : PySem.W.Frag, K.In h ∧ headB T K = true
  of := fun _ _ e => ⟨_, He.frG_in, e⟩
  keeps := fun _ _ _ ⟨K, hK, c⟩ k => ⟨K, PySem.W.Frag.In.keeps hK k, c⟩
theorem obsX_eq {n : Nat} {T : Tx} {g : Addr → Option Obj} {s : Shared} (h : ∀ a, g a = s.heap.get? a) : obsX n T g = (hookX n T).obs s := by
  rw [show g = s.heap.get? from funext h] <;> rfl
theorem reps_ints {N : Nam} {K : PySem.W.Frag} {F : Hp} : ∀ ns : List Int, Reps N K F (ns.map D.int) (ns.map V.int)
  | [] => trivial
  | n :: ns => ⟨rfl, reps_ints ns⟩
theorem callG {P : Prog} {N : Nam} {Pr : Program} {w : World} {K : PySem.W.Frag} {mg mb : Str → Option Value} {k n f : Nat} {fa a : Addr} {fd : FuncData} {x : Str} {s₁ : Shared} {vs : List Value} {ns : List Int} (KX : K.In s₁.heap) (nl : noLists K = true) (gns : s₁.heap.Ns mainGlobals mg) (bns : s₁.heap.Ns builtinsNs mb)
    (hbb : ∀ y : Str, y ≠ "__name__" → mb y = bootBuiltins y) (lim : s₁.heap.NoLimit) (gen : s₁.gens = #[]) (ha : s₁.heap.get? a = some { cls := .type "list", data := .seq vs.toArray }) (hi : IntsAre vs ns) (hl : ns.length ≤ sizeLine) (hr : Room k callerA)
    (FG : ∀ base : Heap, FnG Pr w K mg base k fa fd [x] (spF N K (callF P n) f 1)) (hbind : ∀ (s : Shared) (u : Value), BindsTo s fd ⟨[u], []⟩ [(x, u)]) (ans : ∃ M, callF P n f [.p (.lst (ns.map D.int))] [] = .ok (.p (.bl true)) M) :
    codeAny (model Pr w) callerA (.call (.ref fa) ⟨[.ref a], []⟩) (fun r s' => r = .ok (.ret (.bool true)) ∧ OldK s₁.heap s'.heap ∧ s'.os = s₁.os ∧ AllBare s'.gens) s₁ := by
  have rv := vals_ints hi
  have nK : K.lookup a = none := by
    cases e : K.lookup a with
    | none => rfl
    | some o =>
      have z := KX a o e
      rw [ha] at z
      cases z
      exact absurd rfl (noLists_at nl e)
  obtain ⟨oa, hoa⟩ : ∃ oa : Obj, oa = { cls := .type "list", data := .seq vs.toArray } := ⟨_, rfl⟩
  rw [← hoa] at ha
  obtain ⟨H, hH⟩ : ∃ H : Hp, H = fun b => if b = a then some (.frz oa (.lst (ns.map V.int))) else none := ⟨_, rfl⟩
  have Ha : H a = some (.frz oa (.lst (ns.map V.int))) := by rw [hH]; exact if_pos rfl
  have Hb : ∀ {b : Addr}, b ≠ a → H b = none := fun {b} q => by rw [hH]; exact if_neg q
  have hok : HOk Pr w H s₁.heap := fun b u e => by
    by_cases q : b = a
    · subst q
      rw [Ha] at e
      cases e
      exact ⟨ha, by rw [List.length_map]; exact hl, vs, _, rv, by rw [ha, hoa]⟩
    · rw [Hb q] at e
      cases e
  have keepB : ∀ {b : Addr} {o : Obj}, s₁.heap.get? b = some o → b ≠ a → (hidT s₁.heap H).get? b = some o := fun e q => hidT_get e (Hb q)
  have nsB : ∀ {b : Addr} {m : Str → Option Value}, s₁.heap.Ns b m → (hidT s₁.heap H).Ns b m := fun {b m} h => by
    obtain ⟨o, es, ep, e, d, r⟩ := h
    refine ⟨o, es, ep, keepB e fun q => ?_, d, r⟩
    rw [q, ha] at e
    cases e
    rw [hoa] at d
    cases d
  have inB : K.In (hidT s₁.heap H) := fun b o e => keepB (KX b o e) fun q => by rw [q, nK] at e; cases e
  have mod : Mod K mg (hidT s₁.heap H) := ⟨inB, nsB gns, ⟨mb, nsB bns, hbb⟩, by
    obtain ⟨mc, h1, h2⟩ := lim
    exact ⟨mc, nsB h1, h2⟩⟩
  have e0 : Env0 Pr w K mg (hidT s₁.heap H) callerA [] s₁ H := ⟨rfl, mod, fun b o e => of_hidT e, Nat.le_of_eq (hidT_size _ _), trivial, fun b hb => absurd (show b ∈ ([] : List Addr) from hb) (by simp), hok, .of_eq gen⟩
  obtain ⟨M, ans⟩ := ans
  have sim : SimM N K [] [] ⟨H, fun _ => none⟩ H := ⟨Xt.refl H, rfl, fun l b c h => by simp at h, List.nodup_nil, (fun b hb => by cases hb), (fun b o e => by cases e)⟩
  have sp : spF N K (callF P n) f 1 [.ref a] H (fun v _ => v = .bl true) fun _ _ _ => False := by
    refine ⟨rfl, [], [], ⟨H, fun _ => none⟩, [.p (.lst (ns.map D.int))], sim, ⟨⟨a, ns.map V.int, rfl, .inr ⟨oa, Ha⟩, reps_ints ns⟩, trivial⟩, ?_⟩
    rw [ans]
    exact fun v H' m' F' s r g => r
  refine codeAny_mono ((FG (hidT s₁.heap H)).run callerA [] s₁ H ⟨[.ref a], []⟩ [.ref a] [.ref a] _ _ hr rfl e0 (hbind s₁ (.ref a)) (.cons rfl .nil) sp) fun r s' h => ?_
  cases r with
  | error e =>
    obtain ⟨_, _, _, _, _, _, _, _, _, _, _, _, z⟩ := h
    exact z.elim
  | ok fl =>
    cases fl with
    | next => exact False.elim h
    | brk => exact False.elim h
    | cont => exact False.elim h
    | ret u =>
      obtain ⟨v, H', os, bare, un, hok', r', q⟩ := h
      have q : v = .bl true := q
      subst q
      have eu : u = Value.bool true := r'
      refine ⟨by rw [eu], OldK.of_keep fun b o e => ?_, os, bare⟩
      by_cases q : b = a
      · subst q
        obtain ⟨z, _⟩ := hok' b _ (un.frzs b oa _ Ha)
        rw [ha] at e
        cases e
        exact z
      · exact un.keep b o e (Hb q) (by intro z; exact absurd (show b ∈ ([] : List Addr) from z) (by simp)) (by simp)
theorem walk_X {l : PySem.W.OpenLaw} {n N0 m f : Nat} {q : Program} {loose : List Str} {XP : (Str → Option Value) → Heap → Prop} {d : DefRec} {x : Str} {T : Tx} (hn : l.most = some n) (hn2 : n ≤ sizeLine) (hdf : d.params.defaults = []) (hd : d.name = ("law" : Str)) (hr : Room (4 * N0 + 3) callerA)
    (hf : T.Γ.fn.lookup ("law" : Str) = some (f, [x])) (ans : ∀ ns : List Int, ns.length ≤ n → ∃ M, callF T.P N0 f [.p (.lst (ns.map D.int))] [] = .ok (.p (.bl true)) M) :
    PySem.W.WalkO q loose XP (hookX m T).says l.row.toRowW d [] (fun f vs => PySem.call f vs) := by
  refine Att.attach_call hn hdf fun w s₀ s₁ mg mb fa o pm cd doc a vs ns G Y ho hdd hcd hmg hobj hints hlen hg => ?_
  obtain ⟨K, KX, hK⟩ := Y
  obtain ⟨h1, h2⟩ := and2 (show (T.tieB K && noLists K) = true from hK)
  have M := tie_ok (T := T) KX G.T.g h1
  obtain ⟨z, _, _, hfp⟩ := M.tn.fn "law" f [x] hf
  obtain ⟨fd, ff, g⟩ := fn_level M l.prog w N0 f [x] hfp
  rw [← hd, hmg] at z
  have ea : fa = (T.N K).fA f := by cases z; rfl
  subst ea
  refine callG KX h2 G.T.g G.T.b G.T.builtins G.T.nolimit hg hobj hints (Nat.le_trans hlen hn2) hr (fun base => g base) (fun s u => ?_) (ans ns hlen)
  exact BindsTo.of_eq (bind_simple (us := [u]) (ws := []) (ks := []) (perm := []) ff.simp ff.dfl ff.nd (by rfl) rfl)
end G

/-! The evaluator by equations: lazily. -/
namespace G
def SR.andT (z : SR) (k : Env → Mem → SR) : SR := match z with
  | .nx e M => k e M
  | z => z
@[simp] theorem SR.andT_nx (e : Env) (M : Mem) (k : Env → Mem → SR) : (SR.nx e M).andT k = k e M := rfl
@[simp] theorem SR.andT_rt (w : W) (M : Mem) (k : Env → Mem → SR) : (SR.rt w M).andT k = .rt w M := rfl
@[simp] theorem SR.andT_bk (e : Env) (M : Mem) (k : Env → Mem → SR) : (SR.bk e M).andT k = .bk e M := rfl
@[simp] theorem SR.andT_ct (e : Env) (M : Mem) (k : Env → Mem → SR) : (SR.ct e M).andT k = .ct e M := rfl
@[simp] theorem SR.andT_exc (c : Nat) (ns : List Nat) (vs : List D) (e : Env) (M : Mem) (k : Env → Mem → SR) : (SR.exc c ns vs e M).andT k = .exc c ns vs e M := rfl
@[simp] theorem SR.andT_bad (k : Env → Mem → SR) : SR.bad.andT k = .bad := rfl
theorem SR.andT_congr {z z' : SR} {k : Env → Mem → SR} (h : z = z') : z.andT k = z'.andT k := by rw [h]
theorem Res.bind_congr {α β : Type} {r r' : Res α} {f : α → Mem → Res β} (h : r = r') : r.bind f = r'.bind f := by rw [h]
theorem Res.st_congr {α : Type} {env : Env} {r r' : Res α} {f : α → Mem → SR} (h : r = r') : r.st env f = r'.st env f := by rw [h]
@[simp] theorem Res.st_ok {α : Type} (env : Env) (a : α) (M : Mem) (f : α → Mem → SR) : (Res.ok a M).st env f = f a M := rfl
@[simp] theorem Res.st_exc {α : Type} (env : Env) (c : Nat) (ns : List Nat) (vs : List D) (M : Mem) (f : α → Mem → SR) : (Res.exc c ns vs M).st env f = .exc c ns vs env M := rfl
@[simp] theorem Res.st_bad {α : Type} (env : Env) (f : α → Mem → SR) : (Res.bad : Res α).st env f = .bad := rfl
/-- by a test -/
def c3 {α : Type} (o : Option Bool) (a b : Unit → α) (c : α) : α := match o with
  | some true => a ()
  | some false => b ()
  | none => c
@[simp] theorem c3_t {α : Type} (a b : Unit → α) (c : α) : c3 (some true) a b c = a () := rfl
@[simp] theorem c3_f {α : Type} (a b : Unit → α) (c : α) : c3 (some false) a b c = b () := rfl
@[simp] theorem c3_n {α : Type} (a b : Unit → α) (c : α) : c3 none a b c = c := rfl
theorem c3_congr {α : Type} {o o' : Option Bool} {a b : Unit → α} {c : α} (h : o = o') : c3 o a b c = c3 o' a b c := by rw [h]
theorem c3_d {α : Type} (p : Bool) (a b : Unit → α) (c : α) : c3 (some p) a b c = if p = true then a () else b () := by cases p <;> rfl
section
variable (P : Prog) (C : Calls) (env : Env) (M : Mem)
@[simp] theorem ev_var (i : Nat) : ev P C (.var i) env M = Res.of ((getV env i).map (rd M)) M := rfl
@[simp] theorem ev_int (i : Int) : ev P C (.int i) env M = .ok (.p (.int i)) M := rfl
@[simp] theorem ev_str (i : PySem.Str) : ev P C (.str i) env M = .ok (.p (.str i)) M := rfl
@[simp] theorem ev_bl (i : Bool) : ev P C (.bl i) env M = .ok (.p (.bl i)) M := rfl
@[simp] theorem ev_non : ev P C .non env M = .ok (.p .non) M := rfl
@[simp] theorem ev_glob (g : Nat) : ev P C (.glob g) env M = Res.of ((P.glob g).map .p) M := rfl
@[simp] theorem ev_tup (es : List Ex) : ev P C (.tup es) env M = (evs P C es env M).bind fun ws M => .ok (mkTup ws) M := rfl
@[simp] theorem ev_lst (es : List Ex) : ev P C (.lst es) env M = (evs P C es env M).bind fun ws M => Res.of (mkLst ws) M := rfl
@[simp] theorem ev_lstL (es : List Ex) : ev P C (.lstL es) env M = (evs P C es env M).bind fun ws M => .ok (.loc M.length) (M ++ [.lst ws]) := rfl
@[simp] theorem ev_dct (ks vs : List Ex) : ev P C (.dct ks vs) env M = (evs P C ks env M).bind fun ws M => (evs P C vs env M).bind fun us M => match W.pures ws, W.pures us with
    | some a, some b => .ok (.p (.dct a b)) M
    | _, _ => .bad := rfl
@[simp] theorem ev_bin (o : Bop) (a b : Ex) : ev P C (.bin o a b) env M = (ev P C a env M).bind fun x M => (ev P C b env M).bind fun y M => Res.of (binW M o x y) M := rfl
@[simp] theorem ev_neg (a : Ex) : ev P C (.neg a) env M = (ev P C a env M).bind fun x M => match x with
    | .p (.int i) => .ok (.p (.int (-i))) M
    | _ => .bad := rfl
@[simp] theorem ev_not (a : Ex) : ev P C (.not a) env M = (ev P C a env M).bind fun x M => Res.of ((tru M x).map fun b => .p (.bl !b)) M := rfl
@[simp] theorem ev_cmp (o : Cop) (a b : Ex) : ev P C (.cmp o a b) env M = (ev P C a env M).bind fun x M => (ev P C b env M).bind fun y M => Res.of ((cmpW M o x y).map fun b => .p (.bl b)) M := rfl
@[simp] theorem ev_and (a b : Ex) : ev P C (.and a b) env M = (ev P C a env M).bind fun x M => c3 (tru M x) (fun _ => ev P C b env M) (fun _ => .ok x M) .bad := by
  show ((ev P C a env M).bind _) = _
  congr 1
@[simp] theorem ev_or (a b : Ex) : ev P C (.or a b) env M = (ev P C a env M).bind fun x M => c3 (tru M x) (fun _ => .ok x M) (fun _ => ev P C b env M) .bad := by
  show ((ev P C a env M).bind _) = _
  congr 1
@[simp] theorem ev_ite (c a b : Ex) : ev P C (.ite c a b) env M = (ev P C c env M).bind fun x M => c3 (tru M x) (fun _ => ev P C a env M) (fun _ => ev P C b env M) .bad := by
  show ((ev P C c env M).bind _) = _
  congr 1
@[simp] theorem ev_idx (a i : Ex) : ev P C (.idx a i) env M = (ev P C a env M).bind fun x M => (ev P C i env M).bind fun y M => Res.of ((idxW M x y).map (rd M)) M := rfl
@[simp] theorem ev_slc (a : Ex) (lo hi : List Ex) : ev P C (.slc a lo hi) env M = (ev P C a env M).bind fun x M => (evs P C lo env M).bind fun l M => (Res.of (oneInt l) M).bind fun l M => (evs P C hi env M).bind fun h M => (Res.of (oneInt h) M).bind fun h M => Res.of (slcW M x l h) M := rfl
@[simp] theorem ev_att (a : Ex) (f : Nat) : ev P C (.att a f) env M = (ev P C a env M).bind fun x M => Res.of ((attW P M x f).map (rd M)) M := rfl
@[simp] theorem ev_call (f : Nat) (as ks : List Ex) (pm : List Nat) : ev P C (.call f as ks pm) env M = (evs P C as env M).bind fun ws M => (evs P C ks env M).bind fun us M => C f (permW (ws ++ us) pm) M := rfl
@[simp] theorem ev_blt (b : Blt) (as : List Ex) : ev P C (.blt b as) env M = (evs P C as env M).bind fun ws M => Res.of (bltW M b ws) M := rfl
@[simp] theorem ev_mth (m : Mth) (o a : Ex) : ev P C (.mth m o a) env M = (ev P C o env M).bind fun x M => match x with
    | .p (.str s) => (ev P C a env M).bind fun y M => Res.of (mthW m s y) M
    | _ => .bad := rfl
@[simp] theorem ev_fstr (es : List Ex) : ev P C (.fstr es) env M = evJ P C es PySem.Str.empty env M := rfl
@[simp] theorem evJ_nil (acc : PySem.Str) : evJ P C [] acc env M = .ok (.p (.str acc)) M := rfl
@[simp] theorem evJ_cons (e : Ex) (r : List Ex) (acc : PySem.Str) : evJ P C (e :: r) acc env M = (ev P C e env M).bind fun w M => match w with
    | .p (.str s) => if szOk (acc ++ s).length then evJ P C r (acc ++ s) env M else .bad
    | _ => .bad := rfl
@[simp] theorem ev_fmt (a : Ex) : ev P C (.fmt a) env M = (ev P C a env M).bind fun x M => Res.of (fmtW x) M := rfl
@[simp] theorem ev_isi (a : Ex) (cs : List TyC) : ev P C (.isi a cs) env M = (ev P C a env M).bind fun x M => Res.of ((isiW P M x cs).map fun b => .p (.bl b)) M := rfl
@[simp] theorem ev_it (a : Ex) : ev P C (.it a) env M = ev P C a env M := rfl
@[simp] theorem evs_nil : evs P C [] env M = .ok [] M := rfl
@[simp] theorem evs_cons (e : Ex) (r : List Ex) : evs P C (e :: r) env M = (ev P C e env M).bind fun w M => (evs P C r env M).bind fun ws M => .ok (w :: ws) M := rfl
@[simp] theorem exs_nil : exs P C [] env M = .nx env M := rfl
@[simp] theorem exs_cons (s : St) (r : List St) : exs P C (s :: r) env M = (ex P C s env M).andT (exs P C r) := rfl
@[simp] theorem ex_asg (i : Nat) (e : Ex) : ex P C (.asg i e) env M = (ev P C e env M).st env fun w M => .nx (env.set i (some w)) M := rfl
@[simp] theorem ex_asgT (t : Tg) (e : Ex) : ex P C (.asgT t e) env M = (ev P C e env M).st env fun w M => match give t w env with
    | some env' => .nx env' M
    | none => .bad := rfl
@[simp] theorem ex_par (i j : Nat) (a b : Ex) : ex P C (.par i j a b) env M = (ev P C a env M).st env fun x M => (ev P C b env M).st env fun y M => .nx ((env.set i (some x)).set j (some y)) M := rfl
@[simp] theorem ex_setIdx (o i e : Ex) : ex P C (.setIdx o i e) env M = (ev P C e env M).st env fun v M => (ev P C o env M).st env fun a M => (ev P C i env M).st env fun k M => match setCell M a k v with
    | some M' => .nx env M'
    | none => .bad := rfl
@[simp] theorem ex_ifs (c : Ex) (a b : List St) : ex P C (.ifs c a b) env M = (ev P C c env M).st env fun x M => c3 (tru M x) (fun _ => exs P C a env M) (fun _ => exs P C b env M) .bad := by
  show (Res.st env (ev P C c env M) _) = _
  congr 1
@[simp] theorem ex_ret (e : Ex) : ex P C (.ret e) env M = (ev P C e env M).st env fun w M => .rt w M := rfl
@[simp] theorem ex_retN : ex P C .retN env M = .rt (.p .non) M := rfl
@[simp] theorem ex_expr (e : Ex) : ex P C (.expr e) env M = (ev P C e env M).st env fun _ M => .nx env M := rfl
@[simp] theorem ex_pass : ex P C .pass env M = .nx env M := rfl
@[simp] theorem ex_raise (c : Nat) (as ks : List Ex) (pm : List Nat) : ex P C (.raise c as ks pm) env M = (evs P C as env M).st env fun ws M => (evs P C ks env M).st env fun us M =>
    match P.cls c, W.pures (permW (ws ++ us) pm) with
    | some k, some vs => if k.flds.length = vs.length ∧ k.isX = true then .exc c k.flds vs env M else .bad
    | _, _ => .bad := rfl
end
end G

set_option maxHeartbeats 4000000
/-! Lemmas about plain data for pure laws: texts, numbers as rational numbers. -/
namespace G
open PySem PySem.StrLaws
def big : Nat := 2 ^ 1900
theorem big_10 : big ≤ 10 ^ 599 := by decide +kernel
mutual
def dl : D → Nat
  | .non => 4
  | .bl _ => 5
  | .int _ => 600
  | .str s => 10 * s.cps.size + 2
  | .tup xs => dls xs + 3
  | .lst xs => dls xs + 3
  | _ => 4
def dls : List D → Nat
  | [] => 0
  | x :: r => dl x + 2 + dls r
end
mutual
def small : Nat → D → Bool
  | _, .non => true
  | _, .bl _ => true
  | _, .int i => decide (i.natAbs < big)
  | _, .str s => PyData.strOk s
  | n, .tup xs => match n with
    | 0 => false
    | n + 1 => smalls n xs
  | n, .lst xs => match n with
    | 0 => false
    | n + 1 => smalls n xs
  | _, _ => false
def smalls : Nat → List D → Bool
  | _, [] => true
  | n, d :: r => small n d && smalls n r
end
theorem log_of {a k : Nat} (h : a < 2 ^ k) (hk : 0 < k) : a.log2 < k := by
  by_cases z : a = 0
  · subst z
    simpa using hk
  · exact (Nat.log2_lt z).mpr h
mutual
theorem small_show : ∀ (d : D) (n : Nat), small n d = true → showOk n d = true
  | .non, n, h => by cases n <;> rfl
  | .bl _, n, h => by cases n <;> rfl
  | .str _, n, h => by cases n <;> rfl
  | .int i, n, h => by
    have h : i.natAbs < big := by cases n <;> exact of_decide_eq_true h
    have h2 : i.natAbs.log2 < 1900 := log_of h (by decide)
    have h3 : decide (i.natAbs.log2 < 1920) = true := decide_eq_true (by omega)
    cases n <;> exact h3
  | .tup xs, n, h => by
    cases n with
    | zero => cases h
    | succ n => exact smalls_show xs n h
  | .lst xs, n, h => by
    cases n with
    | zero => cases h
    | succ n => exact smalls_show xs n h
  | .dct _ _, n, h => by cases n <;> cases h
  | .obj _ _ _, n, h => by cases n <;> cases h
  | .exc _ _ _, n, h => by cases n <;> cases h
theorem smalls_show : ∀ (ds : List D) (n : Nat), smalls n ds = true → showOks n ds = true
  | [], n, h => by cases n <;> rfl
  | d :: ds, n, h => by
    obtain ⟨h1, h2⟩ := Bool.and_eq_true_iff.mp (show (small n d && smalls n ds) = true by cases n <;> exact h)
    have z : (showOk n d && showOks n ds) = true := by rw [small_show d n h1, smalls_show ds n h2]; rfl
    cases n <;> exact z
end
mutual
theorem small_len : ∀ (d : D) (n : Nat), small n d = true → (toPy d).shown.length ≤ dl d
  | .non, n, h => by
    show (PyData.shown .none).length ≤ 4
    exact Nat.le_of_eq rfl
  | .bl b, n, h => by
    show (PyData.shown (.bool b)).length ≤ 5
    cases b <;> decide
  | .str s, n, h => by
    have h1 : PyData.strOk s = true := by cases n <;> exact h
    have h0 : ∀ c ∈ s.cps.toList, c < 16 ^ 8 := by
      intro c hcm
      have := (Array.all_eq_true_iff_forall_mem.mp h1) c (Array.mem_toList_iff.mp hcm)
      have h2 : c < 0x110000 := by simpa using this
      have e : (16 : Nat) ^ 8 = 4294967296 := by decide
      omega
    have e := reprText_len s h0
    show (PyData.shown (.str s)).length ≤ 10 * s.cps.size + 2
    simp only [PyData.shown]
    exact e
  | .int i, n, h => by
    have h : i.natAbs < big := by cases n <;> exact of_decide_eq_true h
    have e := int_text_length_le10 (k := 599) (by decide) (Nat.lt_of_lt_of_le h big_10)
    show (PyData.shown (.int i)).length ≤ 600
    show (Str.ofString (toString i)).length ≤ 600
    rw [ofString_length]
    exact e
  | .tup xs, n, h => by
    cases n with
    | zero => cases h
    | succ n =>
      have e := tupleText_len_le (PyData.shownAll (toPys xs))
      have e2 := smalls_len xs n h
      show (PyData.shown (.tuple (toPys xs))).length ≤ dls xs + 3
      simp only [PyData.shown]
      omega
  | .lst xs, n, h => by
    cases n with
    | zero => cases h
    | succ n =>
      have e := listText_len_le (PyData.shownAll (toPys xs))
      have e2 := smalls_len xs n h
      show (PyData.shown (.list (toPys xs))).length ≤ dls xs + 3
      simp only [PyData.shown]
      omega
  | .dct _ _, n, h => by cases n <;> cases h
  | .obj _ _ _, n, h => by cases n <;> cases h
  | .exc _ _ _, n, h => by cases n <;> cases h
theorem smalls_len : ∀ (ds : List D) (n : Nat), smalls n ds = true → ((PyData.shownAll (toPys ds)).map (·.length)).sum + 2 * (PyData.shownAll (toPys ds)).length ≤ dls ds
  | [], n, h => Nat.le_refl 0
  | d :: ds, n, h => by
    obtain ⟨h1, h2⟩ := Bool.and_eq_true_iff.mp (show (small n d && smalls n ds) = true by cases n <;> exact h)
    have e1 := small_len d n h1
    have e2 := smalls_len ds n h2
    show (((toPy d).shown :: PyData.shownAll (toPys ds)).map (·.length)).sum + 2 * ((toPy d).shown :: PyData.shownAll (toPys ds)).length ≤ dl d + 2 + dls ds
    simp only [List.map_cons, List.sum_cons, List.length_cons]
    omega
end
theorem repr_ok {d : D} {M : Mem} (h : small 60 d = true) (hl : dl d ≤ 100000) : bltW M .repr [.p d] = some (.p (.str (reprD d))) := by
  show (if showOk 60 d && szOk (reprD d).length then some (W.p (.str (reprD d))) else none) = _
  rw [small_show d 60 h, show szOk (reprD d).length = true from decide_eq_true (Nat.le_trans (small_len d 60 h) hl)]
  rfl
/-! numbers -/
def nd (q : Rat) : D := if q.den = 1 then .int q.num else .tup [.int q.num, .int q.den]
def sz (q : Rat) (k : Nat) : Prop := q.num.natAbs < 2 ^ k ∧ q.den < 2 ^ k
theorem sz_mono {q : Rat} {k l : Nat} (h : sz q k) (hk : k ≤ l) : sz q l :=
  ⟨Nat.lt_of_lt_of_le h.1 (Nat.pow_le_pow_right (by decide) hk), Nat.lt_of_lt_of_le h.2 (Nat.pow_le_pow_right (by decide) hk)⟩
theorem mul_lt_pow {a b k l : Nat} (h1 : a < 2 ^ k) (h2 : b < 2 ^ l) : a * b < 2 ^ (k + l) := by
  rw [Nat.pow_add]
  exact Nat.mul_lt_mul'' h1 h2
theorem den_pos' (q : Rat) : 0 < q.den := q.den_pos
theorem num_eq_divInt {a b : Int} (hb : b ≠ 0) : ((Rat.divInt a b).num, ((Rat.divInt a b).den : Int)) = if 0 < b then (a / (Nat.gcd a.natAbs b.natAbs : Nat), b / (Nat.gcd a.natAbs b.natAbs : Nat)) else (-(a / (Nat.gcd a.natAbs b.natAbs : Nat)), -(b / (Nat.gcd a.natAbs b.natAbs : Nat))) := by
  have hg : b.gcd a = Nat.gcd a.natAbs b.natAbs := Nat.gcd_comm _ _
  have da : ((Nat.gcd a.natAbs b.natAbs : Nat) : Int) ∣ a := Int.ofNat_dvd_left.mpr (Nat.gcd_dvd_left _ _)
  have db : ((Nat.gcd a.natAbs b.natAbs : Nat) : Int) ∣ b := Int.ofNat_dvd_left.mpr (Nat.gcd_dvd_right _ _)
  rw [Rat.num_divInt, Rat.den_divInt, if_neg hb, hg, Int.natCast_ediv]
  by_cases h : 0 < b
  · rw [if_pos h, Int.sign_eq_one_of_pos h, Int.one_mul]
    have e : (b.natAbs : Int) = b := by omega
    rw [e]
  · have h' : b < 0 := by omega
    rw [if_neg h, Int.sign_eq_neg_one_of_neg h', Int.neg_one_mul, Int.neg_ediv_of_dvd da]
    have e : (b.natAbs : Int) = -b := by omega
    rw [e, Int.neg_ediv_of_dvd db]
theorem sz_divInt {a b : Int} {k : Nat} (hb : b ≠ 0) (h1 : a.natAbs < 2 ^ k) (h2 : b.natAbs < 2 ^ k) : sz (Rat.divInt a b) k := by
  have n1 : (Rat.divInt a b).num.natAbs ≤ a.natAbs := by
    rw [Rat.num_divInt]
    have e : (b.sign * a).natAbs = a.natAbs := by
      rw [Int.natAbs_mul, Int.natAbs_sign, if_neg hb, Nat.one_mul]
    calc (b.sign * a / (b.gcd a : Nat)).natAbs ≤ (b.sign * a).natAbs := Int.natAbs_ediv_le_natAbs _ _
      _ = a.natAbs := e
  have n2 : (Rat.divInt a b).den ≤ b.natAbs := by
    rw [Rat.den_divInt, if_neg hb]
    exact Nat.div_le_self _ _
  exact ⟨Nat.lt_of_le_of_lt n1 h1, Nat.lt_of_le_of_lt n2 h2⟩
theorem add_lt_pow {a b k : Nat} (h1 : a < 2 ^ k) (h2 : b < 2 ^ k) : a + b < 2 ^ (k + 1) := by
  rw [Nat.pow_succ]
  omega
theorem sz_add {p q : Rat} {k l : Nat} (h1 : sz p k) (h2 : sz q l) : sz (p + q) (k + l + 1) := by
  have e : p + q = Rat.divInt (p.num * q.den + q.num * p.den) ((p.den * q.den : Nat) : Int) := by
    rw [Rat.add_def', Rat.divInt_ofNat]
  have d0 : ((p.den * q.den : Nat) : Int) ≠ 0 := by
    have := Nat.mul_pos p.den_pos q.den_pos
    omega
  rw [e]
  refine sz_divInt d0 ?_ ?_
  · refine Nat.lt_of_le_of_lt (Int.natAbs_add_le _ _) ?_
    rw [Int.natAbs_mul, Int.natAbs_mul, Int.natAbs_natCast, Int.natAbs_natCast]
    refine add_lt_pow (mul_lt_pow h1.1 h2.2) ?_
    rw [Nat.add_comm k l]
    exact mul_lt_pow h2.1 h1.2
  · rw [Int.natAbs_natCast]
    exact Nat.lt_of_lt_of_le (mul_lt_pow h1.2 h2.2) (Nat.pow_le_pow_right (by decide) (by omega))
theorem sz_mul {p q : Rat} {k l : Nat} (h1 : sz p k) (h2 : sz q l) : sz (p * q) (k + l) := by
  have e : p * q = Rat.divInt (p.num * q.num) ((p.den * q.den : Nat) : Int) := by
    rw [Rat.mul_def', Rat.divInt_ofNat]
  have d0 : ((p.den * q.den : Nat) : Int) ≠ 0 := by
    have := Nat.mul_pos p.den_pos q.den_pos
    omega
  rw [e]
  refine sz_divInt d0 ?_ ?_
  · rw [Int.natAbs_mul]
    exact mul_lt_pow h1.1 h2.1
  · rw [Int.natAbs_natCast]
    exact mul_lt_pow h1.2 h2.2
theorem sz_neg {p : Rat} {k : Nat} (h : sz p k) : sz (-p) k := by
  unfold sz
  rw [Rat.neg_num, Rat.neg_den, Int.natAbs_neg]
  exact h
theorem sz_0 {k : Nat} (hk : 0 < k) : sz 0 k := ⟨by show 0 < 2 ^ k; exact Nat.pow_pos (by decide), by show 1 < 2 ^ k; exact Nat.one_lt_two_pow (by omega)⟩
theorem small_nd {q : Rat} {k n : Nat} (h : sz q k) (hk : k ≤ 1900) : small (n + 1) (nd q) = true := by
  have h1 : q.num.natAbs < big := (sz_mono h hk).1
  have h2 : (q.den : Int).natAbs < big := by rw [Int.natAbs_natCast]; exact (sz_mono h hk).2
  unfold nd
  split
  · exact decide_eq_true h1
  · show (small n (.int q.num) && (small n (.int q.den) && smalls n [])) = true
    have e1 : small n (.int q.num) = true := by cases n <;> exact decide_eq_true h1
    have e2 : small n (.int (q.den : Int)) = true := by cases n <;> exact decide_eq_true h2
    have e3 : smalls n [] = true := by cases n <;> rfl
    rw [e1, e2, e3]
    rfl
theorem dl_nd (q : Rat) : dl (nd q) ≤ 1207 := by
  unfold nd
  split
  · exact (by decide : 600 ≤ 1207)
  · exact (by decide : 600 + 2 + (600 + 2 + 0) + 3 ≤ 1207)
end G

set_option maxHeartbeats 4000000
/-! Texts: cuts, the first of a sign, numbers written and read. -/
namespace G
open PySem PySem.StrLaws PySem.Builtin.Str PySem.NumText
/-- the text of some signs -/
def sl (l : List Nat) : Str := ⟨l.toArray⟩
theorem sl_list (l : List Nat) : (sl l).cps.toList = l := by simp [sl]
theorem sl_of (s : Str) : sl s.cps.toList = s := by cases s; simp [sl]
theorem sl_len (l : List Nat) : (sl l).length = l.length := by simp [sl, Str.length]
theorem len_list (s : Str) : s.cps.toList.length = s.length := by simp [Str.length]
theorem sl_app (a b : List Nat) : sl a ++ sl b = sl (a ++ b) := by
  show (⟨(sl a).cps ++ (sl b).cps⟩ : Str) = _
  simp [sl]
theorem str_ext {a b : Str} (h : a.cps.toList = b.cps.toList) : a = b := by rw [← sl_of a, ← sl_of b, h]
theorem sl_inj {a b : List Nat} (h : sl a = sl b) : a = b := by rw [← sl_list a, ← sl_list b, h]
theorem cut_none (l : List Nat) (n : Nat) : L2.cutS (sl l) none (some (n : Int)) = sl (l.take n) := by
  apply str_ext
  rw [sl_list]
  unfold L2.cutS
  rw [HT.sIx_none, HT.sIx_nat, sl_len, sl_list, List.drop_zero, Nat.sub_zero]
  show (l.take (min n l.length)).toArray.toList = _
  rw [List.toList_toArray]
  by_cases h : n ≤ l.length
  · rw [Nat.min_eq_left h]
  · rw [Nat.min_eq_right (by omega), List.take_of_length_le (Nat.le_refl _), List.take_of_length_le (by omega)]
theorem cut_from (l : List Nat) (n : Nat) : L2.cutS (sl l) (some (n : Int)) none = sl (l.drop n) := by
  apply str_ext
  rw [sl_list]
  unfold L2.cutS
  rw [HT.sIx_none, HT.sIx_nat, sl_len, sl_list]
  show ((l.drop (min n l.length)).take (l.length - min n l.length)).toArray.toList = _
  rw [List.toList_toArray]
  by_cases h : n ≤ l.length
  · rw [Nat.min_eq_left h, List.take_of_length_le (by rw [List.length_drop]; omega)]
  · rw [Nat.min_eq_right (by omega), List.drop_length, List.take_nil, List.drop_eq_nil_of_le (by omega)]
/-! the first of a sign -/
theorem first_cases (l : List Nat) (c : Nat) : (c ∉ l ∧ Txt.find (sl l) ⟨#[c]⟩ = -1 ∧ Txt.partition (sl l) ⟨#[c]⟩ = (sl l, Str.empty, Str.empty)) ∨
    ∃ i : Nat, l[i]? = some c ∧ (∀ k, k < i → l[k]? ≠ some c) ∧ Txt.find (sl l) ⟨#[c]⟩ = (i : Int) ∧ Txt.partition (sl l) ⟨#[c]⟩ = (sl (l.take i), ⟨#[c]⟩, sl (l.drop (i + 1))) := by
  have at1 : ∀ i, At (sl l) ⟨#[c]⟩ (sl l).length i ↔ l[i]? = some c := fun i => by
    have := subAt_one (sl l) c i
    rw [sl_list] at this
    exact this
  rcases occ_head (sl l) ⟨#[c]⟩ 1 (Nat.le_refl 1) with ⟨h0, hn⟩ | ⟨i, r, h0, hi, hn⟩
  · refine .inl ⟨fun hm => ?_, ?_, ?_⟩
    · obtain ⟨i, hi⟩ := List.mem_iff_getElem?.mp hm
      exact hn i ((at1 i).mpr hi)
    · unfold Txt.find
      rw [h0]
    · unfold Txt.partition
      rw [h0]
  · have hi' := (at1 i).mp hi
    have hlt : i < l.length := (List.getElem?_eq_some_iff.mp hi').1
    refine .inr ⟨i, hi', fun k hk e => hn k hk ((at1 k).mpr e), ?_, ?_⟩
    · unfold Txt.find
      rw [h0]
    · have e1 : strSub (sl l) 0 i = sl (l.take i) := by
        apply str_ext
        rw [strSub_toList, sl_list, sl_list, List.drop_zero, Nat.sub_zero]
      have e2 : strSub (sl l) (i + 1) (sl l).length = sl (l.drop (i + 1)) := by
        apply str_ext
        rw [strSub_toList, sl_list, sl_list, sl_len, List.take_of_length_le (by rw [List.length_drop]; omega)]
      unfold Txt.partition
      rw [h0, ← e1, ← e2]
      rfl
/-! a number's signs -/
def digs (l : List Nat) : Bool := l.all fun c => decide (48 ≤ c ∧ c ≤ 57)
/-- without its minus -/
def bare (l : List Nat) : List Nat := match l with
  | 45 :: r => r
  | l => l
def intOf (l : List Nat) : Option Int :=
  if bare l = [] ∨ 60 < (bare l).length ∨ digs (bare l) = false then none
  else if (bare l).head? = some 48 ∧ l ≠ [48] then none
  else intText? (sl l)
theorem all_digits {l : List Nat} (h : digs l = true) : AllDigits l := fun c hc => by
  have := List.all_eq_true.mp h c hc
  simpa using this
theorem val_lt : ∀ (l : List Nat) (a k : Nat), digs l = true → a < 10 ^ k → l.foldl (fun acc c => acc * 10 + (c - 48)) a < 10 ^ (k + l.length)
  | [], a, k, _, h => h
  | c :: l, a, k, hd, h => by
    have hd : (decide (48 ≤ c ∧ c ≤ 57) && digs l) = true := hd
    rw [Bool.and_eq_true] at hd
    have hc : 48 ≤ c ∧ c ≤ 57 := by simpa using hd.1
    rw [List.foldl_cons, List.length_cons]
    have := val_lt l (a * 10 + (c - 48)) (k + 1) hd.2 (by rw [Nat.pow_succ]; omega)
    rw [show k + (l.length + 1) = k + 1 + l.length by omega]
    exact this
theorem int_some {l : List Nat} (h0 : bare l ≠ []) (h1 : (bare l).length ≤ 60) (h2 : digs (bare l) = true) : ∃ i : Int, intText? (sl l) = some i ∧ i.natAbs < 10 ^ 60 := by
  have hv : digitsVal (bare l) < 10 ^ 60 := by
    have := val_lt (bare l) 0 0 h2 (by decide)
    exact Nat.lt_of_lt_of_le this (Nat.pow_le_pow_right (by decide) (by omega))
  by_cases hm : ∃ r, l = 45 :: r
  · obtain ⟨r, rfl⟩ := hm
    exact ⟨_, intText_neg (sl_list _) (all_digits h2) h0 (by rw [sl_len, List.length_cons]; have : r.length ≤ 60 := h1; omega), by rw [Int.natAbs_neg]; exact hv⟩
  · have hb : bare l = l := by
      unfold bare
      split
      · exact absurd ⟨_, rfl⟩ hm
      · rfl
    rw [hb] at h0 h1 h2 hv
    exact ⟨_, intText_digits (by rw [sl_list]; exact all_digits h2) (by rw [sl_list]; exact h0) (by rw [sl_len]; omega), by rw [sl_list]; exact hv⟩
theorem intOf_lt {l : List Nat} {i : Int} (h : intOf l = some i) : i.natAbs < 10 ^ 60 := by
  unfold intOf at h
  split at h
  · cases h
  · rename_i h1
    split at h
    · cases h
    · have a1 : bare l ≠ [] := fun z => h1 (.inl z)
      have a2 : (bare l).length ≤ 60 := Nat.le_of_not_lt fun z => h1 (.inr (.inl z))
      have a3 : digs (bare l) = true := by
        cases z : digs (bare l) with
        | true => rfl
        | false => exact absurd (.inr (.inr z)) h1
      obtain ⟨j, e, hj⟩ := int_some a1 a2 a3
      rw [e] at h
      cases h
      exact hj
/-! a number, written -/
def dg (m : Nat) : List Nat := (Nat.toDigits 10 m).map Char.toNat
def wr (i : Int) : List Nat := if 0 ≤ i then dg i.natAbs else 45 :: dg i.natAbs
theorem dg_step {m : Nat} (h : ¬ m < 10) : dg m = dg (m / 10) ++ dg (m % 10) := by
  have hm : m % 10 < 10 := Nat.mod_lt m (by decide)
  have t : Nat.toDigits 10 (m / 10) ++ Nat.toDigits 10 (m % 10) = Nat.toDigits 10 (10 * (m / 10) + m % 10) := Nat.toDigits_append_toDigits (by decide) (by omega) hm
  rw [Nat.div_add_mod] at t
  unfold dg
  rw [← t, List.map_append]
theorem dg_small {m : Nat} (h : m < 10) : dg m = [48 + m] := by
  unfold dg
  rw [Nat.toDigits_of_lt_base h]
  have : m = 0 ∨ m = 1 ∨ m = 2 ∨ m = 3 ∨ m = 4 ∨ m = 5 ∨ m = 6 ∨ m = 7 ∨ m = 8 ∨ m = 9 := by omega
  rcases this with rfl | rfl | rfl | rfl | rfl | rfl | rfl | rfl | rfl | rfl <;> rfl
theorem dg_facts : ∀ (k m : Nat), m < 10 ^ (k + 1) → dg m ≠ [] ∧ (dg m).length ≤ k + 1 ∧ digs (dg m) = true ∧ ((dg m).head? = some 48 → m = 0)
  | k, m, h => by
    by_cases hm : m < 10
    · rw [dg_small hm]
      refine ⟨by simp, by simp, ?_, fun e => ?_⟩
      · show (decide (48 ≤ 48 + m ∧ 48 + m ≤ 57) && true) = true
        rw [decide_eq_true (by omega)]
        rfl
      · simp at e
        omega
    · cases k with
      | zero => simp at h; omega
      | succ k =>
        have h1 : m / 10 < 10 ^ (k + 1) := by
          rw [Nat.pow_succ] at h
          exact (Nat.div_lt_iff_lt_mul (by decide)).mpr h
        obtain ⟨a1, a2, a3, a4⟩ := dg_facts k (m / 10) h1
        have hl : m % 10 < 10 := Nat.mod_lt m (by decide)
        rw [dg_step hm, dg_small hl]
        refine ⟨by simp, by rw [List.length_append]; simp; omega, ?_, fun e => ?_⟩
        · unfold digs at a3 ⊢
          rw [List.all_append, a3]
          show (true && (decide (48 ≤ 48 + m % 10 ∧ 48 + m % 10 ≤ 57) && true)) = true
          rw [decide_eq_true (by omega)]
          rfl
        · have : (dg (m / 10)).head? = some 48 := by
            cases hd : dg (m / 10) with
            | nil => exact absurd hd a1
            | cons x xs =>
              rw [hd] at e
              simpa using e
          have := a4 this
          omega
theorem toString_nat (m : Nat) : Str.ofString (toString ((m : Nat) : Int)) = sl (dg m) := by
  apply str_ext
  rw [sl_list]
  exact PySem.W.KIN.signs_num m
theorem toString_wr (i : Int) : Str.ofString (toString i) = sl (wr i) := by
  cases i with
  | ofNat m =>
    have : wr (Int.ofNat m) = dg m := by
      unfold wr
      rw [if_pos (show (0 : Int) ≤ Int.ofNat m from Int.natCast_nonneg m)]
      rfl
    rw [this]
    exact toString_nat m
  | negSucc m =>
    have e : wr (Int.negSucc m) = 45 :: dg (m + 1) := by
      unfold wr
      rw [if_neg (by omega)]
      rfl
    rw [e]
    apply str_ext
    rw [sl_list]
    have h := PySem.W.KIN.signs_num (m + 1)
    rw [PyProof.Rows.signs_ofString] at h ⊢
    show ("-" ++ Nat.repr (m + 1)).toList.map Char.toNat = _
    have h2 : (Nat.repr (m + 1)).toList.map Char.toNat = (Nat.toDigits 10 (m + 1)).map Char.toNat := h
    rw [String.toList_append, List.map_append, h2]
    rfl
theorem bare_dg {m : Nat} (h : m < 10 ^ 60) : bare (dg m) = dg m := by
  obtain ⟨a1, a2, a3, a4⟩ := dg_facts 59 m h
  unfold bare
  split
  · rename_i r e
    rw [e] at a3
    exact absurd a3 (by simp [digs])
  · rfl
theorem intOf_wr {i : Int} (h : i.natAbs < 10 ^ 60) : intOf (wr i) = some i := by
  obtain ⟨a1, a2, a3, a4⟩ := dg_facts 59 i.natAbs h
  have hb : bare (wr i) = dg i.natAbs := by
    unfold wr
    split
    · exact bare_dg h
    · rfl
  have c1 : ¬ (bare (wr i) = [] ∨ 60 < (bare (wr i)).length ∨ digs (bare (wr i)) = false) := by
    rw [hb]
    rintro (z | z | z)
    · exact a1 z
    · omega
    · rw [a3] at z; cases z
  have c2 : ¬ ((bare (wr i)).head? = some 48 ∧ wr i ≠ [48]) := by
    rw [hb]
    rintro ⟨z1, z2⟩
    have z3 := a4 z1
    apply z2
    have : i = 0 := by omega
    subst this
    rfl
  unfold intOf
  rw [if_neg c1, if_neg c2]
  by_cases hi : 0 ≤ i
  · have e : wr i = dg i.natAbs := by unfold wr; rw [if_pos hi]
    rw [e, intText_digits (by rw [sl_list]; exact all_digits a3) (by rw [sl_list]; exact a1) (by rw [sl_len]; omega), sl_list]
    have v := PySem.W.KIN.val_back i.natAbs
    have v : digitsVal (dg i.natAbs) = i.natAbs := v
    rw [v]
    congr 1
    omega
  · have e : wr i = 45 :: dg i.natAbs := by unfold wr; rw [if_neg hi]
    rw [e, intText_neg (sl_list _) (all_digits a3) a1 (by rw [sl_len, List.length_cons]; omega)]
    have v : digitsVal (dg i.natAbs) = i.natAbs := PySem.W.KIN.val_back i.natAbs
    rw [v]
    congr 1
    omega
theorem no_bar {i : Int} (h : i.natAbs < 10 ^ 60) : 47 ∉ wr i := by
  obtain ⟨a1, a2, a3, a4⟩ := dg_facts 59 i.natAbs h
  have k : 47 ∉ dg i.natAbs := fun z => by
    have := List.all_eq_true.mp a3 47 z
    simp at this
  unfold wr
  split
  · exact k
  · intro z
    rcases List.mem_cons.mp z with z | z
    · cases z
    · exact k z
theorem wr_len {i : Int} (h : i.natAbs < 10 ^ 60) : (wr i).length ≤ 61 := by
  obtain ⟨a1, a2, a3, a4⟩ := dg_facts 59 i.natAbs h
  unfold wr
  split
  · omega
  · rw [List.length_cons]; omega
end G

set_option maxHeartbeats 4000000
/-! Words of a text; a number's text is its own. -/
namespace G
open PySem PySem.StrLaws PySem.Builtin.Str PySem.NumText
/-! ### a text of digits is its number's text -/
theorem dv_snoc (l : List Nat) (c : Nat) : digitsVal (l ++ [c]) = digitsVal l * 10 + (c - 48) := by
  unfold digitsVal
  rw [List.foldl_append]
  rfl
theorem dg_val : ∀ (n : Nat) (l : List Nat), l.length = n → l ≠ [] → digs l = true → l.head? ≠ some 48 → dg (digitsVal l) = l ∧ 0 < digitsVal l
  | 0, l, hn, h0, _, _ => absurd (List.length_eq_zero_iff.mp hn) h0
  | n + 1, l, hn, h0, hd, hh => by
    obtain ⟨l', c, rfl⟩ : ∃ l' c, l = l' ++ [c] := ⟨l.dropLast, l.getLast h0, (List.dropLast_concat_getLast h0).symm⟩
    have hd' : digs l' = true ∧ (48 ≤ c ∧ c ≤ 57) := by
      unfold digs at hd ⊢
      rw [List.all_append, Bool.and_eq_true] at hd
      refine ⟨hd.1, ?_⟩
      have := hd.2
      simpa using this
    rw [dv_snoc]
    cases l' with
    | nil =>
      have hc : c ≠ 48 := by simpa using hh
      have e : digitsVal [] * 10 + (c - 48) = c - 48 := by show 0 * 10 + (c - 48) = _; omega
      rw [e, dg_small (by omega)]
      refine ⟨?_, by omega⟩
      show [48 + (c - 48)] = [c]
      congr 1
      omega
    | cons x xs =>
      have hh' : (x :: xs).head? ≠ some 48 := by simpa using hh
      obtain ⟨e, p⟩ := dg_val n (x :: xs) (by simpa using hn) (by simp) hd'.1 hh'
      have e1 : (digitsVal (x :: xs) * 10 + (c - 48)) / 10 = digitsVal (x :: xs) := by omega
      have e2 : (digitsVal (x :: xs) * 10 + (c - 48)) % 10 = c - 48 := by omega
      refine ⟨?_, by omega⟩
      rw [dg_step (by omega), e1, e2, e, dg_small (by omega)]
      congr 2
      omega
theorem wr_intOf {l : List Nat} {i : Int} (h : intOf l = some i) : wr i = l := by
  unfold intOf at h
  split at h
  · cases h
  · rename_i h1
    split at h
    · cases h
    · rename_i h2
      have a1 : bare l ≠ [] := fun z => h1 (.inl z)
      have a2 : (bare l).length ≤ 60 := Nat.le_of_not_lt fun z => h1 (.inr (.inl z))
      have a3 : digs (bare l) = true := by
        cases z : digs (bare l) with
        | true => rfl
        | false => exact absurd (.inr (.inr z)) h1
      by_cases hm : ∃ r, l = 45 :: r
      · obtain ⟨r, rfl⟩ := hm
        have b : bare (45 :: r) = r := rfl
        rw [b] at a1 a2 a3 h2
        rw [intText_neg (sl_list _) (all_digits a3) a1 (by rw [sl_len, List.length_cons]; omega)] at h
        cases h
        have hh : r.head? ≠ some 48 := fun z => h2 ⟨z, by simp⟩
        obtain ⟨e, p⟩ := dg_val _ r rfl a1 a3 hh
        unfold wr
        rw [if_neg (by omega), Int.natAbs_neg, Int.natAbs_natCast, e]
      · have hb : bare l = l := by
          unfold bare
          split
          · exact absurd ⟨_, rfl⟩ hm
          · rfl
        rw [hb] at a1 a2 a3 h2
        rw [intText_digits (by rw [sl_list]; exact all_digits a3) (by rw [sl_list]; exact a1) (by rw [sl_len]; omega), sl_list] at h
        cases h
        unfold wr
        rw [if_pos (Int.natCast_nonneg _), Int.natAbs_natCast]
        by_cases z : l = [48]
        · subst z
          rfl
        · exact (dg_val _ l rfl a1 a3 fun y => h2 ⟨y, z⟩).1
/-! ### joined with a text between -/
def jn (s : List Nat) : List (List Nat) → List Nat
  | [] => []
  | [a] => a
  | a :: b :: r => a ++ s ++ jn s (b :: r)
theorem jn_cons {s a : List Nat} {r : List (List Nat)} (h : r ≠ []) : jn s (a :: r) = a ++ s ++ jn s r := by
  cases r with
  | nil => exact absurd rfl h
  | cons b r => rfl
theorem join_sl (s : List Nat) : ∀ ws : List (List Nat), Txt.join (sl s) (ws.map sl) = sl (jn s ws) := fun ws => by
  rw [show Txt.join (sl s) (ws.map sl) = Str.join (sl s) (ws.map sl) from TL.join_eq _ _]
  induction ws with
  | nil => rfl
  | cons a r ih =>
    cases r with
    | nil => rfl
    | cons b r =>
      show sl a ++ sl s ++ Str.join (sl s) (sl b :: r.map sl) = _
      have ih : Str.join (sl s) (sl b :: r.map sl) = sl (jn s (b :: r)) := ih
      rw [ih, sl_app, sl_app]
      rfl
theorem cut_eq {c : Nat} : ∀ {a b x y : List Nat}, c ∉ a → c ∉ b → a ++ c :: x = b ++ c :: y → a = b ∧ x = y
  | [], [], x, y, _, _, h => ⟨rfl, by simpa using h⟩
  | [], d :: b, x, y, _, hb, h => by
    have : c = d := by simpa using (List.cons.inj h).1
    exact absurd (this ▸ List.mem_cons_self) hb
  | d :: a, [], x, y, ha, _, h => by
    have : d = c := by simpa using (List.cons.inj h).1
    exact absurd (this ▸ List.mem_cons_self) ha
  | d :: a, e :: b, x, y, ha, hb, h => by
    obtain ⟨h1, h2⟩ := List.cons.inj h
    obtain ⟨e1, e2⟩ := cut_eq (fun z => ha (List.mem_cons_of_mem _ z)) (fun z => hb (List.mem_cons_of_mem _ z)) h2
    exact ⟨by rw [h1, e1], e2⟩
theorem jn_inj {c : Nat} : ∀ {as bs : List (List Nat)}, as ≠ [] → bs ≠ [] → (∀ a ∈ as, c ∉ a) → (∀ b ∈ bs, c ∉ b) → jn [c] as = jn [c] bs → as = bs
  | [], _, h, _, _, _, _ => absurd rfl h
  | _ :: _, [], _, h, _, _, _ => absurd rfl h
  | [a], [b], _, _, _, _, h => by rw [show a = b from h]
  | [a], b :: b' :: r, _, _, ha, _, h => by
    have h : a = b ++ [c] ++ jn [c] (b' :: r) := h
    exact absurd (by rw [h]; simp) (ha a List.mem_cons_self)
  | a :: a' :: r, [b], _, _, _, hb, h => by
    have h : a ++ [c] ++ jn [c] (a' :: r) = b := h
    exact absurd (by rw [← h]; simp) (hb b List.mem_cons_self)
  | a :: a' :: r, b :: b' :: s, _, _, ha, hb, h => by
    have h : a ++ [c] ++ jn [c] (a' :: r) = b ++ [c] ++ jn [c] (b' :: s) := h
    rw [List.append_assoc, List.append_assoc] at h
    obtain ⟨e1, e2⟩ := cut_eq (ha a List.mem_cons_self) (hb b List.mem_cons_self) h
    rw [e1, jn_inj (by simp) (by simp) (fun x hx => ha x (List.mem_cons_of_mem _ hx)) (fun x hx => hb x (List.mem_cons_of_mem _ hx)) e2]
/-- a text's words -/
def wds (c : Nat) (l : List Nat) : List (List Nat) := (Txt.split (sl l) ⟨#[c]⟩).map fun s => s.cps.toList
theorem wds_sl (c : Nat) (l : List Nat) : Txt.split (sl l) ⟨#[c]⟩ = (wds c l).map sl := by
  unfold wds
  rw [List.map_map]
  have : (sl ∘ fun s : Str => s.cps.toList) = id := funext fun s => sl_of s
  rw [this, List.map_id]
theorem wds_ne (c : Nat) (l : List Nat) : wds c l ≠ [] := fun h => by
  have := PyProof.Rows.split_pos (sl l) ⟨#[c]⟩
  have e : (wds c l).length = (Txt.split (sl l) ⟨#[c]⟩).length := by unfold wds; rw [List.length_map]
  rw [h] at e
  simp at e
  omega
theorem wds_free (c : Nat) (l : List Nat) : ∀ w ∈ wds c l, c ∉ w := fun w hw => by
  unfold wds at hw
  obtain ⟨s, hs, rfl⟩ := List.mem_map.mp hw
  exact split_free (sl l) c s hs
theorem wds_jn (c : Nat) (l : List Nat) : jn [c] (wds c l) = l := by
  have h := join_sl [c] (wds c l)
  rw [← wds_sl] at h
  have e : Txt.join (sl [c]) (Txt.split (sl l) ⟨#[c]⟩) = sl l := by
    rw [show Txt.join (sl [c]) (Txt.split (sl l) ⟨#[c]⟩) = Str.join (sl [c]) (Txt.split (sl l) ⟨#[c]⟩) from TL.join_eq _ _]
    exact join_split (sl l) ⟨#[c]⟩
  rw [e] at h
  exact (sl_inj h).symm
theorem wds_of {c : Nat} {ws : List (List Nat)} (h : ws ≠ []) (hf : ∀ w ∈ ws, c ∉ w) : wds c (jn [c] ws) = ws := jn_inj (wds_ne _ _) h (wds_free _ _) hf (wds_jn _ _)
theorem wds_len (c : Nat) (l : List Nat) : ((wds c l).map (·.length)).sum + (wds c l).length ≤ l.length + 1 := by
  have h := PyProof.Rows.split_weight (sl l) ⟨#[c]⟩ (Nat.le_refl 1)
  rw [wds_sl, List.map_map, List.length_map, sl_len] at h
  have : ((fun s : Str => s.length) ∘ sl) = fun l : List Nat => l.length := funext fun l => sl_len l
  rw [this] at h
  exact h
theorem mem_sum {w : List Nat} : ∀ {ws : List (List Nat)}, w ∈ ws → w.length ≤ (ws.map (·.length)).sum
  | [], h => by cases h
  | x :: r, h => by
    rw [List.map_cons, List.sum_cons]
    rcases List.mem_cons.mp h with rfl | h
    · omega
    · have := mem_sum h
      omega
theorem wds_w {c : Nat} {l w : List Nat} (h : w ∈ wds c l) : w.length ≤ l.length := by
  have h1 := wds_len c l
  have h2 := mem_sum h
  have h3 : 0 < (wds c l).length := List.length_pos_iff.mpr (wds_ne c l)
  omega
theorem wds_n (c : Nat) (l : List Nat) : (wds c l).length ≤ l.length + 1 := by
  have := wds_len c l
  omega
theorem jn_len (s : List Nat) : ∀ ws : List (List Nat), (jn s ws).length ≤ (ws.map (·.length)).sum + ws.length * s.length
  | [] => Nat.zero_le _
  | [a] => by
    show a.length ≤ _
    simp
  | a :: b :: r => by
    have := jn_len s (b :: r)
    show (a ++ s ++ jn s (b :: r)).length ≤ _
    rw [List.length_append, List.length_append, List.map_cons, List.sum_cons, List.length_cons, Nat.succ_mul]
    omega
theorem wds_one {c : Nat} {l : List Nat} (h : c ∉ l) : wds c l = [l] := by
  have := wds_of (c := c) (ws := [l]) (by simp) (by intro w hw; rw [List.mem_singleton.mp hw]; exact h)
  exact this
/-- rows, a bar between -/
theorem jn_flat (c : Nat) : ∀ (gs : List (List (List Nat))) (g : List (List Nat)), g ≠ [] → (∀ x ∈ gs, x ≠ []) → jn [c] (g ++ gs.flatMap fun x => [47] :: x) = jn [c, 47, c] ((g :: gs).map (jn [c])) := by
  have app : ∀ (a b : List (List Nat)), a ≠ [] → b ≠ [] → jn [c] (a ++ b) = jn [c] a ++ [c] ++ jn [c] b := fun a => by
    induction a with
    | nil => exact fun b h => absurd rfl h
    | cons x r ih =>
      intro b _ hb
      cases r with
      | nil => exact jn_cons hb
      | cons y r =>
        show jn [c] (x :: ((y :: r) ++ b)) = _
        rw [jn_cons (by simp), ih b (by simp) hb, jn_cons (a := x) (r := y :: r) (by simp)]
        simp
  intro gs
  induction gs with
  | nil => intro g hg _; simp [jn]
  | cons x gs ih =>
    intro g hg hx
    have hx0 := hx x List.mem_cons_self
    rw [List.flatMap_cons, app g _ hg (by simp)]
    show jn [c] g ++ [c] ++ jn [c] ([47] :: (x ++ gs.flatMap fun x => [47] :: x)) = _
    rw [jn_cons (by simp [hx0]), ih x hx0 (fun y hy => hx y (List.mem_cons_of_mem _ hy))]
    show _ = jn [c, 47, c] (jn [c] g :: (x :: gs).map (jn [c]))
    rw [jn_cons (s := [c, 47, c]) (a := jn [c] g) (r := (x :: gs).map (jn [c])) (by simp)]
    simp
end G

set_option maxHeartbeats 0
namespace K06
open G
def b_is_integer : List G.St := [
  .ret (.and (.isi (.var 0) [.int]) (.not (.isi (.var 0) [.bool])))]
def b_is_within : List G.St := [
  .ifs (.not (.call 0 [(.var 0)] [] [])) [.ret (.bl false)] [],
  .ret (.and (.or (.cmp .is (.var 1) .non) (.cmp .le (.var 1) (.var 0))) (.or (.cmp .is (.var 2) .non) (.cmp .le (.var 0) (.var 2))))]
def b_is_list : List G.St := [
  .ret (.isi (.var 0) [.list, .tuple])]
def b_common : List G.St := [
  .par 0 1 (.blt .abs [(.var 0)]) (.blt .abs [(.var 1)]),
  .while_ (.cmp .gt (.var 1) (.int 0)) [.par 0 1 (.var 1) (.bin .mod (.var 0) (.var 1))],
  .ret (.var 0)]
def b_is_number : List G.St := [
  .ifs (.call 0 [(.var 0)] [] []) [.ret (.bl true)] [],
  .ifs (.or (.not (.call 2 [(.var 0)] [] [])) (.or (.cmp .ne (.blt .len [(.var 0)]) (.int 2)) (.not (.call 0 [(.idx (.var 0) (.int 0))] [] [])))) [.ret (.bl false)] [],
  .ret (.and (.call 1 [(.idx (.var 0) (.int 1)), (.int 2), .non] [] []) (.cmp .eq (.call 3 [(.idx (.var 0) (.int 0)), (.idx (.var 0) (.int 1))] [] []) (.int 1)))]
def b_is_row : List G.St := [
  .ret (.and (.call 2 [(.var 0)] [] []) (.and (.cmp .eq (.blt .len [(.var 0)]) (.var 1)) (.blt .all [(.comp (.call 4 [(.var 2)] [] []) [2] (.nm 2) (.it (.var 0)) [])])))]
def b_kept : List G.St := [
  .ret (.ite (.isi (.var 0) [.list, .tuple]) (.blt .tuple [(.var 0)]) (.var 0))]
def b_kept_row : List G.St := [
  .ret (.blt .tuple [(.comp (.call 6 [(.var 1)] [] []) [1] (.nm 1) (.it (.var 0)) [])])]
def b_integer_in : List G.St := [
  .asg 1 (.ite (.cmp .eq (.slc (.var 0) [] [(.int 1)]) (.str "-")) (.slc (.var 0) [(.int 1)] []) (.var 0)),
  .ifs (.or (.cmp .eq (.var 1) (.str "")) (.or (.cmp .gt (.blt .len [(.var 1)]) (.glob 1)) (.not (.blt .all [(.comp (.cmp .inn (.var 2) (.glob 0)) [2] (.nm 2) (.it (.var 1)) [])])))) [.ret .non] [],
  .ifs (.and (.cmp .eq (.idx (.var 1) (.int 0)) (.str "0")) (.cmp .ne (.var 0) (.str "0"))) [.ret .non] [],
  .ret (.blt .int [(.var 0)])]
def b_number_in : List G.St := [
  .asgT (.tp [.nm 2, .nm 3, .nm 4]) (.mth .partition (.var 0) (.glob 2)),
  .ifs (.cmp .eq (.var 3) (.str "")) [.ret (.call 8 [(.var 0)] [] [])] [],
  .asg 1 (.tup [(.call 8 [(.var 2)] [] []), (.call 8 [(.var 4)] [] [])]),
  .ret (.ite (.and (.cmp .isn (.idx (.var 1) (.int 0)) .non) (.and (.cmp .isn (.idx (.var 1) (.int 1)) .non) (.call 4 [(.var 1)] [] []))) (.var 1) .non)]
def b_halves : List G.St := [
  .ret (.ite (.isi (.var 0) [.int]) (.tup [(.var 0), (.int 1)]) (.tup [(.idx (.var 0) (.int 0)), (.idx (.var 0) (.int 1))]))]
def b_text_in : List G.St := [
  .asgT (.tp [.nm 1, .nm 2]) (.call 10 [(.var 0)] [] []),
  .ret (.ite (.cmp .eq (.var 2) (.int 1)) (.blt .str [(.var 1)]) (.fstr [(.fmt (.var 1)), (.str "/"), (.fmt (.var 2))]))]
def b_is_condition : List G.St := [
  .ifs (.or (.not (.call 2 [(.var 0)] [] [])) (.or (.cmp .ne (.blt .len [(.var 0)]) (.int 3)) (.not (.isi (.idx (.var 0) (.int 1)) [.str])))) [.ret (.bl false)] [],
  .ret (.and (.call 5 [(.idx (.var 0) (.int 0)), (.var 1)] [] []) (.and (.cmp .inn (.idx (.var 0) (.int 1)) (.tup [(.glob 3), (.glob 4)])) (.call 4 [(.idx (.var 0) (.int 2))] [] [])))]
def b_costs_in : List G.St := [
  .asg 1 (.lstL [(.mc 4 31 (.var 0) [])]),
  .while_ (.and (.cmp .isn (.mc 4 26 (.var 0) []) .non) (.cmp .ne (.mc 4 26 (.var 0) []) (.glob 2))) [.ifs (.cmp .eq (.blt .len [(.var 1)]) (.glob 5)) [.expr (.mc 4 27 (.var 0) [])] [], .app (.var 1) (.mc 4 31 (.var 0) [])],
  .ret (.fz (.var 1))]
def b_l_quill : List G.St := [
  .ret (.lstL [(.comp (.blt .int [(.var 1)]) [1] (.nm 1) (.it (.slc (.var 0) [] [(.int 58)])) []), (.int 0), (.int 0)])]
def b_l_dip : List G.St := [
  .ifs (.cmp .gt (.idx (.var 0) (.int 2)) (.int 0)) [.asg 5 (.blt .int [(.idx (.var 0) (.int 2))]), .setIdx (.var 0) (.int 2) (.bin .fdiv (.var 5) (.var 1)), .ret (.bin .mod (.blt .int [(.var 5)]) (.var 1))] [],
  .asg 2 (.idx (.var 0) (.int 1)),
  .setIdx (.var 0) (.int 1) (.bin .add (.var 2) (.int 1)),
  .asg 3 (.bin .add (.bin .mul (.int 151744) (.var 2)) (.int 8220)),
  .ifs (.cmp .ne (.idx (.var 0) (.int 0)) (.lst [])) [.asg 3 (.idx (.idx (.var 0) (.int 0)) (.bin .mod (.blt .int [(.var 2)]) (.blt .len [(.idx (.var 0) (.int 0))])))] [],
  .ifs (.and (.cmp .lt (.var 2) (.blt .len [(.idx (.var 0) (.int 0))])) (.cmp .ge (.blt .abs [(.var 3)]) (.bin .pow (.int 10) (.int 18)))) [.asg 5 (.bin .add (.bin .mul (.int 2) (.bin .sub (.blt .abs [(.var 3)]) (.bin .pow (.int 10) (.int 18)))) (.blt .int [(.cmp .lt (.var 3) (.int 0))])), .setIdx (.var 0) (.int 2) (.bin .fdiv (.blt .int [(.var 5)]) (.var 1)), .ret (.bin .mod (.blt .int [(.var 5)]) (.var 1))] [],
  .asg 4 (.bin .mod (.blt .int [(.bin .pow (.bin .add (.bin .add (.bin .mod (.blt .int [(.var 3)]) (.int 2147483629)) (.bin .mul (.int 110422) (.var 2))) (.int 8220)) (.int 5))]) (.int 2147483543)),
  .asg 4 (.bin .mod (.blt .int [(.bin .pow (.bin .add (.bin .add (.bin .mul (.var 4) (.bin .add (.bin .mul (.int 2) (.var 2)) (.int 9570))) (.bin .mul (.bin .mul (.int 151744) (.var 2)) (.var 2))) (.int 110422)) (.int 3))]) (.int 2147483423)),
  .ret (.bin .mod (.blt .int [(.bin .fdiv (.var 4) (.int 64))]) (.var 1))]
def b_l_pluck : List G.St := [
  .ret (.idx (.var 1) (.call 15 [(.var 0), (.blt .len [(.var 1)])] [] []))]
def b_l_figures : List G.St := [
  .asg 1 (.ite (.cmp .eq (.slc (.var 0) [] [(.int 1)]) (.str "-")) (.slc (.var 0) [(.int 1)] []) (.var 0)),
  .ifs (.or (.cmp .eq (.var 1) (.str "")) (.or (.cmp .gt (.blt .len [(.var 1)]) (.int 60)) (.cmp .ne (.comp (.var 2) [2] (.nm 2) (.it (.var 1)) [(.cmp .nin (.var 2) (.str "0123456789"))]) (.lst [])))) [.ret .non] [],
  .ret (.ite (.or (.cmp .ne (.idx (.var 1) (.int 0)) (.str "0")) (.cmp .eq (.var 0) (.str "0"))) (.blt .int [(.var 0)]) .non)]
def b_l_is_number : List G.St := [
  .asg 1 (.mth .split (.var 0) (.str "/")),
  .asg 2 (.comp (.call 17 [(.var 3)] [] []) [3] (.nm 3) (.it (.var 1)) []),
  .ifs (.or (.cmp .inn .non (.var 2)) (.cmp .gt (.blt .len [(.var 1)]) (.int 2))) [.ret (.bl false)] [],
  .ifs (.cmp .eq (.blt .len [(.var 1)]) (.int 2)) [.par 4 5 (.blt .abs [(.idx (.var 2) (.int 0))]) (.idx (.var 2) (.int 1)), .while_ (.cmp .gt (.var 5) (.int 0)) [.par 4 5 (.var 5) (.bin .mod (.blt .int [(.var 4)]) (.var 5))], .ret (.and (.cmp .gt (.idx (.var 2) (.int 1)) (.int 1)) (.cmp .eq (.var 4) (.int 1)))] [],
  .ret (.bl true)]
def b_l_stop : List G.St := [
  .ifs (.not (.isi (.var 0) [.str])) [.ret (.int 0)] [],
  .par 2 3 (.mth .split (.var 0) (.str " ")) (.int 0),
  .while_ (.and (.cmp .lt (.var 3) (.blt .len [(.var 2)])) (.and (.cmp .lt (.var 3) (.int 60)) (.or (.cmp .eq (.var 3) (.int 0)) (.cmp .ne (.idx (.var 2) (.var 3)) (.str "/"))))) [.ifs (.not (.call 18 [(.idx (.var 2) (.var 3))] [] [])) [.ret (.var 3)] [], .asg 3 (.bin .add (.var 3) (.int 1))],
  .for_ (.nm 1) (.rng2 (.var 3) (.blt .len [(.var 2)])) [.asg 4 (.bin .mod (.blt .int [(.bin .sub (.var 1) (.var 3))]) (.bin .add (.var 3) (.int 3))), .ifs (.and (.cmp .eq (.var 4) (.int 0)) (.or (.cmp .ne (.idx (.var 2) (.var 1)) (.str "/")) (.cmp .ge (.bin .fdiv (.bin .sub (.var 1) (.var 3)) (.bin .add (.var 3) (.int 3))) (.int 60)))) [.ret (.var 1)] [], .ifs (.and (.cmp .eq (.var 4) (.bin .add (.var 3) (.int 1))) (.cmp .nin (.idx (.var 2) (.var 1)) (.tup [(.str "least"), (.str "just")]))) [.ret (.var 1)] [], .ifs (.and (.cmp .nin (.var 4) (.tup [(.int 0), (.bin .add (.var 3) (.int 1))])) (.not (.call 18 [(.idx (.var 2) (.var 1))] [] []))) [.ret (.var 1)] []],
  .ret (.ite (.cmp .eq (.bin .mod (.blt .int [(.bin .sub (.blt .len [(.var 2)]) (.var 3))]) (.bin .add (.var 3) (.int 3))) (.int 0)) .non (.blt .len [(.var 2)]))]
def b_l_number : List G.St := [
  .ret (.call 16 [(.var 0), (.lst [(.tup [(.int 0), (.str "0")]), (.tup [(.neg (.int 3)), (.str "-3")]), (.tup [(.int 7), (.str "7")]), (.tup [(.tup [(.int 1), (.int 2)]), (.str "1/2")]), (.tup [(.tup [(.neg (.int 22)), (.int 7)]), (.str "-22/7")]), (.tup [(.bin .pow (.int 10) (.int 59)), (.bin .add (.str "1") (.bin .mul (.str "0") (.int 59)))]), (.tup [(.tup [(.bin .pow (.int 10) (.int 59)), (.int 3)]), (.bin .add (.bin .add (.str "1") (.bin .mul (.str "0") (.int 59))) (.str "/3"))]), (.tup [(.int 1), (.str "1")])])] [] [])]
def b_l_program : List G.St := [
  .asgT (.tp [.nm 4, .nm 5]) (.ite (.cmp .gt (.call 15 [(.var 0), (.int 20)] [] []) (.int 0)) (.call 16 [(.var 0), (.lst [(.tup [(.int 1), (.int 4)]), (.tup [(.int 2), (.int 5)]), (.tup [(.int 3), (.int 3)]), (.tup [(.int 1), (.int 0)])])] [] []) (.call 16 [(.var 0), (.lst [(.tup [(.int 60), (.int 2)]), (.tup [(.int 2), (.int 60)])])] [] [])),
  .par 6 7 (.comp (.call 20 [(.var 0)] [] []) [11] (.nm 11) (.rng1 (.var 4)) []) (.lstL []),
  .for_ (.nm 1) (.rng1 (.ite (.cmp .lt (.var 5) (.int 60)) (.call 15 [(.var 0), (.bin .add (.var 5) (.int 1))] [] []) (.int 60))) [.app (.var 7) (.tup [(.comp (.call 20 [(.var 0)] [] []) [11] (.nm 11) (.rng1 (.var 4)) []), (.call 16 [(.var 0), (.lst [(.str "least"), (.str "just")])] [] []), (.call 20 [(.var 0)] [] [])])],
  .asg 2 (.mth .join (.str " ") (.comp (.var 13) [12, 13] (.tp [.nm 12, .nm 13]) (.it (.var 6)) [])),
  .for_ (.tp [.nm 8, .nm 9, .nm 10]) (.it (.fz (.var 7))) [.asg 2 (.bin .add (.bin .add (.bin .add (.bin .add (.bin .add (.bin .add (.var 2) (.str " / ")) (.mth .join (.str " ") (.comp (.var 13) [12, 13] (.tp [.nm 12, .nm 13]) (.it (.var 8)) []))) (.str " ")) (.var 9)) (.str " ")) (.idx (.var 10) (.int 1)))],
  .asg 3 (.comp (.tup [(.comp (.var 12) [12, 13] (.tp [.nm 12, .nm 13]) (.it (.var 8)) []), (.var 9), (.idx (.var 10) (.int 0))]) [8, 9, 10] (.tp [.nm 8, .nm 9, .nm 10]) (.it (.fz (.var 7))) []),
  .ret (.tup [(.fz (.new 5 32 [(.comp (.var 12) [12, 13] (.tp [.nm 12, .nm 13]) (.it (.var 6)) []), (.var 3)] [] [])), (.var 2)])]
def b_l_bent : List G.St := [
  .par 4 5 (.splL (.var 1) (.str " ")) (.call 15 [(.var 0), (.int 7)] [] []),
  .par 6 7 (.call 15 [(.var 0), (.blt .len [(.var 4)])] [] []) (.call 15 [(.var 0), (.blt .len [(.var 4)])] [] []),
  .asg 2 (.lst [(.str "1_0"), (.str "3/1_0"), (.str ""), (.str "/"), (.str "least"), (.str "just"), (.str "0"), (.str "-0"), (.str "1/2"), (.str "2/4"), (.str "3/1"), (.str "01"), (.str "+1"), (.str "x"), (.str "1/2/3"), (.str "/2"), (.str "1/"), (.str "Least"), (.bin .mul (.str "9") (.int 60)), (.bin .mul (.str "9") (.int 61)), (.str "1/-2"), (.str "-"), (.str "	"), (.str "0/5"), (.str "-5/3")]),
  .asg 3 (.call 16 [(.var 0), (.var 2)] [] []),
  .ifs (.cmp .eq (.var 5) (.int 0)) [.asg 4 (.bin .add (.bin .add (.slc (.var 4) [] [(.var 6)]) (.lst [(.var 3)])) (.slc (.var 4) [(.bin .add (.var 6) (.int 1))] []))] [.ifs (.cmp .eq (.var 5) (.int 1)) [.asg 4 (.bin .add (.slc (.var 4) [] [(.var 6)]) (.slc (.var 4) [(.bin .add (.var 6) (.int 1))] []))] [.ifs (.cmp .eq (.var 5) (.int 2)) [.asg 4 (.bin .add (.bin .add (.slc (.var 4) [] [(.var 6)]) (.lst [(.var 3)])) (.slc (.var 4) [(.var 6)] []))] [.ifs (.cmp .eq (.var 5) (.int 3)) [.swp (.var 4) (.var 6) (.var 7)] [.ifs (.cmp .eq (.var 5) (.int 4)) [.asg 4 (.slc (.var 4) [] [(.var 6)])] [.ifs (.cmp .eq (.var 5) (.int 5)) [.asg 4 (.bin .add (.var 4) (.call 16 [(.var 0), (.lst [(.lst [(.var 3)]), (.lst [(.str "/")]), (.lst [(.str "/"), (.str "1")]), (.lst [(.str "/"), (.str "1"), (.str "least"), (.str "0")])])] [] []))] [.asg 8 (.call 15 [(.var 0), (.bin .add (.blt .len [(.var 1)]) (.int 1))] [] []), .ret (.bin .add (.bin .add (.slc (.var 1) [] [(.var 8)]) (.call 16 [(.var 0), (.lst [(.str " "), (.str "/"), (.str "1"), (.str "-"), (.str "_"), (.str "")])] [] [])) (.slc (.var 1) [(.bin .add (.var 8) (.int 1))] []))]]]]]],
  .ret (.mth .join (.str " ") (.fz (.var 4)))]
def b_l_read : List G.St := [
  .try_ [.ret (.scl 5 35 [(.var 0)])] [(3, some 1), (0, none)] [[.ret (.tup [(.att (.var 1) 3), (.att (.var 1) 4)])], [.ret (.tup [(.str "refused"), .non])]]]
def b_law : List G.St := [
  .asg 1 (.call 14 [(.var 0)] [] []),
  .for_ (.nm 2) (.rng1 (.int 3)) [.asgT (.tp [.nm 7, .nm 8]) (.call 21 [(.var 1)] [] []), .ifs (.or (.cmp .ne (.strO 5 34 (.var 7)) (.var 8)) (.or (.eqO true (.call 23 [(.var 8)] [] []) (.var 7)) (.cmp .isn (.call 19 [(.var 8)] [] []) .non))) [.ret (.bl false)] [], .asg 5 (.var 8), .for_ (.nm 6) (.rng1 (.int 4)) [.asg 5 (.call 22 [(.var 1), (.ite (.cmp .lt (.var 6) (.int 3)) (.var 8) (.var 5))] [] []), .par 9 10 (.call 19 [(.var 5)] [] []) (.call 23 [(.var 5)] [] []), .ifs (.and (.cmp .isn (.var 9) .non) (.cmp .ne (.var 10) (.tup [(.int 0), (.var 9)]))) [.ret (.bl false)] [], .ifs (.and (.cmp .is (.var 9) .non) (.or (.not (.isi (.var 10) [(.own 5)])) (.cmp .ne (.strO 5 34 (.var 10)) (.var 5)))) [.ret (.bl false)] []]],
  .asg 3 (.call 16 [(.var 1), (.lst [(.bin .add (.str "1") (.bin .mul (.str " 1") (.int 60))), (.bin .add (.str "1") (.bin .mul (.str " / 1 least 0") (.int 61))), (.bin .add (.bin .add (.bin .add (.bin .add (.str "0") (.bin .mul (.str " 0") (.int 59))) (.str " / ")) (.bin .mul (.str "1 ") (.int 61))) (.str "least 3"))])] [] []),
  .asg 4 (.call 16 [(.var 1), (.lst [.non, (.int 5), (.bl true), (.lst [(.str "1")]), (.tup [(.str "1")]), (.dct [] []), (.fz (.new 5 32 [(.lst [(.int 1)]), (.lst [])] [] []))])] [] []),
  .ret (.and (.cmp .eq (.call 23 [(.var 3)] [] []) (.tup [(.int 0), (.call 19 [(.var 3)] [] [])])) (.cmp .eq (.call 23 [(.var 4)] [] []) (.tup [(.int 0), (.int 0)])))]
def b_m_Scan_init : List G.St := [
  .ifs (.not (.isi (.var 1) [.str])) [.raise 3 [(.int 0), (.int 0)] [] []] [],
  .setA (.var 0) 5 (.mth .split (.var 1) (.str " ")),
  .setA (.var 0) 6 (.int 0)]
def b_m_Scan_ahead : List G.St := [
  .ret (.ite (.cmp .lt (.att (.var 0) 6) (.blt .len [(.att (.var 0) 5)])) (.idx (.att (.var 0) 5) (.att (.var 0) 6)) .non)]
def b_m_Scan_refuse : List G.St := [
  .raise 3 [(.int 0), (.att (.var 0) 6)] [] []]
def b_m_Scan_take : List G.St := [
  .asg 1 (.mc 4 26 (.var 0) []),
  .ifs (.cmp .is (.var 1) .non) [.expr (.mc 4 27 (.var 0) [])] [],
  .setA (.var 0) 6 (.bin .add (.att (.var 0) 6) (.int 1)),
  .ret (.var 1)]
def b_m_Scan_take_just : List G.St := [
  .ifs (.cmp .ne (.mc 4 26 (.var 0) []) (.var 1)) [.expr (.mc 4 27 (.var 0) [])] [],
  .ret (.mc 4 28 (.var 0) [])]
def b_m_Scan_take_word : List G.St := [
  .ifs (.cmp .nin (.mc 4 26 (.var 0) []) (.var 1)) [.expr (.mc 4 27 (.var 0) [])] [],
  .ret (.mc 4 28 (.var 0) [])]
def b_m_Scan_take_number : List G.St := [
  .asg 1 (.mc 4 26 (.var 0) []),
  .asg 2 (.ite (.cmp .is (.var 1) .non) .non (.call 9 [(.var 1)] [] [])),
  .ifs (.cmp .is (.var 2) .non) [.expr (.mc 4 27 (.var 0) [])] [],
  .setA (.var 0) 6 (.bin .add (.att (.var 0) 6) (.int 1)),
  .ret (.var 2)]
def b_m_Program_init : List G.St := [
  .ifs (.or (.not (.call 2 [(.var 1)] [] [])) (.or (.cmp .eq (.blt .len [(.var 1)]) (.int 0)) (.not (.call 5 [(.var 1), (.blt .len [(.var 1)])] [] [])))) [.raise 1 [(.str "costs")] [] []] [],
  .ifs (.or (.not (.call 2 [(.var 2)] [] [])) (.not (.blt .all [(.comp (.call 12 [(.var 6), (.blt .len [(.var 1)])] [] []) [6] (.nm 6) (.it (.var 2)) [])]))) [.raise 1 [(.str "conditions")] [] []] [],
  .ifs (.cmp .gt (.blt .len [(.var 1)]) (.glob 5)) [.raise 2 [(.str "costs"), (.glob 5)] [] []] [],
  .ifs (.cmp .gt (.blt .len [(.var 2)]) (.glob 6)) [.raise 2 [(.str "conditions"), (.glob 6)] [] []] [],
  .setA (.var 0) 7 (.call 7 [(.var 1)] [] []),
  .setA (.var 0) 8 (.blt .tuple [(.comp (.tup [(.call 7 [(.var 3)] [] []), (.var 4), (.call 6 [(.var 5)] [] [])]) [3, 4, 5] (.tp [.nm 3, .nm 4, .nm 5]) (.it (.var 2)) [])])]
def b_m_Program_eq : List G.St := [
  .ret (.and (.isi (.var 1) [(.own 5)]) (.and (.cmp .eq (.att (.var 0) 7) (.att (.var 1) 7)) (.cmp .eq (.att (.var 0) 8) (.att (.var 1) 8))))]
def b_m_Program_str : List G.St := [
  .asg 1 (.lstL [(.mth .join (.str " ") (.comp (.call 11 [(.var 5)] [] []) [5] (.nm 5) (.it (.att (.var 0) 7)) []))]),
  .for_ (.tp [.nm 2, .nm 3, .nm 4]) (.it (.att (.var 0) 8)) [.app (.var 1) (.mth .join (.str " ") (.lstS [true, false, false] [(.comp (.call 11 [(.var 6)] [] []) [6] (.nm 6) (.it (.var 2)) []), (.var 3), (.call 11 [(.var 4)] [] [])]))],
  .ret (.mth .join (.str " / ") (.fz (.var 1)))]
def b_m_Program_read : List G.St := [
  .asg 1 (.new 4 25 [(.var 0)] [] []),
  .par 2 3 (.call 13 [(.var 1)] [] []) (.lstL []),
  .while_ (.cmp .isn (.mc 4 26 (.var 1) []) .non) [.ifs (.cmp .eq (.blt .len [(.var 3)]) (.glob 6)) [.expr (.mc 4 27 (.var 1) [])] [], .expr (.mc 4 29 (.var 1) [(.glob 2)]), .asg 4 (.compX (.mc 4 31 (.var 1) []) [6] (.nm 6) (.it (.var 2)) []), .asg 5 (.mc 4 30 (.var 1) [(.tup [(.glob 3), (.glob 4)])]), .app (.var 3) (.tup [(.var 4), (.var 5), (.mc 4 31 (.var 1) [])])],
  .ret (.fz (.new 5 32 [(.var 2), (.fz (.var 3))] [] []))]
def T : Tx where
  fnL := [(0, ⟨1, 1, true, b_is_integer⟩),
    (1, ⟨3, 3, true, b_is_within⟩),
    (2, ⟨1, 1, true, b_is_list⟩),
    (3, ⟨2, 2, true, b_common⟩),
    (4, ⟨1, 1, true, b_is_number⟩),
    (5, ⟨2, 3, true, b_is_row⟩),
    (6, ⟨1, 1, true, b_kept⟩),
    (7, ⟨1, 2, true, b_kept_row⟩),
    (8, ⟨1, 3, true, b_integer_in⟩),
    (9, ⟨1, 5, true, b_number_in⟩),
    (10, ⟨1, 1, true, b_halves⟩),
    (11, ⟨1, 3, true, b_text_in⟩),
    (12, ⟨2, 2, true, b_is_condition⟩),
    (13, ⟨1, 2, true, b_costs_in⟩),
    (14, ⟨1, 2, false, b_l_quill⟩),
    (15, ⟨2, 6, true, b_l_dip⟩),
    (16, ⟨2, 2, true, b_l_pluck⟩),
    (17, ⟨1, 3, true, b_l_figures⟩),
    (18, ⟨1, 6, true, b_l_is_number⟩),
    (19, ⟨1, 5, true, b_l_stop⟩),
    (20, ⟨1, 1, true, b_l_number⟩),
    (21, ⟨1, 14, true, b_l_program⟩),
    (22, ⟨2, 9, true, b_l_bent⟩),
    (23, ⟨1, 2, true, b_l_read⟩),
    (24, ⟨1, 11, true, b_law⟩),
    (25, ⟨2, 2, false, b_m_Scan_init⟩),
    (26, ⟨1, 1, true, b_m_Scan_ahead⟩),
    (27, ⟨1, 1, true, b_m_Scan_refuse⟩),
    (28, ⟨1, 2, true, b_m_Scan_take⟩),
    (29, ⟨2, 2, true, b_m_Scan_take_just⟩),
    (30, ⟨2, 2, true, b_m_Scan_take_word⟩),
    (31, ⟨1, 3, true, b_m_Scan_take_number⟩),
    (32, ⟨3, 7, false, b_m_Program_init⟩),
    (33, ⟨2, 2, true, b_m_Program_eq⟩),
    (34, ⟨1, 7, true, b_m_Program_str⟩),
    (35, ⟨1, 7, true, b_m_Program_read⟩)]
  clsL := [(0, ⟨[0], [], true⟩), (1, ⟨[1, 0], [0], true⟩), (2, ⟨[2, 0], [1, 2], true⟩), (3, ⟨[3, 0], [3, 4], true⟩), (4, ⟨[4], [5, 6], false⟩), (5, ⟨[5], [7, 8], false⟩)]
  cnm := [(PySem.Str.ofString "PlayError"), (PySem.Str.ofString "BadProgram"), (PySem.Str.ofString "TooMany"), (PySem.Str.ofString "BadText"), (PySem.Str.ofString "Scan"), (PySem.Str.ofString "Program")]
  anm := [(PySem.Str.ofString "part"), (PySem.Str.ofString "what"), (PySem.Str.ofString "most"), (PySem.Str.ofString "line"), (PySem.Str.ofString "item"), (PySem.Str.ofString "words"), (PySem.Str.ofString "at"), (PySem.Str.ofString "costs"), (PySem.Str.ofString "conditions")]
  isis := [.bool, .int, .list, .tuple, .str, .own 5]
  fuel := 100000000000000000000000000000000000000000000000000000000000000000000000000000000000000000000000000000000000000000000000000000000000000000000000000000000000000000000000000000000000000000000000000000000000000000000000000000000000000000000000000000000000000000000000000000000000000000000000000000000000000000000000000000000000000000000000000000000000000000000000000000000000000000000000000000000000000000000000000000000000000000000000000000000000000000000000000000000000000000000000000000000000000000000000000000000000000000000000000000000000000000000000000000000000000000000000000000000000000000000000000000000000000000000000000000000000000000000000000000000000000000000000000000000000000000000000000000000000000000000000000000000000000000000000000000000000000000000000000000000000000000000000000000000000000000000000000000000000000000000000000000000000000000000000000000000000000000000000000000000000000000000000000000000000000000000000000000000000000000000000000000000000000000000000000000000000000000000000000000000000000000000000000000000000000000000000000000000000000000000000000000000000000000000000000000000000000000000000000000000000000000000000000000000000000000000000000000000000000000000000000000000000000000000000000000000000000000000000000000000000000000000000000000000000000000000000000000000000000000000000000000000000000000000000000000000000000000000000000000000000000000000000000000000000000000000000000000000000000000000000000000000000000000000000000000000000000000000000000000000000000000000000000000000000000000000000000000000000000000000000000000000000000000000000000000000000000000000000000000000000000000000000000000000000000000000000000000000000000000000000000000000000000000000000000000000000000000000000000000000000000000000000000000000000000000000000000000000000000000000000000000000000000000000000000000000000000000000000000000000000000000000000000000000000000000000000000000000000000000000000000000000000000000000000000000000000000000000000000000000000000000000000000000000
  fns := [((PySem.Str.ofString "is_integer"), (0, [(PySem.Str.ofString "value")], [(PySem.Str.ofString "value")])),
    ((PySem.Str.ofString "is_within"), (1, [(PySem.Str.ofString "value"), (PySem.Str.ofString "least"), (PySem.Str.ofString "most")], [(PySem.Str.ofString "value"), (PySem.Str.ofString "least"), (PySem.Str.ofString "most")])),
    ((PySem.Str.ofString "is_list"), (2, [(PySem.Str.ofString "value")], [(PySem.Str.ofString "value")])),
    ((PySem.Str.ofString "common"), (3, [(PySem.Str.ofString "one"), (PySem.Str.ofString "other")], [(PySem.Str.ofString "one"), (PySem.Str.ofString "other")])),
    ((PySem.Str.ofString "is_number"), (4, [(PySem.Str.ofString "value")], [(PySem.Str.ofString "value")])),
    ((PySem.Str.ofString "is_row"), (5, [(PySem.Str.ofString "value"), (PySem.Str.ofString "many")], [(PySem.Str.ofString "value"), (PySem.Str.ofString "many"), (PySem.Str.ofString "each")])),
    ((PySem.Str.ofString "kept"), (6, [(PySem.Str.ofString "number")], [(PySem.Str.ofString "number")])),
    ((PySem.Str.ofString "kept_row"), (7, [(PySem.Str.ofString "row")], [(PySem.Str.ofString "row"), (PySem.Str.ofString "each")])),
    ((PySem.Str.ofString "integer_in"), (8, [(PySem.Str.ofString "item")], [(PySem.Str.ofString "item"), (PySem.Str.ofString "figures"), (PySem.Str.ofString "sign")])),
    ((PySem.Str.ofString "number_in"), (9, [(PySem.Str.ofString "item")], [(PySem.Str.ofString "item"), (PySem.Str.ofString "pair"), (PySem.Str.ofString "above"), (PySem.Str.ofString "bar"), (PySem.Str.ofString "below")])),
    ((PySem.Str.ofString "halves"), (10, [(PySem.Str.ofString "number")], [(PySem.Str.ofString "number")])),
    ((PySem.Str.ofString "text_in"), (11, [(PySem.Str.ofString "number")], [(PySem.Str.ofString "number"), (PySem.Str.ofString "above"), (PySem.Str.ofString "under")])),
    ((PySem.Str.ofString "is_condition"), (12, [(PySem.Str.ofString "value"), (PySem.Str.ofString "many")], [(PySem.Str.ofString "value"), (PySem.Str.ofString "many")])),
    ((PySem.Str.ofString "costs_in"), (13, [(PySem.Str.ofString "scan")], [(PySem.Str.ofString "scan"), (PySem.Str.ofString "found")])),
    ((PySem.Str.ofString "_law_quill"), (14, [(PySem.Str.ofString "_law_script")], [(PySem.Str.ofString "_law_script"), (PySem.Str.ofString "_law_cell")])),
    ((PySem.Str.ofString "_law_dip"), (15, [(PySem.Str.ofString "_law_quill_here"), (PySem.Str.ofString "_law_many")], [(PySem.Str.ofString "_law_quill_here"), (PySem.Str.ofString "_law_many"), (PySem.Str.ofString "_law_at"), (PySem.Str.ofString "_law_cell"), (PySem.Str.ofString "_law_mixed"), (PySem.Str.ofString "_law_rest")])),
    ((PySem.Str.ofString "_law_pluck"), (16, [(PySem.Str.ofString "_law_quill_here"), (PySem.Str.ofString "_law_some")], [(PySem.Str.ofString "_law_quill_here"), (PySem.Str.ofString "_law_some")])),
    ((PySem.Str.ofString "_law_figures"), (17, [(PySem.Str.ofString "_law_item")], [(PySem.Str.ofString "_law_item"), (PySem.Str.ofString "_law_digits"), (PySem.Str.ofString "_law_sign")])),
    ((PySem.Str.ofString "_law_is_number"), (18, [(PySem.Str.ofString "_law_item")], [(PySem.Str.ofString "_law_item"), (PySem.Str.ofString "_law_parts"), (PySem.Str.ofString "_law_some"), (PySem.Str.ofString "_law_part"), (PySem.Str.ofString "_law_one"), (PySem.Str.ofString "_law_other")])),
    ((PySem.Str.ofString "_law_stop"), (19, [(PySem.Str.ofString "_law_text")], [(PySem.Str.ofString "_law_text"), (PySem.Str.ofString "_law_at"), (PySem.Str.ofString "_law_items"), (PySem.Str.ofString "_law_many"), (PySem.Str.ofString "_law_spot")])),
    ((PySem.Str.ofString "_law_number"), (20, [(PySem.Str.ofString "_law_quill_here")], [(PySem.Str.ofString "_law_quill_here")])),
    ((PySem.Str.ofString "_law_program"), (21, [(PySem.Str.ofString "_law_quill_here")], [(PySem.Str.ofString "_law_quill_here"), (PySem.Str.ofString "_law_turn"), (PySem.Str.ofString "_law_text"), (PySem.Str.ofString "_law_conditions"), (PySem.Str.ofString "_law_many"), (PySem.Str.ofString "_law_most"), (PySem.Str.ofString "_law_costs"), (PySem.Str.ofString "_law_told"), (PySem.Str.ofString "_law_row"), (PySem.Str.ofString "_law_word"), (PySem.Str.ofString "_law_right"), (PySem.Str.ofString "_law_at"), (PySem.Str.ofString "_law_number_here"), (PySem.Str.ofString "_law_item")])),
    ((PySem.Str.ofString "_law_bent"), (22, [(PySem.Str.ofString "_law_quill_here"), (PySem.Str.ofString "_law_text")], [(PySem.Str.ofString "_law_quill_here"), (PySem.Str.ofString "_law_text"), (PySem.Str.ofString "_law_odd"), (PySem.Str.ofString "_law_item"), (PySem.Str.ofString "_law_items"), (PySem.Str.ofString "_law_way"), (PySem.Str.ofString "_law_at"), (PySem.Str.ofString "_law_to"), (PySem.Str.ofString "_law_spot")])),
    ((PySem.Str.ofString "_law_read"), (23, [(PySem.Str.ofString "_law_text")], [(PySem.Str.ofString "_law_text"), (PySem.Str.ofString "error")])),
    ((PySem.Str.ofString "law"), (24, [(PySem.Str.ofString "_law_script")], [(PySem.Str.ofString "_law_script"), (PySem.Str.ofString "_law_quill_here"), (PySem.Str.ofString "_law_turn"), (PySem.Str.ofString "_law_much"), (PySem.Str.ofString "_law_none"), (PySem.Str.ofString "_law_bent_here"), (PySem.Str.ofString "_law_lap"), (PySem.Str.ofString "_law_program_here"), (PySem.Str.ofString "_law_text"), (PySem.Str.ofString "_law_stop_here"), (PySem.Str.ofString "_law_told")]))]
  exs := [((PySem.Str.ofString "BadProgram"), (1, [(PySem.Str.ofString "part")], (PySem.Str.ofString "PlayError"))), ((PySem.Str.ofString "TooMany"), (2, [(PySem.Str.ofString "what"), (PySem.Str.ofString "most")], (PySem.Str.ofString "PlayError"))), ((PySem.Str.ofString "BadText"), (3, [(PySem.Str.ofString "line"), (PySem.Str.ofString "item")], (PySem.Str.ofString "PlayError")))]
  cl := [((PySem.Str.ofString "PlayError"), 0), ((PySem.Str.ofString "BadProgram"), 1), ((PySem.Str.ofString "TooMany"), 2), ((PySem.Str.ofString "BadText"), 3), ((PySem.Str.ofString "Scan"), 4), ((PySem.Str.ofString "Program"), 5)]
  fa := [((PySem.Str.ofString "part"), 0), ((PySem.Str.ofString "what"), 1), ((PySem.Str.ofString "most"), 2), ((PySem.Str.ofString "line"), 3), ((PySem.Str.ofString "item"), 4), ((PySem.Str.ofString "words"), 5), ((PySem.Str.ofString "at"), 6), ((PySem.Str.ofString "costs"), 7), ((PySem.Str.ofString "conditions"), 8)]
  gv := [((PySem.Str.ofString "FIGURES"), 0), ((PySem.Str.ofString "MOST_FIGURES"), 1), ((PySem.Str.ofString "BAR"), 2), ((PySem.Str.ofString "LEAST"), 3), ((PySem.Str.ofString "JUST"), 4), ((PySem.Str.ofString "MOST_COSTS"), 5), ((PySem.Str.ofString "MOST_CONDITIONS"), 6)]
  glD := [(0, .str "0123456789"), (1, .int 60), (2, .str "/"), (3, .str "least"), (4, .str "just"), (5, .int 60), (6, .int 60)]
  fps := [(0, (.top (PySem.Str.ofString "is_integer"), [(PySem.Str.ofString "value")], [(PySem.Str.ofString "value")])),
    (1, (.top (PySem.Str.ofString "is_within"), [(PySem.Str.ofString "value"), (PySem.Str.ofString "least"), (PySem.Str.ofString "most")], [(PySem.Str.ofString "value"), (PySem.Str.ofString "least"), (PySem.Str.ofString "most")])),
    (2, (.top (PySem.Str.ofString "is_list"), [(PySem.Str.ofString "value")], [(PySem.Str.ofString "value")])),
    (3, (.top (PySem.Str.ofString "common"), [(PySem.Str.ofString "one"), (PySem.Str.ofString "other")], [(PySem.Str.ofString "one"), (PySem.Str.ofString "other")])),
    (4, (.top (PySem.Str.ofString "is_number"), [(PySem.Str.ofString "value")], [(PySem.Str.ofString "value")])),
    (5, (.top (PySem.Str.ofString "is_row"), [(PySem.Str.ofString "value"), (PySem.Str.ofString "many")], [(PySem.Str.ofString "value"), (PySem.Str.ofString "many"), (PySem.Str.ofString "each")])),
    (6, (.top (PySem.Str.ofString "kept"), [(PySem.Str.ofString "number")], [(PySem.Str.ofString "number")])),
    (7, (.top (PySem.Str.ofString "kept_row"), [(PySem.Str.ofString "row")], [(PySem.Str.ofString "row"), (PySem.Str.ofString "each")])),
    (8, (.top (PySem.Str.ofString "integer_in"), [(PySem.Str.ofString "item")], [(PySem.Str.ofString "item"), (PySem.Str.ofString "figures"), (PySem.Str.ofString "sign")])),
    (9, (.top (PySem.Str.ofString "number_in"), [(PySem.Str.ofString "item")], [(PySem.Str.ofString "item"), (PySem.Str.ofString "pair"), (PySem.Str.ofString "above"), (PySem.Str.ofString "bar"), (PySem.Str.ofString "below")])),
    (10, (.top (PySem.Str.ofString "halves"), [(PySem.Str.ofString "number")], [(PySem.Str.ofString "number")])),
    (11, (.top (PySem.Str.ofString "text_in"), [(PySem.Str.ofString "number")], [(PySem.Str.ofString "number"), (PySem.Str.ofString "above"), (PySem.Str.ofString "under")])),
    (12, (.top (PySem.Str.ofString "is_condition"), [(PySem.Str.ofString "value"), (PySem.Str.ofString "many")], [(PySem.Str.ofString "value"), (PySem.Str.ofString "many")])),
    (13, (.top (PySem.Str.ofString "costs_in"), [(PySem.Str.ofString "scan")], [(PySem.Str.ofString "scan"), (PySem.Str.ofString "found")])),
    (14, (.top (PySem.Str.ofString "_law_quill"), [(PySem.Str.ofString "_law_script")], [(PySem.Str.ofString "_law_script"), (PySem.Str.ofString "_law_cell")])),
    (15, (.top (PySem.Str.ofString "_law_dip"), [(PySem.Str.ofString "_law_quill_here"), (PySem.Str.ofString "_law_many")], [(PySem.Str.ofString "_law_quill_here"), (PySem.Str.ofString "_law_many"), (PySem.Str.ofString "_law_at"), (PySem.Str.ofString "_law_cell"), (PySem.Str.ofString "_law_mixed"), (PySem.Str.ofString "_law_rest")])),
    (16, (.top (PySem.Str.ofString "_law_pluck"), [(PySem.Str.ofString "_law_quill_here"), (PySem.Str.ofString "_law_some")], [(PySem.Str.ofString "_law_quill_here"), (PySem.Str.ofString "_law_some")])),
    (17, (.top (PySem.Str.ofString "_law_figures"), [(PySem.Str.ofString "_law_item")], [(PySem.Str.ofString "_law_item"), (PySem.Str.ofString "_law_digits"), (PySem.Str.ofString "_law_sign")])),
    (18, (.top (PySem.Str.ofString "_law_is_number"), [(PySem.Str.ofString "_law_item")], [(PySem.Str.ofString "_law_item"), (PySem.Str.ofString "_law_parts"), (PySem.Str.ofString "_law_some"), (PySem.Str.ofString "_law_part"), (PySem.Str.ofString "_law_one"), (PySem.Str.ofString "_law_other")])),
    (19, (.top (PySem.Str.ofString "_law_stop"), [(PySem.Str.ofString "_law_text")], [(PySem.Str.ofString "_law_text"), (PySem.Str.ofString "_law_at"), (PySem.Str.ofString "_law_items"), (PySem.Str.ofString "_law_many"), (PySem.Str.ofString "_law_spot")])),
    (20, (.top (PySem.Str.ofString "_law_number"), [(PySem.Str.ofString "_law_quill_here")], [(PySem.Str.ofString "_law_quill_here")])),
    (21, (.top (PySem.Str.ofString "_law_program"), [(PySem.Str.ofString "_law_quill_here")], [(PySem.Str.ofString "_law_quill_here"), (PySem.Str.ofString "_law_turn"), (PySem.Str.ofString "_law_text"), (PySem.Str.ofString "_law_conditions"), (PySem.Str.ofString "_law_many"), (PySem.Str.ofString "_law_most"), (PySem.Str.ofString "_law_costs"), (PySem.Str.ofString "_law_told"), (PySem.Str.ofString "_law_row"), (PySem.Str.ofString "_law_word"), (PySem.Str.ofString "_law_right"), (PySem.Str.ofString "_law_at"), (PySem.Str.ofString "_law_number_here"), (PySem.Str.ofString "_law_item")])),
    (22, (.top (PySem.Str.ofString "_law_bent"), [(PySem.Str.ofString "_law_quill_here"), (PySem.Str.ofString "_law_text")], [(PySem.Str.ofString "_law_quill_here"), (PySem.Str.ofString "_law_text"), (PySem.Str.ofString "_law_odd"), (PySem.Str.ofString "_law_item"), (PySem.Str.ofString "_law_items"), (PySem.Str.ofString "_law_way"), (PySem.Str.ofString "_law_at"), (PySem.Str.ofString "_law_to"), (PySem.Str.ofString "_law_spot")])),
    (23, (.top (PySem.Str.ofString "_law_read"), [(PySem.Str.ofString "_law_text")], [(PySem.Str.ofString "_law_text"), (PySem.Str.ofString "error")])),
    (24, (.top (PySem.Str.ofString "law"), [(PySem.Str.ofString "_law_script")], [(PySem.Str.ofString "_law_script"), (PySem.Str.ofString "_law_quill_here"), (PySem.Str.ofString "_law_turn"), (PySem.Str.ofString "_law_much"), (PySem.Str.ofString "_law_none"), (PySem.Str.ofString "_law_bent_here"), (PySem.Str.ofString "_law_lap"), (PySem.Str.ofString "_law_program_here"), (PySem.Str.ofString "_law_text"), (PySem.Str.ofString "_law_stop_here"), (PySem.Str.ofString "_law_told")])),
    (25, (.me (PySem.Str.ofString "Scan") (PySem.Str.ofString "__init__"), [(PySem.Str.ofString "self"), (PySem.Str.ofString "text")], [(PySem.Str.ofString "self"), (PySem.Str.ofString "text")])),
    (26, (.me (PySem.Str.ofString "Scan") (PySem.Str.ofString "ahead"), [(PySem.Str.ofString "self")], [(PySem.Str.ofString "self")])),
    (27, (.me (PySem.Str.ofString "Scan") (PySem.Str.ofString "refuse"), [(PySem.Str.ofString "self")], [(PySem.Str.ofString "self")])),
    (28, (.me (PySem.Str.ofString "Scan") (PySem.Str.ofString "take"), [(PySem.Str.ofString "self")], [(PySem.Str.ofString "self"), (PySem.Str.ofString "item")])),
    (29, (.me (PySem.Str.ofString "Scan") (PySem.Str.ofString "take_just"), [(PySem.Str.ofString "self"), (PySem.Str.ofString "word")], [(PySem.Str.ofString "self"), (PySem.Str.ofString "word")])),
    (30, (.me (PySem.Str.ofString "Scan") (PySem.Str.ofString "take_word"), [(PySem.Str.ofString "self"), (PySem.Str.ofString "words")], [(PySem.Str.ofString "self"), (PySem.Str.ofString "words")])),
    (31, (.me (PySem.Str.ofString "Scan") (PySem.Str.ofString "take_number"), [(PySem.Str.ofString "self")], [(PySem.Str.ofString "self"), (PySem.Str.ofString "item"), (PySem.Str.ofString "number")])),
    (32, (.me (PySem.Str.ofString "Program") (PySem.Str.ofString "__init__"), [(PySem.Str.ofString "self"), (PySem.Str.ofString "costs"), (PySem.Str.ofString "conditions")], [(PySem.Str.ofString "self"), (PySem.Str.ofString "costs"), (PySem.Str.ofString "conditions"), (PySem.Str.ofString "row"), (PySem.Str.ofString "word"), (PySem.Str.ofString "right"), (PySem.Str.ofString "each")])),
    (33, (.me (PySem.Str.ofString "Program") (PySem.Str.ofString "__eq__"), [(PySem.Str.ofString "self"), (PySem.Str.ofString "other")], [(PySem.Str.ofString "self"), (PySem.Str.ofString "other")])),
    (34, (.me (PySem.Str.ofString "Program") (PySem.Str.ofString "__str__"), [(PySem.Str.ofString "self")], [(PySem.Str.ofString "self"), (PySem.Str.ofString "rows"), (PySem.Str.ofString "row"), (PySem.Str.ofString "word"), (PySem.Str.ofString "right"), (PySem.Str.ofString "cost"), (PySem.Str.ofString "each")])),
    (35, (.st (PySem.Str.ofString "Program") (PySem.Str.ofString "read"), [(PySem.Str.ofString "text")], [(PySem.Str.ofString "text"), (PySem.Str.ofString "scan"), (PySem.Str.ofString "costs"), (PySem.Str.ofString "conditions"), (PySem.Str.ofString "row"), (PySem.Str.ofString "word"), (PySem.Str.ofString "_")]))]
  nw := [((PySem.Str.ofString "Scan"), (4, 25, [(PySem.Str.ofString "text")])), ((PySem.Str.ofString "Program"), (5, 32, [(PySem.Str.ofString "costs"), (PySem.Str.ofString "conditions")]))]
  mt := [((4, (PySem.Str.ofString "ahead")), (26, 0)), ((4, (PySem.Str.ofString "refuse")), (27, 0)), ((4, (PySem.Str.ofString "take")), (28, 0)), ((4, (PySem.Str.ofString "take_just")), (29, 1)), ((4, (PySem.Str.ofString "take_word")), (30, 1)), ((4, (PySem.Str.ofString "take_number")), (31, 0)), ((5, (PySem.Str.ofString "__eq__")), (33, 1)), ((5, (PySem.Str.ofString "__str__")), (34, 0))]
  sm := [(((PySem.Str.ofString "Program"), (PySem.Str.ofString "read")), (5, 35, 1))]
  eqs := [(5, 33)]
-- law at 44
def lawAt : Nat := 44
def loose : List PySem.Str := [(PySem.Str.ofString "_wall"), (PySem.Str.ofString "PlayError"), (PySem.Str.ofString "BadProgram"), (PySem.Str.ofString "TooMany"), (PySem.Str.ofString "BadText"), (PySem.Str.ofString "is_integer"), (PySem.Str.ofString "is_within"), (PySem.Str.ofString "is_list"), (PySem.Str.ofString "common"), (PySem.Str.ofString "is_number"), (PySem.Str.ofString "is_row"), (PySem.Str.ofString "kept"), (PySem.Str.ofString "kept_row"), (PySem.Str.ofString "BAR"), (PySem.Str.ofString "FIGURES"), (PySem.Str.ofString "MOST_FIGURES"), (PySem.Str.ofString "integer_in"), (PySem.Str.ofString "number_in"), (PySem.Str.ofString "Scan"), (PySem.Str.ofString "halves"), (PySem.Str.ofString "text_in"), (PySem.Str.ofString "LEAST"), (PySem.Str.ofString "JUST"), (PySem.Str.ofString "MOST_COSTS"), (PySem.Str.ofString "MOST_CONDITIONS"), (PySem.Str.ofString "is_condition"), (PySem.Str.ofString "Program"), (PySem.Str.ofString "costs_in"), (PySem.Str.ofString "_law_quill"), (PySem.Str.ofString "_law_dip"), (PySem.Str.ofString "_law_pluck"), (PySem.Str.ofString "_law_figures"), (PySem.Str.ofString "_law_is_number"), (PySem.Str.ofString "_law_stop"), (PySem.Str.ofString "_law_number"), (PySem.Str.ofString "_law_program"), (PySem.Str.ofString "_law_bent"), (PySem.Str.ofString "_law_read")]

end K06

set_option maxHeartbeats 4000000
namespace K06
open G
abbrev Pr : Prog := T.P
theorem call_s {n f : Nat} {d : FnDef} {ws : List W} {M : Mem} (h : Pr.fn f = some d) (hl : ws.length = d.par) : callF Pr (n + 1) f ws M = fnR d.pop M (exs Pr (callF Pr n) d.body (ws.map some ++ List.replicate (d.slots - d.par) none) M) := by
  show (match Pr.fn f with
    | some d => if ws.length = d.par then fnR d.pop M (exs Pr (callF Pr n) d.body (ws.map some ++ List.replicate (d.slots - d.par) none) M) else .bad
    | none => .bad) = _
  rw [h]
  exact if_pos hl
def deck (cs : List Int) (t l : Int) : Cell := .lst [.p (.lst (cs.map D.int)), .p (.int t), .p (.int l)]
theorem log_ok {m : Int} (h : 0 < m ∧ m ≤ 10000000000000000000000000000000000000000000000000000000000000000000000) : m.natAbs.log2 < 9000 := by
  have h1 : m.natAbs < 2 ^ 240 := by
    have : m.natAbs ≤ 10000000000000000000000000000000000000000000000000000000000000000000000 := by omega
    exact Nat.lt_of_le_of_lt this (by decide)
  by_cases z : m.natAbs = 0
  · rw [z]; decide
  · exact Nat.lt_of_lt_of_le ((Nat.log2_lt z).mpr h1) (by decide)
theorem popR_same (M : Mem) (w : W) (M' : Mem) (h : M'.length = M.length) : popR M w M' = .ok w M' := if_pos h
theorem c3_if {α : Type} {p : Prop} [Decidable p] (a b : Unit → α) (c : α) : c3 (some (decide p)) a b c = if p then a () else b () := by
  by_cases h : p
  · simp [h]
  · simp [h]
theorem mul_l {i j : Int} (h : small64 i = true) : mulOk i j = true := by unfold mulOk; rw [h]; rfl
theorem small_of {i : Int} (h : -(2 ^ 64) < i ∧ i < 2 ^ 64) : small64 i = true := by unfold small64; rw [decide_eq_true h.1, decide_eq_true h.2]; rfl
def tail : List G.St := b_l_dip.drop 6
def mix1 (t c : Int) : Int := (c % 2147483629 + 110422 * t + 8220) ^ 5 % 2147483543
def mix2 (t m : Int) : Int := (m * (2 * t + 9570) + 151744 * t * t + 110422) ^ 3 % 2147483423
def mix (many t c : Int) : Int := mix2 t (mix1 t c) / 64 % many
theorem deal_tail {C : Calls} {t c many : Int} {x4 x5 : Option W} {M : Mem} (ht : 0 ≤ t ∧ t ≤ 2000) (hm : 0 < many ∧ many ≤ 10000000000000000000000000000000000000000000000000000000000000000000000) :
    exs Pr C tail [some (.loc 0), some (.p (.int many)), some (.p (.int t)), some (.p (.int c)), x4, x5] M = .rt (.p (.int (mix many t c))) M := by
  have m1 : mulOk 110422 t = true := mul_l (by decide)
  have m2 : mulOk 2 t = true := mul_l (by decide)
  have m3 : mulOk 151744 t = true := mul_l (by decide)
  have m4 : mulOk (151744 * t) t = true := mul_l (small_of (by omega))
  have r1 : 0 ≤ mix1 t c ∧ mix1 t c < 2147483543 := ⟨Int.emod_nonneg _ (by decide), Int.emod_lt_of_pos _ (by decide)⟩
  have m5 : mulOk (mix1 t c) (2 * t + 9570) = true := mul_l (small_of (by omega))
  have p1 : (c % 2147483629 + 110422 * t + 8220).natAbs < 18446744073709551616 := by omega
  have tt : 0 ≤ t * t ∧ t * t ≤ 4000000 := by
    constructor
    · exact Int.mul_nonneg ht.1 ht.1
    · have := Int.mul_le_mul ht.2 ht.2 ht.1 (by decide)
      omega
  have b2 : 0 ≤ mix1 t c * (2 * t + 9570) ∧ mix1 t c * (2 * t + 9570) ≤ 2147483543 * 13570 := by
    constructor
    · exact Int.mul_nonneg r1.1 (by omega)
    · have h1 : mix1 t c ≤ 2147483543 := by omega
      have h2 : 2 * t + 9570 ≤ 13570 := by omega
      have := Int.mul_le_mul h1 h2 (by omega) (by omega)
      omega
  have e3 : 151744 * t * t = 151744 * (t * t) := by rw [Int.mul_assoc]
  have p2 : (mix1 t c * (2 * t + 9570) + 151744 * t * t + 110422).natAbs < 18446744073709551616 := by rw [e3]; omega
  have l64 : Nat.log2 64 < 9000 := by decide
  have e1 : (c % 2147483629 + 110422 * t + 8220) ^ 5 % 2147483543 = mix1 t c := rfl
  have e2 : (mix1 t c * (2 * t + 9570) + 151744 * t * t + 110422) ^ 3 % 2147483423 = mix2 t (mix1 t c) := rfl
  show exs Pr C [_, _, _] _ _ = _
  simp [getV, rd, bltW, binW, binD, W.view, m1, m2, m3, m4, m5, p1, p2, e1, e2, hm.1, mix, l64]
/-- one number from the deck -/
theorem deal_run {n : Nat} {R : Mem} {cs : List Int} {t l many : Int} (ht : 0 ≤ t ∧ t ≤ 2000) (hl : 0 ≤ l) (hm : 0 < many ∧ many ≤ 10000000000000000000000000000000000000000000000000000000000000000000000) :
    ∃ r t' l', callF Pr (n + 1) 15 [.loc 0, .p (.int many)] (deck cs t l :: R) = .ok (.p (.int r)) (deck cs t' l' :: R) ∧ 0 ≤ r ∧ r < many ∧ 0 ≤ t' ∧ t' ≤ t + 1 ∧ 0 ≤ l' := by
  have hlog := log_ok hm
  rw [call_s (d := ⟨2, 6, true, b_l_dip⟩) rfl rfl]
  by_cases h : 0 < l
  · refine ⟨l % many, t, l / many, ?_, Int.emod_nonneg _ (by omega), Int.emod_lt_of_pos _ hm.1, ht.1, by omega, Int.ediv_nonneg hl (by omega)⟩
    unfold b_l_dip
    simp [getV, rd, deck, idxW, W.items, at?, ixI, cmpW, isNon, W.view, W.pures, cmpD, tru, truD, bltW, binW, binD, setCell, h, hm.1, hlog, fnR, popR]
  · have l0 : l = 0 := by omega
    subst l0
    have m3 : mulOk 151744 t = true := mul_l (by decide)
    have fin : ∀ c : Int, 0 ≤ mix many t c ∧ mix many t c < many := fun c => ⟨Int.emod_nonneg _ (by omega), Int.emod_lt_of_pos _ hm.1⟩
    have nt : ¬ t < 0 := by omega
    have endL : ∀ {c : Int} {x4 x5 : Option W}, fnR true (deck cs t 0 :: R) (exs Pr (callF Pr n) tail [some (.loc 0), some (.p (.int many)), some (.p (.int t)), some (.p (.int c)), x4, x5] (deck cs (t + 1) 0 :: R)) = .ok (.p (.int (mix many t c))) (deck cs (t + 1) 0 :: R) := fun {c x4 x5} => by
      rw [deal_tail ht hm]; exact popR_same _ _ _ rfl
    by_cases hc : cs = []
    · subst hc
      refine ⟨mix many t (151744 * t + 8220), t + 1, 0, ?_, (fin _).1, (fin _).2, by omega, by omega, Int.le_refl 0⟩
      rw [← endL (c := 151744 * t + 8220) (x4 := none) (x5 := none)]
      show fnR true _ (exs Pr (callF Pr n) (_ :: _ :: _ :: _ :: _ :: _ :: tail) _ _) = _
      simp [getV, rd, idxW, W.items, at?, ixI, cmpW, isNon, W.view, W.pures, cmpD, tru, truD, bltW, binW, binD, setCell, h, hm.1, hlog, deck, m3, mkLst, eqD, eqP, plain, plains, nrm, nrms, nt]
    · have hcl : 0 < (cs.length : Int) := by
        have := List.length_pos_iff.mpr hc
        omega
      have hcn : 0 < cs.length := List.length_pos_iff.mpr hc
      have k1 := Int.emod_nonneg t (show (cs.length : Int) ≠ 0 by omega)
      have k2 := Int.emod_lt_of_pos t hcl
      obtain ⟨c, hcc⟩ : ∃ c, cs[(t % (cs.length : Int)).toNat]? = some c := ⟨cs[(t % (cs.length : Int)).toNat]'(by omega), List.getElem?_eq_getElem (by omega)⟩
      have hat : at? (cs.map (W.p ∘ D.int)) (t % (cs.length : Int)) = some (.p (.int c)) := by
        unfold at? ixI
        rw [List.length_map, if_pos k1, if_pos k2]
        show (cs.map (W.p ∘ D.int))[(t % (cs.length : Int)).toNat]? = _
        rw [List.getElem?_map, hcc]; rfl
      have pl : ∀ ks : List Int, plains 59 (ks.map D.int) = true := fun ks => by
        induction ks with
        | nil => rfl
        | cons k ks ih => exact ih
      have ne : eqD (.lst (cs.map D.int)) (.lst []) = some false := by
        show eqP _ _ = _
        unfold eqP
        rw [show plain 60 (.lst (cs.map D.int)) = true from pl cs, show plain 60 (.lst []) = true from rfl]
        cases cs with
        | nil => exact absurd rfl hc
        | cons k ks => simp [nrm, nrms]
      have a0 : ∀ (a b c : W), at? [a, b, c] 0 = some a := fun a b c => rfl
      have a1 : ∀ (a b c : W), at? [a, b, c] 1 = some b := fun a b c => rfl
      have a2 : ∀ (a b c : W), at? [a, b, c] 2 = some c := fun a b c => rfl
      by_cases hq : t < (cs.length : Int) ∧ 1000000000000000000 ≤ (if c < 0 then -c else c)
      · obtain ⟨q1, q2⟩ := hq
        have ml : ∀ z : Int, mulOk 2 z = true := fun z => mul_l (by decide)
        refine ⟨(2 * ((if c < 0 then -c else c) - 1000000000000000000) + (if c < 0 then 1 else 0)) % many, t + 1, (2 * ((if c < 0 then -c else c) - 1000000000000000000) + (if c < 0 then 1 else 0)) / many, ?_, Int.emod_nonneg _ (by omega), Int.emod_lt_of_pos _ hm.1, by omega, by omega, Int.ediv_nonneg (by split <;> omega) (by omega)⟩
        show fnR true _ (exs Pr (callF Pr n) (_ :: _ :: _ :: _ :: _ :: _ :: tail) _ _) = _
        simp [getV, rd, idxW, W.items, a0, a1, a2, hat, ne, cmpW, isNon, W.view, W.pures, cmpD, tru, truD, bltW, binW, binD, setCell, h, hm.1, hlog, deck, m3, mkLst, hcl, hcn, q1, q2, ml, fnR, popR]
      · refine ⟨mix many t c, t + 1, 0, ?_, (fin _).1, (fin _).2, by omega, by omega, Int.le_refl 0⟩
        rw [← endL (c := c) (x4 := none) (x5 := none)]
        show fnR true _ (exs Pr (callF Pr n) (_ :: _ :: _ :: _ :: _ :: _ :: tail) _ _) = _
        by_cases q1 : t < (cs.length : Int)
        · have q2 : ¬ 1000000000000000000 ≤ (if c < 0 then -c else c) := fun z => hq ⟨q1, z⟩
          simp [getV, rd, idxW, W.items, a0, a1, a2, hat, ne, cmpW, isNon, W.view, W.pures, cmpD, tru, truD, bltW, binW, binD, setCell, h, hm.1, hlog, deck, m3, mkLst, hcl, hcn, q1, q2]
        · simp [getV, rd, idxW, W.items, a0, a1, a2, hat, ne, cmpW, isNon, W.view, W.pures, cmpD, tru, truD, bltW, binW, binD, setCell, h, hm.1, hlog, deck, m3, mkLst, hcl, hcn, q1]
theorem compL_ints {step : W → Mem → Res (Option W)} {M : Mem} (h : ∀ i : Int, step (.p (.int i)) M = .ok (some (.p (.int i))) M) : ∀ (cs : List Int) (acc : List W), compL step (cs.map fun i => W.p (.int i)) acc M = .ok (acc.reverse ++ cs.map fun i => W.p (.int i)) M
  | [], acc => by simp [compL]
  | c :: cs, acc => by
    show (step (.p (.int c)) M).bind _ = _
    rw [h c, Res.bind_ok]
    show compL step (cs.map fun i => W.p (.int i)) (.p (.int c) :: acc) M = _
    rw [compL_ints h cs]
    simp
theorem pures_ints : ∀ cs : List Int, W.pures (cs.map fun i => W.p (.int i)) = some (cs.map D.int)
  | [] => rfl
  | c :: cs => by
    show (match W.pures (cs.map fun i => W.p (.int i)) with | some ds => some (D.int c :: ds) | none => none) = _
    rw [pures_ints cs]
    rfl
theorem deck_run {n : Nat} {ns : List Int} : callF Pr (n + 1) 14 [.p (.lst (ns.map D.int))] [] = .ok (.loc 0) [deck (ns.take (min 58 ns.length)) 0 0] := by
  rw [call_s (d := ⟨1, 2, false, b_l_quill⟩) rfl rfl]
  have e1 : ev Pr (callF Pr n) (.comp (.blt .int [.var 1]) [1] (.nm 1) (.it (.slc (.var 0) [] [.int 58])) []) [some (.p (.lst (ns.map D.int))), none] [] = .ok (.p (.lst ((ns.take (min 58 ns.length)).map D.int))) [] := by
    rw [ev_comp]
    have e2 : ev Pr (callF Pr n) (.it (.slc (.var 0) [] [.int 58])) [some (.p (.lst (ns.map D.int))), none] [] = .ok (.p (.lst ((ns.take (min 58 ns.length)).map D.int))) [] := by
      simp [getV, rd, oneInt, slcW, W.view, cutL, cutPt, List.map_take]
    rw [e2, Res.bind_ok]
    have e3 : iterW (.p (.lst ((ns.take (min 58 ns.length)).map D.int))) = some ((ns.take (min 58 ns.length)).map fun i => W.p (.int i)) := by
      show some (((ns.take (min 58 ns.length)).map D.int).map W.p) = _
      rw [List.map_map]; rfl
    rw [e3]
    show ((compL _ ((ns.take (min 58 ns.length)).map fun i => W.p (.int i)) [] []).noX.bind _) = _
    rw [compL_ints (fun i => by rfl)]
    show Res.of (mkLst ([].reverse ++ (ns.take (min 58 ns.length)).map fun i => W.p (.int i))) [] = _
    have e4 : mkLst (([] : List W).reverse ++ (ns.take (min 58 ns.length)).map fun i => W.p (.int i)) = some (.p (.lst ((ns.take (min 58 ns.length)).map D.int))) := by
      unfold mkLst
      rw [List.reverse_nil, List.nil_append, pures_ints]; rfl
    rw [e4]; rfl
  show fnR false [] (exs Pr (callF Pr n) [.ret (.lstL [_, .int 0, .int 0])] [some (.p (.lst (ns.map D.int))), none] []) = _
  rw [exs_cons, ex_ret, ev_lstL, evs_cons, e1]
  rfl
theorem pick_run {n : Nat} {R : Mem} {cs : List Int} {t l : Int} {ds : List D} (ht : 0 ≤ t ∧ t ≤ 2000) (hl : 0 ≤ l) (h0 : 0 < ds.length) (h1 : ds.length ≤ 1000) :
    ∃ d t' l', callF Pr (n + 2) 16 [.loc 0, .p (.lst ds)] (deck cs t l :: R) = .ok (.p d) (deck cs t' l' :: R) ∧ d ∈ ds ∧ 0 ≤ t' ∧ t' ≤ t + 1 ∧ 0 ≤ l' := by
  obtain ⟨r, t', l', e, r1, r2, q1, q2, q3⟩ := deal_run (n := n) (cs := cs) (many := (ds.length : Int)) ht hl ⟨by omega, by omega⟩
  have hr : r.toNat < ds.length := by omega
  refine ⟨ds[r.toNat], t', l', ?_, List.getElem_mem hr, q1, q2, q3⟩
  rw [call_s (d := ⟨2, 2, true, b_l_pluck⟩) rfl rfl]
  have e1 : evs Pr (callF Pr (n + 1)) [.var 0, .blt .len [.var 1]] [some (.loc 0), some (.p (.lst ds))] (deck cs t l :: R) = .ok [.loc 0, .p (.int (ds.length : Int))] (deck cs t l :: R) := by
    simp [getV, rd, bltW, W.items, deck]
  have e2 : ev Pr (callF Pr (n + 1)) (.call 15 [.var 0, .blt .len [.var 1]] [] []) [some (.loc 0), some (.p (.lst ds))] (deck cs t l :: R) = .ok (.p (.int r)) (deck cs t' l' :: R) := by
    rw [ev_call, e1]
    exact e
  have e3 : idxW (deck cs t' l' :: R) (.p (.lst ds)) (.p (.int r)) = some (.p ds[r.toNat]) := by
    show at? (ds.map W.p) r = _
    unfold at? ixI
    rw [List.length_map, if_pos r1, if_pos (by omega)]
    show (ds.map W.p)[r.toNat]? = _
    rw [List.getElem?_map, List.getElem?_eq_getElem hr]; rfl
  show fnR true _ (exs Pr _ [.ret (.idx (.var 1) (.call 15 [.var 0, .blt .len [.var 1]] [] []))] _ _) = _
  rw [exs_cons, ex_ret, ev_idx]
  have e4 : ev Pr (callF Pr (n + 1)) (.var 1) [some (.loc 0), some (.p (.lst ds))] (deck cs t l :: R) = .ok (.p (.lst ds)) (deck cs t l :: R) := rfl
  show fnR true _ (((Res.bind (ev Pr (callF Pr (n + 1)) (.var 1) [some (.loc 0), some (.p (.lst ds))] (deck cs t l :: R)) _).st _ _).andT _) = _
  rw [e4, Res.bind_ok]
  show fnR true _ (((Res.bind (ev Pr (callF Pr (n + 1)) (.call 15 [.var 0, .blt .len [.var 1]] [] []) [some (.loc 0), some (.p (.lst ds))] (deck cs t l :: R)) _).st _ _).andT _) = _
  rw [e2, Res.bind_ok, e3]
  exact popR_same _ _ _ rfl
end K06

set_option maxHeartbeats 4000000
namespace K06
open G
def bnd : Nat := T.fuel
theorem bnd_lt : bnd < 2 ^ 8000 := by decide +kernel
theorem lt_bnd : 2 ^ 5000 ≤ bnd := by decide +kernel
theorem bnd_of {a k : Nat} (h : a < 2 ^ k) (hk : k ≤ 5000) : a < bnd := Nat.lt_of_lt_of_le h (Nat.le_trans (Nat.pow_le_pow_right (by decide) hk) lt_bnd)
theorem while_s {test : Env → Mem → Res W} {body : Env → Mem → SR} {n : Nat} {env env' : Env} {M M' : Mem} (h1 : test env M = .ok (.p (.bl true)) M) (h2 : body env M = .nx env' M') : whileL test body (n + 1) env M = whileL test body n env' M' := by
  conv => lhs; unfold whileL
  rw [h1]
  dsimp only [tru, truD, W.view]
  rw [h2]
theorem gcd_loop {test : Env → Mem → Res W} {body : Env → Mem → SR} {M : Mem} {e : Nat → Nat → Env} (ht : ∀ a b : Nat, test (e a b) M = .ok (.p (.bl (decide (0 < b)))) M)
    (hb : ∀ a b : Nat, 0 < b → b.log2 < 9000 → body (e a b) M = .nx (e b (a % b)) M) : ∀ n a b : Nat, b < n → b < bnd → whileL test body n (e a b) M = .nx (e (Nat.gcd a b) 0) M
  | 0, a, b, h1, h2 => by omega
  | n + 1, a, b, h1, h2 => by
    have t := ht a b
    by_cases h : 0 < b
    · have p2 := Nat.mod_lt a h
      have i1 := gcd_loop ht hb n b (a % b) (by omega) (by omega)
      have hg : Nat.gcd a b = Nat.gcd b (a % b) := by
        rw [Nat.gcd_comm a b, Nat.gcd_rec b a, Nat.gcd_comm]
      have hlog : b.log2 < 9000 := Nat.lt_trans (log_of (Nat.lt_trans h2 bnd_lt) (by decide)) (by decide)
      rw [decide_eq_true h] at t
      rw [while_s t (hb a b h hlog), hg]
      exact i1
    · have hb : b = 0 := by omega
      subst hb
      unfold whileL
      rw [t, Nat.gcd_zero_right]
      rfl
theorem absN (a : Int) : (if a < 0 then -a else a) = (a.natAbs : Int) := by split <;> omega
theorem common_run {n : Nat} {a b : Int} {M : Mem} (hb : b.natAbs < bnd) : callF Pr (n + 1) 3 [.p (.int a), .p (.int b)] M = .ok (.p (.int (Nat.gcd a.natAbs b.natAbs))) M := by
  rw [call_s (d := ⟨2, 2, true, b_common⟩) rfl rfl]
  show fnR true M (exs Pr (callF Pr n) [.par 0 1 (.blt .abs [(.var 0)]) (.blt .abs [(.var 1)]), .while_ (.cmp .gt (.var 1) (.int 0)) [.par 0 1 (.var 1) (.bin .mod (.var 0) (.var 1))], .ret (.var 0)] [some (.p (.int a)), some (.p (.int b))] M) = _
  have e1 : ex Pr (callF Pr n) (.par 0 1 (.blt .abs [(.var 0)]) (.blt .abs [(.var 1)])) [some (.p (.int a)), some (.p (.int b))] M = .nx [some (.p (.int a.natAbs)), some (.p (.int b.natAbs))] M := by
    simp only [ex_par, ev_blt, evs_cons, evs_nil, ev_var, getV, rd, bltW, Res.bind_ok, Res.of_some, Option.map_some, Res.st_ok, List.getElem?_cons_zero, List.getElem?_cons_succ, absN]
    rfl
  have e2 : ex Pr (callF Pr n) (.while_ (.cmp .gt (.var 1) (.int 0)) [.par 0 1 (.var 1) (.bin .mod (.var 0) (.var 1))]) [some (.p (.int a.natAbs)), some (.p (.int b.natAbs))] M = .nx [some (.p (.int (Nat.gcd a.natAbs b.natAbs))), some (.p (.int 0))] M :=
    gcd_loop (test := ev Pr (callF Pr n) (.cmp .gt (.var 1) (.int 0))) (body := exs Pr (callF Pr n) [.par 0 1 (.var 1) (.bin .mod (.var 0) (.var 1))]) (M := M) (e := fun a b => [some (.p (.int a)), some (.p (.int b))]) (fun a b => by simp [getV, rd, cmpW, isNon, W.view, cmpD]) (fun a b h hlog => by simp [getV, rd, binW, binD, W.view, h, hlog]) bnd a.natAbs b.natAbs hb hb
  rw [exs_cons, e1, SR.andT_nx, exs_cons, e2]
  show fnR true M (.rt (.p (.int (Nat.gcd a.natAbs b.natAbs))) M) = _
  exact popR_same _ _ _ rfl
/-! what the law draws -/
mutual
def okV : D → Bool
  | .obj _ _ _ => false
  | .exc _ _ _ => false
  | .int i => decide (i.natAbs < bnd)
  | .tup xs => decide (xs.length ≤ 100) && okVs xs
  | .lst xs => decide (xs.length ≤ 100) && okVs xs
  | _ => true
def okVs : List D → Bool
  | [] => true
  | x :: r => okV x && okVs r
end
theorem okVs_mem : ∀ {xs : List D}, okVs xs = true → ∀ x ∈ xs, okV x = true
  | [], _, x, h => by cases h
  | y :: r, h, x, hx => by
    have h : (okV y && okVs r) = true := h
    rw [Bool.and_eq_true] at h
    rcases List.mem_cons.mp hx with rfl | hx
    · exact h.1
    · exact okVs_mem h.2 x hx
def whole : D → Bool
  | .int _ => true
  | _ => false
def some_ : D → Bool
  | .lst _ => true
  | .tup _ => true
  | _ => false
theorem is_integer_run {n : Nat} {d : D} {M : Mem} (h : okV d = true) : callF Pr (n + 1) 0 [.p d] M = .ok (.p (.bl (whole d))) M := by
  refine Eq.trans ?_ (popR_same M (.p (.bl (whole d))) M rfl)
  cases d <;> first | rfl | cases h
theorem is_list_run {n : Nat} {d : D} {M : Mem} (h : okV d = true) : callF Pr (n + 1) 2 [.p d] M = .ok (.p (.bl (some_ d))) M := by
  refine Eq.trans ?_ (popR_same M (.p (.bl (some_ d))) M rfl)
  cases d <;> first | rfl | cases h
/-! bounds -/
def bb : D → Bool
  | .non => true
  | .int _ => true
  | _ => false
def loB (i : Int) : D → Bool
  | .int l => decide (l ≤ i)
  | _ => true
def hiB (i : Int) : D → Bool
  | .int m => decide (i ≤ m)
  | _ => true
def within (d lo hi : D) : Bool := match d with
  | .int i => (loB i lo) && (hiB i hi)
  | _ => false
theorem bounds_ev {C : Calls} {env : Env} {M : Mem} {v a b : Nat} {i : Int} {lo hi : D} (h1 : bb lo = true) (h2 : bb hi = true) (hv : getV env v = some (.p (.int i))) (ha : getV env a = some (.p lo)) (hb : getV env b = some (.p hi)) :
    ev Pr C (.and (.or (.cmp .is (.var a) .non) (.cmp .le (.var a) (.var v))) (.or (.cmp .is (.var b) .non) (.cmp .le (.var v) (.var b)))) env M = .ok (.p (.bl (within (.int i) lo hi))) M := by
  have e1 : ev Pr C (.var v) env M = .ok (.p (.int i)) M := by rw [ev_var, hv]; rfl
  have e2 : ev Pr C (.var a) env M = .ok (.p lo) M := by rw [ev_var, ha]; rfl
  have e3 : ev Pr C (.var b) env M = .ok (.p hi) M := by rw [ev_var, hb]; rfl
  have f1 : ev Pr C (.or (.cmp .is (.var a) .non) (.cmp .le (.var a) (.var v))) env M = .ok (.p (.bl (loB i lo))) M := by
    rw [ev_or, ev_cmp, e2, Res.bind_ok, ev_non, Res.bind_ok]
    cases lo <;> first | cases h1 | skip
    · rfl
    · show ev Pr C (.cmp .le (.var a) (.var v)) env M = _
      rw [ev_cmp, e2, Res.bind_ok, e1, Res.bind_ok]
      rfl
  have f2 : ev Pr C (.or (.cmp .is (.var b) .non) (.cmp .le (.var v) (.var b))) env M = .ok (.p (.bl (hiB i hi))) M := by
    rw [ev_or, ev_cmp, e3, Res.bind_ok, ev_non, Res.bind_ok]
    cases hi <;> first | cases h2 | skip
    · rfl
    · show ev Pr C (.cmp .le (.var v) (.var b)) env M = _
      rw [ev_cmp, e1, Res.bind_ok, e3, Res.bind_ok]
      rfl
  rw [ev_and, f1, Res.bind_ok, f2]
  show c3 (some (loB i lo)) _ _ _ = _
  have w : within (.int i) lo hi = ((loB i lo) && (hiB i hi)) := rfl
  rw [w]
  generalize loB i lo = p
  cases p <;> rfl
theorem within_run {n : Nat} {d lo hi : D} {M : Mem} (h : okV d = true) (h1 : bb lo = true) (h2 : bb hi = true) : callF Pr (n + 2) 1 [.p d, .p lo, .p hi] M = .ok (.p (.bl (within d lo hi))) M := by
  refine Eq.trans ?_ (popR_same M (.p (.bl (within d lo hi))) M rfl)
  rw [call_s (d := ⟨3, 3, true, b_is_within⟩) rfl rfl]
  have e1 : ev Pr (callF Pr (n + 1)) (.not (.call 0 [(.var 0)] [] [])) [some (.p d), some (.p lo), some (.p hi)] M = .ok (.p (.bl (!whole d))) M := by
    rw [ev_not]
    have e : ev Pr (callF Pr (n + 1)) (.call 0 [(.var 0)] [] []) [some (.p d), some (.p lo), some (.p hi)] M = callF Pr (n + 1) 0 [.p d] M := rfl
    rw [e, is_integer_run h]
    rfl
  show fnR true M (exs Pr (callF Pr (n + 1)) b_is_within [some (.p d), some (.p lo), some (.p hi)] M) = _
  unfold b_is_within
  rw [exs_cons, ex_ifs, e1, Res.st_ok]
  cases d <;> try (first | rfl | cases h)
  show fnR true M (exs Pr (callF Pr (n + 1)) [.ret _] _ M) = _
  rw [exs_cons, ex_ret, bounds_ev h1 h2 rfl rfl rfl]
  rfl
def pairN : List D → Bool
  | [.int a, .int b] => decide (2 ≤ b) && decide (Nat.gcd a.natAbs b.natAbs = 1)
  | _ => false
def pairP : List D → Bool
  | .int a :: _ => decide (0 ≤ a)
  | _ => false
def num : D → Bool
  | .int _ => true
  | .tup xs => pairN xs
  | .lst xs => pairN xs
  | _ => false
def wei : D → Bool
  | .int i => decide (0 ≤ i)
  | .tup xs => pairN xs && pairP xs
  | .lst xs => pairN xs && pairP xs
  | _ => false
def its : D → List D
  | .tup xs => xs
  | .lst xs => xs
  | _ => []
theorem cost_le (P : Prop) : True := trivial
section
variable {C : Calls} {M : Mem}
theorem fin_t (b : Bool) : fnR true M (.rt (.p (.bl b)) M) = .ok (.p (.bl b)) M := popR_same M _ M rfl
/-- a row of two whole numbers, or none -/
theorem two_cases (xs : List D) : (∃ a b, xs = [.int a, .int b]) ∨ (pairN xs = false ∧ (xs.length = 2 → ∃ x y, xs = [x, y] ∧ (whole x = false ∨ whole y = false))) := by
  cases xs with
  | nil => exact .inr ⟨rfl, fun h => by cases h⟩
  | cons x r =>
    cases r with
    | nil => exact .inr ⟨by cases x <;> rfl, fun h => by cases h⟩
    | cons y r =>
      cases r with
      | cons z r => exact .inr ⟨by cases x <;> cases y <;> rfl, fun h => by simp at h⟩
      | nil =>
        cases x with
        | int a =>
          cases y with
          | int b => exact .inl ⟨a, b, rfl⟩
          | _ => exact .inr ⟨rfl, fun _ => ⟨_, _, rfl, .inr rfl⟩⟩
        | _ => exact .inr ⟨by cases y <;> rfl, fun _ => ⟨_, _, rfl, .inl rfl⟩⟩
end
theorem is_number_row {C : Calls} {M : Mem} {d : D} {xs : List D} (hd : d = .tup xs ∨ d = .lst xs) (h : okV d = true) (c0 : ∀ x, okV x = true → C 0 [.p x] M = .ok (.p (.bl (whole x))) M)
    (c2 : ∀ x, okV x = true → C 2 [.p x] M = .ok (.p (.bl (some_ x))) M)
    (c1 : ∀ b : Int, b.natAbs < bnd → C 1 [.p (.int b), .p (.int 2), .p .non] M = .ok (.p (.bl (decide (2 ≤ b)))) M)
    (c1x : ∀ y, okV y = true → whole y = false → C 1 [.p y, .p (.int 2), .p .non] M = .ok (.p (.bl false)) M)
    (c3 : ∀ a b : Int, b.natAbs < bnd → C 3 [.p (.int a), .p (.int b)] M = .ok (.p (.int (Nat.gcd a.natAbs b.natAbs))) M) :
    exs Pr C b_is_number [some (.p d)] M = .rt (.p (.bl (pairN xs))) M := by
  have hx : okVs xs = true := by
    rcases hd with rfl | rfl <;> exact (Bool.and_eq_true _ _ ▸ (show (decide (xs.length ≤ 100) && okVs xs) = true from h)).2
  have hw : whole d = false := by rcases hd with rfl | rfl <;> rfl
  have i0 : W.items M (.p d) = some (xs.map W.p) := by rcases hd with rfl | rfl <;> rfl
  have e1 : ev Pr C (.call 0 [(.var 0)] [] []) [some (.p d)] M = .ok (.p (.bl false)) M := by
    rw [← hw, ← c0 d h]; rfl
  have hs : some_ d = true := by rcases hd with rfl | rfl <;> rfl
  have e2 : ev Pr C (.not (.call 2 [(.var 0)] [] [])) [some (.p d)] M = .ok (.p (.bl false)) M := by
    rw [ev_not]
    show (C 2 [.p d] M).bind _ = _
    rw [c2 d h, hs]; rfl
  have e3 : ev Pr C (.cmp .ne (.blt .len [(.var 0)]) (.int 2)) [some (.p d)] M = .ok (.p (.bl (decide (xs.length ≠ 2)))) M := by
    have q : bltW M .len [.p d] = some (.p (.int (xs.length : Int))) := by
      rcases hd with rfl | rfl <;> simp [bltW, W.items]
    have q1 : ev Pr C (.blt .len [(.var 0)]) [some (.p d)] M = .ok (.p (.int (xs.length : Int))) M := by
      rw [ev_blt]
      show Res.of (bltW M .len [.p d]) M = _
      rw [q]; rfl
    rw [ev_cmp, q1]
    simp [cmpW, W.view, cmpD, eqD, eqP, plain, nrm]
    by_cases q2 : xs.length = 2
    · simp [q2]
    · have : ¬ (xs.length : Int) = 2 := by omega
      simp [q2, this]
  unfold b_is_number
  rw [exs_cons, ex_ifs, e1, Res.st_ok]
  show exs Pr C [_, _] _ M = _
  rw [exs_cons, ex_ifs, ev_or, e2, Res.bind_ok]
  show ((Res.st _ (ev Pr C (.or (.cmp .ne (.blt .len [(.var 0)]) (.int 2)) (.not (.call 0 [(.idx (.var 0) (.int 0))] [] []))) [some (.p d)] M) _).andT _) = _
  rw [ev_or, e3, Res.bind_ok]
  have at0 : ∀ x y : D, xs = [x, y] → ev Pr C (.idx (.var 0) (.int 0)) [some (.p d)] M = .ok (.p x) M := fun x y q => by
    subst q
    rcases hd with rfl | rfl <;> rfl
  have at1 : ∀ x y : D, xs = [x, y] → ev Pr C (.idx (.var 0) (.int 1)) [some (.p d)] M = .ok (.p y) M := fun x y q => by
    subst q
    rcases hd with rfl | rfl <;> rfl
  have w0 : ∀ x y : D, xs = [x, y] → ev Pr C (.not (.call 0 [(.idx (.var 0) (.int 0))] [] [])) [some (.p d)] M = .ok (.p (.bl (!whole x))) M := fun x y q => by
    rw [ev_not, ev_call, evs_cons, at0 x y q, Res.bind_ok, evs_nil, Res.bind_ok, Res.bind_ok, evs_nil, Res.bind_ok]
    show (C 0 [.p x] M).bind _ = _
    rw [c0 x (okVs_mem hx x (by rw [q]; simp))]
    rfl
  have w1 : ∀ x y : D, xs = [x, y] → ∀ v, C 1 [.p y, .p (.int 2), .p .non] M = .ok (.p (.bl v)) M → ev Pr C (.call 1 [(.idx (.var 0) (.int 1)), (.int 2), .non] [] []) [some (.p d)] M = .ok (.p (.bl v)) M := fun x y q v hv => by
    rw [ev_call, evs_cons, at1 x y q, Res.bind_ok, ← hv]
    rfl
  rcases two_cases xs with ⟨a, b, q⟩ | ⟨q, r⟩
  · have hl : decide (xs.length ≠ 2) = false := by rw [q]; rfl
    have hb : b.natAbs < bnd := of_decide_eq_true (show okV (.int b) = true from okVs_mem hx _ (by rw [q]; simp))
    rw [hl]
    show ((Res.st _ (ev Pr C (.not (.call 0 [(.idx (.var 0) (.int 0))] [] [])) [some (.p d)] M) _).andT _) = _
    rw [w0 _ _ q]
    show exs Pr C [.ret _] _ M = _
    rw [exs_cons, ex_ret, ev_and, w1 _ _ q _ (c1 b hb), Res.bind_ok]
    have e9 : ev Pr C (.cmp .eq (.call 3 [(.idx (.var 0) (.int 0)), (.idx (.var 0) (.int 1))] [] []) (.int 1)) [some (.p d)] M = .ok (.p (.bl (decide (Nat.gcd a.natAbs b.natAbs = 1)))) M := by
      have e8 : ev Pr C (.call 3 [(.idx (.var 0) (.int 0)), (.idx (.var 0) (.int 1))] [] []) [some (.p d)] M = .ok (.p (.int (Nat.gcd a.natAbs b.natAbs))) M := by
        rw [ev_call, evs_cons, at0 _ _ q, Res.bind_ok, evs_cons, at1 _ _ q, Res.bind_ok, ← c3 a b hb]
        rfl
      rw [ev_cmp, e8]
      simp [cmpW, isNon, W.view, cmpD, eqD, eqP, plain, nrm]
      omega
    have q9 : pairN xs = (decide (2 ≤ b) && decide (Nat.gcd a.natAbs b.natAbs = 1)) := by rw [q]; rfl
    rw [q9]
    by_cases z : 2 ≤ b
    · rw [decide_eq_true z]
      show ((Res.st _ (ev Pr C (.cmp .eq (.call 3 [(.idx (.var 0) (.int 0)), (.idx (.var 0) (.int 1))] [] []) (.int 1)) [some (.p d)] M) _).andT _) = _
      rw [e9]
      rfl
    · rw [decide_eq_false z]
      rfl
  · rw [q]
    by_cases hl : xs.length = 2
    · obtain ⟨x, y, q, z⟩ := r hl
      have hl : decide (xs.length ≠ 2) = false := by rw [q]; rfl
      rw [hl]
      show ((Res.st _ (ev Pr C (.not (.call 0 [(.idx (.var 0) (.int 0))] [] [])) [some (.p d)] M) _).andT _) = _
      rw [w0 _ _ q]
      cases hx0 : whole x
      · rfl
      · rw [hx0] at z
        have z : whole y = false := by simpa using z
        show exs Pr C [.ret _] _ M = _
        rw [exs_cons, ex_ret, ev_and, w1 _ _ q _ (c1x y (okVs_mem hx y (by rw [q]; simp)) z), Res.bind_ok]
        rfl
    · rw [decide_eq_true hl]
      rfl
theorem is_number_run {n : Nat} {d : D} {M : Mem} (h : okV d = true) : callF Pr (n + 3) 4 [.p d] M = .ok (.p (.bl (num d))) M := by
  have c0 : ∀ x, okV x = true → callF Pr (n + 2) 0 [.p x] M = .ok (.p (.bl (whole x))) M := fun x hx => is_integer_run hx
  have c2 : ∀ x, okV x = true → callF Pr (n + 2) 2 [.p x] M = .ok (.p (.bl (some_ x))) M := fun x hx => is_list_run hx
  have c1 : ∀ b : Int, b.natAbs < bnd → callF Pr (n + 2) 1 [.p (.int b), .p (.int 2), .p .non] M = .ok (.p (.bl (decide (2 ≤ b)))) M := fun b hb => by
    rw [within_run (n := n) (show okV (.int b) = true from decide_eq_true hb) rfl rfl]
    simp [within, loB, hiB]
  have c1x : ∀ y, okV y = true → whole y = false → callF Pr (n + 2) 1 [.p y, .p (.int 2), .p .non] M = .ok (.p (.bl false)) M := fun y hy hw => by
    rw [within_run (n := n) hy rfl rfl]
    cases y <;> first | rfl | cases hw
  have c3 : ∀ a b : Int, b.natAbs < bnd → callF Pr (n + 2) 3 [.p (.int a), .p (.int b)] M = .ok (.p (.int (Nat.gcd a.natAbs b.natAbs))) M := fun a b hb => common_run hb
  rw [call_s (d := ⟨1, 1, true, b_is_number⟩) rfl rfl]
  show fnR true M (exs Pr (callF Pr (n + 2)) b_is_number [some (.p d)] M) = _
  generalize callF Pr (n + 2) = C at *
  have e1 : ev Pr C (.call 0 [(.var 0)] [] []) [some (.p d)] M = .ok (.p (.bl (whole d))) M := by rw [← c0 d h]; rfl
  have e2 : ev Pr C (.not (.call 2 [(.var 0)] [] [])) [some (.p d)] M = .ok (.p (.bl (!some_ d))) M := by
    rw [ev_not]
    show (C 2 [.p d] M).bind _ = _
    rw [c2 d h]; rfl
  rw [← fin_t (num d)]
  cases d with
  | tup xs => rw [is_number_row (.inl rfl) h c0 c2 c1 c1x c3]; rfl
  | lst xs => rw [is_number_row (.inr rfl) h c0 c2 c1 c1x c3]; rfl
  | obj => cases h
  | exc => cases h
  | int i =>
    unfold b_is_number
    rw [exs_cons, ex_ifs, e1]
    rfl
  | _ =>
    unfold b_is_number
    rw [exs_cons, ex_ifs, e1, Res.st_ok]
    show fnR true M (exs Pr C [_, _] _ M) = _
    rw [exs_cons, ex_ifs, ev_or, e2]
    rfl
theorem pures_p : ∀ ds : List D, W.pures (ds.map W.p) = some ds
  | [] => rfl
  | d :: ds => by
    show (match W.pures (ds.map W.p) with | some ds => some (d :: ds) | none => none) = _
    rw [pures_p ds]
theorem mkLst_p (ds : List D) : mkLst (ds.map W.p) = some (.p (.lst ds)) := by
  unfold mkLst
  rw [pures_p]; rfl
theorem mkTup_p (ds : List D) : mkTup (ds.map W.p) = .p (.tup ds) := by
  unfold mkTup
  rw [pures_p]
theorem bls_map (f : D → Bool) : ∀ ds : List D, D.bls (ds.map fun x => .bl (f x)) = some (ds.map f)
  | [] => rfl
  | d :: ds => by
    show ((D.bls (ds.map fun x => .bl (f x))).map (f d :: ·)) = _
    rw [bls_map f ds]; rfl
theorem compL_map {step : W → Mem → Res (Option W)} {M : Mem} {f : D → Bool} : ∀ (ds : List D) (acc : List W), (∀ x ∈ ds, step (.p x) M = .ok (some (.p (.bl (f x)))) M) →
    compL step (ds.map W.p) acc M = .ok (acc.reverse ++ (ds.map fun x => D.bl (f x)).map W.p) M
  | [], acc, _ => by simp [compL]
  | d :: ds, acc, h => by
    show (step (.p d) M).bind _ = _
    rw [h d (by simp), Res.bind_ok]
    show compL step (ds.map W.p) (.p (.bl (f d)) :: acc) M = _
    rw [compL_map ds _ fun x hx => h x (by simp [hx])]
    simp
theorem comp_all {C : Calls} {env : Env} {M : Mem} {elt it : G.Ex} {s : Nat} {w : W} {ds : List D} (f : D → Bool) (hit : ev Pr C it env M = .ok w M) (hw : iterW w = some (ds.map W.p))
    (hel : ∀ x ∈ ds, ev Pr C elt ((env.set s none).set s (some (.p x))) M = .ok (.p (.bl (f x))) M) :
    ev Pr C (.blt .all [.comp elt [s] (.nm s) it []]) env M = .ok (.p (.bl (ds.all f))) M := by
  have e : ev Pr C (.comp elt [s] (.nm s) it []) env M = .ok (.p (.lst (ds.map fun x => .bl (f x)))) M := by
    rw [ev_comp, hit, Res.bind_ok, hw]
    show ((compL _ (ds.map W.p) [] M).noX.bind _) = _
    rw [compL_map (f := f) ds [] fun x hx => ?_]
    · show Res.of (mkLst (List.reverse [] ++ (ds.map fun x => D.bl (f x)).map W.p)) M = _
      rw [List.reverse_nil, List.nil_append, mkLst_p]
      rfl
    · show (Res.bind (ev Pr C elt ((env.set s none).set s (some (.p x))) M) fun v M => .ok (some v) M) = _
      rw [hel x hx]
      rfl
  rw [ev_blt, evs_cons, e]
  show Res.of ((D.bls (ds.map fun x => .bl (f x))).map fun bs => W.p (.bl (bs.all id))) M = _
  rw [bls_map]
  show Res.ok (W.p (.bl ((ds.map f).all id))) M = _
  rw [List.all_map]
  rfl
theorem fix_its {d : D} (h : some_ d = true) : iterW (.p d) = some ((its d).map W.p) := by
  cases d <;> first | rfl | cases h
theorem len_its {d : D} {M : Mem} (h : some_ d = true) : bltW M .len [.p d] = some (.p (.int ((its d).length : Int))) := by
  cases d <;> first | (simp [bltW, W.items, its]; done) | cases h
theorem ok_its {d : D} (h : okV d = true) : ∀ x ∈ its d, okV x = true := by
  cases d with
  | tup xs => exact okVs_mem (Bool.and_eq_true _ _ ▸ (show (decide (xs.length ≤ 100) && okVs xs) = true from h)).2
  | lst xs => exact okVs_mem (Bool.and_eq_true _ _ ▸ (show (decide (xs.length ≤ 100) && okVs xs) = true from h)).2
  | _ => exact fun x hx => by cases hx
theorem len_ok {d : D} (h : okV d = true) : (its d).length ≤ 100 := by
  cases d with
  | tup xs => exact of_decide_eq_true (Bool.and_eq_true _ _ ▸ (show (decide (xs.length ≤ 100) && okVs xs) = true from h)).1
  | lst xs => exact of_decide_eq_true (Bool.and_eq_true _ _ ▸ (show (decide (xs.length ≤ 100) && okVs xs) = true from h)).1
  | _ => exact Nat.zero_le _
theorem len_cmp {C : Calls} {env : Env} {M : Mem} {a b : Nat} {d : D} {m : Int} (h : some_ d = true) (ha : getV env a = some (.p d)) (hb : getV env b = some (.p (.int m))) :
    ev Pr C (.cmp .eq (.blt .len [(.var a)]) (.var b)) env M = .ok (.p (.bl (decide (((its d).length : Int) = m)))) M := by
  have e1 : ev Pr C (.var a) env M = .ok (.p d) M := by rw [ev_var, ha]; rfl
  have e2 : ev Pr C (.var b) env M = .ok (.p (.int m)) M := by rw [ev_var, hb]; rfl
  rw [ev_cmp, ev_blt, evs_cons, e1, Res.bind_ok, evs_nil, Res.bind_ok, Res.bind_ok, len_its h, Res.of_some, Res.bind_ok, e2, Res.bind_ok]
  simp [cmpW, W.view, cmpD, eqD, eqP, plain, nrm]
def row (d : D) (m : Int) : Bool := some_ d && (decide (((its d).length : Int) = m) && (its d).all num)
end K06

set_option maxHeartbeats 4000000
namespace K06
open G
theorem fin_d (d : D) {M : Mem} : fnR true M (.rt (.p d) M) = .ok (.p d) M := popR_same M _ M rfl
theorem fin_x {c : Nat} {ns : List Nat} {vs : List D} {env : Env} {M : Mem} : fnR true M (.exc c ns vs env M) = .exc c ns vs M := by
  show (if true && decide (M.length < M.length) then _ else _) = _
  simp
theorem eqI {M : Mem} {a b : Int} : cmpW M .eq (.p (.int a)) (.p (.int b)) = some (decide (a = b)) := by
  show eqD (.int a) (.int b) = _
  simp [eqD, eqP, plain, nrm]
theorem ne_str {s : PySem.Str} {M : Mem} : cmpW M .ne (.p (.str s)) (.p (.str s)) = some false := by
  show (eqD (.str s) (.str s)).map (!·) = _
  simp [eqD]
theorem eq_str {s : PySem.Str} {M : Mem} : cmpW M .eq (.p (.str s)) (.p (.str s)) = some true := by
  show eqD (.str s) (.str s) = _
  simp [eqD]
theorem cmp_p {M : Mem} {o : Cop} {a b : D} {k : Bool} (h : cmpD o a b = some k) (h1 : o ≠ .is := by decide) (h2 : o ≠ .isn := by decide) : cmpW M o (.p a) (.p b) = some k := by
  have e : cmpW M o (.p a) (.p b) = (match cmpD o a b with
    | some k => some k
    | none => lenW M o (.p a) (.p b)) := by cases o <;> first | rfl | exact absurd rfl h1 | exact absurd rfl h2
  rw [e, h]
theorem eqD_same {d : D} (h : plain 60 d = true) : eqD d d = some true := by
  cases d with
  | str s => simp [eqD]
  | _ =>
    show eqP _ _ = _
    unfold eqP
    rw [h]
    simp
theorem ne_same {d : D} {M : Mem} (h : plain 60 d = true) : cmpW M .ne (.p d) (.p d) = some false := cmp_p (by
  show (eqD d d).map (!·) = _
  rw [eqD_same h]; rfl)
theorem eq_same {d : D} {M : Mem} (h : plain 60 d = true) : cmpW M .eq (.p d) (.p d) = some true := cmp_p (eqD_same h)
theorem exs_one {C : Calls} {s : G.St} {env : Env} {M : Mem} : exs Pr C [s] env M = ex Pr C s env M := by
  rw [exs_cons]
  cases ex Pr C s env M <;> rfl
theorem if_skip {C : Calls} {c : G.Ex} {a : List G.St} {env : Env} {M M' : Mem} (h : ev Pr C c env M = .ok (.p (.bl false)) M') : ex Pr C (.ifs c a []) env M = .nx env M' := by
  rw [ex_ifs, h]; rfl
/-! texts -/
theorem s_minus : ("-" : PySem.Str) = sl [45] := by rfl
theorem s_empty : ("" : PySem.Str) = sl [] := by rfl
theorem s_zero : ("0" : PySem.Str) = sl [48] := by rfl
theorem s_bar : ("/" : PySem.Str) = ⟨#[47]⟩ := by rfl
def figs : List Nat := [48, 49, 50, 51, 52, 53, 54, 55, 56, 57]
theorem s_figs : ("0123456789" : PySem.Str) = sl figs := by rfl
theorem eqS {M : Mem} {a b : List Nat} : cmpW M .eq (.p (.str (sl a))) (.p (.str (sl b))) = some (decide (a = b)) := by
  show eqD (.str (sl a)) (.str (sl b)) = _
  have : decide (sl a = sl b) = decide (a = b) := decide_eq_decide.mpr ⟨sl_inj, fun h => by rw [h]⟩
  show some (decide (sl a = sl b)) = _
  rw [this]
theorem neS {M : Mem} {a b : List Nat} : cmpW M .ne (.p (.str (sl a))) (.p (.str (sl b))) = some (!decide (a = b)) := by
  have e := eqS (M := M) (a := a) (b := b)
  have e : eqD (.str (sl a)) (.str (sl b)) = some (decide (a = b)) := e
  show (eqD (.str (sl a)) (.str (sl b))).map (!·) = _
  rw [e]; rfl
theorem sz_sl {l : List Nat} (h : l.length ≤ 100000) : szOk (sl l).length = true := decide_eq_true (by rw [sl_len]; omega)
section
variable {C : Calls} {env : Env} {M : Mem} {l : List Nat}
theorem cutL_ev {v : Nat} {n : Nat} {e : G.Ex} (h : getV env v = some (.p (.str (sl l)))) (he : ev Pr C e env M = .ok (.p (.int (n : Int))) M) (hl : l.length ≤ 100000) : ev Pr C (.slc (.var v) [] [e]) env M = .ok (.p (.str (sl (l.take n)))) M := by
  have k : slcW M (.p (.str (sl l))) none (some (n : Int)) = some (.p (.str (sl (l.take n)))) := by
    show (if szOk (sl l).length then some (W.p (.str (L2.cutS (sl l) none (some (n : Int))))) else none) = _
    rw [sz_sl hl, cut_none]
    rfl
  have v : ev Pr C (.var v) env M = .ok (.p (.str (sl l))) M := by rw [ev_var, h]; rfl
  rw [ev_slc, v, Res.bind_ok, evs_nil, Res.bind_ok, show oneInt [] = some none from rfl, Res.of_some, Res.bind_ok, evs_cons, he, Res.bind_ok, evs_nil, Res.bind_ok, Res.bind_ok, show oneInt [.p (.int (n : Int))] = some (some (n : Int)) from rfl, Res.of_some, Res.bind_ok, k]
  rfl
theorem cutR_ev {v : Nat} {n : Nat} {e : G.Ex} (h : getV env v = some (.p (.str (sl l)))) (he : ev Pr C e env M = .ok (.p (.int (n : Int))) M) (hl : l.length ≤ 100000) : ev Pr C (.slc (.var v) [e] []) env M = .ok (.p (.str (sl (l.drop n)))) M := by
  have k : slcW M (.p (.str (sl l))) (some (n : Int)) none = some (.p (.str (sl (l.drop n)))) := by
    show (if szOk (sl l).length then some (W.p (.str (L2.cutS (sl l) (some (n : Int)) none))) else none) = _
    rw [sz_sl hl, cut_from]
    rfl
  have v : ev Pr C (.var v) env M = .ok (.p (.str (sl l))) M := by rw [ev_var, h]; rfl
  rw [ev_slc, v, Res.bind_ok, evs_cons, he, Res.bind_ok, evs_nil, Res.bind_ok, Res.bind_ok, show oneInt [.p (.int (n : Int))] = some (some (n : Int)) from rfl, Res.of_some, Res.bind_ok, evs_nil, Res.bind_ok, show oneInt [] = some none from rfl, Res.of_some, Res.bind_ok, k]
  rfl
theorem bare_take (l : List Nat) : bare l = if l.take 1 = [45] then l.drop 1 else l := by
  cases l with
  | nil => rfl
  | cons c r =>
    by_cases h : c = 45
    · subst h
      rw [if_pos (show List.take 1 (45 :: r) = [45] from rfl)]
      rfl
    · rw [if_neg (by simpa using h)]
      unfold bare
      split
      · rename_i e
        cases e
        exact absurd rfl h
      · rfl
theorem strip_ev (h : getV env 0 = some (.p (.str (sl l)))) (hl : l.length ≤ 100000) : ev Pr C (.ite (.cmp .eq (.slc (.var 0) [] [(.int 1)]) (.str "-")) (.slc (.var 0) [(.int 1)] []) (.var 0)) env M = .ok (.p (.str (sl (bare l)))) M := by
  rw [ev_ite, ev_cmp, cutL_ev (n := 1) h rfl hl, Res.bind_ok, ev_str, Res.bind_ok, s_minus, eqS, bare_take]
  by_cases z : l.take 1 = [45]
  · rw [decide_eq_true z, if_pos z]
    exact cutR_ev (n := 1) h rfl hl
  · rw [decide_eq_false z, if_neg z]
    show ev Pr C (.var 0) env M = _
    rw [ev_var, h]
    rfl
theorem mem_figs (c : Nat) : decide (c ∈ figs) = decide (48 ≤ c ∧ c ≤ 57) := decide_eq_decide.mpr (by
  unfold figs
  simp
  omega)
theorem digits_ev {cE : G.Ex} {s : Nat} (hc : ∀ (env : Env) (M : Mem), ev Pr C cE env M = .ok (.p (.str (sl figs))) M) {b : List Nat} (h : getV env 1 = some (.p (.str (sl b)))) (hs : s < env.length) (hl : b.length ≤ 100000) :
    ev Pr C (.blt .all [(.comp (.cmp .inn (.var s) cE) [s] (.nm s) (.it (.var 1)) [])]) env M = .ok (.p (.bl (digs b))) M := by
  have e := comp_all (C := C) (env := env) (M := M) (s := s) (elt := .cmp .inn (.var s) cE) (it := .it (.var 1)) (w := .p (.str (sl b))) (ds := b.map fun c => D.str ⟨#[c]⟩) (fun d => match d with
    | .str x => (match x.cps.toList with
      | [c] => decide (48 ≤ c ∧ c ≤ 57)
      | _ => false)
    | _ => false) (by
      show ev Pr C (.var 1) env M = _
      rw [ev_var, h]; rfl) (by
      show (if szOk (sl b).length then some ((sl b).cps.toList.map fun c => W.p (.str ⟨#[c]⟩)) else none) = _
      rw [sz_sl hl, sl_list, List.map_map]
      rfl) fun x hx => by
    obtain ⟨c, hc', rfl⟩ := List.mem_map.mp hx
    have v : getV ((env.set s none).set s (some (.p (.str ⟨#[c]⟩)))) s = some (.p (.str ⟨#[c]⟩)) := by
      unfold getV
      rw [List.getElem?_set_self (by rw [List.length_set]; exact hs)]
    have v2 : ev Pr C (.var s) ((env.set s none).set s (some (.p (.str ⟨#[c]⟩)))) M = .ok (.p (.str ⟨#[c]⟩)) M := by rw [ev_var, v]; rfl
    have k : cmpW M .inn (.p (.str ⟨#[c]⟩)) (.p (.str (sl figs))) = some (decide (48 ≤ c ∧ c ≤ 57)) := cmp_p <| by
      show (if decide ((⟨#[c]⟩ : PySem.Str) = ⟨#[c]⟩) then some (decide (c ∈ (sl figs).cps.toList)) else none) = _
      rw [decide_eq_true rfl, sl_list, mem_figs]
      rfl
    rw [ev_cmp, v2, Res.bind_ok, hc, Res.bind_ok, k]
    rfl
  rw [e]
  congr 3
  unfold digs
  rw [List.all_map]
  rfl
def optD : Option Int → D
  | none => .non
  | some i => .int i
def bodyI (xE cE : G.Ex) : List G.St := [.asg 1 (.ite (.cmp .eq (.slc (.var 0) [] [(.int 1)]) (.str "-")) (.slc (.var 0) [(.int 1)] []) (.var 0)),
  .ifs (.or (.cmp .eq (.var 1) (.str "")) (.or (.cmp .gt (.blt .len [(.var 1)]) xE) (.not (.blt .all [(.comp (.cmp .inn (.var 2) cE) [2] (.nm 2) (.it (.var 1)) [])])))) [.ret .non] [],
  .ifs (.and (.cmp .eq (.idx (.var 1) (.int 0)) (.str "0")) (.cmp .ne (.var 0) (.str "0"))) [.ret .non] [],
  .ret (.blt .int [(.var 0)])]
theorem int_body {xE cE : G.Ex} (hx : ∀ (env : Env) (M : Mem), ev Pr C xE env M = .ok (.p (.int 60)) M) (hc : ∀ (env : Env) (M : Mem), ev Pr C cE env M = .ok (.p (.str (sl figs))) M) (hl : l.length ≤ 100000) :
    exs Pr C (bodyI xE cE) [some (.p (.str (sl l))), none, none] M = .rt (.p (optD (intOf l))) M := by
  have hb : (bare l).length ≤ 100000 := by
    rw [bare_take]
    split
    · rw [List.length_drop]; omega
    · exact hl
  obtain ⟨env, he⟩ : ∃ env : Env, env = [some (.p (.str (sl l))), some (.p (.str (sl (bare l)))), none] := ⟨_, rfl⟩
  have v0 : ev Pr C (.var 0) env M = .ok (.p (.str (sl l))) M := by rw [he]; rfl
  have v1 : ev Pr C (.var 1) env M = .ok (.p (.str (sl (bare l)))) M := by rw [he]; rfl
  have c1 : ev Pr C (.or (.cmp .eq (.var 1) (.str "")) (.or (.cmp .gt (.blt .len [(.var 1)]) xE) (.not (.blt .all [(.comp (.cmp .inn (.var 2) cE) [2] (.nm 2) (.it (.var 1)) [])])))) env M = .ok (.p (.bl (decide (bare l = [] ∨ 60 < (bare l).length ∨ digs (bare l) = false)))) M := by
    have k1 : ev Pr C (.cmp .eq (.var 1) (.str "")) env M = .ok (.p (.bl (decide (bare l = [])))) M := by
      rw [ev_cmp, v1, Res.bind_ok, ev_str, Res.bind_ok, s_empty, eqS]; rfl
    have k2 : ev Pr C (.cmp .gt (.blt .len [(.var 1)]) xE) env M = .ok (.p (.bl (decide (60 < (bare l).length)))) M := by
      have z : bltW M .len [.p (.str (sl (bare l)))] = some (.p (.int ((bare l).length : Int))) := by
        show (if (sl (bare l)).length ≤ 100000 then some (W.p (.int ((sl (bare l)).length : Int))) else none) = _
        rw [sl_len, if_pos (by omega)]
      rw [ev_cmp, ev_blt, evs_cons, v1, Res.bind_ok, evs_nil, Res.bind_ok, Res.bind_ok, z, Res.of_some, Res.bind_ok, hx, Res.bind_ok]
      have z2 : cmpW M .gt (.p (.int ((bare l).length : Int))) (.p (.int 60)) = some (decide (60 < (bare l).length)) := by
        show some (decide ((60 : Int) < ((bare l).length : Int))) = _
        congr 1
        exact decide_eq_decide.mpr (by omega)
      rw [z2]
      rfl
    have k3 : ev Pr C (.not (.blt .all [(.comp (.cmp .inn (.var 2) cE) [2] (.nm 2) (.it (.var 1)) [])])) env M = .ok (.p (.bl (!digs (bare l)))) M := by
      rw [ev_not, digits_ev hc (by rw [he]; rfl) (by rw [he]; exact (by decide : 2 < 3)) (by omega)]
      rfl
    rw [ev_or, k1, Res.bind_ok]
    by_cases z1 : bare l = []
    · rw [decide_eq_true z1, decide_eq_true (.inl z1)]
      rfl
    · rw [decide_eq_false z1]
      show ev Pr C (.or (.cmp .gt (.blt .len [(.var 1)]) xE) (.not (.blt .all [(.comp (.cmp .inn (.var 2) cE) [2] (.nm 2) (.it (.var 1)) [])]))) env M = _
      rw [ev_or, k2, Res.bind_ok]
      by_cases z2 : 60 < (bare l).length
      · rw [decide_eq_true z2, decide_eq_true (.inr (.inl z2))]
        rfl
      · rw [decide_eq_false z2]
        show ev Pr C (.not (.blt .all [(.comp (.cmp .inn (.var 2) cE) [2] (.nm 2) (.it (.var 1)) [])])) env M = _
        rw [k3]
        cases z3 : digs (bare l) with
        | true =>
          rw [decide_eq_false (by rintro (h | h | h); exact z1 h; exact z2 h; cases h)]
          rfl
        | false =>
          rw [decide_eq_true (.inr (.inr rfl))]
          rfl
  unfold bodyI
  rw [exs_cons, ex_asg, strip_ev rfl (by omega)]
  show exs Pr C [_, _, _] [some (.p (.str (sl l))), some (.p (.str (sl (bare l)))), none] M = _
  rw [← he, exs_cons, ex_ifs, c1, Res.st_ok]
  unfold intOf
  by_cases z : bare l = [] ∨ 60 < (bare l).length ∨ digs (bare l) = false
  · rw [decide_eq_true z, if_pos z]
    rfl
  · rw [decide_eq_false z, if_neg z]
    have a1 : bare l ≠ [] := fun y => z (.inl y)
    have a2 : (bare l).length ≤ 60 := Nat.le_of_not_lt fun y => z (.inr (.inl y))
    have a3 : digs (bare l) = true := by
      cases y : digs (bare l) with
      | true => rfl
      | false => exact absurd (.inr (.inr y)) z
    obtain ⟨c, r, hcr⟩ : ∃ c r, bare l = c :: r := by
      cases y : bare l with
      | nil => exact absurd y a1
      | cons c r => exact ⟨c, r, rfl⟩
    have k1 : ev Pr C (.cmp .eq (.idx (.var 1) (.int 0)) (.str "0")) env M = .ok (.p (.bl (decide ((bare l).head? = some 48)))) M := by
      have z1 : idxW M (.p (.str (sl (bare l)))) (.p (.int 0)) = some (.p (.str (sl [c]))) := by
        show (if szOk (sl (bare l)).length then (at? (sl (bare l)).cps.toList 0).map fun c => W.p (.str ⟨#[c]⟩) else none) = _
        rw [sz_sl (by omega), sl_list, hcr]
        have z2 : at? (c :: r) (0 : Int) = some c := by
          unfold at? ixI
          rw [if_pos (by decide), if_pos (by rw [List.length_cons]; omega)]
          rfl
        rw [z2]
        rfl
      rw [ev_cmp, ev_idx, v1, Res.bind_ok, ev_int, Res.bind_ok, z1, Option.map_some, Res.of_some, Res.bind_ok]
      show Res.of ((cmpW M .eq (.p (.str (sl [c]))) (.p (.str "0"))).map fun b => W.p (.bl b)) M = _
      rw [s_zero, eqS, hcr]
      have : decide ([c] = [48]) = decide ((c :: r).head? = some 48) := decide_eq_decide.mpr (by simp)
      rw [this]
      rfl
    have k2 : ev Pr C (.cmp .ne (.var 0) (.str "0")) env M = .ok (.p (.bl (!decide (l = [48])))) M := by
      rw [ev_cmp, v0, Res.bind_ok, ev_str, Res.bind_ok, s_zero, neS]
      rfl
    have c2 : ev Pr C (.and (.cmp .eq (.idx (.var 1) (.int 0)) (.str "0")) (.cmp .ne (.var 0) (.str "0"))) env M = .ok (.p (.bl (decide ((bare l).head? = some 48 ∧ l ≠ [48])))) M := by
      rw [ev_and, k1, Res.bind_ok]
      by_cases y : (bare l).head? = some 48
      · rw [decide_eq_true y]
        show ev Pr C (.cmp .ne (.var 0) (.str "0")) env M = _
        rw [k2]
        by_cases y2 : l = [48]
        · rw [decide_eq_true y2, decide_eq_false (fun h => h.2 y2)]; rfl
        · rw [decide_eq_false y2, decide_eq_true ⟨y, y2⟩]; rfl
      · rw [decide_eq_false y, decide_eq_false (fun h => y h.1)]
        rfl
    show exs Pr C [_, _] env M = _
    rw [exs_cons, ex_ifs, c2, Res.st_ok]
    by_cases y : (bare l).head? = some 48 ∧ l ≠ [48]
    · rw [decide_eq_true y, if_pos y]
      rfl
    · rw [decide_eq_false y, if_neg y]
      obtain ⟨i, e, hi⟩ := int_some a1 a2 a3
      show exs Pr C [.ret _] env M = _
      have k : bltW M .int [.p (.str (sl l))] = some (.p (.int i)) := by
        show (if decide ((sl l).length ≤ 640) then (PySem.intText? (sl l)).map fun i => W.p (.int i) else none) = _
        have ll : l.length ≤ 61 := by
          have q := bare_take l
          rw [q] at a2
          split at a2
          · rw [List.length_drop] at a2; omega
          · omega
        rw [decide_eq_true (by rw [sl_len]; omega), e]
        rfl
      rw [exs_cons, ex_ret, ev_blt, evs_cons, v0, Res.bind_ok, evs_nil, Res.bind_ok, Res.bind_ok, k, e]
      rfl
end
theorem integer_in_run {n : Nat} {l : List Nat} {M : Mem} (hl : l.length ≤ 100000) : callF Pr (n + 1) 8 [.p (.str (sl l))] M = .ok (.p (optD (intOf l))) M := by
  rw [← fin_d, call_s (d := ⟨1, 3, true, b_integer_in⟩) rfl rfl]
  show fnR true M (exs Pr (callF Pr n) (bodyI (.glob 1) (.glob 0)) [some (.p (.str (sl l))), none, none] M) = _
  rw [int_body (fun _ _ => rfl) (fun _ _ => rfl) hl]
/-! the law's own reading of figures -/
def dgc (c : Nat) : Bool := decide (48 ≤ c ∧ c ≤ 57)
theorem ne_nil (ds : List D) {M : Mem} : cmpW M .ne (.p (.lst ds)) (.p (.lst [])) = some (!ds.isEmpty) := by
  cases ds with
  | nil => rfl
  | cons x r =>
    show (match cmpD .ne (.lst (x :: r)) (.lst []) with
      | some k => some k
      | none => lenW M .ne (.p (.lst (x :: r))) (.p (.lst []))) = some true
    have e : cmpD .ne (.lst (x :: r)) (.lst []) = (if plain 60 (.lst (x :: r)) && plain 60 (.lst []) then some (decide (nrm (.lst (x :: r)) = nrm (.lst []))) else none).map (!·) := rfl
    rw [e]
    cases plain 60 (.lst (x :: r)) && plain 60 (.lst []) with
    | false => rfl
    | true =>
      have : nrm (.lst (x :: r)) ≠ nrm (.lst []) := by
        show D.lst (nrm x :: nrms r) ≠ D.lst []
        simp
      rw [if_pos rfl, decide_eq_false this]
      rfl
theorem compL_fil {step : W → Mem → Res (Option W)} {M : Mem} {f : Nat → Bool} (h : ∀ c : Nat, step (.p (.str ⟨#[c]⟩)) M = .ok (if f c then some (.p (.str ⟨#[c]⟩)) else none) M) : ∀ (cs : List Nat) (acc : List W),
    compL step (cs.map fun c => W.p (.str ⟨#[c]⟩)) acc M = .ok (acc.reverse ++ ((cs.filter f).map fun c => D.str ⟨#[c]⟩).map W.p) M
  | [], acc => by simp [compL]
  | c :: cs, acc => by
    show (step (.p (.str ⟨#[c]⟩)) M).bind _ = _
    rw [h c, Res.bind_ok]
    cases hf : f c with
    | true =>
      show compL step (cs.map fun c => W.p (.str ⟨#[c]⟩)) (.p (.str ⟨#[c]⟩) :: acc) M = _
      rw [compL_fil h cs, List.filter_cons_of_pos hf]
      simp
    | false =>
      show compL step (cs.map fun c => W.p (.str ⟨#[c]⟩)) acc M = _
      rw [compL_fil h cs, List.filter_cons_of_neg (by rw [hf]; exact Bool.false_ne_true)]
section
variable {C : Calls} {env : Env} {M : Mem} {l : List Nat}
theorem nodig_ev {b : List Nat} (h : getV env 1 = some (.p (.str (sl b)))) (hs : 2 < env.length) (hl : b.length ≤ 100000) :
    ev Pr C (.cmp .ne (.comp (.var 2) [2] (.nm 2) (.it (.var 1)) [(.cmp .nin (.var 2) (.str "0123456789"))]) (.lst [])) env M = .ok (.p (.bl (!digs b))) M := by
  have e1 : ev Pr C (.comp (.var 2) [2] (.nm 2) (.it (.var 1)) [(.cmp .nin (.var 2) (.str "0123456789"))]) env M = .ok (.p (.lst ((b.filter fun c => !dgc c).map fun c => D.str ⟨#[c]⟩))) M := by
    have e2 : ev Pr C (.it (.var 1)) env M = .ok (.p (.str (sl b))) M := by
      show ev Pr C (.var 1) env M = _
      rw [ev_var, h]; rfl
    have e3 : iterW (.p (.str (sl b))) = some (b.map fun c => W.p (.str ⟨#[c]⟩)) := by
      show (if szOk (sl b).length then some ((sl b).cps.toList.map fun c => W.p (.str ⟨#[c]⟩)) else none) = _
      rw [sz_sl hl, sl_list]
      rfl
    rw [ev_comp, e2, Res.bind_ok, e3]
    show ((compL _ (b.map fun c => W.p (.str ⟨#[c]⟩)) [] M).noX.bind _) = _
    rw [compL_fil (f := fun c => !dgc c) fun c => ?_]
    · show Res.of (mkLst ([] ++ ((b.filter fun c => !dgc c).map fun c => D.str ⟨#[c]⟩).map W.p)) M = _
      rw [List.nil_append, mkLst_p]
      rfl
    · have v : getV ((env.set 2 none).set 2 (some (.p (.str ⟨#[c]⟩)))) 2 = some (.p (.str ⟨#[c]⟩)) := by
        unfold getV
        rw [List.getElem?_set_self (by rw [List.length_set]; exact hs)]
      have v2 : ev Pr C (.var 2) ((env.set 2 none).set 2 (some (.p (.str ⟨#[c]⟩)))) M = .ok (.p (.str ⟨#[c]⟩)) M := by rw [ev_var, v]; rfl
      have k : ev Pr C (.cmp .nin (.var 2) (.str "0123456789")) ((env.set 2 none).set 2 (some (.p (.str ⟨#[c]⟩)))) M = .ok (.p (.bl (!dgc c))) M := by
        rw [ev_cmp, v2, Res.bind_ok, ev_str, Res.bind_ok, s_figs]
        have z : cmpW M .nin (.p (.str ⟨#[c]⟩)) (.p (.str (sl figs))) = some (!decide (c ∈ figs)) := by
          have z1 : cmpD .nin (.str ⟨#[c]⟩) (.str (sl figs)) = some (!decide (c ∈ figs)) := by
            show (if decide ((⟨#[c]⟩ : PySem.Str) = ⟨#[c]⟩) then some (decide (c ∈ (sl figs).cps.toList)) else none).map (!·) = _
            rw [decide_eq_true rfl, sl_list]
            rfl
          show (match cmpD .nin (.str ⟨#[c]⟩) (.str (sl figs)) with
            | some k => some k
            | none => _) = _
          rw [z1]
        rw [z, mem_figs]
        rfl
      show ((evs Pr C [(.cmp .nin (.var 2) (.str "0123456789"))] ((env.set 2 none).set 2 (some (.p (.str ⟨#[c]⟩)))) M).bind fun bs M => match truA M bs with
        | some true => (ev Pr C (.var 2) ((env.set 2 none).set 2 (some (.p (.str ⟨#[c]⟩)))) M).bind fun v M => .ok (some v) M
        | some false => .ok none M
        | none => .bad) = _
      rw [evs_cons, k, Res.bind_ok, evs_nil, Res.bind_ok, Res.bind_ok]
      cases dgc c with
      | true => rfl
      | false =>
        show (ev Pr C (.var 2) _ M).bind _ = _
        rw [v2]
        rfl
  rw [ev_cmp, e1, Res.bind_ok]
  show Res.of ((cmpW M .ne (.p (.lst ((b.filter fun c => !dgc c).map fun c => D.str ⟨#[c]⟩))) (.p (.lst []))).map fun b => W.p (.bl b)) M = _
  rw [ne_nil]
  have z : ((b.filter fun c => !dgc c).map fun c => D.str ⟨#[c]⟩).isEmpty = digs b := by
    clear e1 hl hs h
    unfold digs
    induction b with
    | nil => rfl
    | cons c r ih =>
      rw [List.all_cons]
      cases hc : dgc c with
      | true =>
        rw [List.filter_cons_of_neg (by rw [hc]; decide), ih]
        have : decide (48 ≤ c ∧ c ≤ 57) = true := hc
        rw [this]; rfl
      | false =>
        rw [List.filter_cons_of_pos (by rw [hc]; rfl)]
        have : decide (48 ≤ c ∧ c ≤ 57) = false := hc
        rw [this]; rfl
  rw [z]
  rfl
theorem fig_body (hl : l.length ≤ 100000) : exs Pr C b_l_figures [some (.p (.str (sl l))), none, none] M = .rt (.p (optD (intOf l))) M := by
  have hb : (bare l).length ≤ 100000 := by
    rw [bare_take]
    split
    · rw [List.length_drop]; omega
    · exact hl
  obtain ⟨env, he⟩ : ∃ env : Env, env = [some (.p (.str (sl l))), some (.p (.str (sl (bare l)))), none] := ⟨_, rfl⟩
  have v0 : ev Pr C (.var 0) env M = .ok (.p (.str (sl l))) M := by rw [he]; rfl
  have v1 : ev Pr C (.var 1) env M = .ok (.p (.str (sl (bare l)))) M := by rw [he]; rfl
  have c1 : ev Pr C (.or (.cmp .eq (.var 1) (.str "")) (.or (.cmp .gt (.blt .len [(.var 1)]) (.int 60)) (.cmp .ne (.comp (.var 2) [2] (.nm 2) (.it (.var 1)) [(.cmp .nin (.var 2) (.str "0123456789"))]) (.lst [])))) env M = .ok (.p (.bl (decide (bare l = [] ∨ 60 < (bare l).length ∨ digs (bare l) = false)))) M := by
    have k1 : ev Pr C (.cmp .eq (.var 1) (.str "")) env M = .ok (.p (.bl (decide (bare l = [])))) M := by
      rw [ev_cmp, v1, Res.bind_ok, ev_str, Res.bind_ok, s_empty, eqS]; rfl
    have k2 : ev Pr C (.cmp .gt (.blt .len [(.var 1)]) (.int 60)) env M = .ok (.p (.bl (decide (60 < (bare l).length)))) M := by
      have z : bltW M .len [.p (.str (sl (bare l)))] = some (.p (.int ((bare l).length : Int))) := by
        show (if (sl (bare l)).length ≤ 100000 then some (W.p (.int ((sl (bare l)).length : Int))) else none) = _
        rw [sl_len, if_pos (by omega)]
      rw [ev_cmp, ev_blt, evs_cons, v1, Res.bind_ok, evs_nil, Res.bind_ok, Res.bind_ok, z, Res.of_some, Res.bind_ok, ev_int, Res.bind_ok]
      have z2 : cmpW M .gt (.p (.int ((bare l).length : Int))) (.p (.int 60)) = some (decide (60 < (bare l).length)) := by
        show some (decide ((60 : Int) < ((bare l).length : Int))) = _
        congr 1
        exact decide_eq_decide.mpr (by omega)
      rw [z2]
      rfl
    have k3 := nodig_ev (C := C) (env := env) (M := M) (b := bare l) (by rw [he]; rfl) (by rw [he]; exact (by decide : 2 < 3)) hb
    rw [ev_or, k1, Res.bind_ok]
    by_cases z1 : bare l = []
    · rw [decide_eq_true z1, decide_eq_true (.inl z1)]
      rfl
    · rw [decide_eq_false z1]
      show ev Pr C (.or (.cmp .gt (.blt .len [(.var 1)]) (.int 60)) _) env M = _
      rw [ev_or, k2, Res.bind_ok]
      by_cases z2 : 60 < (bare l).length
      · rw [decide_eq_true z2, decide_eq_true (.inr (.inl z2))]
        rfl
      · rw [decide_eq_false z2]
        show ev Pr C (.cmp .ne _ _) env M = _
        rw [k3]
        cases z3 : digs (bare l) with
        | true =>
          rw [decide_eq_false (by rintro (h | h | h); exact z1 h; exact z2 h; cases h)]
          rfl
        | false =>
          rw [decide_eq_true (.inr (.inr rfl))]
          rfl
  unfold b_l_figures
  rw [exs_cons, ex_asg, strip_ev rfl (by omega)]
  show exs Pr C [_, _] [some (.p (.str (sl l))), some (.p (.str (sl (bare l)))), none] M = _
  rw [← he, exs_cons, ex_ifs, c1, Res.st_ok]
  unfold intOf
  by_cases z : bare l = [] ∨ 60 < (bare l).length ∨ digs (bare l) = false
  · rw [decide_eq_true z, if_pos z]
    rfl
  · rw [decide_eq_false z, if_neg z]
    have a1 : bare l ≠ [] := fun y => z (.inl y)
    have a2 : (bare l).length ≤ 60 := Nat.le_of_not_lt fun y => z (.inr (.inl y))
    have a3 : digs (bare l) = true := by
      cases y : digs (bare l) with
      | true => rfl
      | false => exact absurd (.inr (.inr y)) z
    obtain ⟨c, r, hcr⟩ : ∃ c r, bare l = c :: r := by
      cases y : bare l with
      | nil => exact absurd y a1
      | cons c r => exact ⟨c, r, rfl⟩
    have ll : l.length ≤ 61 := by
      have := bare_take l
      rw [this] at a2
      split at a2
      · rw [List.length_drop] at a2; omega
      · omega
    have k1 : ev Pr C (.cmp .ne (.idx (.var 1) (.int 0)) (.str "0")) env M = .ok (.p (.bl (!decide ((bare l).head? = some 48)))) M := by
      have z1 : idxW M (.p (.str (sl (bare l)))) (.p (.int 0)) = some (.p (.str (sl [c]))) := by
        show (if szOk (sl (bare l)).length then (at? (sl (bare l)).cps.toList 0).map fun c => W.p (.str ⟨#[c]⟩) else none) = _
        rw [sz_sl (by omega), sl_list, hcr]
        have z2 : at? (c :: r) (0 : Int) = some c := by
          unfold at? ixI
          rw [if_pos (by decide), if_pos (by rw [List.length_cons]; omega)]
          rfl
        rw [z2]
        rfl
      rw [ev_cmp, ev_idx, v1, Res.bind_ok, ev_int, Res.bind_ok, z1, Option.map_some, Res.of_some, Res.bind_ok]
      show Res.of ((cmpW M .ne (.p (.str (sl [c]))) (.p (.str "0"))).map fun b => W.p (.bl b)) M = _
      rw [s_zero, neS, hcr]
      have : decide ([c] = [48]) = decide ((c :: r).head? = some 48) := decide_eq_decide.mpr (by simp)
      rw [this]
      rfl
    have k2 : ev Pr C (.cmp .eq (.var 0) (.str "0")) env M = .ok (.p (.bl (decide (l = [48])))) M := by
      rw [ev_cmp, v0, Res.bind_ok, ev_str, Res.bind_ok, s_zero, eqS]
      rfl
    have c2 : ev Pr C (.or (.cmp .ne (.idx (.var 1) (.int 0)) (.str "0")) (.cmp .eq (.var 0) (.str "0"))) env M = .ok (.p (.bl (!decide ((bare l).head? = some 48 ∧ l ≠ [48])))) M := by
      rw [ev_or, k1, Res.bind_ok]
      by_cases y : (bare l).head? = some 48
      · rw [decide_eq_true y]
        show ev Pr C (.cmp .eq (.var 0) (.str "0")) env M = _
        rw [k2]
        by_cases y2 : l = [48]
        · rw [decide_eq_true y2, decide_eq_false (fun h => h.2 y2)]; rfl
        · rw [decide_eq_false y2, decide_eq_true ⟨y, y2⟩]; rfl
      · rw [decide_eq_false y, decide_eq_false (fun h => y h.1)]
        rfl
    show exs Pr C [.ret _] env M = _
    rw [exs_cons, ex_ret, ev_ite, c2, Res.bind_ok]
    by_cases y : (bare l).head? = some 48 ∧ l ≠ [48]
    · rw [decide_eq_true y, if_pos y]
      rfl
    · rw [decide_eq_false y, if_neg y]
      obtain ⟨i, e, hi⟩ := int_some a1 a2 a3
      show ((ev Pr C (.blt .int [(.var 0)]) env M).st env _).andT _ = _
      have k : bltW M .int [.p (.str (sl l))] = some (.p (.int i)) := by
        show (if decide ((sl l).length ≤ 640) then (PySem.intText? (sl l)).map fun i => W.p (.int i) else none) = _
        rw [decide_eq_true (by rw [sl_len]; omega), e]
        rfl
      rw [ev_blt, evs_cons, v0, Res.bind_ok, evs_nil, Res.bind_ok, Res.bind_ok, k, e]
      rfl
end
theorem figures_run {n : Nat} {l : List Nat} {M : Mem} (hl : l.length ≤ 100000) : callF Pr (n + 1) 17 [.p (.str (sl l))] M = .ok (.p (optD (intOf l))) M := by
  rw [← fin_d, call_s (d := ⟨1, 3, true, b_l_figures⟩) rfl rfl]
  show fnR true M (exs Pr (callF Pr n) b_l_figures [some (.p (.str (sl l))), none, none] M) = _
  rw [fig_body hl]
end K06

set_option maxHeartbeats 4000000
namespace K06
open G
/-- two words, one number -/
def resP (a b : List Nat) : D := match intOf a, intOf b with
  | some x, some y => if pairN [.int x, .int y] = true then .tup [.int x, .int y] else .non
  | _, _ => .non
def resN (l : List Nat) : D := if PySem.Txt.find (sl l) ⟨#[47]⟩ < 0 then optD (intOf l) else resP (l.take (PySem.Txt.find (sl l) ⟨#[47]⟩).toNat) (l.drop ((PySem.Txt.find (sl l) ⟨#[47]⟩).toNat + 1))
theorem resP_some {a b : List Nat} {x y : Int} (h1 : intOf a = some x) (h2 : intOf b = some y) : resP a b = if pairN [.int x, .int y] = true then .tup [.int x, .int y] else .non := by
  unfold resP
  rw [h1, h2]
theorem resP_none1 {a b : List Nat} (h1 : intOf a = none) : resP a b = .non := by
  unfold resP
  rw [h1]
theorem resP_none2 {a b : List Nat} {x : Int} (h1 : intOf a = some x) (h2 : intOf b = none) : resP a b = .non := by
  unfold resP
  rw [h1, h2]
theorem bnd60 : 10 ^ 60 ≤ bnd := by decide +kernel
theorem okInt {l : List Nat} {i : Int} (h : intOf l = some i) : okV (.int i) = true := decide_eq_true (Nat.lt_of_lt_of_le (intOf_lt h) bnd60)
theorem isn_ev {C : Calls} {env : Env} {M : Mem} {e : G.Ex} {d : D} (h : ev Pr C e env M = .ok (.p d) M) : ev Pr C (.cmp .isn e .non) env M = .ok (.p (.bl (!isNon (.p d)))) M := by
  rw [ev_cmp, h]
  rfl
theorem is_ev {C : Calls} {env : Env} {M : Mem} {e : G.Ex} {d : D} (h : ev Pr C e env M = .ok (.p d) M) : ev Pr C (.cmp .is e .non) env M = .ok (.p (.bl (isNon (.p d)))) M := by
  rw [ev_cmp, h]
  rfl
theorem number_in_run {n : Nat} {l : List Nat} {M : Mem} (hl : l.length ≤ 100000) : callF Pr (n + 4) 9 [.p (.str (sl l))] M = .ok (.p (resN l)) M := by
  rw [← fin_d, call_s (d := ⟨1, 5, true, b_number_in⟩) rfl rfl]
  show fnR true M (exs Pr (callF Pr (n + 3)) b_number_in [some (.p (.str (sl l))), none, none, none, none] M) = _
  have gp : ev Pr (callF Pr (n + 3)) (.mth .partition (.var 0) (.glob 2)) [some (.p (.str (sl l))), none, none, none, none] M = .ok (.p (.tup [.str (PySem.Txt.partition (sl l) ⟨#[47]⟩).1, .str (PySem.Txt.partition (sl l) ⟨#[47]⟩).2.1, .str (PySem.Txt.partition (sl l) ⟨#[47]⟩).2.2])) M := by
    rw [ev_mth]
    show Res.of (mthW .partition (sl l) (.p (.str ⟨#[47]⟩))) M = _
    show Res.of (if !((⟨#[47]⟩ : PySem.Str).length == 0) && szOk (sl l).length then _ else none) M = _
    rw [sz_sl (by omega)]
    rfl
  unfold b_number_in
  rcases first_cases l 47 with ⟨hm, hf, hp⟩ | ⟨i, hi, hk, hf, hp⟩
  · rw [hp] at gp
    have g0 : ex Pr (callF Pr (n + 3)) (.asgT (.tp [.nm 2, .nm 3, .nm 4]) (.mth .partition (.var 0) (.glob 2))) [some (.p (.str (sl l))), none, none, none, none] M = .nx [some (.p (.str (sl l))), none, some (.p (.str (sl l))), some (.p (.str PySem.Str.empty)), some (.p (.str PySem.Str.empty))] M := by
      rw [ex_asgT, gp]
      rfl
    rw [exs_cons, g0, SR.andT_nx]
    have k : ev Pr (callF Pr (n + 3)) (.call 8 [(.var 0)] [] []) [some (.p (.str (sl l))), none, some (.p (.str (sl l))), some (.p (.str PySem.Str.empty)), some (.p (.str PySem.Str.empty))] M = .ok (.p (optD (intOf l))) M := by
      rw [← integer_in_run (n := n + 2) hl]; rfl
    have c : ev Pr (callF Pr (n + 3)) (.cmp .eq (.var 3) (.str "")) [some (.p (.str (sl l))), none, some (.p (.str (sl l))), some (.p (.str PySem.Str.empty)), some (.p (.str PySem.Str.empty))] M = .ok (.p (.bl true)) M := by
      rw [ev_cmp]
      show Res.of ((cmpW M .eq (.p (.str (sl []))) (.p (.str (sl [])))).map fun b => W.p (.bl b)) M = _
      rw [eqS]
      rfl
    have r : resN l = optD (intOf l) := by
      unfold resN
      rw [hf, if_pos (by decide)]
    rw [exs_cons, ex_ifs, c, Res.st_ok]
    show fnR true M ((exs Pr (callF Pr (n + 3)) [.ret _] _ M).andT _) = _
    rw [exs_cons, ex_ret, k, r]
    rfl
  · rw [hp] at gp
    have hlt : i < l.length := (List.getElem?_eq_some_iff.mp hi).1
    have g0 : ex Pr (callF Pr (n + 3)) (.asgT (.tp [.nm 2, .nm 3, .nm 4]) (.mth .partition (.var 0) (.glob 2))) [some (.p (.str (sl l))), none, none, none, none] M = .nx [some (.p (.str (sl l))), none, some (.p (.str (sl (l.take i)))), some (.p (.str (sl [47]))), some (.p (.str (sl (l.drop (i + 1)))))] M := by
      rw [ex_asgT, gp]
      rfl
    rw [exs_cons, g0, SR.andT_nx]
    have c : ev Pr (callF Pr (n + 3)) (.cmp .eq (.var 3) (.str "")) [some (.p (.str (sl l))), none, some (.p (.str (sl (l.take i)))), some (.p (.str (sl [47]))), some (.p (.str (sl (l.drop (i + 1)))))] M = .ok (.p (.bl false)) M := by
      rw [ev_cmp]
      show Res.of ((cmpW M .eq (.p (.str (sl [47]))) (.p (.str (sl [])))).map fun b => W.p (.bl b)) M = _
      rw [eqS]
      rfl
    have k1 : ev Pr (callF Pr (n + 3)) (.call 8 [(.var 2)] [] []) [some (.p (.str (sl l))), none, some (.p (.str (sl (l.take i)))), some (.p (.str (sl [47]))), some (.p (.str (sl (l.drop (i + 1)))))] M = .ok (.p (optD (intOf (l.take i)))) M := by
      rw [← integer_in_run (n := n + 2) (by rw [List.length_take]; omega)]; rfl
    have k2 : ev Pr (callF Pr (n + 3)) (.call 8 [(.var 4)] [] []) [some (.p (.str (sl l))), none, some (.p (.str (sl (l.take i)))), some (.p (.str (sl [47]))), some (.p (.str (sl (l.drop (i + 1)))))] M = .ok (.p (optD (intOf (l.drop (i + 1))))) M := by
      rw [← integer_in_run (n := n + 2) (by rw [List.length_drop]; omega)]; rfl
    have r : resN l = resP (l.take i) (l.drop (i + 1)) := by
      unfold resN
      rw [hf, if_neg (by omega), Int.toNat_natCast]
    rw [exs_cons, ex_ifs, c]
    show fnR true M (exs Pr (callF Pr (n + 3)) [_, _] _ M) = _
    rw [exs_cons, ex_asg, ev_tup, evs_cons, k1, Res.bind_ok, evs_cons, k2, r]
    cases e1 : intOf (l.take i) with
    | none =>
      rw [resP_none1 e1]
      rfl
    | some x =>
      cases e2 : intOf (l.drop (i + 1)) with
      | none =>
        rw [resP_none2 e1 e2]
        rfl
      | some y =>
        rw [resP_some e1 e2]
        have o1 := okInt e1
        have o2 := okInt e2
        have op : okV (.tup [.int x, .int y]) = true := by
          show (decide ((2 : Nat) ≤ 100) && (okV (.int x) && (okV (.int y) && true))) = true
          rw [o1, o2]; rfl
        show fnR true M (exs Pr (callF Pr (n + 3)) [.ret _] [some (.p (.str (sl l))), some (.p (.tup [.int x, .int y])), some (.p (.str (sl (l.take i)))), some (.p (.str (sl [47]))), some (.p (.str (sl (l.drop (i + 1)))))] M) = _
        have k3 : ev Pr (callF Pr (n + 3)) (.call 4 [(.var 1)] [] []) [some (.p (.str (sl l))), some (.p (.tup [.int x, .int y])), some (.p (.str (sl (l.take i)))), some (.p (.str (sl [47]))), some (.p (.str (sl (l.drop (i + 1)))))] M = .ok (.p (.bl (pairN [.int x, .int y]))) M := by
          have := is_number_run (n := n) (M := M) op
          have e : num (.tup [.int x, .int y]) = pairN [.int x, .int y] := rfl
          rw [e] at this
          rw [← this]; rfl
        rw [exs_cons, ex_ret, ev_ite, ev_and, isn_ev (d := .int x) rfl, Res.bind_ok]
        show fnR true M ((Res.st _ (Res.bind (ev Pr (callF Pr (n + 3)) (.and _ _) _ M) _) _).andT _) = _
        rw [ev_and, isn_ev (d := .int y) rfl, Res.bind_ok]
        show fnR true M ((Res.st _ (Res.bind (ev Pr (callF Pr (n + 3)) (.call 4 [(.var 1)] [] []) _ M) _) _).andT _) = _
        rw [k3]
        cases pairN [.int x, .int y] <;> rfl

/-! ### by parts -/
theorem digs_bar {l : List Nat} (h : 47 ∈ l) : digs l = false := by
  cases e : digs l with
  | false => rfl
  | true =>
    have := List.all_eq_true.mp e 47 h
    simp at this
theorem intOf_bar {l : List Nat} (h : 47 ∈ l) : intOf l = none := by
  have hb : 47 ∈ bare l := by
    unfold bare
    split
    · rename_i r
      rcases List.mem_cons.mp h with h | h
      · cases h
      · exact h
    · exact h
  unfold intOf
  rw [if_pos (.inr (.inr (digs_bar hb)))]
def resW (w : List Nat) : D := match wds 47 w with
  | [a] => optD (intOf a)
  | [a, b] => resP a b
  | _ => .non
theorem wds_bar {l : List Nat} (h : 47 ∈ l) : ∃ a b r, wds 47 l = a :: b :: r := by
  cases e : wds 47 l with
  | nil => exact absurd e (wds_ne _ _)
  | cons a r =>
    cases r with
    | nil =>
      have j := wds_jn 47 l
      rw [e] at j
      have j : a = l := j
      subst j
      exact absurd h (wds_free 47 a a (by rw [e]; simp))
    | cons b r => exact ⟨a, b, r, rfl⟩
theorem wds_at {l : List Nat} {i : Nat} (hi : l[i]? = some 47) (hk : ∀ k, k < i → l[k]? ≠ some 47) : wds 47 l = l.take i :: wds 47 (l.drop (i + 1)) := by
  have hlt : i < l.length := (List.getElem?_eq_some_iff.mp hi).1
  have hf : 47 ∉ l.take i := fun h => by
    obtain ⟨k, hk'⟩ := List.mem_iff_getElem?.mp h
    have kl : k < i := by
      have := (List.getElem?_eq_some_iff.mp hk').1
      rw [List.length_take] at this
      omega
    rw [List.getElem?_take_of_lt kl] at hk'
    exact hk k kl hk'
  have e : jn [47] (l.take i :: wds 47 (l.drop (i + 1))) = l := by
    rw [jn_cons (wds_ne _ _), wds_jn]
    have h2 : l.drop i = 47 :: l.drop (i + 1) := by
      rw [List.drop_eq_getElem_cons hlt]
      rw [List.getElem?_eq_getElem hlt] at hi
      rw [Option.some.inj hi]
    calc l.take i ++ [47] ++ l.drop (i + 1) = l.take i ++ (47 :: l.drop (i + 1)) := by simp
      _ = l.take i ++ l.drop i := by rw [h2]
      _ = l := List.take_append_drop _ _
  conv => lhs; rw [← e]
  refine wds_of (by simp) fun w hw => ?_
  rcases List.mem_cons.mp hw with rfl | hw
  · exact hf
  · exact wds_free _ _ w hw
theorem resN_W (l : List Nat) : resN l = resW l := by
  rcases first_cases l 47 with ⟨hm, hf, _⟩ | ⟨i, hi, hk, hf, _⟩
  · unfold resN resW
    rw [hf, if_pos (by decide), wds_one hm]
  · unfold resN resW
    rw [hf, if_neg (by omega), Int.toNat_natCast, wds_at hi hk]
    by_cases hb : 47 ∈ l.drop (i + 1)
    · obtain ⟨a, b, r, e⟩ := wds_bar hb
      rw [e]
      dsimp only
      cases e1 : intOf (l.take i) with
      | none => exact resP_none1 e1
      | some x => exact resP_none2 e1 (intOf_bar hb)
    · rw [wds_one hb]
/-- the words that are numbers -/
def numb (w : List Nat) : Bool := !(isNon (.p (resW w)))
def txD : D → List Nat
  | .int i => wr i
  | .tup [.int x, .int y] => wr x ++ 47 :: wr y
  | _ => []
def isNum (d : D) : Prop := (∃ i : Int, d = .int i ∧ i.natAbs < 10 ^ 60) ∨ ∃ x y : Int, d = .tup [.int x, .int y] ∧ x.natAbs < 10 ^ 60 ∧ y.natAbs < 10 ^ 60 ∧ pairN [.int x, .int y] = true
theorem res_num {w : List Nat} (h : numb w = true) : isNum (resW w) ∧ txD (resW w) = w := by
  unfold numb at h
  have j := wds_jn 47 w
  unfold resW at h ⊢
  split at h
  · rename_i a e
    rw [e] at j
    have j : a = w := j
    subst j
    cases q : intOf a with
    | none => rw [q] at h; cases h
    | some i => exact ⟨.inl ⟨i, rfl, intOf_lt q⟩, wr_intOf q⟩
  · rename_i a b e
    rw [e] at j
    have j : a ++ [47] ++ b = w := j
    cases q1 : intOf a with
    | none => rw [resP_none1 q1] at h; cases h
    | some x =>
      cases q2 : intOf b with
      | none => rw [resP_none2 q1 q2] at h; cases h
      | some y =>
        rw [resP_some q1 q2] at h ⊢
        by_cases z : pairN [.int x, .int y] = true
        · rw [if_pos z]
          refine ⟨.inr ⟨x, y, rfl, intOf_lt q1, intOf_lt q2, z⟩, ?_⟩
          show wr x ++ 47 :: wr y = w
          rw [wr_intOf q1, wr_intOf q2, ← j]
          simp
        · rw [if_neg z] at h
          cases h
  · cases h
theorem num_ne {d : D} (h : isNum d) : d ≠ .non := by
  rcases h with ⟨i, rfl, _⟩ | ⟨x, y, rfl, _⟩ <;> exact fun z => nomatch z
theorem numb_iff {w : List Nat} : numb w = false ↔ resW w = .non := by
  unfold numb
  cases e : resW w with
  | non => exact ⟨fun _ => rfl, fun _ => rfl⟩
  | _ => exact ⟨fun h => (by cases h), fun h => (by cases h)⟩
theorem numberin_run {n : Nat} {l : List Nat} {M : Mem} (hl : l.length ≤ 100000) : callF Pr (n + 4) 9 [.p (.str (sl l))] M = .ok (.p (resW l)) M := by rw [number_in_run hl, resN_W]
theorem okV_num {d : D} (h : isNum d) : okV d = true := by
  rcases h with ⟨i, rfl, h⟩ | ⟨x, y, rfl, h1, h2, _⟩
  · exact decide_eq_true (Nat.lt_of_lt_of_le h bnd60)
  · have i1 : okV (.int x) = true := decide_eq_true (Nat.lt_of_lt_of_le h1 bnd60)
    have i2 : okV (.int y) = true := decide_eq_true (Nat.lt_of_lt_of_le h2 bnd60)
    show (decide ((2 : Nat) ≤ 100) && (okV (.int x) && (okV (.int y) && true))) = true
    rw [i1, i2]; rfl
theorem num_num {d : D} (h : isNum d) : num d = true := by
  rcases h with ⟨i, rfl, h⟩ | ⟨x, y, rfl, h1, h2, h⟩
  · rfl
  · exact h
theorem isnum_run {n : Nat} {d : D} {M : Mem} (h : isNum d) : callF Pr (n + 3) 4 [.p d] M = .ok (.p (.bl true)) M := by rw [is_number_run (okV_num h), num_num h]
theorem kept_run {n : Nat} {d : D} {M : Mem} (h : isNum d) : callF Pr (n + 1) 6 [.p d] M = .ok (.p d) M := by
  rw [← fin_d, call_s (d := ⟨1, 1, true, b_kept⟩) rfl rfl]
  rcases h with ⟨i, rfl, h⟩ | ⟨x, y, rfl, h1, h2, h⟩ <;> rfl
/-! a number's text -/
theorem p60 : (10 : Nat) ^ 60 < 2 ^ 200 := by decide +kernel
theorem str_int {i : Int} {M : Mem} (h : i.natAbs < 10 ^ 60) : bltW M .str [.p (.int i)] = some (.p (.str (sl (wr i)))) := by
  have e : bltW M .str [.p (.int i)] = if decide (i.natAbs.log2 < 1920) then some (.p (.str (PySem.Str.ofString (toString i)))) else none := rfl
  rw [e, decide_eq_true (Nat.lt_trans (log_of (Nat.lt_trans h p60) (by decide)) (by decide)), toString_wr]
  rfl
theorem fmt_int {i : Int} (h : i.natAbs < 10 ^ 60) : fmtW (.p (.int i)) = some (.p (.str (sl (wr i)))) := by
  have e : fmtW (.p (.int i)) = if decide (i.natAbs.log2 < 1920) then some (.p (.str (PySem.Str.ofString (toString i)))) else none := rfl
  rw [e, decide_eq_true (Nat.lt_trans (log_of (Nat.lt_trans h p60) (by decide)) (by decide)), toString_wr]
  rfl
theorem halves_run {n : Nat} {d : D} {M : Mem} (h : isNum d) : ∃ x y : Int, callF Pr (n + 1) 10 [.p d] M = .ok (.p (.tup [.int x, .int y])) M ∧ x.natAbs < 10 ^ 60 ∧ y.natAbs < 10 ^ 60 ∧ txD d = if y = 1 then wr x else wr x ++ 47 :: wr y := by
  rcases h with ⟨i, rfl, h⟩ | ⟨x, y, rfl, h1, h2, h⟩
  · refine ⟨i, 1, ?_, h, by decide, rfl⟩
    rw [← fin_d, call_s (d := ⟨1, 1, true, b_halves⟩) rfl rfl]
    rfl
  · refine ⟨x, y, ?_, h1, h2, ?_⟩
    · rw [← fin_d, call_s (d := ⟨1, 1, true, b_halves⟩) rfl rfl]
      rfl
    · have h : (decide (2 ≤ y) && decide (Nat.gcd x.natAbs y.natAbs = 1)) = true := h
      rw [Bool.and_eq_true] at h
      have := of_decide_eq_true h.1
      rw [if_neg (by omega)]
      rfl
theorem text_in_run {n : Nat} {d : D} {M : Mem} (h : isNum d) : callF Pr (n + 2) 11 [.p d] M = .ok (.p (.str (sl (txD d)))) M := by
  obtain ⟨x, y, hh, hx, hy, ht⟩ := halves_run (n := n) (M := M) h
  rw [← fin_d, call_s (d := ⟨1, 3, true, b_text_in⟩) rfl rfl]
  show fnR true M (exs Pr (callF Pr (n + 1)) b_text_in [some (.p d), none, none] M) = _
  have g0 : ex Pr (callF Pr (n + 1)) (.asgT (.tp [.nm 1, .nm 2]) (.call 10 [(.var 0)] [] [])) [some (.p d), none, none] M = .nx [some (.p d), some (.p (.int x)), some (.p (.int y))] M := by
    have g : ev Pr (callF Pr (n + 1)) (.call 10 [(.var 0)] [] []) [some (.p d), none, none] M = .ok (.p (.tup [.int x, .int y])) M := by rw [← hh]; rfl
    rw [ex_asgT, g]
    rfl
  obtain ⟨env, he⟩ : ∃ env : Env, env = [some (.p d), some (.p (.int x)), some (.p (.int y))] := ⟨_, rfl⟩
  rw [← he] at g0
  have v1 : ev Pr (callF Pr (n + 1)) (.var 1) env M = .ok (.p (.int x)) M := by rw [he]; rfl
  have v2 : ev Pr (callF Pr (n + 1)) (.var 2) env M = .ok (.p (.int y)) M := by rw [he]; rfl
  have c : ev Pr (callF Pr (n + 1)) (.cmp .eq (.var 2) (.int 1)) env M = .ok (.p (.bl (decide (y = 1)))) M := by
    rw [ev_cmp, v2, Res.bind_ok, ev_int, Res.bind_ok, eqI]
    rfl
  unfold b_text_in
  rw [ht, exs_cons, g0, SR.andT_nx, exs_cons, ex_ret, ev_ite, c, Res.bind_ok]
  by_cases z : y = 1
  · rw [decide_eq_true z, if_pos z]
    show fnR true M ((Res.st env (ev Pr (callF Pr (n + 1)) (.blt .str [(.var 1)]) env M) _).andT _) = _
    rw [ev_blt, evs_cons, v1, Res.bind_ok, evs_nil, Res.bind_ok, Res.bind_ok, str_int hx]
    rfl
  · rw [decide_eq_false z, if_neg z]
    have w1 := wr_len hx
    have w2 := wr_len hy
    have f1 : ev Pr (callF Pr (n + 1)) (.fmt (.var 1)) env M = .ok (.p (.str (sl (wr x)))) M := by
      rw [ev_fmt, v1, Res.bind_ok, fmt_int hx]; rfl
    have f2 : ev Pr (callF Pr (n + 1)) (.fmt (.var 2)) env M = .ok (.p (.str (sl (wr y)))) M := by
      rw [ev_fmt, v2, Res.bind_ok, fmt_int hy]; rfl
    have e0 : PySem.Str.empty = sl [] := by rfl
    show fnR true M ((Res.st env (ev Pr (callF Pr (n + 1)) (.fstr [(.fmt (.var 1)), (.str "/"), (.fmt (.var 2))]) env M) _).andT _) = _
    have key : ev Pr (callF Pr (n + 1)) (.fstr [(.fmt (.var 1)), (.str "/"), (.fmt (.var 2))]) env M = .ok (.p (.str (sl (wr x ++ 47 :: wr y)))) M := by
      rw [ev_fstr, evJ_cons, f1, Res.bind_ok, e0]
      show (if szOk (sl [] ++ sl (wr x)).length then evJ Pr (callF Pr (n + 1)) [(.str "/"), (.fmt (.var 2))] (sl [] ++ sl (wr x)) env M else .bad) = _
      rw [sl_app, List.nil_append, sz_sl (by omega)]
      show evJ Pr (callF Pr (n + 1)) [(.str "/"), (.fmt (.var 2))] (sl (wr x)) env M = _
      rw [evJ_cons, ev_str, Res.bind_ok]
      show (if szOk (sl (wr x) ++ sl [47]).length then evJ Pr (callF Pr (n + 1)) [(.fmt (.var 2))] (sl (wr x) ++ sl [47]) env M else .bad) = _
      rw [sl_app, sz_sl (by rw [List.length_append]; simp; omega)]
      show evJ Pr (callF Pr (n + 1)) [(.fmt (.var 2))] (sl (wr x ++ [47])) env M = _
      rw [evJ_cons, f2, Res.bind_ok]
      show (if szOk (sl (wr x ++ [47]) ++ sl (wr y)).length then evJ Pr (callF Pr (n + 1)) [] (sl (wr x ++ [47]) ++ sl (wr y)) env M else .bad) = _
      rw [sl_app, sz_sl (by rw [List.length_append, List.length_append]; simp; omega), List.append_assoc]
      rfl
    rw [key]
    rfl
theorem txD_len {d : D} (h : isNum d) : (txD d).length ≤ 123 := by
  rcases h with ⟨i, rfl, h⟩ | ⟨x, y, rfl, h1, h2, _⟩
  · have := wr_len h
    show (wr i).length ≤ 123
    omega
  · have w1 := wr_len h1
    have w2 := wr_len h2
    show (wr x ++ 47 :: wr y).length ≤ 123
    rw [List.length_append, List.length_cons]
    omega
end K06

set_option maxHeartbeats 4000000
namespace K06
open G
theorem ex_while {P : Prog} {C : Calls} {c : G.Ex} {b : List G.St} {env : Env} {M : Mem} : ex P C (.while_ c b) env M = whileL (ev P C c) (exs P C b) P.fuel env M := rfl
theorem fuel_big : 1000000 < Pr.fuel := by decide +kernel
theorem for_run {C : Calls} {t : Tg} {it : G.Ex} {body : List G.St} {env : Env} {M M' : Mem} {x : W} {ws : List W} {z : SR} (he : ev Pr C it env M = .ok x M') (hw : iterW x = some ws) (h : forL (fun w env M => match give t w env with
    | some env' => exs Pr C body env' M
    | none => .bad) ws env M' = z) : ex Pr C (.for_ t it body) env M = z := by
  have e : ex Pr C (.for_ t it body) env M = (ev Pr C it env M).st env fun x M => match iterW x with
    | some ws => forL (fun w env M => match give t w env with
      | some env' => exs Pr C body env' M
      | none => .bad) ws env M
    | none => .bad := rfl
  rw [e, he, Res.st_ok, hw]
  exact h
theorem fuel_pos : ∃ f, Pr.fuel = f + 1 := ⟨bnd - 1, by
  have h1 := lt_bnd
  have h2 : 0 < 2 ^ 5000 := Nat.pow_pos (by decide)
  show bnd = bnd - 1 + 1
  omega⟩
/-! comprehensions of plain data -/
theorem compL_val {step : W → Mem → Res (Option W)} {M : Mem} {f : D → D} : ∀ (ds : List D) (acc : List W), (∀ x ∈ ds, step (.p x) M = .ok (some (.p (f x))) M) →
    compL step (ds.map W.p) acc M = .ok (acc.reverse ++ (ds.map f).map W.p) M
  | [], acc, _ => by simp [compL]
  | d :: ds, acc, h => by
    show (step (.p d) M).bind _ = _
    rw [h d (by simp), Res.bind_ok]
    show compL step (ds.map W.p) (.p (f d) :: acc) M = _
    rw [compL_val ds _ fun x hx => h x (by simp [hx])]
    simp
theorem comp_val {C : Calls} {env : Env} {M : Mem} {elt it : G.Ex} {own : List Nat} {t : Tg} {w : W} {ds : List D} (f : D → D) (hit : ev Pr C it env M = .ok w M) (hw : iterW w = some (ds.map W.p))
    (hel : ∀ x ∈ ds, ∃ e, give t (.p x) (wipeE env own) = some e ∧ ev Pr C elt e M = .ok (.p (f x)) M) : ev Pr C (.comp elt own t it []) env M = .ok (.p (.lst (ds.map f))) M := by
  rw [ev_comp, hit, Res.bind_ok, hw]
  show ((compL _ (ds.map W.p) [] M).noX.bind _) = _
  rw [compL_val (f := f) ds [] fun x hx => ?_]
  · show Res.of (mkLst (List.reverse [] ++ (ds.map f).map W.p)) M = _
    rw [List.reverse_nil, List.nil_append, mkLst_p]
    rfl
  · obtain ⟨e, h1, h2⟩ := hel x hx
    show (match give t (.p x) (wipeE env own) with
      | some e => (evs Pr C [] e M).bind fun bs M => match truA M bs with
        | some true => (ev Pr C elt e M).bind fun v M => .ok (some v) M
        | some false => .ok none M
        | none => .bad
      | none => .bad) = _
    rw [h1]
    show (ev Pr C elt e M).bind _ = _
    rw [h2]
    rfl
/-! the law's own look at a number -/
theorem nrm_opt (o : Option Int) : nrm (optD o) = optD o := by cases o <;> rfl
theorem inn_non (f : List Nat → Option Int) : ∀ ps : List (List Nat), memD .non (ps.map fun w => optD (f w)) = some (ps.any fun w => (f w).isNone) := fun ps => by
  unfold memD
  have h1 : (flat .non && (ps.map fun w => optD (f w)).all flat) = true := by
    rw [show flat .non = true from rfl, Bool.true_and, List.all_eq_true]
    intro d hd
    obtain ⟨w, _, rfl⟩ := List.mem_map.mp hd
    cases f w <;> rfl
  rw [if_pos h1]
  congr 1
  have nr : ∀ qs : List (List Nat), nrms (qs.map fun w => optD (f w)) = qs.map fun w => optD (f w) := fun qs => by
    induction qs with
    | nil => rfl
    | cons q qs ih =>
      show nrm (optD (f q)) :: nrms (qs.map fun w => optD (f w)) = _
      rw [nrm_opt, ih]; rfl
  rw [nr]
  cases e : ps.any fun w => (f w).isNone with
  | true =>
    obtain ⟨w, hw, hn⟩ := List.any_eq_true.mp e
    refine decide_eq_true ?_
    show D.non ∈ _
    refine List.mem_map.mpr ⟨w, hw, ?_⟩
    cases q : f w with
    | none => rfl
    | some i => rw [q] at hn; cases hn
  | false =>
    refine decide_eq_false fun h => ?_
    obtain ⟨w, hw, hn⟩ := List.mem_map.mp (show D.non ∈ _ from h)
    have := List.any_eq_false.mp e w hw
    cases q : f w with
    | none => rw [q] at this; exact this rfl
    | some i => rw [q] at hn; cases hn
theorem len_lst {ds : List D} {M : Mem} : bltW M .len [.p (.lst ds)] = some (.p (.int (ds.length : Int))) := by simp [bltW, W.items]
def wD (c : Nat) (l : List Nat) : D := .lst ((wds c l).map fun w => D.str (sl w))
theorem split_ev {C : Calls} {env : Env} {M : Mem} {v c : Nat} {x : PySem.Str} {l : List Nat} (hx : x = ⟨#[c]⟩) (h : getV env v = some (.p (.str (sl l)))) (hl : l.length ≤ 100000) : ev Pr C (.mth .split (.var v) (.str x)) env M = .ok (.p (wD c l)) M := by
  have v1 : ev Pr C (.var v) env M = .ok (.p (.str (sl l))) M := by rw [ev_var, h]; rfl
  rw [ev_mth, v1, Res.bind_ok]
  show Res.of (mthW .split (sl l) (.p (.str x))) M = _
  subst hx
  show Res.of (if !((⟨#[c]⟩ : PySem.Str).length == 0) && szOk (sl l).length then some (W.p (.lst ((PySem.Txt.split (sl l) ⟨#[c]⟩).map D.str))) else none) M = _
  rw [sz_sl hl, wds_sl, List.map_map]
  rfl
theorem is_num_run {n : Nat} {l : List Nat} {M : Mem} (hl : l.length ≤ 100000) : callF Pr (n + 2) 18 [.p (.str (sl l))] M = .ok (.p (.bl (numb l))) M := by
  rw [← fin_t (numb l), call_s (d := ⟨1, 6, true, b_l_is_number⟩) rfl rfl]
  obtain ⟨ps, hps⟩ : ∃ ps, ps = wds 47 l := ⟨_, rfl⟩
  obtain ⟨P, hP⟩ : ∃ P : D, P = .lst (ps.map fun w => D.str (sl w)) := ⟨_, rfl⟩
  obtain ⟨Q, hQ⟩ : ∃ Q : D, Q = .lst (ps.map fun w => optD (intOf w)) := ⟨_, rfl⟩
  have e1 : ev Pr (callF Pr (n + 1)) (.mth .split (.var 0) (.str "/")) [some (.p (.str (sl l))), none, none, none, none, none] M = .ok (.p P) M := by
    rw [split_ev (c := 47) s_bar rfl hl, hP, hps]; rfl
  have e2 : ev Pr (callF Pr (n + 1)) (.comp (.call 17 [(.var 3)] [] []) [3] (.nm 3) (.it (.var 1)) []) [some (.p (.str (sl l))), some (.p P), none, none, none, none] M = .ok (.p Q) M := by
    have := comp_val (C := callF Pr (n + 1)) (env := [some (.p (.str (sl l))), some (.p P), none, none, none, none]) (M := M) (elt := .call 17 [(.var 3)] [] []) (it := .it (.var 1)) (own := [3]) (t := .nm 3) (w := .p P) (ds := ps.map fun w => D.str (sl w)) (fun d => match d with
      | .str s => optD (intOf s.cps.toList)
      | _ => .non) rfl (by rw [hP]; rfl) fun x hx => by
        obtain ⟨w, hw, rfl⟩ := List.mem_map.mp hx
        refine ⟨_, rfl, ?_⟩
        show callF Pr (n + 1) 17 [.p (.str (sl w))] M = .ok (.p (optD (intOf (sl w).cps.toList))) M
        rw [figures_run (Nat.le_trans (wds_w (by rw [← hps]; exact hw)) hl), sl_list]
    rw [this, hQ, List.map_map]
    rfl
  show fnR true M (exs Pr (callF Pr (n + 1)) b_l_is_number [some (.p (.str (sl l))), none, none, none, none, none] M) = fnR true M (.rt (.p (.bl (numb l))) M)
  congr 1
  unfold b_l_is_number
  rw [exs_cons, ex_asg, e1, Res.st_ok, SR.andT_nx, exs_cons, ex_asg]
  show (((ev Pr (callF Pr (n + 1)) _ [some (.p (.str (sl l))), some (.p P), none, none, none, none] M).st _ _).andT _) = _
  rw [e2, Res.st_ok, SR.andT_nx]
  show exs Pr (callF Pr (n + 1)) [_, _, _] [some (.p (.str (sl l))), some (.p P), some (.p Q), none, none, none] M = _
  obtain ⟨env, he⟩ : ∃ env : Env, env = [some (.p (.str (sl l))), some (.p P), some (.p Q), none, none, none] := ⟨_, rfl⟩
  have v1 : ev Pr (callF Pr (n + 1)) (.var 1) env M = .ok (.p P) M := by rw [he]; rfl
  have v2 : ev Pr (callF Pr (n + 1)) (.var 2) env M = .ok (.p Q) M := by rw [he]; rfl
  have k1 : ev Pr (callF Pr (n + 1)) (.cmp .inn .non (.var 2)) env M = .ok (.p (.bl (ps.any fun w => (intOf w).isNone))) M := by
    rw [ev_cmp, ev_non, Res.bind_ok, v2, Res.bind_ok]
    have : cmpW M .inn (.p .non) (.p Q) = some (ps.any fun w => (intOf w).isNone) := by
      have z : cmpD .inn .non Q = some (ps.any fun w => (intOf w).isNone) := by
        rw [hQ]
        exact inn_non intOf ps
      show (match cmpD .inn .non Q with
        | some k => some k
        | none => _) = _
      rw [z]
    rw [this]
    rfl
  have ln : ev Pr (callF Pr (n + 1)) (.blt .len [(.var 1)]) env M = .ok (.p (.int (ps.length : Int))) M := by
    rw [ev_blt, evs_cons, v1, Res.bind_ok, evs_nil, Res.bind_ok, Res.bind_ok, hP, len_lst, List.length_map]
    rfl
  have k2 : ev Pr (callF Pr (n + 1)) (.cmp .gt (.blt .len [(.var 1)]) (.int 2)) env M = .ok (.p (.bl (decide (2 < ps.length)))) M := by
    rw [ev_cmp, ln, Res.bind_ok, ev_int, Res.bind_ok]
    have : cmpW M .gt (.p (.int (ps.length : Int))) (.p (.int 2)) = some (decide (2 < ps.length)) := by
      show some (decide ((2 : Int) < (ps.length : Int))) = _
      congr 1
      exact decide_eq_decide.mpr (by omega)
    rw [this]; rfl
  have k3 : ev Pr (callF Pr (n + 1)) (.cmp .eq (.blt .len [(.var 1)]) (.int 2)) env M = .ok (.p (.bl (decide (ps.length = 2)))) M := by
    rw [ev_cmp, ln, Res.bind_ok, ev_int, Res.bind_ok, eqI]
    have : decide ((ps.length : Int) = 2) = decide (ps.length = 2) := decide_eq_decide.mpr (by omega)
    rw [this]; rfl
  have c1 : ev Pr (callF Pr (n + 1)) (.or (.cmp .inn .non (.var 2)) (.cmp .gt (.blt .len [(.var 1)]) (.int 2))) env M = .ok (.p (.bl ((ps.any fun w => (intOf w).isNone) || decide (2 < ps.length)))) M := by
    rw [ev_or, k1, Res.bind_ok]
    cases ps.any fun w => (intOf w).isNone with
    | true => rfl
    | false => exact k2
  rw [← he, exs_cons, ex_ifs, c1, Res.st_ok]
  have hn : numb l = !(isNon (.p (resW l))) := rfl
  unfold resW at hn
  rw [← hps] at hn
  match ps, hps, hQ, k3 with
  | [], hps, _, _ => exact absurd hps.symm (wds_ne _ _)
  | [a], hps, hQ, k3 =>
    dsimp only at hn
    cases q : intOf a with
    | none =>
      rw [q] at hn
      rw [hn]
      simp only [List.any_cons, List.any_nil, q]
      rfl
    | some i =>
      rw [q] at hn
      rw [hn]
      simp only [List.any_cons, List.any_nil, q]
      show exs Pr (callF Pr (n + 1)) [_, _] env M = _
      rw [exs_cons, ex_ifs, k3]
      rfl
  | a :: b :: c :: r, hps, hQ, k3 =>
    dsimp only at hn
    rw [hn]
    have : decide (2 < (a :: b :: c :: r).length) = true := decide_eq_true (by simp)
    rw [this, Bool.or_true]
    rfl
  | [a, b], hps, hQ, k3 =>
    dsimp only at hn
    cases q1 : intOf a with
    | none =>
      rw [resP_none1 q1] at hn
      rw [hn]
      simp only [List.any_cons, List.any_nil, q1]
      rfl
    | some x =>
      cases q2 : intOf b with
      | none =>
        rw [resP_none2 q1 q2] at hn
        rw [hn]
        simp only [List.any_cons, List.any_nil, q1, q2]
        rfl
      | some y =>
        rw [resP_some q1 q2] at hn
        have hn : numb l = pairN [.int x, .int y] := by
          rw [hn]
          cases pairN [.int x, .int y] <;> rfl
        simp only [List.any_cons, List.any_nil, q1, q2]
        show exs Pr (callF Pr (n + 1)) [_, _] env M = _
        rw [exs_cons, ex_ifs, k3]
        have hQ : Q = .lst [.int x, .int y] := by rw [hQ]; simp [q1, q2, optD]
        have hy := intOf_lt q2
        have g0 : ex Pr (callF Pr (n + 1)) (.par 4 5 (.blt .abs [(.idx (.var 2) (.int 0))]) (.idx (.var 2) (.int 1))) env M = .nx [some (.p (.str (sl l))), some (.p P), some (.p (.lst [.int x, .int y])), none, some (.p (.int x.natAbs)), some (.p (.int y))] M := by
          rw [he, hQ]
          have a0 : ev Pr (callF Pr (n + 1)) (.idx (.var 2) (.int 0)) [some (.p (.str (sl l))), some (.p P), some (.p (.lst [.int x, .int y])), none, none, none] M = .ok (.p (.int x)) M := rfl
          have a1 : ev Pr (callF Pr (n + 1)) (.idx (.var 2) (.int 1)) [some (.p (.str (sl l))), some (.p P), some (.p (.lst [.int x, .int y])), none, none, none] M = .ok (.p (.int y)) M := rfl
          have ab : bltW M .abs [.p (.int x)] = some (.p (.int x.natAbs)) := by
            show some (W.p (.int (if x < 0 then -x else x))) = _
            rw [absN]
          rw [ex_par, ev_blt, evs_cons, a0, Res.bind_ok, evs_nil, Res.bind_ok, Res.bind_ok, ab, Res.of_some, Res.st_ok, a1]
          rfl
        have g1 : ∃ g : Int, ex Pr (callF Pr (n + 1)) (.while_ (.cmp .gt (.var 5) (.int 0)) [.par 4 5 (.var 5) (.bin .mod (.blt .int [(.var 4)]) (.var 5))]) [some (.p (.str (sl l))), some (.p P), some (.p (.lst [.int x, .int y])), none, some (.p (.int x.natAbs)), some (.p (.int y))] M = .nx [some (.p (.str (sl l))), some (.p P), some (.p (.lst [.int x, .int y])), none, some (.p (.int g)), some (.p (.int (if 0 < y then 0 else y)))] M ∧ (0 < y → g = Nat.gcd x.natAbs y.natAbs) := by
          by_cases z : 0 < y
          · obtain ⟨b, rfl⟩ : ∃ b : Nat, y = (b : Int) := ⟨y.toNat, by omega⟩
            refine ⟨(Nat.gcd x.natAbs b : Nat), ?_, fun _ => by rw [Int.natAbs_natCast]⟩
            rw [if_pos z]
            have hb : b < bnd := Nat.lt_of_lt_of_le (by rw [Int.natAbs_natCast] at hy; exact hy) bnd60
            exact gcd_loop (test := ev Pr (callF Pr (n + 1)) (.cmp .gt (.var 5) (.int 0))) (body := exs Pr (callF Pr (n + 1)) [.par 4 5 (.var 5) (.bin .mod (.blt .int [(.var 4)]) (.var 5))]) (M := M) (e := fun a b => [some (.p (.str (sl l))), some (.p P), _, none, some (.p (.int a)), some (.p (.int b))]) (fun a b => by simp [getV, rd, cmpW, isNon, W.view, cmpD]) (fun a b h hlog => by simp [getV, rd, binW, binD, bltW, W.view, h, hlog]) bnd x.natAbs b hb hb
          · refine ⟨x.natAbs, ?_, fun h => absurd h z⟩
            rw [if_neg z]
            obtain ⟨f, hf⟩ := fuel_pos
            rw [ex_while, hf]
            unfold whileL
            have : ev Pr (callF Pr (n + 1)) (.cmp .gt (.var 5) (.int 0)) [some (.p (.str (sl l))), some (.p P), some (.p (.lst [.int x, .int y])), none, some (.p (.int x.natAbs)), some (.p (.int y))] M = .ok (.p (.bl (decide (0 < y)))) M := by simp [getV, rd, cmpW, isNon, W.view, cmpD]
            rw [this, decide_eq_false z]
            rfl
        obtain ⟨g, g1, g2⟩ := g1
        show ((exs Pr (callF Pr (n + 1)) [_, _, _] env M).andT _) = _
        rw [exs_cons, g0, SR.andT_nx, exs_cons, g1, SR.andT_nx, exs_cons, ex_ret, ev_and]
        have c5 : ev Pr (callF Pr (n + 1)) (.cmp .gt (.idx (.var 2) (.int 1)) (.int 1)) [some (.p (.str (sl l))), some (.p P), some (.p (.lst [.int x, .int y])), none, some (.p (.int g)), some (.p (.int (if 0 < y then 0 else y)))] M = .ok (.p (.bl (decide (1 < y)))) M := rfl
        have c6 : ev Pr (callF Pr (n + 1)) (.cmp .eq (.var 4) (.int 1)) [some (.p (.str (sl l))), some (.p P), some (.p (.lst [.int x, .int y])), none, some (.p (.int g)), some (.p (.int (if 0 < y then 0 else y)))] M = .ok (.p (.bl (decide (g = 1)))) M := by
          have : cmpW M .eq (.p (.int g)) (.p (.int 1)) = some (decide (g = 1)) := eqI
          show Res.of ((cmpW M .eq (.p (.int g)) (.p (.int 1))).map fun b => W.p (.bl b)) M = _
          rw [this]; rfl
        rw [c5, Res.bind_ok, hn]
        have hp : pairN [.int x, .int y] = (decide (2 ≤ y) && decide (Nat.gcd x.natAbs y.natAbs = 1)) := rfl
        rw [hp]
        by_cases z : 1 < y
        · rw [decide_eq_true z, decide_eq_true (by omega : 2 ≤ y)]
          show ((Res.st _ (ev Pr (callF Pr (n + 1)) (.cmp .eq (.var 4) (.int 1)) _ M) _).andT _).andT _ = _
          rw [c6, g2 (by omega)]
          have : decide (((Nat.gcd x.natAbs y.natAbs : Nat) : Int) = 1) = decide (Nat.gcd x.natAbs y.natAbs = 1) := decide_eq_decide.mpr (by omega)
          rw [this]
          rfl
        · rw [decide_eq_false z, decide_eq_false (by omega : ¬ 2 ≤ y)]
          rfl
end K06

set_option maxHeartbeats 4000000
namespace K06
open G
/-! where a text stops -/
def least : List Nat := [108, 101, 97, 115, 116]
def just : List Nat := [106, 117, 115, 116]
theorem s_least : ("least" : PySem.Str) = sl least := by rfl
theorem s_just : ("just" : PySem.Str) = sl just := by rfl
theorem s_bar2 : ("/" : PySem.Str) = sl [47] := by rfl
theorem s_sp : (" " : PySem.Str) = ⟨#[32]⟩ := by rfl
def isWd (w : List Nat) : Bool := decide (w = least) || decide (w = just)
def fits (m s g : Nat) (w : List Nat) : Bool := if s = 0 then decide (w = [47]) && decide (g < 60) else if s = m + 1 then isWd w else numb w
def pc (k : Nat) : List (List Nat) → Nat ⊕ Nat
  | [] => .inr k
  | w :: r => if k ≠ 0 ∧ w = [47] then .inr k else if k = 60 then .inl k else if numb w = true then pc (k + 1) r else .inl k
def pa (m s g at_ : Nat) : List (List Nat) → Option Nat
  | [] => if s = 0 then none else some at_
  | w :: r => if fits m s g w = true then (if s = m + 2 then pa m 0 (g + 1) (at_ + 1) r else pa m (s + 1) g (at_ + 1) r) else some at_
def stopF (items : List (List Nat)) : Option Nat := match pc 0 items with
  | .inl k => some k
  | .inr k => pa k 0 0 k (items.drop k)
def optN : Option Nat → D
  | none => .non
  | some k => .int k
def sD (items : List (List Nat)) : D := .lst (items.map fun w => D.str (sl w))
section
variable {C : Calls} {env : Env} {M : Mem} {items : List (List Nat)}
theorem len_s : bltW M .len [.p (sD items)] = some (.p (.int (items.length : Int))) := by
  unfold sD
  rw [len_lst, List.length_map]
theorem at_nat' {α : Type} {xs : List α} {k : Nat} (h : k < xs.length) : at? xs (k : Int) = some xs[k] := by
  unfold at? ixI
  rw [if_pos (Int.natCast_nonneg _), if_pos (by omega)]
  show xs[(k : Int).toNat]? = _
  rw [Int.toNat_natCast, List.getElem?_eq_getElem h]
theorem idx_w {k : Nat} {w : List Nat} (hk : items[k]? = some w) : idxW M (.p (sD items)) (.p (.int (k : Int))) = some (.p (.str (sl w))) := by
  have hl := (List.getElem?_eq_some_iff.mp hk).1
  have he := (List.getElem?_eq_some_iff.mp hk).2
  show at? ((items.map fun w => D.str (sl w)).map W.p) (k : Int) = _
  rw [at_nat' (by simpa using hl)]
  simp [he]
theorem idx_ev {a b k : Nat} {w : List Nat} (ha : getV env a = some (.p (sD items))) (hb : getV env b = some (.p (.int (k : Int)))) (hk : items[k]? = some w) : ev Pr C (.idx (.var a) (.var b)) env M = .ok (.p (.str (sl w))) M := by
  have v1 : ev Pr C (.var a) env M = .ok (.p (sD items)) M := by rw [ev_var, ha]; rfl
  have v2 : ev Pr C (.var b) env M = .ok (.p (.int (k : Int))) M := by rw [ev_var, hb]; rfl
  rw [ev_idx, v1, Res.bind_ok, v2, Res.bind_ok, idx_w hk]
  rfl
theorem ltI (a b : Int) : cmpW M .lt (.p (.int a)) (.p (.int b)) = some (decide (a < b)) := rfl
theorem geI (a b : Int) : cmpW M .ge (.p (.int a)) (.p (.int b)) = some (decide (b ≤ a)) := rfl
theorem mem_nin {d : D} {ds : List D} (h : memD d ds = some k) : cmpW M .nin (.p d) (.p (.tup ds)) = some (!k) := by
  have z : cmpD .nin d (.tup ds) = some (!k) := by
    have : cmpD .nin d (.tup ds) = (memD d ds).map (!·) := by cases d <;> rfl
    rw [this, h]; rfl
  show (match cmpD .nin d (.tup ds) with
    | some k => some k
    | none => _) = _
  rw [z]
end
def stT : G.Ex := .and (.cmp .lt (.var 3) (.blt .len [(.var 2)])) (.and (.cmp .lt (.var 3) (.int 60)) (.or (.cmp .eq (.var 3) (.int 0)) (.cmp .ne (.idx (.var 2) (.var 3)) (.str "/"))))
def stB : List G.St := [.ifs (.not (.call 18 [(.idx (.var 2) (.var 3))] [] [])) [.ret (.var 3)] [], .asg 3 (.bin .add (.var 3) (.int 1))]
def stF : List G.St := [.asg 4 (.bin .mod (.blt .int [(.bin .sub (.var 1) (.var 3))]) (.bin .add (.var 3) (.int 3))),
  .ifs (.and (.cmp .eq (.var 4) (.int 0)) (.or (.cmp .ne (.idx (.var 2) (.var 1)) (.str "/")) (.cmp .ge (.bin .fdiv (.bin .sub (.var 1) (.var 3)) (.bin .add (.var 3) (.int 3))) (.int 60)))) [.ret (.var 1)] [],
  .ifs (.and (.cmp .eq (.var 4) (.bin .add (.var 3) (.int 1))) (.cmp .nin (.idx (.var 2) (.var 1)) (.tup [(.str "least"), (.str "just")]))) [.ret (.var 1)] [],
  .ifs (.and (.cmp .nin (.var 4) (.tup [(.int 0), (.bin .add (.var 3) (.int 1))])) (.not (.call 18 [(.idx (.var 2) (.var 1))] [] []))) [.ret (.var 1)] []]
def stR : G.Ex := .ite (.cmp .eq (.bin .mod (.blt .int [(.bin .sub (.blt .len [(.var 2)]) (.var 3))]) (.bin .add (.var 3) (.int 3))) (.int 0)) .non (.blt .len [(.var 2)])
theorem b_stop_eq : b_l_stop = [.ifs (.not (.isi (.var 0) [.str])) [.ret (.int 0)] [], .par 2 3 (.mth .split (.var 0) (.str " ")) (.int 0), .while_ stT stB, .for_ (.nm 1) (.rng2 (.var 3) (.blt .len [(.var 2)])) stF, .ret stR] := by rfl
section
variable {C : Calls} {M : Mem} {items : List (List Nat)} {t : W} {a1 a4 : Option W}
def EE (t : W) (a1 : Option W) (items : List (List Nat)) (k : Nat) (a4 : Option W) : Env := [some t, a1, some (.p (sD items)), some (.p (.int (k : Int))), a4]
theorem stT_ev {k : Nat} : ev Pr C stT (EE t a1 items k a4) M = .ok (.p (.bl (decide (k < items.length) && (decide (k < 60) && (decide (k = 0) || decide (items[k]? ≠ some [47])))))) M := by
  have v3 : ev Pr C (.var 3) (EE t a1 items k a4) M = .ok (.p (.int (k : Int))) M := rfl
  have ln : ev Pr C (.blt .len [(.var 2)]) (EE t a1 items k a4) M = .ok (.p (.int (items.length : Int))) M := by
    rw [ev_blt, evs_cons]
    show Res.of (bltW M .len [.p (sD items)]) M = _
    rw [len_s]; rfl
  have c1 : ev Pr C (.cmp .lt (.var 3) (.blt .len [(.var 2)])) (EE t a1 items k a4) M = .ok (.p (.bl (decide (k < items.length)))) M := by
    rw [ev_cmp, v3, Res.bind_ok, ln, Res.bind_ok, ltI]
    have : decide ((k : Int) < (items.length : Int)) = decide (k < items.length) := decide_eq_decide.mpr (by omega)
    rw [this]; rfl
  have c2 : ev Pr C (.cmp .lt (.var 3) (.int 60)) (EE t a1 items k a4) M = .ok (.p (.bl (decide (k < 60)))) M := by
    rw [ev_cmp, v3, Res.bind_ok, ev_int, Res.bind_ok, ltI]
    have : decide ((k : Int) < 60) = decide (k < 60) := decide_eq_decide.mpr (by omega)
    rw [this]; rfl
  have c3 : ev Pr C (.cmp .eq (.var 3) (.int 0)) (EE t a1 items k a4) M = .ok (.p (.bl (decide (k = 0)))) M := by
    rw [ev_cmp, v3, Res.bind_ok, ev_int, Res.bind_ok, eqI]
    have : decide ((k : Int) = 0) = decide (k = 0) := decide_eq_decide.mpr (by omega)
    rw [this]; rfl
  show ev Pr C (.and _ _) _ M = _
  rw [ev_and, c1, Res.bind_ok]
  by_cases h1 : k < items.length
  · obtain ⟨w, hw⟩ : ∃ w, items[k]? = some w := ⟨_, List.getElem?_eq_getElem h1⟩
    rw [decide_eq_true h1]
    show ev Pr C (.and _ _) _ M = _
    rw [ev_and, c2, Res.bind_ok]
    by_cases h2 : k < 60
    · rw [decide_eq_true h2]
      show ev Pr C (.or _ _) _ M = _
      rw [ev_or, c3, Res.bind_ok]
      by_cases h3 : k = 0
      · rw [decide_eq_true h3]; rfl
      · rw [decide_eq_false h3]
        show ev Pr C (.cmp .ne (.idx (.var 2) (.var 3)) (.str "/")) _ M = _
        rw [ev_cmp, idx_ev rfl rfl hw, Res.bind_ok, ev_str, Res.bind_ok, s_bar2, neS, hw]
        have : (!decide (w = [47])) = decide (some w ≠ some [47]) := by
          by_cases z : w = [47]
          · subst z; rfl
          · rw [decide_eq_false z, decide_eq_true (by simpa using z)]; rfl
        rw [this]; rfl
    · rw [decide_eq_false h2]; rfl
  · rw [decide_eq_false h1]; rfl
theorem stB_ev {k : Nat} {w : List Nat} (hC : ∀ l : List Nat, l.length ≤ 100000 → C 18 [.p (.str (sl l))] M = .ok (.p (.bl (numb l))) M) (hw : items[k]? = some w) (hl : w.length ≤ 100000) :
    exs Pr C stB (EE t a1 items k a4) M = if numb w = true then .nx (EE t a1 items (k + 1) a4) M else .rt (.p (.int (k : Int))) M := by
  have c : ev Pr C (.not (.call 18 [(.idx (.var 2) (.var 3))] [] [])) (EE t a1 items k a4) M = .ok (.p (.bl (!numb w))) M := by
    rw [ev_not, ev_call, evs_cons, idx_ev rfl rfl hw, Res.bind_ok, evs_nil, Res.bind_ok, Res.bind_ok, evs_nil, Res.bind_ok]
    show (C 18 [.p (.str (sl w))] M).bind _ = _
    rw [hC w hl]
    rfl
  unfold stB
  rw [exs_cons, ex_ifs, c, Res.st_ok]
  cases numb w with
  | true =>
    show exs Pr C [.asg 3 (.bin .add (.var 3) (.int 1))] (EE t a1 items k a4) M = _
    rw [exs_one, ex_asg, ev_bin]
    show SR.nx [_, _, _, some (.p (.int ((k : Int) + 1))), _] M = _
    rw [if_pos rfl]
    rfl
  | false => rfl
theorem costs_loop (hC : ∀ l : List Nat, l.length ≤ 100000 → C 18 [.p (.str (sl l))] M = .ok (.p (.bl (numb l))) M) (hi : ∀ w ∈ items, w.length ≤ 100000) : ∀ (ws : List (List Nat)) (k fuel : Nat), items.drop k = ws → k ≤ 60 → ws.length < fuel →
    whileL (ev Pr C stT) (exs Pr C stB) fuel (EE t a1 items k a4) M = match pc k ws with
      | .inl j => if j = 60 then .nx (EE t a1 items 60 a4) M else .rt (.p (.int (j : Int))) M
      | .inr j => .nx (EE t a1 items j a4) M
  | [], k, 0, _, _, h => by omega
  | _ :: _, k, 0, _, _, h => by omega
  | [], k, f + 1, hd, hk, _ => by
    have hl : items.length ≤ k := List.drop_eq_nil_iff.mp hd
    conv => lhs; unfold whileL
    rw [stT_ev, decide_eq_false (by omega)]
    rfl
  | w :: r, k, f + 1, hd, hk, hf => by
    have hl : k < items.length := by
      refine Nat.lt_of_not_le fun h => ?_
      rw [List.drop_eq_nil_iff.mpr h] at hd
      cases hd
    have hw : items[k]? = some w := by
      have := List.getElem?_drop (xs := items) (i := k) (j := 0)
      rw [hd] at this
      simpa using this.symm
    have hd2 : items.drop (k + 1) = r := by
      have := List.drop_drop (i := 1) (j := k) (l := items)
      rw [hd] at this
      simpa [Nat.add_comm] using this.symm
    have hwl : w.length ≤ 100000 := hi w (List.mem_of_getElem? hw)
    conv => lhs; unfold whileL
    rw [stT_ev, decide_eq_true hl, hw]
    by_cases h60 : k = 60
    · subst h60
      unfold pc
      by_cases hb : w = [47]
      · rw [if_pos ⟨by decide, hb⟩]
        rfl
      · rw [if_neg (fun z => hb z.2), if_pos rfl]
        rfl
    · rw [decide_eq_true (by omega : k < 60)]
      by_cases hs : k ≠ 0 ∧ w = [47]
      · unfold pc
        rw [if_pos hs, hs.2, decide_eq_false hs.1]
        rfl
      · have : (decide (k = 0) || decide (some w ≠ some [47])) = true := by
          by_cases z : k = 0
          · rw [decide_eq_true z]; rfl
          · rw [decide_eq_true (show some w ≠ some [47] from fun q => hs ⟨z, by simpa using q⟩), Bool.or_true]
        rw [this]
        dsimp only [tru, truD, Bool.and_self]
        rw [stB_ev hC hw hwl]
        unfold pc
        rw [if_neg hs, if_neg h60]
        cases hn : numb w with
        | true =>
          simp only [if_true]
          exact costs_loop hC hi r (k + 1) f hd2 (by omega) (by simp at hf; omega)
        | false =>
          simp only [Bool.false_eq_true, if_false]
          rw [if_neg h60]
          rfl
/-! one item behind the costs -/
theorem spot_eq {m g s at_ : Nat} (h : at_ = m + g * (m + 3) + s) (hs : s < m + 3) : ((at_ : Int) - (m : Int)) % ((m : Int) + 3) = (s : Int) ∧ ((at_ : Int) - (m : Int)) / ((m : Int) + 3) = (g : Int) := by
  have e : (at_ : Int) - (m : Int) = (s : Int) + (g : Int) * ((m : Int) + 3) := by
    subst h
    rw [Int.natCast_add, Int.natCast_add, Int.natCast_mul, Int.natCast_add]
    generalize (g : Int) * ((m : Int) + ((3 : Nat) : Int)) = q
    show (m : Int) + q + s - m = s + q
    omega
  rw [e]
  refine ⟨?_, ?_⟩
  · rw [Int.add_mul_emod_self_right]
    exact Int.emod_eq_of_lt (by omega) (by omega)
  · rw [Int.add_mul_ediv_right _ _ (by omega)]
    rw [Int.ediv_eq_zero_of_lt (by omega) (by omega)]
    omega
theorem stF_ev {m g s at_ : Nat} {w : List Nat} (hC : ∀ l : List Nat, l.length ≤ 100000 → C 18 [.p (.str (sl l))] M = .ok (.p (.bl (numb l))) M) (hm : m ≤ 60) (h : at_ = m + g * (m + 3) + s) (hs : s < m + 3) (hw : items[at_]? = some w) (hl : w.length ≤ 100000) :
    exs Pr C stF (EE t (some (.p (.int (at_ : Int)))) items m a4) M = if fits m s g w = true then .nx (EE t (some (.p (.int (at_ : Int)))) items m (some (.p (.int (s : Int))))) M else .rt (.p (.int (at_ : Int))) M := by
  obtain ⟨e1, e2⟩ := spot_eq h hs
  obtain ⟨env, he⟩ : ∃ env : Env, env = EE t (some (.p (.int (at_ : Int)))) items m (some (.p (.int (s : Int)))) := ⟨_, rfl⟩
  have hp : (0 : Int) < (m : Int) + 3 := by omega
  have g0 : ex Pr C (.asg 4 (.bin .mod (.blt .int [(.bin .sub (.var 1) (.var 3))]) (.bin .add (.var 3) (.int 3)))) (EE t (some (.p (.int (at_ : Int)))) items m a4) M = .nx env M := by
    have z : ev Pr C (.bin .mod (.blt .int [(.bin .sub (.var 1) (.var 3))]) (.bin .add (.var 3) (.int 3))) (EE t (some (.p (.int (at_ : Int)))) items m a4) M = .ok (.p (.int (s : Int))) M := by
      show Res.of (binW M .mod (.p (.int ((at_ : Int) - (m : Int)))) (.p (.int ((m : Int) + 3)))) M = _
      show Res.of ((if decide (0 < (m : Int) + 3) then some (D.int (((at_ : Int) - (m : Int)) % ((m : Int) + 3))) else none).map W.p) M = _
      rw [decide_eq_true hp, e1]
      rfl
    rw [ex_asg, z, he]
    rfl
  have v1 : ev Pr C (.var 1) env M = .ok (.p (.int (at_ : Int))) M := by rw [he]; rfl
  have v3 : ev Pr C (.var 3) env M = .ok (.p (.int (m : Int))) M := by rw [he]; rfl
  have v4 : ev Pr C (.var 4) env M = .ok (.p (.int (s : Int))) M := by rw [he]; rfl
  have ix : ev Pr C (.idx (.var 2) (.var 1)) env M = .ok (.p (.str (sl w))) M := idx_ev (by rw [he]; rfl) (by rw [he]; rfl) hw
  have m1 : ev Pr C (.bin .add (.var 3) (.int 1)) env M = .ok (.p (.int ((m : Int) + 1))) M := by
    rw [ev_bin, v3, Res.bind_ok, ev_int, Res.bind_ok]; rfl
  have m3 : ev Pr C (.bin .add (.var 3) (.int 3)) env M = .ok (.p (.int ((m : Int) + 3))) M := by
    rw [ev_bin, v3, Res.bind_ok, ev_int, Res.bind_ok]; rfl
  have fd : ev Pr C (.bin .fdiv (.bin .sub (.var 1) (.var 3)) (.bin .add (.var 3) (.int 3))) env M = .ok (.p (.int (g : Int))) M := by
    have z : ev Pr C (.bin .sub (.var 1) (.var 3)) env M = .ok (.p (.int ((at_ : Int) - (m : Int)))) M := by
      rw [ev_bin, v1, Res.bind_ok, v3, Res.bind_ok]; rfl
    rw [ev_bin, z, Res.bind_ok, m3, Res.bind_ok]
    show Res.of ((if decide (0 < (m : Int) + 3) && decide (((m : Int) + 3).natAbs.log2 < 9000) then some (D.int (((at_ : Int) - (m : Int)) / ((m : Int) + 3))) else none).map W.p) M = _
    rw [decide_eq_true hp, decide_eq_true (log_ok ⟨hp, by omega⟩), e2]
    rfl
  have c1 : ev Pr C (.and (.cmp .eq (.var 4) (.int 0)) (.or (.cmp .ne (.idx (.var 2) (.var 1)) (.str "/")) (.cmp .ge (.bin .fdiv (.bin .sub (.var 1) (.var 3)) (.bin .add (.var 3) (.int 3))) (.int 60)))) env M = .ok (.p (.bl (decide (s = 0) && (!decide (w = [47]) || !decide (g < 60))))) M := by
    have z1 : ev Pr C (.cmp .eq (.var 4) (.int 0)) env M = .ok (.p (.bl (decide (s = 0)))) M := by
      rw [ev_cmp, v4, Res.bind_ok, ev_int, Res.bind_ok, eqI]
      have : decide ((s : Int) = 0) = decide (s = 0) := decide_eq_decide.mpr (by omega)
      rw [this]; rfl
    have z2 : ev Pr C (.cmp .ne (.idx (.var 2) (.var 1)) (.str "/")) env M = .ok (.p (.bl (!decide (w = [47])))) M := by
      rw [ev_cmp, ix, Res.bind_ok, ev_str, Res.bind_ok, s_bar2, neS]; rfl
    have z3 : ev Pr C (.cmp .ge (.bin .fdiv (.bin .sub (.var 1) (.var 3)) (.bin .add (.var 3) (.int 3))) (.int 60)) env M = .ok (.p (.bl (!decide (g < 60)))) M := by
      rw [ev_cmp, fd, Res.bind_ok, ev_int, Res.bind_ok, geI]
      have : decide ((60 : Int) ≤ (g : Int)) = !decide (g < 60) := by
        by_cases z : g < 60
        · rw [decide_eq_true z, decide_eq_false (by omega)]; rfl
        · rw [decide_eq_false z, decide_eq_true (by omega)]; rfl
      rw [this]; rfl
    rw [ev_and, z1, Res.bind_ok]
    cases decide (s = 0) with
    | false => rfl
    | true =>
      show ev Pr C (.or _ _) env M = _
      rw [ev_or, z2, Res.bind_ok]
      cases decide (w = [47]) with
      | false => rfl
      | true => exact z3
  have c2 : ev Pr C (.and (.cmp .eq (.var 4) (.bin .add (.var 3) (.int 1))) (.cmp .nin (.idx (.var 2) (.var 1)) (.tup [(.str "least"), (.str "just")]))) env M = .ok (.p (.bl (decide (s = m + 1) && !isWd w))) M := by
    have z1 : ev Pr C (.cmp .eq (.var 4) (.bin .add (.var 3) (.int 1))) env M = .ok (.p (.bl (decide (s = m + 1)))) M := by
      rw [ev_cmp, v4, Res.bind_ok, m1, Res.bind_ok, eqI]
      have : decide ((s : Int) = (m : Int) + 1) = decide (s = m + 1) := decide_eq_decide.mpr (by omega)
      rw [this]; rfl
    have z2 : ev Pr C (.cmp .nin (.idx (.var 2) (.var 1)) (.tup [(.str "least"), (.str "just")])) env M = .ok (.p (.bl (!isWd w))) M := by
      have q : memD (.str (sl w)) [.str "least", .str "just"] = some (isWd w) := by
        show some (decide (D.str (sl w) ∈ [D.str "least", D.str "just"])) = _
        congr 1
        unfold isWd
        rw [s_least, s_just]
        by_cases q1 : w = least
        · rw [decide_eq_true q1, q1]; simp
        · by_cases q2 : w = just
          · rw [decide_eq_true q2, q2]; simp
          · rw [decide_eq_false q1, decide_eq_false q2]
            refine decide_eq_false fun z => ?_
            rcases List.mem_cons.mp z with z | z
            · exact q1 (sl_inj (D.str.inj z))
            · rw [List.mem_singleton] at z
              exact q2 (sl_inj (D.str.inj z))
      rw [ev_cmp, ix, Res.bind_ok]
      show Res.of ((cmpW M .nin (.p (.str (sl w))) (.p (.tup [.str "least", .str "just"]))).map fun b => W.p (.bl b)) M = _
      rw [mem_nin q]; rfl
    rw [ev_and, z1, Res.bind_ok]
    cases decide (s = m + 1) with
    | false => rfl
    | true => exact z2
  have c3 : ev Pr C (.and (.cmp .nin (.var 4) (.tup [(.int 0), (.bin .add (.var 3) (.int 1))])) (.not (.call 18 [(.idx (.var 2) (.var 1))] [] []))) env M = .ok (.p (.bl (!(decide (s = 0) || decide (s = m + 1)) && !numb w))) M := by
    have z1 : ev Pr C (.cmp .nin (.var 4) (.tup [(.int 0), (.bin .add (.var 3) (.int 1))])) env M = .ok (.p (.bl (!(decide (s = 0) || decide (s = m + 1))))) M := by
      have q : memD (.int (s : Int)) [.int 0, .int ((m : Int) + 1)] = some (decide (s = 0) || decide (s = m + 1)) := by
        show some (decide (D.int (s : Int) ∈ [D.int 0, D.int ((m : Int) + 1)])) = _
        congr 1
        by_cases q1 : s = 0
        · rw [decide_eq_true q1, q1]; simp
        · by_cases q2 : s = m + 1
          · rw [decide_eq_true q2, q2]; simp
          · rw [decide_eq_false q1, decide_eq_false q2]
            refine decide_eq_false fun z => ?_
            rcases List.mem_cons.mp z with z | z
            · have := D.int.inj z; omega
            · rw [List.mem_singleton] at z
              have := D.int.inj z; omega
      have tp : ev Pr C (.tup [(.int 0), (.bin .add (.var 3) (.int 1))]) env M = .ok (.p (.tup [.int 0, .int ((m : Int) + 1)])) M := by
        rw [ev_tup, evs_cons, ev_int, Res.bind_ok, evs_cons, m1, Res.bind_ok]
        rfl
      rw [ev_cmp, v4, Res.bind_ok, tp, Res.bind_ok, mem_nin q]; rfl
    have z2 : ev Pr C (.not (.call 18 [(.idx (.var 2) (.var 1))] [] [])) env M = .ok (.p (.bl (!numb w))) M := by
      rw [ev_not, ev_call, evs_cons, ix, Res.bind_ok, evs_nil, Res.bind_ok, Res.bind_ok, evs_nil, Res.bind_ok]
      show (C 18 [.p (.str (sl w))] M).bind _ = _
      rw [hC w hl]
      rfl
    rw [ev_and, z1, Res.bind_ok]
    cases decide (s = 0) || decide (s = m + 1) with
    | true => rfl
    | false => exact z2
  have ret : ∀ {k : Env → Mem → SR}, (exs Pr C [.ret (.var 1)] env M).andT k = .rt (.p (.int (at_ : Int))) M := fun {k} => by
    rw [exs_one, ex_ret, v1]; rfl
  unfold stF fits
  rw [exs_cons, g0, SR.andT_nx, exs_cons, ex_ifs, c1, Res.st_ok, ← he]
  by_cases s0 : s = 0
  · rw [decide_eq_true s0, if_pos s0]
    have s1 : ¬ s = m + 1 := by omega
    by_cases hw1 : (decide (w = [47]) && decide (g < 60)) = true
    · have : (!decide (w = [47]) || !decide (g < 60)) = false := by
        rw [Bool.and_eq_true] at hw1
        rw [hw1.1, hw1.2]; rfl
      rw [this, if_pos hw1]
      show exs Pr C [_, _] env M = _
      rw [exs_cons, ex_ifs, c2, Res.st_ok, decide_eq_false s1]
      show exs Pr C [_] env M = _
      rw [exs_one, ex_ifs, c3, Res.st_ok, decide_eq_true s0]
      rfl
    · have : (!decide (w = [47]) || !decide (g < 60)) = true := by
        cases q1 : decide (w = [47]) with
        | false => rfl
        | true =>
          cases q2 : decide (g < 60) with
          | false => rfl
          | true => rw [q1, q2] at hw1; exact absurd rfl hw1
      rw [this, if_neg hw1]
      exact ret
  · rw [decide_eq_false s0, if_neg s0]
    show exs Pr C [_, _] env M = _
    rw [exs_cons, ex_ifs, c2, Res.st_ok]
    by_cases s1 : s = m + 1
    · rw [decide_eq_true s1, if_pos s1]
      cases hq : isWd w with
      | true =>
        show exs Pr C [_] env M = _
        rw [exs_one, ex_ifs, c3, Res.st_ok, decide_eq_true s1, Bool.or_true]
        rfl
      | false => exact ret
    · rw [decide_eq_false s1, if_neg s1]
      show exs Pr C [_] env M = _
      rw [exs_one, ex_ifs, c3, Res.st_ok, decide_eq_false s0, decide_eq_false s1]
      cases hq : numb w with
      | true => rfl
      | false =>
        show exs Pr C [.ret (.var 1)] env M = _
        rw [exs_one, ex_ret, v1]
        rfl
def rngN (a c : Nat) : List W := (List.range c).map fun k => .p (.int ((a + k : Nat) : Int))
theorem rngN_succ (a c : Nat) : rngN a (c + 1) = .p (.int (a : Int)) :: rngN (a + 1) c := by
  unfold rngN
  rw [List.range_succ_eq_map, List.map_cons, List.map_map]
  congr 1
  refine List.map_congr_left fun k _ => ?_
  show W.p (.int ((a + (k + 1) : Nat) : Int)) = .p (.int ((a + 1 + k : Nat) : Int))
  rw [show a + (k + 1) = a + 1 + k by omega]
theorem rngW_N {a c : Nat} (h : a ≤ c) : rngW (a : Int) (c : Int) = rngN a (c - a) := by
  unfold rngW rngN
  have : ((c : Int) - (a : Int)).toNat = c - a := by omega
  rw [this]
  refine List.map_congr_left fun k _ => ?_
  rw [Int.natCast_add]
theorem stop_loop (hC : ∀ l : List Nat, l.length ≤ 100000 → C 18 [.p (.str (sl l))] M = .ok (.p (.bl (numb l))) M) (hi : ∀ w ∈ items, w.length ≤ 100000) {m : Nat} (hm : m ≤ 60) : ∀ (ws : List (List Nat)) (s g at_ : Nat) (a1 a4 : Option W), items.drop at_ = ws → at_ = m + g * (m + 3) + s → s < m + 3 →
    (∃ k, pa m s g at_ ws = some k ∧ forL (fun w env M => match give (.nm 1) w env with
      | some env' => exs Pr C stF env' M
      | none => .bad) (rngN at_ ws.length) (EE t a1 items m a4) M = .rt (.p (.int (k : Int))) M) ∨
    (∃ b1 b4 s' g', pa m s g at_ ws = (if s' = 0 then none else some (at_ + ws.length)) ∧ at_ + ws.length = m + g' * (m + 3) + s' ∧ s' < m + 3 ∧ forL (fun w env M => match give (.nm 1) w env with
      | some env' => exs Pr C stF env' M
      | none => .bad) (rngN at_ ws.length) (EE t a1 items m a4) M = .nx (EE t b1 items m b4) M)
  | [], s, g, at_, a1, a4, _, h, hs => .inr ⟨a1, a4, s, g, rfl, h, hs, rfl⟩
  | w :: r, s, g, at_, a1, a4, hd, h, hs => by
    have hl : at_ < items.length := by
      refine Nat.lt_of_not_le fun h => ?_
      rw [List.drop_eq_nil_iff.mpr h] at hd
      cases hd
    have hw : items[at_]? = some w := by
      have := List.getElem?_drop (xs := items) (i := at_) (j := 0)
      rw [hd] at this
      simpa using this.symm
    have hd2 : items.drop (at_ + 1) = r := by
      have := List.drop_drop (i := 1) (j := at_) (l := items)
      rw [hd] at this
      simpa [Nat.add_comm] using this.symm
    have st := stF_ev (C := C) (M := M) (t := t) (a4 := a4) hC hm h hs hw (hi w (List.mem_of_getElem? hw))
    have st' : (match give (.nm 1) (.p (.int (at_ : Int))) (EE t a1 items m a4) with
      | some env' => exs Pr C stF env' M
      | none => .bad) = exs Pr C stF (EE t (some (.p (.int (at_ : Int)))) items m a4) M := rfl
    rw [st] at st'
    have ll : at_ + (w :: r).length = at_ + 1 + r.length := by rw [List.length_cons]; omega
    rw [List.length_cons, rngN_succ]
    unfold pa
    by_cases hf : fits m s g w = true
    · rw [if_pos hf] at st'
      rw [if_pos hf]
      have fl : ∀ q, forL (fun w env M => match give (.nm 1) w env with
        | some env' => exs Pr C stF env' M
        | none => .bad) (.p (.int (at_ : Int)) :: q) (EE t a1 items m a4) M = forL (fun w env M => match give (.nm 1) w env with
        | some env' => exs Pr C stF env' M
        | none => .bad) q (EE t (some (.p (.int (at_ : Int)))) items m (some (.p (.int (s : Int))))) M := fun q => by
        conv => lhs; unfold forL
        rw [st']
      rw [fl]
      by_cases h2 : s = m + 2
      · rw [if_pos h2]
        have hat : at_ + 1 = m + (g + 1) * (m + 3) + 0 := by
          rw [h, h2, Nat.succ_mul]; omega
        rcases stop_loop hC hi hm r 0 (g + 1) (at_ + 1) _ _ hd2 hat (by omega) with ⟨k, q1, q2⟩ | ⟨b1, b4, s', g', q1, q2, q3, q4⟩
        · exact .inl ⟨k, q1, q2⟩
        · exact .inr ⟨b1, b4, s', g', by rw [q1, show at_ + (r.length + 1) = at_ + 1 + r.length by omega], by omega, q3, q4⟩
      · rw [if_neg h2]
        rcases stop_loop hC hi hm r (s + 1) g (at_ + 1) _ _ hd2 (by omega) (by omega) with ⟨k, q1, q2⟩ | ⟨b1, b4, s', g', q1, q2, q3, q4⟩
        · exact .inl ⟨k, q1, q2⟩
        · exact .inr ⟨b1, b4, s', g', by rw [q1, show at_ + (r.length + 1) = at_ + 1 + r.length by omega], by omega, q3, q4⟩
    · rw [if_neg hf] at st'
      rw [if_neg hf]
      refine .inl ⟨at_, rfl, ?_⟩
      conv => lhs; unfold forL
      rw [st']
end
theorem pc_ok : ∀ (ws : List (List Nat)) (k : Nat), k ≤ 60 → (∀ j, pc k ws = .inr j → k ≤ j ∧ j ≤ 60 ∧ j ≤ k + ws.length) ∧ ∀ j, pc k ws = .inl j → k ≤ j ∧ j ≤ 60 ∧ j < k + ws.length ∧ (j = 60 → ∃ w, ws[60 - k]? = some w ∧ w ≠ [47])
  | [], k, hk => ⟨fun j h => by cases h; exact ⟨Nat.le_refl _, hk, by simp⟩, fun j h => by cases h⟩
  | w :: r, k, hk => by
    unfold pc
    by_cases h1 : k ≠ 0 ∧ w = [47]
    · rw [if_pos h1]
      exact ⟨fun j h => by cases h; exact ⟨Nat.le_refl _, hk, by simp⟩, fun j h => by cases h⟩
    · rw [if_neg h1]
      by_cases h2 : k = 60
      · rw [if_pos h2]
        refine ⟨fun j h => (by cases h), fun j h => ?_⟩
        cases h
        refine ⟨Nat.le_refl _, hk, by simp, fun _ => ⟨w, by rw [h2]; rfl, fun z => h1 ⟨by omega, z⟩⟩⟩
      · rw [if_neg h2]
        by_cases h3 : numb w = true
        · rw [if_pos h3]
          obtain ⟨a, b⟩ := pc_ok r (k + 1) (by omega)
          refine ⟨fun j h => ?_, fun j h => ?_⟩
          · obtain ⟨x, y, z⟩ := a j h
            exact ⟨by omega, y, by rw [List.length_cons]; omega⟩
          · obtain ⟨x, y, z, u⟩ := b j h
            refine ⟨by omega, y, by rw [List.length_cons]; omega, fun q => ?_⟩
            obtain ⟨v, v1, v2⟩ := u q
            refine ⟨v, ?_, v2⟩
            rw [show 60 - k = (60 - (k + 1)) + 1 by omega, List.getElem?_cons_succ]
            exact v1
        · rw [if_neg h3]
          refine ⟨fun j h => (by cases h), fun j h => ?_⟩
          cases h
          exact ⟨Nat.le_refl _, hk, by simp, fun q => absurd q h2⟩
theorem stop_run {n : Nat} {l : List Nat} {M : Mem} (hl : l.length ≤ 90000) : callF Pr (n + 3) 19 [.p (.str (sl l))] M = .ok (.p (optN (stopF (wds 32 l)))) M := by
  obtain ⟨items, hit⟩ : ∃ items, items = wds 32 l := ⟨_, rfl⟩
  have hi : ∀ w ∈ items, w.length ≤ 100000 := fun w hw => Nat.le_trans (wds_w (by rw [← hit]; exact hw)) (by omega)
  have hC : ∀ x : List Nat, x.length ≤ 100000 → callF Pr (n + 2) 18 [.p (.str (sl x))] M = .ok (.p (.bl (numb x))) M := fun x hx => is_num_run hx
  have hn : items.length ≤ 90001 := by rw [hit]; have := wds_n 32 l; omega
  have hne : items ≠ [] := by rw [hit]; exact wds_ne _ _
  rw [← fin_d, call_s (d := ⟨1, 5, true, b_l_stop⟩) rfl rfl, ← hit]
  show fnR true M (exs Pr (callF Pr (n + 2)) b_l_stop [some (.p (.str (sl l))), none, none, none, none] M) = _
  congr 1
  have g1 : ex Pr (callF Pr (n + 2)) (.par 2 3 (.mth .split (.var 0) (.str " ")) (.int 0)) [some (.p (.str (sl l))), none, none, none, none] M = .nx (EE (.p (.str (sl l))) none items 0 none) M := by
    rw [ex_par, split_ev (c := 32) s_sp rfl (by omega)]
    show SR.nx [_, none, some (.p (wD 32 l)), _, none] M = _
    unfold wD
    rw [← hit]
    rfl
  have lp := costs_loop (C := callF Pr (n + 2)) (M := M) (t := .p (.str (sl l))) (a1 := none) (a4 := none) hC hi items 0 Pr.fuel rfl (by decide) (by have := fuel_big; omega)
  rw [b_stop_eq, exs_cons]
  show exs Pr (callF Pr (n + 2)) [_, _, _, _] [some (.p (.str (sl l))), none, none, none, none] M = _
  rw [exs_cons, g1, SR.andT_nx, exs_cons]
  rw [ex_while, lp]
  obtain ⟨p1, p2⟩ := pc_ok items 0 (by decide)
  -- behind the costs
  have fin : ∀ m, m ≤ 60 → m ≤ items.length → exs Pr (callF Pr (n + 2)) [.for_ (.nm 1) (.rng2 (.var 3) (.blt .len [(.var 2)])) stF, .ret stR] (EE (.p (.str (sl l))) none items m none) M = .rt (.p (optN (pa m 0 0 m (items.drop m)))) M := fun m hm hml => by
    have er : ev Pr (callF Pr (n + 2)) (.rng2 (.var 3) (.blt .len [(.var 2)])) (EE (.p (.str (sl l))) none items m none) M = .ok (.tp (rngN m (items.drop m).length)) M := by
      have ln : ev Pr (callF Pr (n + 2)) (.blt .len [(.var 2)]) (EE (.p (.str (sl l))) none items m none) M = .ok (.p (.int (items.length : Int))) M := by
        rw [ev_blt, evs_cons]
        show Res.of (bltW M .len [.p (sD items)]) M = _
        rw [len_s]; rfl
      show (Res.bind (ev Pr (callF Pr (n + 2)) (.var 3) _ M) fun x M => (ev Pr (callF Pr (n + 2)) (.blt .len [(.var 2)]) _ M).bind fun y M => _) = _
      rw [show ev Pr (callF Pr (n + 2)) (.var 3) (EE (.p (.str (sl l))) none items m none) M = .ok (.p (.int (m : Int))) M from rfl, Res.bind_ok, ln, Res.bind_ok]
      show (if szOk (m : Int).natAbs && szOk (items.length : Int).natAbs then Res.ok (W.tp (rngW (m : Int) (items.length : Int))) M else .bad) = _
      rw [Int.natAbs_natCast, Int.natAbs_natCast, show szOk m = true from decide_eq_true (by omega), show szOk items.length = true from decide_eq_true (by omega), rngW_N hml, List.length_drop]
      rfl
    rw [exs_cons]
    rcases stop_loop (C := callF Pr (n + 2)) (M := M) (t := .p (.str (sl l))) hC hi hm (items.drop m) 0 0 m none none rfl (by omega) (by omega) with ⟨k, q1, q2⟩ | ⟨b1, b4, s', g', q1, q2, q3, q4⟩
    · rw [for_run er rfl q2, q1]
      rfl
    · rw [for_run er rfl q4, q1, SR.andT_nx]
      have hlen : m + (items.drop m).length = items.length := by rw [List.length_drop]; omega
      rw [hlen] at q2 ⊢
      have ln : ev Pr (callF Pr (n + 2)) (.blt .len [(.var 2)]) (EE (.p (.str (sl l))) b1 items m b4) M = .ok (.p (.int (items.length : Int))) M := by
        rw [ev_blt, evs_cons]
        show Res.of (bltW M .len [.p (sD items)]) M = _
        rw [len_s]; rfl
      obtain ⟨e1, _⟩ := spot_eq q2 q3
      have hp : (0 : Int) < (m : Int) + 3 := by omega
      have md : ev Pr (callF Pr (n + 2)) (.bin .mod (.blt .int [(.bin .sub (.blt .len [(.var 2)]) (.var 3))]) (.bin .add (.var 3) (.int 3))) (EE (.p (.str (sl l))) b1 items m b4) M = .ok (.p (.int (s' : Int))) M := by
        have z : ev Pr (callF Pr (n + 2)) (.bin .sub (.blt .len [(.var 2)]) (.var 3)) (EE (.p (.str (sl l))) b1 items m b4) M = .ok (.p (.int ((items.length : Int) - (m : Int)))) M := by
          rw [ev_bin, ln]; rfl
        rw [ev_bin, ev_blt, evs_cons, z]
        show Res.of ((if decide (0 < (m : Int) + 3) then some (D.int (((items.length : Int) - (m : Int)) % ((m : Int) + 3))) else none).map W.p) M = _
        rw [decide_eq_true hp, e1]
        rfl
      have c : ev Pr (callF Pr (n + 2)) (.cmp .eq (.bin .mod (.blt .int [(.bin .sub (.blt .len [(.var 2)]) (.var 3))]) (.bin .add (.var 3) (.int 3))) (.int 0)) (EE (.p (.str (sl l))) b1 items m b4) M = .ok (.p (.bl (decide (s' = 0)))) M := by
        rw [ev_cmp, md, Res.bind_ok, ev_int, Res.bind_ok, eqI]
        have : decide ((s' : Int) = 0) = decide (s' = 0) := decide_eq_decide.mpr (by omega)
        rw [this]; rfl
      rw [exs_one, ex_ret]
      show (Res.st _ (ev Pr (callF Pr (n + 2)) (.ite _ _ _) _ M) _) = _
      rw [ev_ite, c, Res.bind_ok]
      by_cases z : s' = 0
      · rw [decide_eq_true z, if_pos z]
        rfl
      · rw [decide_eq_false z, if_neg z]
        show (Res.st _ (ev Pr (callF Pr (n + 2)) (.blt .len [(.var 2)]) _ M) _) = _
        rw [ln]
        rfl
  unfold stopF
  cases hq : pc 0 items with
  | inr j =>
    obtain ⟨_, j1, j2⟩ := p1 j hq
    exact fin j j1 (by omega)
  | inl j =>
    obtain ⟨_, j1, j2, j3⟩ := p2 j hq
    dsimp only
    by_cases hj : j = 60
    · rw [if_pos hj]
      obtain ⟨w, w1, w2⟩ := j3 hj
      show exs Pr (callF Pr (n + 2)) [_, _] _ M = _
      rw [fin 60 (by decide) (by omega)]
      have w1 : items[60]? = some w := w1
      have hlt := (List.getElem?_eq_some_iff.mp w1).1
      have he := (List.getElem?_eq_some_iff.mp w1).2
      have hd : items.drop 60 = w :: items.drop 61 := by
        rw [List.drop_eq_getElem_cons hlt, he]
      rw [hd]
      have : pa 60 0 0 60 (w :: items.drop 61) = some 60 := by
        unfold pa
        have : fits 60 0 0 w = false := by
          unfold fits
          rw [if_pos rfl, decide_eq_false w2]
          rfl
        rw [this]
        rfl
      rw [this, hj]
    · rw [if_neg hj]
      rfl
end K06

set_option maxHeartbeats 4000000
namespace K06
open G
/-! the scan: its words, where it stands -/
def sc (items : List (List Nat)) (k : Nat) : Cell := .ins 4 [5, 6] [.p (sD items), .p (.int (k : Int))]
def hd (items : List (List Nat)) (k : Nat) : D := match items[k]? with
  | some w => .str (sl w)
  | none => .non
section
variable {C : Calls} {env : Env} {M : Mem} {items : List (List Nat)} {p k : Nat}
theorem rd_sc (h : M[p]? = some (sc items k)) : rd M (.loc p) = .loc p := by
  show (match M[p]? with
    | some (.fz d) => W.p d
    | _ => .loc p) = _
  rw [h]; rfl
theorem var_sc {v : Nat} (hv : getV env v = some (.loc p)) (h : M[p]? = some (sc items k)) : ev Pr C (.var v) env M = .ok (.loc p) M := by
  rw [ev_var, hv]
  show Res.ok (rd M (.loc p)) M = _
  rw [rd_sc h]
theorem att5 {v : Nat} (hv : getV env v = some (.loc p)) (h : M[p]? = some (sc items k)) : ev Pr C (.att (.var v) 5) env M = .ok (.p (sD items)) M := by
  have e : attW Pr M (.loc p) 5 = some (.p (sD items)) := by
    show (match M[p]? with
      | some (.ins c ns ws) => if fldOk Pr c 5 false then lookF 5 ns ws else none
      | some (.fz (.obj c ns vs)) => if fldOk Pr c 5 false then (lookF 5 ns vs).map .p else none
      | _ => none) = _
    rw [h]; rfl
  rw [ev_att, var_sc hv h, Res.bind_ok, e]; rfl
theorem att6 {v : Nat} (hv : getV env v = some (.loc p)) (h : M[p]? = some (sc items k)) : ev Pr C (.att (.var v) 6) env M = .ok (.p (.int (k : Int))) M := by
  have e : attW Pr M (.loc p) 6 = some (.p (.int (k : Int))) := by
    show (match M[p]? with
      | some (.ins c ns ws) => if fldOk Pr c 6 false then lookF 6 ns ws else none
      | some (.fz (.obj c ns vs)) => if fldOk Pr c 6 false then (lookF 6 ns vs).map .p else none
      | _ => none) = _
    rw [h]; rfl
  rw [ev_att, var_sc hv h, Res.bind_ok, e]; rfl
theorem mc_ev {v f : Nat} {as : List G.Ex} (hv : getV env v = some (.loc p)) (h : M[p]? = some (sc items k)) : ev Pr C (.mc 4 f (.var v) as) env M = (evs Pr C as env M).bind fun ws M => C f (.loc p :: ws) M := by
  have e : insB Pr M 4 (.loc p) = true := by
    show (match M[p]? with
      | some (.ins c' ns _) => decide (c' = 4) && ns.all (fun g => fldOk Pr 4 g false)
      | some (.fz (.obj c' ns _)) => decide (c' = 4) && ns.all (fun g => fldOk Pr 4 g false)
      | _ => false) = true
    rw [h]; rfl
  have e2 : ev Pr C (.mc 4 f (.var v) as) env M = (ev Pr C (.var v) env M).bind fun x M => if insB Pr M 4 x then (evs Pr C as env M).bind fun ws M => C f (x :: ws) M else .bad := rfl
  rw [e2, var_sc hv h, Res.bind_ok, e]
  rfl
/-- at := n -/
theorem setat {v n : Nat} {e : G.Ex} (hv : getV env v = some (.loc p)) (h : M[p]? = some (sc items k)) (he : ev Pr C e env M = .ok (.p (.int (n : Int))) M) : ex Pr C (.setA (.var v) 6 e) env M = .nx env (M.set p (sc items n)) := by
  have e2 : ex Pr C (.setA (.var v) 6 e) env M = (ev Pr C e env M).st env fun v' M => (ev Pr C (.var v) env M).st env fun a M => match attCell Pr M a 6 v' with
    | some M' => .nx env M'
    | none => .bad := rfl
  have e3 : attCell Pr M (.loc p) 6 (.p (.int (n : Int))) = some (M.set p (sc items n)) := by
    show (match M[p]? with
      | some (.ins c ns ws) => if fldOk Pr c 6 false && ns.all (fun g => fldOk Pr c g false) && decide (ns.length < 900) && decide (ns.Nodup) then some (M.set p (.ins c (putA 6 (.p (.int (n : Int))) ns ws).1 (putA 6 (.p (.int (n : Int))) ns ws).2)) else none
      | _ => none) = _
    rw [h]; rfl
  rw [e2, he, Res.st_ok, var_sc hv h, Res.st_ok, e3]
theorem ahead_run {n : Nat} (h : M[p]? = some (sc items k)) : callF Pr (n + 1) 26 [.loc p] M = .ok (.p (hd items k)) M := by
  rw [← fin_d, call_s (d := ⟨1, 1, true, b_m_Scan_ahead⟩) rfl rfl]
  show fnR true M (exs Pr (callF Pr n) b_m_Scan_ahead [some (.loc p)] M) = _
  congr 1
  have a5 := att5 (C := callF Pr n) (env := [some (.loc p)]) (v := 0) rfl h
  have a6 := att6 (C := callF Pr n) (env := [some (.loc p)]) (v := 0) rfl h
  have c : ev Pr (callF Pr n) (.cmp .lt (.att (.var 0) 6) (.blt .len [(.att (.var 0) 5)])) [some (.loc p)] M = .ok (.p (.bl (decide (k < items.length)))) M := by
    rw [ev_cmp, a6, Res.bind_ok, ev_blt, evs_cons, a5, Res.bind_ok, evs_nil, Res.bind_ok, Res.bind_ok, len_s, Res.of_some, Res.bind_ok, ltI]
    have : decide ((k : Int) < (items.length : Int)) = decide (k < items.length) := decide_eq_decide.mpr (by omega)
    rw [this]; rfl
  unfold b_m_Scan_ahead hd
  rw [exs_one, ex_ret, ev_ite, c, Res.bind_ok]
  by_cases z : k < items.length
  · rw [decide_eq_true z, List.getElem?_eq_getElem z]
    show Res.st _ (ev Pr (callF Pr n) (.idx _ _) _ M) _ = _
    rw [ev_idx, a5, Res.bind_ok, a6, Res.bind_ok, idx_w (List.getElem?_eq_getElem z)]
    rfl
  · rw [decide_eq_false z, List.getElem?_eq_none (by omega)]
    rfl
theorem refuse_run {n : Nat} (h : M[p]? = some (sc items k)) : callF Pr (n + 1) 27 [.loc p] M = .exc 3 [3, 4] [.int 0, .int (k : Int)] M := by
  rw [call_s (d := ⟨1, 1, true, b_m_Scan_refuse⟩) rfl rfl]
  show fnR true M (exs Pr (callF Pr n) b_m_Scan_refuse [some (.loc p)] M) = _
  have a6 := att6 (C := callF Pr n) (env := [some (.loc p)]) (v := 0) rfl h
  unfold b_m_Scan_refuse
  rw [exs_one, ex_raise, evs_cons, ev_int, Res.bind_ok, evs_cons, a6, Res.bind_ok, evs_nil, Res.bind_ok, Res.bind_ok, Res.st_ok]
  exact fin_x (env := [some (.loc p)])
theorem isn_non {d : D} {e : G.Ex} {M' : Mem} (h : ev Pr C e env M = .ok (.p d) M') : ev Pr C (.cmp .is e .non) env M = .ok (.p (.bl (isNon (.p d)))) M' := by
  rw [ev_cmp, h]; rfl
theorem isn_non' {d : D} {e : G.Ex} {M' : Mem} (h : ev Pr C e env M = .ok (.p d) M') : ev Pr C (.cmp .isn e .non) env M = .ok (.p (.bl (!isNon (.p d)))) M' := by
  rw [ev_cmp, h]; rfl
theorem ahead_ev {n v : Nat} (hv : getV env v = some (.loc p)) (h : M[p]? = some (sc items k)) : ev Pr (callF Pr (n + 1)) (.mc 4 26 (.var v) []) env M = .ok (.p (hd items k)) M := by
  rw [mc_ev hv h, evs_nil, Res.bind_ok]
  exact ahead_run h
theorem refuse_ex {n v : Nat} (hv : getV env v = some (.loc p)) (h : M[p]? = some (sc items k)) : ex Pr (callF Pr (n + 1)) (.expr (.mc 4 27 (.var v) [])) env M = .exc 3 [3, 4] [.int 0, .int (k : Int)] env M := by
  rw [ex_expr, mc_ev hv h, evs_nil, Res.bind_ok, refuse_run h]
  rfl
theorem popR_set {w : W} {c : Cell} : popR M w (M.set p c) = .ok w (M.set p c) := if_pos (List.length_set ..)
theorem plus1 {v : Nat} (hv : getV env v = some (.loc p)) (h : M[p]? = some (sc items k)) : ev Pr C (.bin .add (.att (.var v) 6) (.int 1)) env M = .ok (.p (.int ((k + 1 : Nat) : Int))) M := by
  rw [ev_bin, att6 hv h, Res.bind_ok, ev_int, Res.bind_ok]
  show Res.ok (W.p (.int ((k : Int) + 1))) M = _
  rw [Int.natCast_add]; rfl
theorem take_run {n : Nat} {w : List Nat} (h : M[p]? = some (sc items k)) (hw : items[k]? = some w) : callF Pr (n + 2) 28 [.loc p] M = .ok (.p (.str (sl w))) (M.set p (sc items (k + 1))) := by
  rw [← popR_set, call_s (d := ⟨1, 2, true, b_m_Scan_take⟩) rfl rfl]
  show fnR true M (exs Pr (callF Pr (n + 1)) b_m_Scan_take [some (.loc p), none] M) = _
  have ha := ahead_ev (n := n) (env := [some (.loc p), none]) (v := 0) rfl h
  have hh : hd items k = .str (sl w) := by unfold hd; rw [hw]
  unfold b_m_Scan_take
  rw [exs_cons, ex_asg, ha, Res.st_ok, SR.andT_nx, hh]
  show fnR true M (exs Pr (callF Pr (n + 1)) [_, _, _] [some (.loc p), some (.p (.str (sl w)))] M) = _
  rw [exs_cons, ex_ifs, isn_non (d := .str (sl w)) rfl]
  show fnR true M (exs Pr (callF Pr (n + 1)) [_, _] [some (.loc p), some (.p (.str (sl w)))] M) = _
  rw [exs_cons, setat rfl h (plus1 rfl h), SR.andT_nx]
  rfl
theorem take_number_ok {n : Nat} {w : List Nat} (h : M[p]? = some (sc items k)) (hw : items[k]? = some w) (hl : w.length ≤ 100000) (hn : numb w = true) : callF Pr (n + 5) 31 [.loc p] M = .ok (.p (resW w)) (M.set p (sc items (k + 1))) := by
  rw [← popR_set, call_s (d := ⟨1, 3, true, b_m_Scan_take_number⟩) rfl rfl]
  show fnR true M (exs Pr (callF Pr (n + 4)) b_m_Scan_take_number [some (.loc p), none, none] M) = _
  have ha := ahead_ev (n := n + 3) (env := [some (.loc p), none, none]) (v := 0) rfl h
  have hh : hd items k = .str (sl w) := by unfold hd; rw [hw]
  have g1 : ev Pr (callF Pr (n + 4)) (.ite (.cmp .is (.var 1) .non) .non (.call 9 [(.var 1)] [] [])) [some (.loc p), some (.p (.str (sl w))), none] M = .ok (.p (resW w)) M := by
    rw [ev_ite, isn_non (d := .str (sl w)) rfl, Res.bind_ok]
    show callF Pr (n + 4) 9 [.p (.str (sl w))] M = _
    exact numberin_run hl
  have hn' : isNon (.p (resW w)) = false := by
    unfold numb at hn
    cases q : isNon (.p (resW w)) with
    | false => rfl
    | true => rw [q] at hn; cases hn
  unfold b_m_Scan_take_number
  rw [exs_cons, ex_asg, ha, Res.st_ok, SR.andT_nx, hh]
  show fnR true M (exs Pr (callF Pr (n + 4)) [_, _, _, _] [some (.loc p), some (.p (.str (sl w))), none] M) = _
  rw [exs_cons, ex_asg, g1]
  show fnR true M (exs Pr (callF Pr (n + 4)) [_, _, _] [some (.loc p), some (.p (.str (sl w))), some (.p (resW w))] M) = _
  rw [exs_cons, ex_ifs, isn_non (d := resW w) rfl, hn']
  show fnR true M (exs Pr (callF Pr (n + 4)) [_, _] [some (.loc p), some (.p (.str (sl w))), some (.p (resW w))] M) = _
  rw [exs_cons, setat rfl h (plus1 rfl h), SR.andT_nx]
  rfl
theorem take_number_no {n : Nat} (h : M[p]? = some (sc items k)) (hw : ∀ w, items[k]? = some w → numb w = false ∧ w.length ≤ 100000) : callF Pr (n + 5) 31 [.loc p] M = .exc 3 [3, 4] [.int 0, .int (k : Int)] M := by
  rw [← fin_x (env := [some (.loc p), some (.p (hd items k)), some (.p .non)]), call_s (d := ⟨1, 3, true, b_m_Scan_take_number⟩) rfl rfl]
  show fnR true M (exs Pr (callF Pr (n + 4)) b_m_Scan_take_number [some (.loc p), none, none] M) = _
  congr 1
  have ha := ahead_ev (n := n + 3) (env := [some (.loc p), none, none]) (v := 0) rfl h
  have g1 : ev Pr (callF Pr (n + 4)) (.ite (.cmp .is (.var 1) .non) .non (.call 9 [(.var 1)] [] [])) [some (.loc p), some (.p (hd items k)), none] M = .ok (.p .non) M := by
    rw [ev_ite, isn_non (d := hd items k) rfl, Res.bind_ok]
    unfold hd
    cases e : items[k]? with
    | none => rfl
    | some w =>
      obtain ⟨h1, h2⟩ := hw w e
      show callF Pr (n + 4) 9 [.p (.str (sl w))] M = _
      rw [numberin_run h2, numb_iff.mp h1]
  unfold b_m_Scan_take_number
  rw [exs_cons, ex_asg, ha, Res.st_ok, SR.andT_nx]
  show exs Pr (callF Pr (n + 4)) [_, _, _, _] [some (.loc p), some (.p (hd items k)), none] M = _
  rw [exs_cons, ex_asg, g1]
  show exs Pr (callF Pr (n + 4)) [_, _, _] [some (.loc p), some (.p (hd items k)), some (.p .non)] M = _
  rw [exs_cons, ex_ifs, isn_non (d := .non) rfl]
  show ((exs Pr (callF Pr (n + 4)) [.expr (.mc 4 27 (.var 0) [])] [some (.loc p), some (.p (hd items k)), some (.p .non)] M).andT _) = _
  rw [exs_one, refuse_ex (n := n + 3) rfl h]
  rfl
theorem ne_hd : cmpW M .ne (.p (hd items k)) (.p (.str (sl [47]))) = some (!decide (items[k]? = some [47])) := by
  unfold hd
  cases e : items[k]? with
  | none =>
    rw [decide_eq_false (show ¬ (none : Option (List Nat)) = some [47] from fun z => nomatch z)]
    exact cmp_p (show cmpD .ne .non (.str (sl [47])) = some true by decide +kernel)
  | some w =>
    show cmpW M .ne (.p (.str (sl w))) (.p (.str (sl [47]))) = _
    rw [neS]
    have : decide (w = [47]) = decide (some w = some [47]) := decide_eq_decide.mpr (by simp)
    rw [this]
theorem take_just_ok {n : Nat} (h : M[p]? = some (sc items k)) (hw : items[k]? = some [47]) : callF Pr (n + 3) 29 [.loc p, .p (.str "/")] M = .ok (.p (.str "/")) (M.set p (sc items (k + 1))) := by
  rw [← popR_set, call_s (d := ⟨2, 2, true, b_m_Scan_take_just⟩) rfl rfl]
  show fnR true M (exs Pr (callF Pr (n + 2)) b_m_Scan_take_just [some (.loc p), some (.p (.str "/"))] M) = _
  have ha := ahead_ev (n := n + 1) (env := [some (.loc p), some (.p (.str "/"))]) (v := 0) rfl h
  have c : ev Pr (callF Pr (n + 2)) (.cmp .ne (.mc 4 26 (.var 0) []) (.var 1)) [some (.loc p), some (.p (.str "/"))] M = .ok (.p (.bl false)) M := by
    rw [ev_cmp, ha, Res.bind_ok]
    show Res.of ((cmpW M .ne (.p (hd items k)) (.p (.str (sl [47])))).map fun b => W.p (.bl b)) M = _
    rw [ne_hd, decide_eq_true hw]; rfl
  unfold b_m_Scan_take_just
  rw [exs_cons, if_skip c, SR.andT_nx, exs_one, ex_ret, mc_ev rfl h, evs_nil, Res.bind_ok, take_run h hw]
  rfl
theorem take_just_no {n : Nat} (h : M[p]? = some (sc items k)) (hw : items[k]? ≠ some [47]) : callF Pr (n + 3) 29 [.loc p, .p (.str "/")] M = .exc 3 [3, 4] [.int 0, .int (k : Int)] M := by
  rw [← fin_x (env := [some (.loc p), some (.p (.str "/"))]), call_s (d := ⟨2, 2, true, b_m_Scan_take_just⟩) rfl rfl]
  show fnR true M (exs Pr (callF Pr (n + 2)) b_m_Scan_take_just [some (.loc p), some (.p (.str "/"))] M) = _
  congr 1
  have ha := ahead_ev (n := n + 1) (env := [some (.loc p), some (.p (.str "/"))]) (v := 0) rfl h
  have c : ev Pr (callF Pr (n + 2)) (.cmp .ne (.mc 4 26 (.var 0) []) (.var 1)) [some (.loc p), some (.p (.str "/"))] M = .ok (.p (.bl true)) M := by
    rw [ev_cmp, ha, Res.bind_ok]
    show Res.of ((cmpW M .ne (.p (hd items k)) (.p (.str (sl [47])))).map fun b => W.p (.bl b)) M = _
    rw [ne_hd, decide_eq_false hw]; rfl
  unfold b_m_Scan_take_just
  rw [exs_cons, ex_ifs, c]
  show ((exs Pr (callF Pr (n + 2)) [.expr (.mc 4 27 (.var 0) [])] [some (.loc p), some (.p (.str "/"))] M).andT _) = _
  rw [exs_one, refuse_ex (n := n + 1) rfl h]
  rfl
def wdsD : D := .tup [.str "least", .str "just"]
def isW (items : List (List Nat)) (k : Nat) : Bool := match items[k]? with
  | some w => isWd w
  | none => false
theorem mem_wd (w : List Nat) : memD (.str (sl w)) [.str "least", .str "just"] = some (isWd w) := by
  show some (decide (D.str (sl w) ∈ [D.str "least", D.str "just"])) = _
  congr 1
  unfold isWd
  rw [s_least, s_just]
  by_cases q1 : w = least
  · rw [decide_eq_true q1, q1]; simp
  · by_cases q2 : w = just
    · rw [decide_eq_true q2, q2]; simp
    · rw [decide_eq_false q1, decide_eq_false q2]
      refine decide_eq_false fun z => ?_
      rcases List.mem_cons.mp z with z | z
      · exact q1 (sl_inj (D.str.inj z))
      · rw [List.mem_singleton] at z
        exact q2 (sl_inj (D.str.inj z))
theorem nin_hd : cmpW M .nin (.p (hd items k)) (.p wdsD) = some (!isW items k) := by
  unfold hd isW wdsD
  cases e : items[k]? with
  | none => rfl
  | some w => exact mem_nin (mem_wd w)
theorem take_word_ok {n : Nat} {w : List Nat} (h : M[p]? = some (sc items k)) (hw : items[k]? = some w) (hd' : isWd w = true) : callF Pr (n + 3) 30 [.loc p, .p wdsD] M = .ok (.p (.str (sl w))) (M.set p (sc items (k + 1))) := by
  rw [← popR_set, call_s (d := ⟨2, 2, true, b_m_Scan_take_word⟩) rfl rfl]
  show fnR true M (exs Pr (callF Pr (n + 2)) b_m_Scan_take_word [some (.loc p), some (.p wdsD)] M) = _
  have ha := ahead_ev (n := n + 1) (env := [some (.loc p), some (.p wdsD)]) (v := 0) rfl h
  have c : ev Pr (callF Pr (n + 2)) (.cmp .nin (.mc 4 26 (.var 0) []) (.var 1)) [some (.loc p), some (.p wdsD)] M = .ok (.p (.bl false)) M := by
    rw [ev_cmp, ha, Res.bind_ok]
    show Res.of ((cmpW M .nin (.p (hd items k)) (.p wdsD)).map fun b => W.p (.bl b)) M = _
    have : isW items k = true := by unfold isW; rw [hw]; exact hd'
    rw [nin_hd, this]; rfl
  unfold b_m_Scan_take_word
  rw [exs_cons, if_skip c, SR.andT_nx, exs_one, ex_ret, mc_ev rfl h, evs_nil, Res.bind_ok, take_run h hw]
  rfl
theorem take_word_no {n : Nat} (h : M[p]? = some (sc items k)) (hw : isW items k = false) : callF Pr (n + 3) 30 [.loc p, .p wdsD] M = .exc 3 [3, 4] [.int 0, .int (k : Int)] M := by
  rw [← fin_x (env := [some (.loc p), some (.p wdsD)]), call_s (d := ⟨2, 2, true, b_m_Scan_take_word⟩) rfl rfl]
  show fnR true M (exs Pr (callF Pr (n + 2)) b_m_Scan_take_word [some (.loc p), some (.p wdsD)] M) = _
  congr 1
  have ha := ahead_ev (n := n + 1) (env := [some (.loc p), some (.p wdsD)]) (v := 0) rfl h
  have c : ev Pr (callF Pr (n + 2)) (.cmp .nin (.mc 4 26 (.var 0) []) (.var 1)) [some (.loc p), some (.p wdsD)] M = .ok (.p (.bl true)) M := by
    rw [ev_cmp, ha, Res.bind_ok]
    show Res.of ((cmpW M .nin (.p (hd items k)) (.p wdsD)).map fun b => W.p (.bl b)) M = _
    rw [nin_hd, hw]; rfl
  unfold b_m_Scan_take_word
  rw [exs_cons, ex_ifs, c]
  show ((exs Pr (callF Pr (n + 2)) [.expr (.mc 4 27 (.var 0) [])] [some (.loc p), some (.p wdsD)] M).andT _) = _
  rw [exs_one, refuse_ex (n := n + 1) rfl h]
  rfl
end
end K06

set_option maxHeartbeats 4000000
namespace K06
open G
def vw (items : List (List Nat)) : List W := items.map fun w => W.p (resW w)
/-- the memory while a list is made behind a scan -/
def NN (M : Mem) (p : Nat) (items : List (List Nat)) (k : Nat) (vs : List W) : Mem := M.set p (sc items k) ++ [.lst vs]
section
variable {C : Calls} {M : Mem} {items : List (List Nat)} {p k : Nat} {vs : List W}
theorem NN_at (hp : p < M.length) : (NN M p items k vs)[p]? = some (sc items k) := by
  unfold NN
  rw [List.getElem?_append_left (by rw [List.length_set]; exact hp), List.getElem?_set_self hp]
theorem NN_set (hp : p < M.length) {j : Nat} : (NN M p items k vs).set p (sc items j) = NN M p items j vs := by
  unfold NN
  rw [List.set_append_left _ _ (by rw [List.length_set]; exact hp), List.set_set]
theorem NN_top : (NN M p items k vs)[M.length]? = some (.lst vs) := by
  unfold NN
  rw [List.getElem?_append_right (by rw [List.length_set]; exact Nat.le_refl _), List.length_set, Nat.sub_self]
  rfl
theorem NN_put {c : Cell} : (NN M p items k vs).set M.length c = M.set p (sc items k) ++ [c] := by
  unfold NN
  rw [List.set_append_right _ _ (by rw [List.length_set]; exact Nat.le_refl _), List.length_set, Nat.sub_self]
  rfl
theorem NN_app {v : W} (h : vs.length + 1 ≤ 100000) : appCell (NN M p items k vs) (.loc M.length) v = some (NN M p items k (vs ++ [v])) := by
  show (match (NN M p items k vs)[M.length]? with
    | some (.lst ws) => if szOk (ws.length + 1) then some ((NN M p items k vs).set M.length (.lst (ws ++ [v]))) else none
    | _ => none) = _
  rw [NN_top]
  show (if szOk (vs.length + 1) then some ((NN M p items k vs).set M.length (.lst (vs ++ [v]))) else none) = _
  rw [show szOk (vs.length + 1) = true from decide_eq_true h, NN_put]
  rfl
theorem NN_isl : isLst (NN M p items k vs) (.loc M.length) = true := by
  show (match (NN M p items k vs)[M.length]? with
    | some (.lst _) => true
    | _ => false) = true
  rw [NN_top]
theorem NN_rd : rd (NN M p items k vs) (.loc M.length) = .loc M.length := by
  show (match (NN M p items k vs)[M.length]? with
    | some (.fz d) => W.p d
    | _ => .loc M.length) = _
  rw [NN_top]
theorem NN_len : bltW (NN M p items k vs) .len [.loc M.length] = some (.p (.int (vs.length : Int))) := by
  show ((W.items (NN M p items k vs) (.loc M.length)).map fun ws => W.p (.int ws.length)) = _
  have : W.items (NN M p items k vs) (.loc M.length) = some vs := by
    show (match (NN M p items k vs)[M.length]? with
      | some (.lst ws) => some ws
      | some (.fz (.lst ds)) => some (ds.map .p)
      | _ => none) = _
    rw [NN_top]
  rw [this]; rfl
theorem frzWs_p : ∀ (ds : List D) (n : Nat) (M : Mem), ds.length ≤ n → frzWs n M (ds.map W.p) = some (ds, M)
  | [], n, M, _ => by cases n <;> rfl
  | d :: ds, 0, M, h => by simp at h
  | d :: ds, n + 1, M, h => by
    have e := frzWs_p ds n M (by simpa using h)
    have f : frzW n M (.p d) = some (d, M) := by cases n <;> rfl
    show (match frzW n M (.p d) with
      | some (d, M') => (frzWs n M' (ds.map W.p)).map fun r : List D × Mem => (d :: r.1, r.2)
      | none => none) = _
    rw [f]
    show (frzWs n M (ds.map W.p)).map _ = _
    rw [e]; rfl
theorem NN_frz {ds : List D} (h : ds.length ≤ 29000) : frzW 30000 (NN M p items k (ds.map W.p)) (.loc M.length) = some (.lst ds, M.set p (sc items k) ++ [.fz (.lst ds)]) := by
  have e : frzW 30000 (NN M p items k (ds.map W.p)) (.loc M.length) = (match (NN M p items k (ds.map W.p))[M.length]? with
    | some (.fz d) => some (d, NN M p items k (ds.map W.p))
    | some (.lst ws) => match frzWs 29999 (NN M p items k (ds.map W.p)) ws with
      | some (ds, M') => if M'[M.length]? = some (.lst ws) then some (.lst ds, M'.set M.length (.fz (.lst ds))) else none
      | none => none
    | some (.ins c ns ws) => match frzWs 29999 (NN M p items k (ds.map W.p)) ws with
      | some (ds, M') => if M'[M.length]? = some (.ins c ns ws) then some (.obj c ns ds, M'.set M.length (.fz (.obj c ns ds))) else none
      | none => none
    | _ => none) := rfl
  rw [e, NN_top]
  dsimp only
  rw [frzWs_p ds 29999 _ (by omega)]
  dsimp only
  rw [if_pos NN_top, NN_put]
theorem take_s {α : Type} {xs : List α} {k : Nat} {x : α} (h : xs[k]? = some x) : xs.take (k + 1) = xs.take k ++ [x] := by
  rw [List.take_add_one, h]; rfl
theorem vw_s {w : List Nat} (h : items[k]? = some w) : vw (items.take (k + 1)) = vw (items.take k) ++ [.p (resW w)] := by
  unfold vw
  rw [take_s h, List.map_append]; rfl
end
def ciT : G.Ex := .and (.cmp .isn (.mc 4 26 (.var 0) []) .non) (.cmp .ne (.mc 4 26 (.var 0) []) (.glob 2))
def ciB : List G.St := [.ifs (.cmp .eq (.blt .len [(.var 1)]) (.glob 5)) [.expr (.mc 4 27 (.var 0) [])] [], .app (.var 1) (.mc 4 31 (.var 0) [])]
theorem drop_at {α : Type} {xs : List α} {k : Nat} {x : α} {r : List α} (h : xs.drop k = x :: r) : k < xs.length ∧ xs[k]? = some x ∧ xs.drop (k + 1) = r := by
  have hl : k < xs.length := by
    refine Nat.lt_of_not_le fun q => ?_
    rw [List.drop_eq_nil_iff.mpr q] at h
    cases h
  refine ⟨hl, ?_, ?_⟩
  · have := List.getElem?_drop (xs := xs) (i := k) (j := 0)
    rw [h] at this
    simpa using this.symm
  · have := List.drop_drop (i := 1) (j := k) (l := xs)
    rw [h] at this
    simpa [Nat.add_comm] using this.symm
section
variable {M : Mem} {items : List (List Nat)} {p : Nat}
theorem app_ev {C : Calls} {o x : G.Ex} {env : Env} {M M1 M2 M3 : Mem} {a v : W} (h1 : ev Pr C o env M = .ok a M1) (h2 : isLst M1 a = true) (h3 : ev Pr C x env M1 = .ok v M2) (h4 : appCell M2 a v = some M3) : ex Pr C (.app o x) env M = .nx env M3 := by
  have e : ex Pr C (.app o x) env M = (ev Pr C o env M).st env fun a M => if isLst M a then (ev Pr C x env M).st env fun v M => match appCell M a v with
    | some M' => .nx env M'
    | none => .bad
    else .bad := rfl
  rw [e, h1, Res.st_ok, if_pos h2, h3, Res.st_ok, h4]
theorem app_x {C : Calls} {o x : G.Ex} {env : Env} {M M1 M2 : Mem} {a : W} {c : Nat} {ns : List Nat} {vs : List D} (h1 : ev Pr C o env M = .ok a M1) (h2 : isLst M1 a = true) (h3 : ev Pr C x env M1 = .exc c ns vs M2) : ex Pr C (.app o x) env M = .exc c ns vs env M2 := by
  have e : ex Pr C (.app o x) env M = (ev Pr C o env M).st env fun a M => if isLst M a then (ev Pr C x env M).st env fun v M => match appCell M a v with
    | some M' => .nx env M'
    | none => .bad
    else .bad := rfl
  rw [e, h1, Res.st_ok, if_pos h2, h3]; rfl
theorem ci_loop {n : Nat} (hp : p < M.length) (hi : ∀ w ∈ items, w.length ≤ 100000) : ∀ (ws : List (List Nat)) (k fuel : Nat), items.drop k = ws → 0 < k → k ≤ 60 → k ≤ items.length → ws.length < fuel →
    whileL (ev Pr (callF Pr (n + 6)) ciT) (exs Pr (callF Pr (n + 6)) ciB) fuel [some (.loc p), some (.loc M.length)] (NN M p items k (vw (items.take k))) = match pc k ws with
      | .inl j => .exc 3 [3, 4] [.int 0, .int (j : Int)] [some (.loc p), some (.loc M.length)] (NN M p items j (vw (items.take j)))
      | .inr j => .nx [some (.loc p), some (.loc M.length)] (NN M p items j (vw (items.take j)))
  | [], k, 0, _, _, _, _, h => by omega
  | _ :: _, k, 0, _, _, _, _, h => by omega
  | [], k, f + 1, hd, hk0, hk, hkl, _ => by
    have hl : items.length ≤ k := List.drop_eq_nil_iff.mp hd
    have hh : items[k]? = none := List.getElem?_eq_none hl
    have ha := ahead_ev (n := n + 5) (env := [some (.loc p), some (.loc M.length)]) (v := 0) rfl (NN_at (items := items) (k := k) (vs := vw (items.take k)) hp)
    have e : ev Pr (callF Pr (n + 6)) ciT [some (.loc p), some (.loc M.length)] (NN M p items k (vw (items.take k))) = .ok (.p (.bl false)) (NN M p items k (vw (items.take k))) := by
      unfold ciT
      rw [ev_and, isn_non' ha, Res.bind_ok]
      unfold K06.hd
      rw [hh]
      rfl
    conv => lhs; unfold whileL
    rw [e]
    rfl
  | w :: r, k, f + 1, hd, hk0, hk, hkl, hf => by
    obtain ⟨hl, hw, hd2⟩ := drop_at hd
    have hwl : w.length ≤ 100000 := hi w (List.mem_of_getElem? hw)
    have hN := NN_at (M := M) (p := p) (items := items) (k := k) (vs := vw (items.take k)) hp
    have ha := ahead_ev (n := n + 5) (env := [some (.loc p), some (.loc M.length)]) (v := 0) rfl hN
    have hh : K06.hd items k = .str (sl w) := by unfold K06.hd; rw [hw]
    have e : ev Pr (callF Pr (n + 6)) ciT [some (.loc p), some (.loc M.length)] (NN M p items k (vw (items.take k))) = .ok (.p (.bl (!decide (w = [47])))) (NN M p items k (vw (items.take k))) := by
      unfold ciT
      rw [ev_and, isn_non' ha, Res.bind_ok, hh]
      show ev Pr (callF Pr (n + 6)) (.cmp .ne (.mc 4 26 (.var 0) []) (.glob 2)) _ _ = _
      rw [ev_cmp, ha, Res.bind_ok, hh]
      show Res.of ((cmpW (NN M p items k (vw (items.take k))) .ne (.p (.str (sl w))) (.p (.str (sl [47])))).map fun b => W.p (.bl b)) (NN M p items k (vw (items.take k))) = _
      rw [neS]; rfl
    conv => lhs; unfold whileL
    rw [e]
    unfold pc
    by_cases hb : w = [47]
    · rw [if_pos ⟨by omega, hb⟩, decide_eq_true hb]
      rfl
    · rw [if_neg (fun z => hb z.2), decide_eq_false hb]
      have lk : (vw (items.take k)).length = k := by unfold vw; rw [List.length_map, List.length_take]; omega
      have v1 : ev Pr (callF Pr (n + 6)) (.var 1) [some (.loc p), some (.loc M.length)] (NN M p items k (vw (items.take k))) = .ok (.loc M.length) (NN M p items k (vw (items.take k))) := by
        rw [ev_var]
        show Res.ok (rd _ (.loc M.length)) _ = _
        rw [NN_rd]
      have c : ev Pr (callF Pr (n + 6)) (.cmp .eq (.blt .len [(.var 1)]) (.glob 5)) [some (.loc p), some (.loc M.length)] (NN M p items k (vw (items.take k))) = .ok (.p (.bl (decide (k = 60)))) (NN M p items k (vw (items.take k))) := by
        rw [ev_cmp, ev_blt, evs_cons, v1, Res.bind_ok, evs_nil, Res.bind_ok, Res.bind_ok, NN_len, Res.of_some, Res.bind_ok, lk]
        show Res.of ((cmpW (NN M p items k (vw (items.take k))) .eq (.p (.int (k : Int))) (.p (.int 60))).map fun b => W.p (.bl b)) (NN M p items k (vw (items.take k))) = _
        rw [eqI]
        have : decide ((k : Int) = 60) = decide (k = 60) := decide_eq_decide.mpr (by omega)
        rw [this]; rfl
      dsimp only [tru, truD, Bool.not_false]
      by_cases h60 : k = 60
      · rw [if_pos h60]
        have eb : exs Pr (callF Pr (n + 6)) ciB [some (.loc p), some (.loc M.length)] (NN M p items k (vw (items.take k))) = .exc 3 [3, 4] [.int 0, .int (k : Int)] [some (.loc p), some (.loc M.length)] (NN M p items k (vw (items.take k))) := by
          unfold ciB
          rw [exs_cons, ex_ifs, c, decide_eq_true h60]
          show ((exs Pr (callF Pr (n + 6)) [.expr (.mc 4 27 (.var 0) [])] _ _).andT _) = _
          rw [exs_one, refuse_ex (n := n + 5) rfl hN]
          rfl
        rw [eb]
        rfl
      · rw [if_neg h60]
        have ct : ev Pr (callF Pr (n + 6)) (.mc 4 31 (.var 0) []) [some (.loc p), some (.loc M.length)] (NN M p items k (vw (items.take k))) = callF Pr (n + 6) 31 [.loc p] (NN M p items k (vw (items.take k))) := by
          rw [mc_ev rfl hN, evs_nil]; rfl
        cases hn : numb w with
        | true =>
          have tk := take_number_ok (n := n + 1) hN hw hwl hn
          rw [NN_set hp] at tk
          have eb : exs Pr (callF Pr (n + 6)) ciB [some (.loc p), some (.loc M.length)] (NN M p items k (vw (items.take k))) = .nx [some (.loc p), some (.loc M.length)] (NN M p items (k + 1) (vw (items.take (k + 1)))) := by
            unfold ciB
            rw [exs_cons, if_skip (by rw [c, decide_eq_false h60]), SR.andT_nx, exs_one, app_ev v1 NN_isl (ct.trans tk) (NN_app (by rw [lk]; omega)), ← vw_s hw]
          rw [eb]
          simp only [if_true]
          exact ci_loop hp hi r (k + 1) f hd2 (by omega) (by omega) (by omega) (by simp at hf; omega)
        | false =>
          have tk := take_number_no (n := n + 1) hN fun w' hw' => by rw [hw] at hw'; cases hw'; exact ⟨hn, hwl⟩
          have eb : exs Pr (callF Pr (n + 6)) ciB [some (.loc p), some (.loc M.length)] (NN M p items k (vw (items.take k))) = .exc 3 [3, 4] [.int 0, .int (k : Int)] [some (.loc p), some (.loc M.length)] (NN M p items k (vw (items.take k))) := by
            unfold ciB
            rw [exs_cons, if_skip (by rw [c, decide_eq_false h60]), SR.andT_nx, exs_one, app_x v1 NN_isl (ct.trans tk)]
          rw [eb]
          rfl
theorem all_set {α : Type} {f : α → Bool} {c : α} : ∀ {M : List α} {p : Nat}, M.all f = true → f c = true → (M.set p c).all f = true
  | [], _, h, _ => h
  | a :: M, 0, h, hc => by
    have h : (f a && M.all f) = true := h
    rw [Bool.and_eq_true] at h
    show (f c && M.all f) = true
    rw [hc, h.2]; rfl
  | a :: M, p + 1, h, hc => by
    have h : (f a && M.all f) = true := h
    rw [Bool.and_eq_true] at h
    show (f a && (M.set p c).all f) = true
    rw [h.1, all_set h.2 hc]; rfl
theorem pop_ok {w : W} {M M1 : Mem} {c : Cell} (hl : M1.length = M.length) (hw : belowW M.length w = true) (hb : M1.all (belowC M.length) = true) : popR M w (M1 ++ [c]) = .ok w M1 := by
  unfold popR
  rw [if_neg (by rw [List.length_append, hl]; simp), ← hl, List.take_left, hl, hw, hb]
  rfl
theorem pop_x {c' : Nat} {ns : List Nat} {vs : List D} {env : Env} {M M1 : Mem} {c : Cell} (hl : M1.length = M.length) (hb : M1.all (belowC M.length) = true) : fnR true M (.exc c' ns vs env (M1 ++ [c])) = .exc c' ns vs M1 := by
  have hlt : decide (M.length < (M1 ++ [c]).length) = true := decide_eq_true (by rw [List.length_append, hl]; simp)
  show (if true && decide (M.length < (M1 ++ [c]).length) then (if ((M1 ++ [c]).take M.length).all (belowC M.length) then Res.exc c' ns vs ((M1 ++ [c]).take M.length) else .bad) else .exc c' ns vs (M1 ++ [c])) = _
  rw [hlt, ← hl, List.take_left, hl, hb]
  rfl
theorem below_sc {n k : Nat} : belowC n (sc items k) = true := rfl
theorem costs_in_run {n : Nat} (hM : M[p]? = some (sc items 0)) (hB : M.all (belowC M.length) = true) (hi : ∀ w ∈ items, w.length ≤ 100000) (hil : items.length ≤ 90001) (hne : items ≠ []) :
    callF Pr (n + 7) 13 [.loc p] M = match pc 0 items with
      | .inl j => .exc 3 [3, 4] [.int 0, .int (j : Int)] (M.set p (sc items j))
      | .inr j => .ok (.p (.lst ((items.take j).map resW))) (M.set p (sc items j)) := by
  have hp : p < M.length := (List.getElem?_eq_some_iff.mp hM).1
  obtain ⟨w, r, hit⟩ : ∃ w r, items = w :: r := by
    cases items with
    | nil => exact absurd rfl hne
    | cons w r => exact ⟨w, r, rfl⟩
  have hw : items[0]? = some w := by rw [hit]; rfl
  have hwl : w.length ≤ 100000 := hi w (List.mem_of_getElem? hw)
  rw [call_s (d := ⟨1, 2, true, b_costs_in⟩) rfl rfl]
  show fnR true M (exs Pr (callF Pr (n + 6)) [.asg 1 (.lstL [(.mc 4 31 (.var 0) [])]), .while_ ciT ciB, .ret (.fz (.var 1))] [some (.loc p), none] M) = _
  have ct : ev Pr (callF Pr (n + 6)) (.mc 4 31 (.var 0) []) [some (.loc p), none] M = callF Pr (n + 6) 31 [.loc p] M := by
    rw [mc_ev rfl hM, evs_nil]; rfl
  have hp0 : pc 0 items = if numb w = true then pc 1 r else .inl 0 := by
    rw [hit]
    conv => lhs; unfold pc
    rw [if_neg (fun z => z.1 rfl), if_neg (by decide)]
  rw [hp0]
  have b1 : ∀ j, (M.set p (sc items j)).all (belowC M.length) = true := fun j => all_set hB below_sc
  cases hn : numb w with
  | false =>
    have tk := take_number_no (n := n + 1) hM fun w' hw' => by rw [hw] at hw'; cases hw'; exact ⟨hn, hwl⟩
    rw [exs_cons, ex_asg, ev_lstL, evs_cons, ct, tk]
    show fnR true M (.exc 3 [3, 4] [.int 0, .int ((0 : Nat) : Int)] _ M) = _
    rw [fin_x]
    simp only [Bool.false_eq_true, if_false]
    have : M.set p (sc items 0) = M := by
      refine List.ext_getElem? fun i => ?_
      by_cases q : p = i
      · subst q
        rw [List.getElem?_set_self hp, hM]
      · rw [List.getElem?_set_ne q]
    rw [this]
  | true =>
    have tk := take_number_ok (n := n + 1) hM hw hwl hn
    have v0 : vw (items.take 1) = [.p (resW w)] := by rw [hit]; rfl
    have lp := ci_loop (n := n) (M := M) (p := p) (items := items) hp hi r 1 Pr.fuel (by rw [hit]; rfl) (by decide) (by decide) (by rw [hit]; simp) (by have := fuel_big; rw [hit] at hil; simp at hil; omega)
    rw [exs_cons, ex_asg, ev_lstL, evs_cons, ct, tk, Res.bind_ok, evs_nil, Res.bind_ok, Res.bind_ok, Res.st_ok, SR.andT_nx, List.length_set]
    show fnR true M (exs Pr (callF Pr (n + 6)) [.while_ ciT ciB, .ret (.fz (.var 1))] [some (.loc p), some (.loc M.length)] (M.set p (sc items 1) ++ [.lst [.p (resW w)]])) = _
    have e0 : M.set p (sc items 1) ++ [.lst [.p (resW w)]] = NN M p items 1 (vw (items.take 1)) := by rw [v0]; rfl
    rw [e0, exs_cons, ex_while, lp]
    simp only [if_true]
    cases hq : pc 1 r with
    | inl j =>
      show fnR true M (.exc 3 [3, 4] [.int 0, .int (j : Int)] _ (M.set p (sc items j) ++ [_])) = _
      rw [pop_x (List.length_set ..) (b1 j)]
    | inr j =>
      obtain ⟨j0, j1, j2⟩ := (pc_ok r 1 (by decide)).1 j hq
      show fnR true M (exs Pr (callF Pr (n + 6)) [.ret (.fz (.var 1))] [some (.loc p), some (.loc M.length)] (NN M p items j (vw (items.take j)))) = _
      have e1 : vw (items.take j) = ((items.take j).map resW).map W.p := by unfold vw; rw [List.map_map]; rfl
      have ef : ev Pr (callF Pr (n + 6)) (.fz (.var 1)) [some (.loc p), some (.loc M.length)] (NN M p items j (vw (items.take j))) = .ok (.p (.lst ((items.take j).map resW))) (M.set p (sc items j) ++ [.fz (.lst ((items.take j).map resW))]) := by
        have v1 : ev Pr (callF Pr (n + 6)) (.var 1) [some (.loc p), some (.loc M.length)] (NN M p items j (vw (items.take j))) = .ok (.loc M.length) (NN M p items j (vw (items.take j))) := by
          rw [ev_var]
          show Res.ok (rd _ (.loc M.length)) _ = _
          rw [NN_rd]
        show (ev Pr (callF Pr (n + 6)) (.var 1) _ _).bind _ = _
        rw [v1, Res.bind_ok, e1, NN_frz (by rw [List.length_map, List.length_take]; omega)]
      rw [exs_one, ex_ret, ef]
      show popR M _ (M.set p (sc items j) ++ [_]) = _
      exact pop_ok (List.length_set ..) rfl (b1 j)
end
end K06

set_option maxHeartbeats 4000000
namespace K06
open G
/-! a program's parts -/
abbrev Cn := List D × List Nat × D
def condL (q : Cn) : D := .tup [.lst q.1, .str (sl q.2.1), q.2.2]
def condT (q : Cn) : D := .tup [.tup q.1, .str (sl q.2.1), q.2.2]
def nums (ds : List D) : Prop := ∀ d ∈ ds, isNum d
def okC (m : Nat) (q : Cn) : Prop := q.1.length = m ∧ nums q.1 ∧ isWd q.2.1 = true ∧ isNum q.2.2
def objP (cs : List D) (qs : List Cn) : D := .obj 5 [7, 8] [.tup cs, .tup (qs.map condT)]
theorem okVs_nums : ∀ {ds : List D}, nums ds → okVs ds = true
  | [], _ => rfl
  | d :: ds, h => by
    show (okV d && okVs ds) = true
    rw [okV_num (h d List.mem_cons_self), okVs_nums fun x hx => h x (List.mem_cons_of_mem _ hx)]; rfl
theorem okV_row {ds : List D} (h : nums ds) (hl : ds.length ≤ 60) : okV (.lst ds) = true := by
  show (decide (ds.length ≤ 100) && okVs ds) = true
  rw [decide_eq_true (by omega), okVs_nums h]; rfl
theorem okV_cond {m : Nat} {q : Cn} (h : okC m q) (hm : m ≤ 60) : okV (condL q) = true := by
  obtain ⟨h1, h2, h3, h4⟩ := h
  show (decide ((3 : Nat) ≤ 100) && (okV (.lst q.1) && (okV (.str (sl q.2.1)) && (okV q.2.2 && true)))) = true
  rw [okV_row h2 (by omega), okV_num h4]; rfl
theorem okVs_conds {m : Nat} (hm : m ≤ 60) : ∀ {qs : List Cn}, (∀ q ∈ qs, okC m q) → okVs (qs.map condL) = true
  | [], _ => rfl
  | q :: qs, h => by
    show (okV (condL q) && okVs (qs.map condL)) = true
    rw [okV_cond (h q List.mem_cons_self) hm, okVs_conds hm fun x hx => h x (List.mem_cons_of_mem _ hx)]; rfl
section
variable {M : Mem}
theorem is_row_run {n m : Nat} {ds : List D} (h : nums ds) (hl : ds.length = m) (hm : m ≤ 60) : callF Pr (n + 4) 5 [.p (.lst ds), .p (.int (m : Int))] M = .ok (.p (.bl true)) M := by
  rw [← fin_t, call_s (d := ⟨2, 3, true, b_is_row⟩) rfl rfl]
  show fnR true M (exs Pr (callF Pr (n + 3)) b_is_row [some (.p (.lst ds)), some (.p (.int (m : Int))), none] M) = _
  congr 1
  have ok := okV_row h (by omega)
  have c1 : ev Pr (callF Pr (n + 3)) (.call 2 [(.var 0)] [] []) [some (.p (.lst ds)), some (.p (.int (m : Int))), none] M = .ok (.p (.bl true)) M := is_list_run (n := n + 2) ok
  have c2 : ev Pr (callF Pr (n + 3)) (.cmp .eq (.blt .len [(.var 0)]) (.var 1)) [some (.p (.lst ds)), some (.p (.int (m : Int))), none] M = .ok (.p (.bl true)) M := by
    rw [len_cmp (d := .lst ds) (m := (m : Int)) rfl rfl rfl]
    rw [decide_eq_true (show (((its (.lst ds)).length : Nat) : Int) = m by show ((ds.length : Nat) : Int) = m; omega)]
  have c3 : ev Pr (callF Pr (n + 3)) (.blt .all [(.comp (.call 4 [(.var 2)] [] []) [2] (.nm 2) (.it (.var 0)) [])]) [some (.p (.lst ds)), some (.p (.int (m : Int))), none] M = .ok (.p (.bl true)) M := by
    rw [comp_all (C := callF Pr (n + 3)) (env := [some (.p (.lst ds)), some (.p (.int (m : Int))), none]) (M := M) (elt := .call 4 [(.var 2)] [] []) (it := .it (.var 0)) (s := 2) (w := .p (.lst ds)) (ds := ds) (fun _ => true) rfl rfl fun x hx => isnum_run (n := n) (M := M) (h x hx)]
    congr 3
    exact List.all_eq_true.mpr fun _ _ => rfl
  unfold b_is_row
  rw [exs_one, ex_ret, ev_and, c1, Res.bind_ok]
  show (ev Pr (callF Pr (n + 3)) (.and _ _) _ M).st _ _ = _
  rw [ev_and, c2, Res.bind_ok]
  show (ev Pr (callF Pr (n + 3)) (.blt .all _) _ M).st _ _ = _
  rw [c3]
  rfl
theorem is_condition_run {n m : Nat} {q : Cn} (h : okC m q) (hm : m ≤ 60) : callF Pr (n + 5) 12 [.p (condL q), .p (.int (m : Int))] M = .ok (.p (.bl true)) M := by
  have ok := okV_cond h hm
  obtain ⟨h1, h2, h3, h4⟩ := h
  rw [← fin_t, call_s (d := ⟨2, 2, true, b_is_condition⟩) rfl rfl]
  show fnR true M (exs Pr (callF Pr (n + 4)) b_is_condition [some (.p (condL q)), some (.p (.int (m : Int)))] M) = _
  congr 1
  have c1 : ev Pr (callF Pr (n + 4)) (.not (.call 2 [(.var 0)] [] [])) [some (.p (condL q)), some (.p (.int (m : Int)))] M = .ok (.p (.bl false)) M := by
    rw [ev_not]
    show (callF Pr (n + 4) 2 [.p (condL q)] M).bind _ = _
    rw [is_list_run ok]
    rfl
  have c4 : ev Pr (callF Pr (n + 4)) (.call 5 [(.idx (.var 0) (.int 0)), (.var 1)] [] []) [some (.p (condL q)), some (.p (.int (m : Int)))] M = .ok (.p (.bl true)) M := is_row_run (n := n) h2 h1 hm
  have c5 : ev Pr (callF Pr (n + 4)) (.cmp .inn (.idx (.var 0) (.int 1)) (.tup [(.glob 3), (.glob 4)])) [some (.p (condL q)), some (.p (.int (m : Int)))] M = .ok (.p (.bl true)) M := by
    have z : cmpW M .inn (.p (.str (sl q.2.1))) (.p (.tup [.str "least", .str "just"])) = some true := cmp_p (by
      show memD (.str (sl q.2.1)) [.str "least", .str "just"] = _
      rw [mem_wd, h3])
    show Res.of ((cmpW M .inn (.p (.str (sl q.2.1))) (.p (.tup [.str "least", .str "just"]))).map fun b => W.p (.bl b)) M = _
    rw [z]; rfl
  have c6 : ev Pr (callF Pr (n + 4)) (.call 4 [(.idx (.var 0) (.int 2))] [] []) [some (.p (condL q)), some (.p (.int (m : Int)))] M = .ok (.p (.bl true)) M := isnum_run (n := n + 1) h4
  unfold b_is_condition
  rw [exs_cons, if_skip (by rw [ev_or, c1]; rfl), SR.andT_nx, exs_one, ex_ret, ev_and, c4, Res.bind_ok]
  show (ev Pr (callF Pr (n + 4)) (.and _ _) _ M).st _ _ = _
  rw [ev_and, c5, Res.bind_ok]
  show (ev Pr (callF Pr (n + 4)) (.call 4 _ _ _) _ M).st _ _ = _
  rw [c6]
  rfl
theorem kept_row_run {n : Nat} {ds : List D} (h : nums ds) : callF Pr (n + 2) 7 [.p (.lst ds)] M = .ok (.p (.tup ds)) M := by
  rw [← fin_d, call_s (d := ⟨1, 2, true, b_kept_row⟩) rfl rfl]
  show fnR true M (exs Pr (callF Pr (n + 1)) b_kept_row [some (.p (.lst ds)), none] M) = _
  congr 1
  have c : ev Pr (callF Pr (n + 1)) (.comp (.call 6 [(.var 1)] [] []) [1] (.nm 1) (.it (.var 0)) []) [some (.p (.lst ds)), none] M = .ok (.p (.lst (ds.map fun d => d))) M := comp_val (w := .p (.lst ds)) (ds := ds) (fun d => d) rfl rfl fun x hx => ⟨_, rfl, kept_run (n := n) (h x hx)⟩
  rw [List.map_id'] at c
  unfold b_kept_row
  rw [exs_one, ex_ret, ev_blt, evs_cons, c, Res.bind_ok, evs_nil, Res.bind_ok, Res.bind_ok]
  show (Res.of (some (mkTup (ds.map W.p))) M).st _ _ = _
  rw [mkTup_p]
  rfl
theorem set_obj {C : Calls} {env : Env} {e : G.Ex} {q f : Nat} {ns : List Nat} {ws : List W} {d : D} (hv : getV env 0 = some (.loc q)) (hq : M[q]? = some (.ins 5 ns ws)) (he : ev Pr C e env M = .ok (.p d) M) (hf : (fldOk Pr 5 f false && ns.all (fun g => fldOk Pr 5 g false) && decide (ns.length < 900) && decide (ns.Nodup)) = true) :
    ex Pr C (.setA (.var 0) f e) env M = .nx env (M.set q (.ins 5 (putA f (.p d) ns ws).1 (putA f (.p d) ns ws).2)) := by
  have e2 : ex Pr C (.setA (.var 0) f e) env M = (ev Pr C e env M).st env fun v' M => (ev Pr C (.var 0) env M).st env fun a M => match attCell Pr M a f v' with
    | some M' => .nx env M'
    | none => .bad := rfl
  have v0 : ev Pr C (.var 0) env M = .ok (.loc q) M := by
    rw [ev_var, hv]
    show Res.ok (match M[q]? with
      | some (.fz d) => W.p d
      | _ => .loc q) M = _
    rw [hq]
  have e3 : attCell Pr M (.loc q) f (.p d) = some (M.set q (.ins 5 (putA f (.p d) ns ws).1 (putA f (.p d) ns ws).2)) := by
    show (match M[q]? with
      | some (.ins c ns ws) => if fldOk Pr c f false && ns.all (fun g => fldOk Pr c g false) && decide (ns.length < 900) && decide (ns.Nodup) then some (M.set q (.ins c (putA f (.p d) ns ws).1 (putA f (.p d) ns ws).2)) else none
      | _ => none) = _
    rw [hq]
    dsimp only
    rw [if_pos hf]
  rw [e2, he, Res.st_ok, v0, Res.st_ok, e3]
theorem init_run {n q : Nat} {cs : List D} {qs : List Cn} (hq : M[q]? = some (.ins 5 [] [])) (h : nums cs) (h0 : cs ≠ []) (hl : cs.length ≤ 60) (hc : ∀ x ∈ qs, okC cs.length x) (hcl : qs.length ≤ 60) :
    callF Pr (n + 6) 32 [.loc q, .p (.lst cs), .p (.lst (qs.map condL))] M = .ok (.p .non) (M.set q (.ins 5 [7, 8] [.p (.tup cs), .p (.tup (qs.map condT))])) := by
  have hql : q < M.length := (List.getElem?_eq_some_iff.mp hq).1
  rw [call_s (d := ⟨3, 7, false, b_m_Program_init⟩) rfl rfl]
  obtain ⟨env, he⟩ : ∃ env : Env, env = [some (.loc q), some (.p (.lst cs)), some (.p (.lst (qs.map condL))), none, none, none, none] := ⟨_, rfl⟩
  show fnR false M (exs Pr (callF Pr (n + 5)) b_m_Program_init [some (.loc q), some (.p (.lst cs)), some (.p (.lst (qs.map condL))), none, none, none, none] M) = _
  rw [← he]
  have okc := okV_row h hl
  have okq : okV (.lst (qs.map condL)) = true := by
    show (decide ((qs.map condL).length ≤ 100) && okVs (qs.map condL)) = true
    rw [decide_eq_true (by rw [List.length_map]; omega), okVs_conds hl hc]; rfl
  have v1 : ∀ M : Mem, ev Pr (callF Pr (n + 5)) (.var 1) env M = .ok (.p (.lst cs)) M := fun M => by rw [he]; rfl
  have v2 : ∀ M : Mem, ev Pr (callF Pr (n + 5)) (.var 2) env M = .ok (.p (.lst (qs.map condL))) M := fun M => by rw [he]; rfl
  have l1 : ev Pr (callF Pr (n + 5)) (.blt .len [(.var 1)]) env M = .ok (.p (.int (cs.length : Int))) M := by
    rw [ev_blt, evs_cons, v1, Res.bind_ok, evs_nil, Res.bind_ok, Res.bind_ok, len_lst]; rfl
  have l2 : ev Pr (callF Pr (n + 5)) (.blt .len [(.var 2)]) env M = .ok (.p (.int (qs.length : Int))) M := by
    rw [ev_blt, evs_cons, v2, Res.bind_ok, evs_nil, Res.bind_ok, Res.bind_ok, len_lst, List.length_map]; rfl
  have lis : ∀ (v : Nat) (d : D), ev Pr (callF Pr (n + 5)) (.var v) env M = .ok (.p d) M → okV d = true → some_ d = true → ev Pr (callF Pr (n + 5)) (.not (.call 2 [(.var v)] [] [])) env M = .ok (.p (.bl false)) M := fun v d hv hd hs => by
    rw [ev_not, ev_call, evs_cons, hv, Res.bind_ok, evs_nil, Res.bind_ok, Res.bind_ok, evs_nil, Res.bind_ok]
    show (callF Pr (n + 5) 2 [.p d] M).bind _ = _
    rw [is_list_run hd, hs]
    rfl
  have c1 : ev Pr (callF Pr (n + 5)) (.or (.not (.call 2 [(.var 1)] [] [])) (.or (.cmp .eq (.blt .len [(.var 1)]) (.int 0)) (.not (.call 5 [(.var 1), (.blt .len [(.var 1)])] [] [])))) env M = .ok (.p (.bl false)) M := by
    rw [ev_or, lis 1 _ (v1 M) okc rfl, Res.bind_ok]
    show ev Pr (callF Pr (n + 5)) (.or _ _) env M = _
    have z : ev Pr (callF Pr (n + 5)) (.cmp .eq (.blt .len [(.var 1)]) (.int 0)) env M = .ok (.p (.bl false)) M := by
      rw [ev_cmp, l1, Res.bind_ok, ev_int, Res.bind_ok, eqI]
      have : 0 < cs.length := List.length_pos_iff.mpr h0
      rw [decide_eq_false (by omega)]; rfl
    rw [ev_or, z, Res.bind_ok]
    show ev Pr (callF Pr (n + 5)) (.not _) env M = _
    rw [ev_not, ev_call, evs_cons, v1, Res.bind_ok, evs_cons, l1, Res.bind_ok, evs_nil, Res.bind_ok, Res.bind_ok, Res.bind_ok, evs_nil, Res.bind_ok]
    show (callF Pr (n + 5) 5 [.p (.lst cs), .p (.int (cs.length : Int))] M).bind _ = _
    rw [is_row_run (n := n + 1) h rfl hl]
    rfl
  have c2 : ev Pr (callF Pr (n + 5)) (.or (.not (.call 2 [(.var 2)] [] [])) (.not (.blt .all [(.comp (.call 12 [(.var 6), (.blt .len [(.var 1)])] [] []) [6] (.nm 6) (.it (.var 2)) [])]))) env M = .ok (.p (.bl false)) M := by
    rw [ev_or, lis 2 _ (v2 M) okq rfl, Res.bind_ok]
    show ev Pr (callF Pr (n + 5)) (.not _) env M = _
    have z := comp_all (C := callF Pr (n + 5)) (env := env) (M := M) (elt := .call 12 [(.var 6), (.blt .len [(.var 1)])] [] []) (it := .it (.var 2)) (s := 6) (w := .p (.lst (qs.map condL))) (ds := qs.map condL) (fun _ => true) (v2 M) rfl fun x hx => by
      obtain ⟨y, hy, rfl⟩ := List.mem_map.mp hx
      rw [he]
      have : evs Pr (callF Pr (n + 5)) [(.var 6), (.blt .len [(.var 1)])] (([some (.loc q), some (.p (.lst cs)), some (.p (.lst (qs.map condL))), none, none, none, none] : Env).set 6 none |>.set 6 (some (.p (condL y)))) M = .ok [.p (condL y), .p (.int (cs.length : Int))] M := by
        rw [evs_cons]
        show Res.bind (Res.ok (W.p (condL y)) M) _ = _
        rw [Res.bind_ok, evs_cons, ev_blt, evs_cons]
        show Res.bind (Res.bind (Res.of (bltW M .len [.p (.lst cs)]) M) _) _ = _
        rw [len_lst]
        rfl
      rw [ev_call, this]
      exact is_condition_run (n := n) (hc y hy) hl
    rw [ev_not, z, List.all_eq_true.mpr fun _ _ => rfl]
    rfl
  have c3 : ev Pr (callF Pr (n + 5)) (.cmp .gt (.blt .len [(.var 1)]) (.glob 5)) env M = .ok (.p (.bl false)) M := by
    rw [ev_cmp, l1, Res.bind_ok]
    show Res.of ((cmpW M .gt (.p (.int (cs.length : Int))) (.p (.int 60))).map fun b => W.p (.bl b)) M = _
    have z : cmpW M .gt (.p (.int (cs.length : Int))) (.p (.int 60)) = some (decide ((60 : Int) < (cs.length : Int))) := rfl
    rw [z, decide_eq_false (by omega)]; rfl
  have c4 : ev Pr (callF Pr (n + 5)) (.cmp .gt (.blt .len [(.var 2)]) (.glob 6)) env M = .ok (.p (.bl false)) M := by
    rw [ev_cmp, l2, Res.bind_ok]
    show Res.of ((cmpW M .gt (.p (.int (qs.length : Int))) (.p (.int 60))).map fun b => W.p (.bl b)) M = _
    have z : cmpW M .gt (.p (.int (qs.length : Int))) (.p (.int 60)) = some (decide ((60 : Int) < (qs.length : Int))) := rfl
    rw [z, decide_eq_false (by omega)]; rfl
  have s7 : ex Pr (callF Pr (n + 5)) (.setA (.var 0) 7 (.call 7 [(.var 1)] [] [])) env M = .nx env (M.set q (.ins 5 [7] [.p (.tup cs)])) := by
    refine set_obj (by rw [he]; rfl) hq ?_ (by decide)
    rw [ev_call, evs_cons, v1, Res.bind_ok, evs_nil, Res.bind_ok, Res.bind_ok, evs_nil, Res.bind_ok]
    exact kept_row_run (n := n + 3) h
  obtain ⟨M1, hM1⟩ : ∃ M1 : Mem, M1 = M.set q (.ins 5 [7] [.p (.tup cs)]) := ⟨_, rfl⟩
  have hq1 : M1[q]? = some (.ins 5 [7] [.p (.tup cs)]) := by rw [hM1, List.getElem?_set_self hql]
  have cv : ev Pr (callF Pr (n + 5)) (.comp (.tup [(.call 7 [(.var 3)] [] []), (.var 4), (.call 6 [(.var 5)] [] [])]) [3, 4, 5] (.tp [.nm 3, .nm 4, .nm 5]) (.it (.var 2)) []) env M1 = .ok (.p (.lst (qs.map condT))) M1 := by
    have z := comp_val (C := callF Pr (n + 5)) (env := env) (M := M1) (elt := .tup [(.call 7 [(.var 3)] [] []), (.var 4), (.call 6 [(.var 5)] [] [])]) (it := .it (.var 2)) (own := [3, 4, 5]) (t := .tp [.nm 3, .nm 4, .nm 5]) (w := .p (.lst (qs.map condL))) (ds := qs.map condL) (fun d => match d with
      | .tup [.lst r, w, x] => .tup [.tup r, w, x]
      | _ => .non) (v2 M1) rfl fun x hx => by
        obtain ⟨y, hy, rfl⟩ := List.mem_map.mp hx
        obtain ⟨y1, y2, y3, y4⟩ := hc y hy
        refine ⟨[some (.loc q), some (.p (.lst cs)), some (.p (.lst (qs.map condL))), some (.p (.lst y.1)), some (.p (.str (sl y.2.1))), some (.p y.2.2), none], by rw [he]; rfl, ?_⟩
        have k1 : ev Pr (callF Pr (n + 5)) (.call 7 [(.var 3)] [] []) [some (.loc q), some (.p (.lst cs)), some (.p (.lst (qs.map condL))), some (.p (.lst y.1)), some (.p (.str (sl y.2.1))), some (.p y.2.2), none] M1 = .ok (.p (.tup y.1)) M1 := kept_row_run (n := n + 3) y2
        have k2 : ev Pr (callF Pr (n + 5)) (.call 6 [(.var 5)] [] []) [some (.loc q), some (.p (.lst cs)), some (.p (.lst (qs.map condL))), some (.p (.lst y.1)), some (.p (.str (sl y.2.1))), some (.p y.2.2), none] M1 = .ok (.p y.2.2) M1 := kept_run (n := n + 4) y4
        rw [ev_tup, evs_cons, k1, Res.bind_ok, evs_cons]
        show Res.bind (Res.bind (Res.bind (Res.ok (W.p (.str (sl y.2.1))) M1) _) _) _ = _
        rw [Res.bind_ok, evs_cons, k2, Res.bind_ok]
        rfl
    rw [z, List.map_map]
    rfl
  have s8 : ex Pr (callF Pr (n + 5)) (.setA (.var 0) 8 (.blt .tuple [(.comp (.tup [(.call 7 [(.var 3)] [] []), (.var 4), (.call 6 [(.var 5)] [] [])]) [3, 4, 5] (.tp [.nm 3, .nm 4, .nm 5]) (.it (.var 2)) [])])) env M1 = .nx env (M.set q (.ins 5 [7, 8] [.p (.tup cs), .p (.tup (qs.map condT))])) := by
    have z := set_obj (C := callF Pr (n + 5)) (env := env) (e := .blt .tuple [(.comp (.tup [(.call 7 [(.var 3)] [] []), (.var 4), (.call 6 [(.var 5)] [] [])]) [3, 4, 5] (.tp [.nm 3, .nm 4, .nm 5]) (.it (.var 2)) [])]) (f := 8) (d := .tup (qs.map condT)) (by rw [he]; rfl) hq1 (by
      rw [ev_blt, evs_cons, cv, Res.bind_ok, evs_nil, Res.bind_ok, Res.bind_ok]
      show Res.of (some (mkTup ((qs.map condT).map W.p))) M1 = _
      rw [mkTup_p]
      rfl) (by decide)
    rw [z, hM1, List.set_set]
    rfl
  unfold b_m_Program_init
  rw [exs_cons, if_skip c1, SR.andT_nx, exs_cons, if_skip c2, SR.andT_nx, exs_cons, if_skip c3, SR.andT_nx, exs_cons, if_skip c4, SR.andT_nx, exs_cons, s7, SR.andT_nx, exs_one, ← hM1, s8]
  rfl
/-- an instance made, and fixed -/
theorem new_ev {n : Nat} {env : Env} {e1 e2 : G.Ex} {M2 : Mem} {cs : List D} {qs : List Cn} (he : evs Pr (callF Pr (n + 6)) [e1, e2] env M = .ok [.p (.lst cs), .p (.lst (qs.map condL))] M2) (h : nums cs) (h0 : cs ≠ []) (hl : cs.length ≤ 60) (hc : ∀ x ∈ qs, okC cs.length x) (hcl : qs.length ≤ 60) :
    ev Pr (callF Pr (n + 6)) (.fz (.new 5 32 [e1, e2] [] [])) env M = .ok (.p (objP cs qs)) (M2 ++ [.fz (objP cs qs)]) := by
  have e : ev Pr (callF Pr (n + 6)) (.new 5 32 [e1, e2] [] []) env M = (evs Pr (callF Pr (n + 6)) [e1, e2] env M).bind fun ws M => (evs Pr (callF Pr (n + 6)) [] env M).bind fun us M =>
    (callF Pr (n + 6) 32 (.loc M.length :: permW (ws ++ us) []) (M ++ [.ins 5 [] []])).bind fun w M' => match w with
      | .p .non => .ok (.loc M.length) M'
      | _ => .bad := rfl
  have hq : (M2 ++ [.ins 5 [] []])[M2.length]? = some (.ins 5 [] []) := by
    rw [List.getElem?_append_right (Nat.le_refl _), Nat.sub_self]; rfl
  have ir := init_run (n := n) hq h h0 hl hc hcl
  have st : (M2 ++ [Cell.ins 5 [] []]).set M2.length (.ins 5 [7, 8] [.p (.tup cs), .p (.tup (qs.map condT))]) = M2 ++ [.ins 5 [7, 8] [.p (.tup cs), .p (.tup (qs.map condT))]] := by
    rw [List.set_append_right _ _ (Nat.le_refl _), Nat.sub_self]; rfl
  rw [st] at ir
  have e3 : ev Pr (callF Pr (n + 6)) (.new 5 32 [e1, e2] [] []) env M = .ok (.loc M2.length) (M2 ++ [.ins 5 [7, 8] [.p (.tup cs), .p (.tup (qs.map condT))]]) := by
    rw [e, he, Res.bind_ok, evs_nil, Res.bind_ok]
    show (callF Pr (n + 6) 32 [.loc M2.length, .p (.lst cs), .p (.lst (qs.map condL))] (M2 ++ [.ins 5 [] []])).bind _ = _
    rw [ir]
    rfl
  have hq2 : (M2 ++ [Cell.ins 5 [7, 8] [.p (.tup cs), .p (.tup (qs.map condT))]])[M2.length]? = some (.ins 5 [7, 8] [.p (.tup cs), .p (.tup (qs.map condT))]) := by
    rw [List.getElem?_append_right (Nat.le_refl _), Nat.sub_self]; rfl
  have fz : frzW 30000 (M2 ++ [Cell.ins 5 [7, 8] [.p (.tup cs), .p (.tup (qs.map condT))]]) (.loc M2.length) = some (objP cs qs, M2 ++ [.fz (objP cs qs)]) := by
    have e : frzW 30000 (M2 ++ [Cell.ins 5 [7, 8] [.p (.tup cs), .p (.tup (qs.map condT))]]) (.loc M2.length) = (match (M2 ++ [Cell.ins 5 [7, 8] [.p (.tup cs), .p (.tup (qs.map condT))]])[M2.length]? with
      | some (.fz d) => some (d, M2 ++ [Cell.ins 5 [7, 8] [.p (.tup cs), .p (.tup (qs.map condT))]])
      | some (.lst ws) => match frzWs 29999 (M2 ++ [Cell.ins 5 [7, 8] [.p (.tup cs), .p (.tup (qs.map condT))]]) ws with
        | some (ds, M') => if M'[M2.length]? = some (.lst ws) then some (.lst ds, M'.set M2.length (.fz (.lst ds))) else none
        | none => none
      | some (.ins c ns ws) => match frzWs 29999 (M2 ++ [Cell.ins 5 [7, 8] [.p (.tup cs), .p (.tup (qs.map condT))]]) ws with
        | some (ds, M') => if M'[M2.length]? = some (.ins c ns ws) then some (.obj c ns ds, M'.set M2.length (.fz (.obj c ns ds))) else none
        | none => none
      | _ => none) := rfl
    rw [e, hq2]
    dsimp only
    have f2 : frzWs 29999 (M2 ++ [Cell.ins 5 [7, 8] [.p (.tup cs), .p (.tup (qs.map condT))]]) [.p (.tup cs), .p (.tup (qs.map condT))] = some ([.tup cs, .tup (qs.map condT)], M2 ++ [Cell.ins 5 [7, 8] [.p (.tup cs), .p (.tup (qs.map condT))]]) := frzWs_p [.tup cs, .tup (qs.map condT)] 29999 _ (by simp)
    rw [f2]
    dsimp only
    rw [if_pos hq2, List.set_append_right _ _ (Nat.le_refl _), Nat.sub_self]
    rfl
  show (ev Pr (callF Pr (n + 6)) (.new 5 32 [e1, e2] [] []) env M).bind _ = _
  rw [e3, Res.bind_ok, fz]
end
/-! == -/
theorem plain_num {d : D} (h : isNum d) : ∀ n, plain (n + 1) d = true := fun n => by
  rcases h with ⟨i, rfl, _⟩ | ⟨x, y, rfl, _⟩ <;> rfl
theorem plains_nums : ∀ {ds : List D}, nums ds → ∀ n, plains (n + 1) ds = true
  | [], _, n => rfl
  | d :: ds, h, n => by
    show (plain (n + 1) d && plains (n + 1) ds) = true
    rw [plain_num (h d List.mem_cons_self), plains_nums fun x hx => h x (List.mem_cons_of_mem _ hx)]; rfl
theorem wd_ok {w : List Nat} (h : isWd w = true) : PySem.PyData.strOk (sl w) = true := by
  unfold isWd at h
  rcases Bool.or_eq_true_iff.mp h with h | h
  · rw [of_decide_eq_true h]; decide +kernel
  · rw [of_decide_eq_true h]; decide +kernel
theorem plain_cond {m : Nat} {q : Cn} (h : okC m q) : ∀ n, plain (n + 3) (condT q) = true := fun n => by
  obtain ⟨h1, h2, h3, h4⟩ := h
  show (plain (n + 2) (.tup q.1) && (plain (n + 2) (.str (sl q.2.1)) && (plain (n + 2) q.2.2 && true))) = true
  have a : plain (n + 2) (.tup q.1) = true := plains_nums h2 n
  have b : plain (n + 2) (.str (sl q.2.1)) = true := wd_ok h3
  rw [a, b, plain_num h4]; rfl
theorem plains_conds {m : Nat} : ∀ {qs : List Cn}, (∀ q ∈ qs, okC m q) → ∀ n, plains (n + 3) (qs.map condT) = true
  | [], _, n => rfl
  | q :: qs, h, n => by
    show (plain (n + 3) (condT q) && plains (n + 3) (qs.map condT)) = true
    rw [plain_cond (h q List.mem_cons_self), plains_conds fun x hx => h x (List.mem_cons_of_mem _ hx)]; rfl
theorem eq_run {n m : Nat} {M : Mem} {cs : List D} {qs : List Cn} (h : nums cs) (hc : ∀ x ∈ qs, okC m x) : callF Pr (n + 1) 33 [.p (objP cs qs), .p (objP cs qs)] M = .ok (.p (.bl true)) M := by
  rw [← fin_t, call_s (d := ⟨2, 2, true, b_m_Program_eq⟩) rfl rfl]
  show fnR true M (exs Pr (callF Pr n) b_m_Program_eq [some (.p (objP cs qs)), some (.p (objP cs qs))] M) = _
  congr 1
  have c1 : ev Pr (callF Pr n) (.cmp .eq (.att (.var 0) 7) (.att (.var 1) 7)) [some (.p (objP cs qs)), some (.p (objP cs qs))] M = .ok (.p (.bl true)) M := by
    show Res.of ((cmpW M .eq (.p (.tup cs)) (.p (.tup cs))).map fun b => W.p (.bl b)) M = _
    rw [eq_same (show plain 60 (.tup cs) = true from plains_nums h 58)]; rfl
  have c2 : ev Pr (callF Pr n) (.cmp .eq (.att (.var 0) 8) (.att (.var 1) 8)) [some (.p (objP cs qs)), some (.p (objP cs qs))] M = .ok (.p (.bl true)) M := by
    show Res.of ((cmpW M .eq (.p (.tup (qs.map condT))) (.p (.tup (qs.map condT)))).map fun b => W.p (.bl b)) M = _
    rw [eq_same (show plain 60 (.tup (qs.map condT)) = true from plains_conds hc 56)]; rfl
  unfold b_m_Program_eq
  have c0 : ev Pr (callF Pr n) (.isi (.var 1) [(.own 5)]) [some (.p (objP cs qs)), some (.p (objP cs qs))] M = .ok (.p (.bl true)) M := rfl
  rw [exs_one, ex_ret, ev_and, c0, Res.bind_ok]
  show (ev Pr (callF Pr n) (.and (.cmp .eq (.att (.var 0) 7) (.att (.var 1) 7)) (.cmp .eq (.att (.var 0) 8) (.att (.var 1) 8))) [some (.p (objP cs qs)), some (.p (objP cs qs))] M).st _ _ = _
  rw [ev_and, c1, Res.bind_ok]
  show (ev Pr (callF Pr n) (.cmp .eq (.att (.var 0) 8) (.att (.var 1) 8)) [some (.p (objP cs qs)), some (.p (objP cs qs))] M).st _ _ = _
  rw [c2]
  rfl
theorem eqO_ev {n m : Nat} {M : Mem} {env : Env} {a b : G.Ex} {cs : List D} {qs : List Cn} {M1 M2 : Mem} (h : nums cs) (hc : ∀ x ∈ qs, okC m x) (ha : ev Pr (callF Pr (n + 1)) a env M = .ok (.p (objP cs qs)) M1) (hb : ev Pr (callF Pr (n + 1)) b env M1 = .ok (.p (objP cs qs)) M2) :
    ev Pr (callF Pr (n + 1)) (.eqO true a b) env M = .ok (.p (.bl false)) M2 := by
  have e : ev Pr (callF Pr (n + 1)) (.eqO true a b) env M = (ev Pr (callF Pr (n + 1)) a env M).bind fun x M => (ev Pr (callF Pr (n + 1)) b env M).bind fun y M => match eqAsk Pr M x y with
    | some q => (callF Pr (n + 1) q.1 q.2 M).noX.bind fun w M' => match w with
      | .p (.bl r) => .ok (.p (.bl (if true then !r else r))) M'
      | _ => .bad
    | none => .bad := rfl
  have q : eqAsk Pr M2 (.p (objP cs qs)) (.p (objP cs qs)) = some (33, [.p (objP cs qs), .p (objP cs qs)]) := rfl
  rw [e, ha, Res.bind_ok, hb, Res.bind_ok, q]
  show (callF Pr (n + 1) 33 [.p (objP cs qs), .p (objP cs qs)] M2).noX.bind _ = _
  rw [eq_run h hc]
  rfl
end K06

set_option maxHeartbeats 4000000
namespace K06
open G
/-! a program's text -/
def rowT (q : Cn) : List Nat := jn [32] (q.1.map txD ++ [q.2.1, txD q.2.2])
def rowsT (cs : List D) (qs : List Cn) : List (List Nat) := jn [32] (cs.map txD) :: qs.map rowT
def textP (cs : List D) (qs : List Cn) : List Nat := jn [32, 47, 32] (rowsT cs qs)
theorem jn_len_eq (s : List Nat) : ∀ {ws : List (List Nat)}, ws ≠ [] → (jn s ws).length + s.length = (ws.map (·.length)).sum + ws.length * s.length
  | [], h => absurd rfl h
  | [a], _ => by
    show a.length + s.length = _
    simp
  | a :: b :: r, _ => by
    have := jn_len_eq s (ws := b :: r) (by simp)
    show (a ++ s ++ jn s (b :: r)).length + s.length = _
    rw [List.length_append, List.length_append, List.map_cons, List.sum_cons, List.length_cons, Nat.succ_mul]
    omega
theorem strs_map : ∀ ws : List (List Nat), D.strs (ws.map fun w => D.str (sl w)) = some (ws.map sl)
  | [] => rfl
  | w :: ws => by
    show (D.strs (ws.map fun w => D.str (sl w))).map (sl w :: ·) = _
    rw [strs_map ws]; rfl
theorem join_ok {s : List Nat} {ws : List (List Nat)} (h : (jn s ws).length ≤ 99000) (hs : s.length ≤ 3) : mthW .join (sl s) (.p (.lst (ws.map fun w => D.str (sl w)))) = some (.p (.str (sl (jn s ws)))) := by
  show (match D.strs (ws.map fun w => D.str (sl w)) with
    | some ys => if szOk ((ys.map fun y : PySem.Str => y.length).sum + ys.length * (sl s).length) then some (W.p (.str (PySem.Txt.join (sl s) ys))) else none
    | none => none) = _
  rw [strs_map]
  dsimp only
  have e : ((ws.map sl).map fun y : PySem.Str => y.length).sum + (ws.map sl).length * (sl s).length ≤ 100000 := by
    rw [List.map_map, List.length_map, sl_len]
    have : ((fun x : PySem.Str => x.length) ∘ sl) = fun l : List Nat => l.length := funext fun l => sl_len l
    rw [this]
    cases ws with
    | nil => simp
    | cons w r =>
      have := jn_len_eq s (ws := w :: r) (by simp)
      omega
  rw [show szOk (((ws.map sl).map fun y : PySem.Str => y.length).sum + (ws.map sl).length * (sl s).length) = true from decide_eq_true e, join_sl]
  rfl
theorem join_ev {C : Calls} {env : Env} {M M' : Mem} {x : PySem.Str} {s : List Nat} {e : G.Ex} {ws : List (List Nat)} (hx : x = sl s) (he : ev Pr C e env M = .ok (.p (.lst (ws.map fun w => D.str (sl w)))) M') (h : (jn s ws).length ≤ 99000) (hs : s.length ≤ 3) : ev Pr C (.mth .join (.str x) e) env M = .ok (.p (.str (sl (jn s ws)))) M' := by
  subst hx
  rw [ev_mth, ev_str, Res.bind_ok]
  show (ev Pr C e env M).bind _ = _
  rw [he, Res.bind_ok, join_ok h hs]
  rfl
section
variable {M : Mem} {c c' : Cell} {vs : List W}
theorem T_top : (M ++ [c])[M.length]? = some c := by
  rw [List.getElem?_append_right (Nat.le_refl _), Nat.sub_self]; rfl
theorem T_put : (M ++ [c]).set M.length c' = M ++ [c'] := by
  rw [List.set_append_right _ _ (Nat.le_refl _), Nat.sub_self]; rfl
theorem T_app {v : W} (h : vs.length + 1 ≤ 100000) : appCell (M ++ [Cell.lst vs]) (.loc M.length) v = some (M ++ [Cell.lst (vs ++ [v])]) := by
  show (match (M ++ [Cell.lst vs])[M.length]? with
    | some (.lst ws) => if szOk (ws.length + 1) then some ((M ++ [Cell.lst vs]).set M.length (.lst (ws ++ [v]))) else none
    | _ => none) = _
  rw [T_top]
  show (if szOk (vs.length + 1) then some ((M ++ [Cell.lst vs]).set M.length (.lst (vs ++ [v]))) else none) = _
  rw [show szOk (vs.length + 1) = true from decide_eq_true h, T_put]
  rfl
theorem T_isl : isLst (M ++ [Cell.lst vs]) (.loc M.length) = true := by
  show (match (M ++ [Cell.lst vs])[M.length]? with
    | some (.lst _) => true
    | _ => false) = true
  rw [T_top]
theorem T_rd : rd (M ++ [Cell.lst vs]) (.loc M.length) = .loc M.length := by
  show (match (M ++ [Cell.lst vs])[M.length]? with
    | some (.fz d) => W.p d
    | _ => .loc M.length) = _
  rw [T_top]
theorem T_var {C : Calls} {env : Env} {v : Nat} (hv : getV env v = some (.loc M.length)) : ev Pr C (.var v) env (M ++ [Cell.lst vs]) = .ok (.loc M.length) (M ++ [Cell.lst vs]) := by
  rw [ev_var, hv]
  show Res.ok (rd _ (.loc M.length)) _ = _
  rw [T_rd]
theorem T_frz {ds : List D} (h : ds.length ≤ 29000) : frzW 30000 (M ++ [Cell.lst (ds.map W.p)]) (.loc M.length) = some (.lst ds, M ++ [.fz (.lst ds)]) := by
  have e : frzW 30000 (M ++ [Cell.lst (ds.map W.p)]) (.loc M.length) = (match (M ++ [Cell.lst (ds.map W.p)])[M.length]? with
    | some (.fz d) => some (d, M ++ [Cell.lst (ds.map W.p)])
    | some (.lst ws) => match frzWs 29999 (M ++ [Cell.lst (ds.map W.p)]) ws with
      | some (ds, M') => if M'[M.length]? = some (.lst ws) then some (.lst ds, M'.set M.length (.fz (.lst ds))) else none
      | none => none
    | some (.ins c ns ws) => match frzWs 29999 (M ++ [Cell.lst (ds.map W.p)]) ws with
      | some (ds, M') => if M'[M.length]? = some (.ins c ns ws) then some (.obj c ns ds, M'.set M.length (.fz (.obj c ns ds))) else none
      | none => none
    | _ => none) := rfl
  rw [e, T_top]
  dsimp only
  rw [frzWs_p ds 29999 _ (by omega)]
  dsimp only
  rw [if_pos T_top, T_put]
theorem T_fz {C : Calls} {env : Env} {v : Nat} {ds : List D} (hv : getV env v = some (.loc M.length)) (h : ds.length ≤ 29000) : ev Pr C (.fz (.var v)) env (M ++ [Cell.lst (ds.map W.p)]) = .ok (.p (.lst ds)) (M ++ [Cell.fz (.lst ds)]) := by
  show (ev Pr C (.var v) env _).bind _ = _
  rw [T_var hv, Res.bind_ok, T_frz h]
end
def strB : G.St := .app (.var 1) (.mth .join (.str " ") (.lstS [true, false, false] [(.comp (.call 11 [(.var 6)] [] []) [6] (.nm 6) (.it (.var 2)) []), (.var 3), (.call 11 [(.var 4)] [] [])]))
theorem b_str_eq : b_m_Program_str = [.asg 1 (.lstL [(.mth .join (.str " ") (.comp (.call 11 [(.var 5)] [] []) [5] (.nm 5) (.it (.att (.var 0) 7)) []))]), .for_ (.tp [.nm 2, .nm 3, .nm 4]) (.it (.att (.var 0) 8)) [strB], .ret (.mth .join (.str " / ") (.fz (.var 1)))] := by rfl
theorem s_sp1 : (" " : PySem.Str) = sl [32] := by rfl
theorem s_spb : (" / " : PySem.Str) = sl [32, 47, 32] := by rfl
def strD (w : List Nat) : D := .str (sl w)
def SE (x : W) (L : Nat) (a2 a3 a4 : Option W) : Env := [some x, some (.loc L), a2, a3, a4, none, none]
theorem strB_ev {n m : Nat} {x : W} {M : Mem} {a2 a3 a4 : Option W} {rs : List (List Nat)} {q : Cn} (hq : okC m q) (hm : m ≤ 60) (hl : (rowT q).length ≤ 99000) (hr : rs.length ≤ 900) :
    (match give (.tp [.nm 2, .nm 3, .nm 4]) (.p (condT q)) (SE x M.length a2 a3 a4) with
      | some env' => exs Pr (callF Pr (n + 2)) [strB] env' (M ++ [Cell.lst ((rs.map strD).map W.p)])
      | none => .bad) = .nx (SE x M.length (some (.p (.tup q.1))) (some (.p (.str (sl q.2.1)))) (some (.p q.2.2))) (M ++ [Cell.lst (((rs ++ [rowT q]).map strD).map W.p)]) := by
  obtain ⟨h1, h2, h3, h4⟩ := hq
  obtain ⟨env, he⟩ : ∃ env : Env, env = SE x M.length (some (.p (.tup q.1))) (some (.p (.str (sl q.2.1)))) (some (.p q.2.2)) := ⟨_, rfl⟩
  obtain ⟨M1, hM1⟩ : ∃ M1 : Mem, M1 = M ++ [Cell.lst ((rs.map strD).map W.p)] := ⟨_, rfl⟩
  show exs Pr (callF Pr (n + 2)) [strB] (SE x M.length (some (.p (.tup q.1))) (some (.p (.str (sl q.2.1)))) (some (.p q.2.2))) _ = _
  rw [← he, exs_one]
  have v1 : ev Pr (callF Pr (n + 2)) (.var 1) env (M ++ [Cell.lst ((rs.map strD).map W.p)]) = .ok (.loc M.length) (M ++ [Cell.lst ((rs.map strD).map W.p)]) := T_var (by rw [he]; rfl)
  have c1 : ev Pr (callF Pr (n + 2)) (.comp (.call 11 [(.var 6)] [] []) [6] (.nm 6) (.it (.var 2)) []) env M1 = .ok (.p (.lst (q.1.map fun d => strD (txD d)))) M1 := comp_val (w := .p (.tup q.1)) (ds := q.1) (fun d => strD (txD d)) (by rw [he]; rfl) rfl fun y hy => ⟨SE x M.length (some (.p (.tup q.1))) (some (.p (.str (sl q.2.1)))) (some (.p q.2.2)) |>.set 6 (some (.p y)), by rw [he]; rfl, text_in_run (n := n) (h2 y hy)⟩
  have c2 : ev Pr (callF Pr (n + 2)) (.var 3) env M1 = .ok (.p (strD q.2.1)) M1 := by rw [he]; rfl
  have c3 : ev Pr (callF Pr (n + 2)) (.call 11 [(.var 4)] [] []) env M1 = .ok (.p (strD (txD q.2.2))) M1 := by
    rw [he]
    exact text_in_run (n := n) h4
  have ce : evs Pr (callF Pr (n + 2)) [(.comp (.call 11 [(.var 6)] [] []) [6] (.nm 6) (.it (.var 2)) []), (.var 3), (.call 11 [(.var 4)] [] [])] env M1 = .ok [.p (.lst (q.1.map fun d => strD (txD d))), .p (strD q.2.1), .p (strD (txD q.2.2))] M1 := by
    rw [evs_cons, c1, Res.bind_ok, evs_cons, c2, Res.bind_ok, evs_cons, c3, Res.bind_ok, evs_nil]
    rfl
  have ls : ev Pr (callF Pr (n + 2)) (.lstS [true, false, false] [(.comp (.call 11 [(.var 6)] [] []) [6] (.nm 6) (.it (.var 2)) []), (.var 3), (.call 11 [(.var 4)] [] [])]) env M1 = .ok (.p (.lst ((q.1.map txD ++ [q.2.1, txD q.2.2]).map fun w => D.str (sl w)))) M1 := by
    show ((evs Pr (callF Pr (n + 2)) [_, _, _] env M1).noX.bind _) = _
    rw [ce, Res.noX_ok, Res.bind_ok]
    have sw : starW M1 [true, false, false] [.p (.lst (q.1.map fun d => strD (txD d))), .p (strD q.2.1), .p (strD (txD q.2.2))] = some (((q.1.map txD ++ [q.2.1, txD q.2.2]).map fun w => D.str (sl w)).map W.p) := by
      show some ((q.1.map fun d => strD (txD d)).map W.p ++ [W.p (strD q.2.1), W.p (strD (txD q.2.2))]) = _
      rw [List.map_append, List.map_append, List.map_map, List.map_map, List.map_map]
      rfl
    rw [sw]
    have sz : szOk (((q.1.map txD ++ [q.2.1, txD q.2.2]).map fun w => D.str (sl w)).map W.p).length = true := decide_eq_true (by simp; omega)
    show (if szOk _ then Res.of (mkLst (((q.1.map txD ++ [q.2.1, txD q.2.2]).map fun w => D.str (sl w)).map W.p)) M1 else .bad) = _
    rw [if_pos sz, mkLst_p]
    rfl
  have jn' : ev Pr (callF Pr (n + 2)) (.mth .join (.str " ") (.lstS [true, false, false] [(.comp (.call 11 [(.var 6)] [] []) [6] (.nm 6) (.it (.var 2)) []), (.var 3), (.call 11 [(.var 4)] [] [])])) env M1 = .ok (.p (.str (sl (rowT q)))) M1 := join_ev s_sp1 ls hl (by decide)
  rw [hM1] at jn'
  have := app_ev v1 T_isl jn' (T_app (by simp; omega))
  unfold strB
  rw [this, List.map_append, List.map_append]
  rfl
theorem str_loop {n m : Nat} {x : W} {M : Mem} (hm : m ≤ 60) : ∀ (qs : List Cn) (rs : List (List Nat)) (a2 a3 a4 : Option W), (∀ q ∈ qs, okC m q) → (∀ q ∈ qs, (rowT q).length ≤ 99000) → rs.length + qs.length ≤ 900 → ∃ b2 b3 b4,
    forL (fun w env M => match give (.tp [.nm 2, .nm 3, .nm 4]) w env with
      | some env' => exs Pr (callF Pr (n + 2)) [strB] env' M
      | none => .bad) ((qs.map condT).map W.p) (SE x M.length a2 a3 a4) (M ++ [Cell.lst ((rs.map strD).map W.p)]) = .nx (SE x M.length b2 b3 b4) (M ++ [Cell.lst (((rs ++ qs.map rowT).map strD).map W.p)])
  | [], rs, a2, a3, a4, _, _, _ => ⟨a2, a3, a4, by rw [show rs ++ ([] : List Cn).map rowT = rs from List.append_nil rs]; rfl⟩
  | q :: qs, rs, a2, a3, a4, h, hl, hr => by
    have e := strB_ev (n := n) (x := x) (M := M) (a2 := a2) (a3 := a3) (a4 := a4) (rs := rs) (h q List.mem_cons_self) hm (hl q List.mem_cons_self) (by simp at hr; omega)
    obtain ⟨b2, b3, b4, ih⟩ := str_loop (n := n) (x := x) (M := M) hm qs (rs ++ [rowT q]) (some (.p (.tup q.1))) (some (.p (.str (sl q.2.1)))) (some (.p q.2.2)) (fun y hy => h y (List.mem_cons_of_mem _ hy)) (fun y hy => hl y (List.mem_cons_of_mem _ hy)) (by simp at hr ⊢; omega)
    refine ⟨b2, b3, b4, ?_⟩
    rw [List.map_cons, List.map_cons]
    conv => lhs; unfold forL
    rw [e]
    dsimp only
    rw [ih, List.map_cons, List.append_assoc]
    rfl
theorem row_len {cs : List D} {qs : List Cn} {k : Nat} (h : (textP cs qs).length ≤ k) : (jn [32] (cs.map txD)).length ≤ k ∧ ∀ q ∈ qs, (rowT q).length ≤ k := by
  have e := jn_len_eq [32, 47, 32] (ws := rowsT cs qs) (by unfold rowsT; simp)
  have h' : (jn [32, 47, 32] (rowsT cs qs)).length ≤ k := h
  have hn : 1 ≤ (rowsT cs qs).length := by unfold rowsT; simp
  have key : ∀ w ∈ rowsT cs qs, w.length ≤ k := fun w hw => by
    have := mem_sum hw
    have h3 : ([32, 47, 32] : List Nat).length = 3 := rfl
    rw [h3] at e
    omega
  exact ⟨key _ (by unfold rowsT; simp), fun q hq => key _ (by unfold rowsT; exact List.mem_cons_of_mem _ (List.mem_map_of_mem hq))⟩
theorem str_run {n m : Nat} {M : Mem} {cs : List D} {qs : List Cn} (hB : M.all (belowC M.length) = true) (h : nums cs) (hm : m ≤ 60) (hc : ∀ x ∈ qs, okC m x) (hcl : qs.length ≤ 60) (hl : (textP cs qs).length ≤ 99000) : callF Pr (n + 3) 34 [.p (objP cs qs)] M = .ok (.p (.str (sl (textP cs qs)))) M := by
  obtain ⟨l1, l2⟩ := row_len hl
  rw [call_s (d := ⟨1, 7, true, b_m_Program_str⟩) rfl rfl]
  show fnR true M (exs Pr (callF Pr (n + 2)) b_m_Program_str [some (.p (objP cs qs)), none, none, none, none, none, none] M) = _
  have c1 : ev Pr (callF Pr (n + 2)) (.comp (.call 11 [(.var 5)] [] []) [5] (.nm 5) (.it (.att (.var 0) 7)) []) [some (.p (objP cs qs)), none, none, none, none, none, none] M = .ok (.p (.lst ((cs.map txD).map fun w => D.str (sl w)))) M := by
    have := comp_val (C := callF Pr (n + 2)) (env := [some (.p (objP cs qs)), none, none, none, none, none, none]) (M := M) (elt := .call 11 [(.var 5)] [] []) (it := .it (.att (.var 0) 7)) (own := [5]) (t := .nm 5) (w := .p (.tup cs)) (ds := cs) (fun d => strD (txD d)) rfl rfl fun y hy => ⟨[some (.p (objP cs qs)), none, none, none, none, some (.p y), none], rfl, text_in_run (n := n) (h y hy)⟩
    rw [this, List.map_map]
    rfl
  have g1 : ex Pr (callF Pr (n + 2)) (.asg 1 (.lstL [(.mth .join (.str " ") (.comp (.call 11 [(.var 5)] [] []) [5] (.nm 5) (.it (.att (.var 0) 7)) []))])) [some (.p (objP cs qs)), none, none, none, none, none, none] M = .nx (SE (.p (objP cs qs)) M.length none none none) (M ++ [Cell.lst (([jn [32] (cs.map txD)].map strD).map W.p)]) := by
    rw [ex_asg, ev_lstL, evs_cons, join_ev s_sp1 c1 l1 (by decide)]
    rfl
  obtain ⟨b2, b3, b4, lp⟩ := str_loop (n := n) (x := .p (objP cs qs)) (M := M) hm qs [jn [32] (cs.map txD)] none none none hc l2 (by simp; omega)
  have e0 : [jn [32] (cs.map txD)] ++ qs.map rowT = rowsT cs qs := rfl
  rw [e0] at lp
  have g2 := for_run (C := callF Pr (n + 2)) (t := .tp [.nm 2, .nm 3, .nm 4]) (it := .it (.att (.var 0) 8)) (body := [strB]) (env := SE (.p (objP cs qs)) M.length none none none) (M := M ++ [Cell.lst (([jn [32] (cs.map txD)].map strD).map W.p)]) (x := .p (.tup (qs.map condT))) rfl rfl lp
  have fz : ev Pr (callF Pr (n + 2)) (.fz (.var 1)) (SE (.p (objP cs qs)) M.length b2 b3 b4) (M ++ [Cell.lst (((rowsT cs qs).map strD).map W.p)]) = .ok (.p (.lst ((rowsT cs qs).map strD))) (M ++ [Cell.fz (.lst ((rowsT cs qs).map strD))]) := T_fz rfl (by unfold rowsT; simp; omega)
  have jn' := join_ev (C := callF Pr (n + 2)) (env := SE (.p (objP cs qs)) M.length b2 b3 b4) (s := [32, 47, 32]) (ws := rowsT cs qs) s_spb fz hl (by decide)
  rw [b_str_eq, exs_cons, g1, SR.andT_nx, exs_cons, g2, SR.andT_nx, exs_one, ex_ret, jn']
  show popR M _ (M ++ [_]) = _
  exact pop_ok rfl rfl hB
theorem strO_ev {n m v : Nat} {M : Mem} {env : Env} {cs : List D} {qs : List Cn} (hv : getV env v = some (.p (objP cs qs))) (hB : M.all (belowC M.length) = true) (h : nums cs) (hm : m ≤ 60) (hc : ∀ x ∈ qs, okC m x) (hcl : qs.length ≤ 60) (hl : (textP cs qs).length ≤ 99000) :
    ev Pr (callF Pr (n + 3)) (.strO 5 34 (.var v)) env M = .ok (.p (.str (sl (textP cs qs)))) M := by
  have v1 : ev Pr (callF Pr (n + 3)) (.var v) env M = .ok (.p (objP cs qs)) M := by rw [ev_var, hv]; rfl
  have e : ev Pr (callF Pr (n + 3)) (.strO 5 34 (.var v)) env M = (ev Pr (callF Pr (n + 3)) (.var v) env M).bind fun x M => if insB Pr M 5 x then (callF Pr (n + 3) 34 [x] M).noX.bind fun w M' => match w with
      | .p (.str z) => .ok (.p (.str z)) M'
      | _ => .bad
    else .bad := rfl
  rw [e, v1, Res.bind_ok]
  have b : insB Pr M 5 (.p (objP cs qs)) = true := rfl
  rw [if_pos b, str_run hB h hm hc hcl hl]
  rfl
end K06

set_option maxHeartbeats 4000000
namespace K06
open G
/-! ### what stands in a text, as a program -/
abbrev It := List Nat
abbrev Gp := List It × It × It
def flatG (g : Gp) : List It := [47] :: (g.1 ++ [g.2.1, g.2.2])
def okG (m : Nat) (g : Gp) : Prop := g.1.length = m ∧ (∀ w ∈ g.1, numb w = true) ∧ isWd g.2.1 = true ∧ numb g.2.2 = true
def toC (g : Gp) : Cn := (g.1.map resW, g.2.1, resW g.2.2)
def condW (g : Gp) : W := .p (condL (toC g))
theorem okC_of {m : Nat} {g : Gp} (h : okG m g) : okC m (toC g) := by
  obtain ⟨h1, h2, h3, h4⟩ := h
  refine ⟨by show (g.1.map resW).length = m; rw [List.length_map, h1], fun d hd => ?_, h3, (res_num h4).1⟩
  obtain ⟨w, hw, rfl⟩ := List.mem_map.mp hd
  exact (res_num (h2 w hw)).1
theorem map_tx {us : List It} (h : ∀ w ∈ us, numb w = true) : (us.map resW).map txD = us := by
  rw [List.map_map]
  conv => rhs; rw [← List.map_id us]
  exact List.map_congr_left fun w hw => (res_num (h w hw)).2
theorem rowT_of {m : Nat} {g : Gp} (h : okG m g) : rowT (toC g) = jn [32] (g.1 ++ [g.2.1, g.2.2]) := by
  obtain ⟨h1, h2, h3, h4⟩ := h
  show jn [32] ((g.1.map resW).map txD ++ [g.2.1, txD (resW g.2.2)]) = _
  rw [map_tx h2, (res_num h4).2]
structure Val (g0 : List It) (gs : List Gp) : Prop where
  ne : g0 ≠ []
  le : g0.length ≤ 60
  nb : ∀ w ∈ g0, numb w = true
  ok : ∀ g ∈ gs, okG g0.length g
  gl : gs.length ≤ 60
def itemsOf (g0 : List It) (gs : List Gp) : List It := g0 ++ gs.flatMap flatG
theorem text_of {g0 : List It} {gs : List Gp} (h : Val g0 gs) : textP (g0.map resW) (gs.map toC) = jn [32] (itemsOf g0 gs) := by
  unfold textP rowsT itemsOf
  have e := jn_flat 32 (gs.map fun g => g.1 ++ [g.2.1, g.2.2]) g0 h.ne (fun x hx => by
    obtain ⟨g, _, rfl⟩ := List.mem_map.mp hx
    simp)
  rw [List.flatMap_map] at e
  have e' : jn [32] (g0 ++ gs.flatMap flatG) = jn [32, 47, 32] ((g0 :: gs.map fun g => g.1 ++ [g.2.1, g.2.2]).map (jn [32])) := e
  rw [e', map_tx h.nb, List.map_cons, List.map_map, List.map_map]
  congr 2
  exact List.map_congr_left fun g hg => rowT_of (h.ok g hg)
theorem bar_no : numb [47] = false := by decide +kernel
theorem numb_bar {w : It} (h : numb w = true) : w ≠ [47] := fun z => by rw [z, bar_no] at h; cases h
theorem pc_app : ∀ (us : List It) (k : Nat) (rest : List It), (∀ w ∈ us, numb w = true) → k + us.length ≤ 60 → pc k (us ++ rest) = pc (k + us.length) rest
  | [], k, rest, _, _ => rfl
  | w :: us, k, rest, h, hl => by
    have hw := h w List.mem_cons_self
    rw [List.length_cons] at hl ⊢
    show pc k (w :: (us ++ rest)) = _
    conv => lhs; unfold pc
    rw [if_neg (fun z => numb_bar hw z.2), if_neg (by omega), if_pos hw, pc_app us (k + 1) rest (fun x hx => h x (List.mem_cons_of_mem _ hx)) (by omega), show k + 1 + us.length = k + (us.length + 1) by omega]
theorem pc_val {g0 : List It} {gs : List Gp} (h : Val g0 gs) : pc 0 (itemsOf g0 gs) = .inr g0.length := by
  have hp : 0 < g0.length := List.length_pos_iff.mpr h.ne
  unfold itemsOf
  rw [pc_app g0 0 _ h.nb (by have := h.le; omega), Nat.zero_add]
  cases gs with
  | nil => rfl
  | cons g gs =>
    show pc g0.length ([47] :: _) = _
    unfold pc
    rw [if_pos ⟨by omega, rfl⟩]
theorem pa_nums {m g : Nat} : ∀ (us : List It) (s at_ : Nat) (rest : List It), 1 ≤ s → s + us.length ≤ m + 1 → (∀ w ∈ us, numb w = true) → pa m s g at_ (us ++ rest) = pa m (s + us.length) g (at_ + us.length) rest
  | [], s, at_, rest, _, _, _ => rfl
  | w :: us, s, at_, rest, h1, h2, h => by
    have hw := h w List.mem_cons_self
    rw [List.length_cons] at h2 ⊢
    show pa m s g at_ (w :: (us ++ rest)) = _
    conv => lhs; unfold pa
    have hf : fits m s g w = true := by
      unfold fits
      rw [if_neg (by omega), if_neg (by omega)]
      exact hw
    rw [if_pos hf, if_neg (by omega), pa_nums us (s + 1) (at_ + 1) rest (by omega) (by omega) (fun x hx => h x (List.mem_cons_of_mem _ hx)), show s + 1 + us.length = s + (us.length + 1) by omega, show at_ + 1 + us.length = at_ + (us.length + 1) by omega]
theorem pa_step {m s g at_ : Nat} {w : It} {r : List It} (hf : fits m s g w = true) (hs : s ≠ m + 2) : pa m s g at_ (w :: r) = pa m (s + 1) g (at_ + 1) r := by
  conv => lhs; unfold pa
  rw [if_pos hf, if_neg hs]
theorem pa_last {m g at_ : Nat} {w : It} {r : List It} (hf : fits m (m + 2) g w = true) : pa m (m + 2) g at_ (w :: r) = pa m 0 (g + 1) (at_ + 1) r := by
  conv => lhs; unfold pa
  rw [if_pos hf, if_pos rfl]
theorem pa_no {m s g at_ : Nat} {w : It} {r : List It} (hf : fits m s g w = false) : pa m s g at_ (w :: r) = some at_ := by
  unfold pa
  rw [hf]
  rfl
theorem fits_bar {m g : Nat} (hg : g < 60) : fits m 0 g [47] = true := by
  unfold fits
  rw [if_pos rfl, decide_eq_true rfl, decide_eq_true hg]; rfl
theorem fits_wd {m g : Nat} {w : It} : fits m (m + 1) g w = isWd w := by
  unfold fits
  rw [if_neg (by omega), if_pos rfl]
theorem fits_last {m g : Nat} {w : It} : fits m (m + 2) g w = numb w := by
  unfold fits
  rw [if_neg (by omega), if_neg (by omega)]
theorem pa_group {m g at_ : Nat} {x : Gp} {rest : List It} (h : okG m x) (hg : g < 60) : pa m 0 g at_ (flatG x ++ rest) = pa m 0 (g + 1) (at_ + m + 3) rest := by
  obtain ⟨h1, h2, h3, h4⟩ := h
  show pa m 0 g at_ ([47] :: (x.1 ++ [x.2.1, x.2.2] ++ rest)) = _
  rw [pa_step (fits_bar hg) (by omega), List.append_assoc, pa_nums x.1 _ _ _ (by omega) (by omega) h2, h1]
  show pa m (0 + 1 + m) g (at_ + 1 + m) (x.2.1 :: x.2.2 :: rest) = _
  rw [show 0 + 1 + m = m + 1 by omega, pa_step (by rw [fits_wd]; exact h3) (by omega), pa_last (by rw [fits_last]; exact h4)]
  rw [show at_ + 1 + m + 1 + 1 = at_ + m + 3 by omega]
theorem pa_groups {m : Nat} : ∀ (gs : List Gp) (g at_ : Nat), (∀ x ∈ gs, okG m x) → g + gs.length ≤ 60 → pa m 0 g at_ (gs.flatMap flatG) = none
  | [], g, at_, _, _ => rfl
  | x :: gs, g, at_, h, hl => by
    rw [List.length_cons] at hl
    rw [List.flatMap_cons, pa_group (h x List.mem_cons_self) (by omega)]
    exact pa_groups gs (g + 1) _ (fun y hy => h y (List.mem_cons_of_mem _ hy)) (by omega)
theorem stop_val {g0 : List It} {gs : List Gp} (h : Val g0 gs) : stopF (itemsOf g0 gs) = none := by
  unfold stopF
  rw [pc_val h]
  show pa g0.length 0 0 g0.length ((itemsOf g0 gs).drop g0.length) = none
  unfold itemsOf
  rw [List.drop_left]
  exact pa_groups gs 0 _ h.ok (by have := h.gl; omega)
theorem flat_inj {m : Nat} : ∀ (gs hs : List Gp), (∀ x ∈ gs, okG m x) → (∀ x ∈ hs, okG m x) → gs.flatMap flatG = hs.flatMap flatG → gs = hs
  | [], [], _, _, _ => rfl
  | [], h :: hs, _, _, e => by rw [List.flatMap_cons] at e; cases e
  | g :: gs, [], _, _, e => by rw [List.flatMap_cons] at e; cases e
  | g :: gs, h :: hs, hg, hh, e => by
    obtain ⟨g1, g2, g3⟩ := g
    obtain ⟨h1, h2, h3⟩ := h
    have l1 : g1.length = m := (hg _ List.mem_cons_self).1
    have l2 : h1.length = m := (hh _ List.mem_cons_self).1
    rw [List.flatMap_cons, List.flatMap_cons] at e
    have e : [47] :: (g1 ++ [g2, g3] ++ gs.flatMap flatG) = [47] :: (h1 ++ [h2, h3] ++ hs.flatMap flatG) := e
    have e := (List.cons.inj e).2
    rw [List.append_assoc, List.append_assoc] at e
    obtain ⟨e1, e2⟩ := List.append_inj e (by omega)
    have e2 : g2 :: g3 :: gs.flatMap flatG = h2 :: h3 :: hs.flatMap flatG := e2
    obtain ⟨e3, e4⟩ := List.cons.inj e2
    obtain ⟨e5, e6⟩ := List.cons.inj e4
    subst e1 e3 e5
    rw [flat_inj gs hs (fun x hx => hg x (List.mem_cons_of_mem _ hx)) (fun x hx => hh x (List.mem_cons_of_mem _ hx)) e6]
theorem val_inj {g0 h0 : List It} {gs hs : List Gp} (h : Val g0 gs) (h' : Val h0 hs) (e : itemsOf g0 gs = itemsOf h0 hs) : g0 = h0 ∧ gs = hs := by
  have p1 := pc_val h
  have p2 := pc_val h'
  rw [e, p2] at p1
  have hl : h0.length = g0.length := Sum.inr.inj p1
  unfold itemsOf at e
  obtain ⟨e1, e2⟩ := List.append_inj e hl.symm
  subst e1
  exact ⟨rfl, flat_inj gs hs h.ok h'.ok e2⟩
theorem pc_numb : ∀ (ws : List It) (k j : Nat), pc k ws = .inr j → ∀ w ∈ ws.take (j - k), numb w = true
  | [], k, j, _, w, hw => by simp at hw
  | x :: r, k, j, h, w, hw => by
    unfold pc at h
    split at h
    · cases h
      simp at hw
    · split at h
      · cases h
      · split at h
        · rename_i hx
          have hk : k + 1 ≤ j := by
            by_cases q : k + 1 ≤ 60
            · exact ((pc_ok r (k + 1) q).1 j h).1
            · refine Nat.le_of_not_lt fun z => ?_
              have : ∀ (ws : List It) (k j : Nat), pc k ws = .inr j → k ≤ j := fun ws => by
                induction ws with
                | nil => intro k j h; cases h; exact Nat.le_refl _
                | cons y ys ih =>
                  intro k j h
                  unfold pc at h
                  split at h
                  · cases h; exact Nat.le_refl _
                  · split at h
                    · cases h
                    · split at h
                      · have := ih (k + 1) j h; omega
                      · cases h
              have := this r (k + 1) j h
              omega
          rw [show j - k = (j - (k + 1)) + 1 by omega, List.take_succ_cons] at hw
          rcases List.mem_cons.mp hw with rfl | hw
          · exact hx
          · exact pc_numb r (k + 1) j h w hw
        · cases h
theorem pc_pos {ws : List It} {j : Nat} (hne : ws ≠ []) (h : pc 0 ws = .inr j) : 0 < j := by
  cases ws with
  | nil => exact absurd rfl hne
  | cons w r =>
    unfold pc at h
    rw [if_neg (fun z => z.1 rfl), if_neg (by decide)] at h
    split at h
    · have := ((pc_ok r 1 (by decide)).1 j h).1
      omega
    · cases h
end K06

set_option maxHeartbeats 4000000
namespace K06
open G
/-! ### reading -/
def rdX : G.Ex := .compX (.mc 4 31 (.var 1) []) [6] (.nm 6) (.it (.var 2)) []
def rdT : G.Ex := .cmp .isn (.mc 4 26 (.var 1) []) .non
def rdA : G.Ex := .tup [(.var 4), (.var 5), (.mc 4 31 (.var 1) [])]
def rdB : List G.St := [.ifs (.cmp .eq (.blt .len [(.var 3)]) (.glob 6)) [.expr (.mc 4 27 (.var 1) [])] [], .expr (.mc 4 29 (.var 1) [(.glob 2)]), .asg 4 rdX, .asg 5 (.mc 4 30 (.var 1) [(.tup [(.glob 3), (.glob 4)])]), .app (.var 3) rdA]
theorem b_read_eq : b_m_Program_read = [.asg 1 (.new 4 25 [(.var 0)] [] []), .par 2 3 (.call 13 [(.var 1)] [] []) (.lstL []), .while_ rdT rdB, .ret (.fz (.new 5 32 [(.var 2), (.fz (.var 3))] [] []))] := by rfl
def RE (t : W) (p : Nat) (cs : List D) (L : Nat) (a4 a5 a6 : Option W) : Env := [some t, some (.loc p), some (.p (.lst cs)), some (.loc L), a4, a5, a6]
section
variable {MM : Mem} {items : List It} {p : Nat}
theorem ev_compX' {C : Calls} {elt it : G.Ex} {own : List Nat} {t : Tg} {ifs : List G.Ex} {env : Env} {M : Mem} : ev Pr C (.compX elt own t it ifs) env M = (ev Pr C it env M).bind fun x M => match iterW x with
  | some ws => (compL (cStepX Pr C elt own t ifs env) ws [] M).bind fun vs M => Res.of (mkLst vs) M
  | none => .bad := rfl
theorem nums_loop {n : Nat} {t : W} {cs : List D} {L : Nat} {a4 a5 a6 : Option W} {vs : List W} (hp : p < MM.length) (hi : ∀ w ∈ items, w.length ≤ 100000) : ∀ (ds : List D) (k : Nat) (acc : List W) (ws : List It), items.drop k = ws →
    (∃ us ws', ws = us ++ ws' ∧ us.length = ds.length ∧ (∀ w ∈ us, numb w = true) ∧
      compL (cStepX Pr (callF Pr (n + 5)) (.mc 4 31 (.var 1) []) [6] (.nm 6) [] (RE t p cs L a4 a5 a6)) (ds.map W.p) acc (NN MM p items k vs) = .ok (acc.reverse ++ (us.map resW).map W.p) (NN MM p items (k + us.length) vs)) ∨
    (∃ us ws', ws = us ++ ws' ∧ us.length < ds.length ∧ (∀ w ∈ us, numb w = true) ∧ (ws' = [] ∨ ∃ w r, ws' = w :: r ∧ numb w = false) ∧
      compL (cStepX Pr (callF Pr (n + 5)) (.mc 4 31 (.var 1) []) [6] (.nm 6) [] (RE t p cs L a4 a5 a6)) (ds.map W.p) acc (NN MM p items k vs) = .exc 3 [3, 4] [.int 0, .int ((k + us.length : Nat) : Int)] (NN MM p items (k + us.length) vs))
  | [], k, acc, ws, hd => .inl ⟨[], ws, rfl, rfl, fun w hw => (by cases hw), by
      show Res.ok acc.reverse _ = _
      rw [List.map_nil, List.map_nil, List.append_nil]; rfl⟩
  | d :: ds, k, acc, ws, hd => by
    have hN := NN_at (M := MM) (p := p) (items := items) (k := k) (vs := vs) hp
    have st : cStepX Pr (callF Pr (n + 5)) (.mc 4 31 (.var 1) []) [6] (.nm 6) [] (RE t p cs L a4 a5 a6) (.p d) (NN MM p items k vs) = (callF Pr (n + 5) 31 [.loc p] (NN MM p items k vs)).bind fun v M => .ok (some v) M := by
      show (ev Pr (callF Pr (n + 5)) (.mc 4 31 (.var 1) []) (((RE t p cs L a4 a5 a6).set 6 none).set 6 (some (.p d))) (NN MM p items k vs)).bind _ = _
      rw [mc_ev (v := 1) (p := p) rfl hN, evs_nil, Res.bind_ok]
    have cl : compL (cStepX Pr (callF Pr (n + 5)) (.mc 4 31 (.var 1) []) [6] (.nm 6) [] (RE t p cs L a4 a5 a6)) ((d :: ds).map W.p) acc (NN MM p items k vs) = (cStepX Pr (callF Pr (n + 5)) (.mc 4 31 (.var 1) []) [6] (.nm 6) [] (RE t p cs L a4 a5 a6) (.p d) (NN MM p items k vs)).bind fun o M' => match o with
      | some v => compL (cStepX Pr (callF Pr (n + 5)) (.mc 4 31 (.var 1) []) [6] (.nm 6) [] (RE t p cs L a4 a5 a6)) (ds.map W.p) (v :: acc) M'
      | none => compL (cStepX Pr (callF Pr (n + 5)) (.mc 4 31 (.var 1) []) [6] (.nm 6) [] (RE t p cs L a4 a5 a6)) (ds.map W.p) acc M' := rfl
    have bad : (∀ w, items[k]? = some w → numb w = false ∧ w.length ≤ 100000) → compL (cStepX Pr (callF Pr (n + 5)) (.mc 4 31 (.var 1) []) [6] (.nm 6) [] (RE t p cs L a4 a5 a6)) ((d :: ds).map W.p) acc (NN MM p items k vs) = .exc 3 [3, 4] [.int 0, .int (k : Int)] (NN MM p items k vs) := fun hb => by
      rw [cl, st, take_number_no hN hb]; rfl
    cases ws with
    | nil =>
      have hl : items.length ≤ k := List.drop_eq_nil_iff.mp hd
      refine .inr ⟨[], [], rfl, by simp, fun w hw => (by cases hw), .inl rfl, ?_⟩
      rw [bad fun w hw => by rw [List.getElem?_eq_none hl] at hw; cases hw]
      rfl
    | cons w r =>
      obtain ⟨hl, hw, hd2⟩ := drop_at hd
      have hwl : w.length ≤ 100000 := hi w (List.mem_of_getElem? hw)
      cases hn : numb w with
      | false =>
        refine .inr ⟨[], w :: r, rfl, by simp, fun w hw => (by cases hw), .inr ⟨w, r, rfl, hn⟩, ?_⟩
        rw [bad fun w' hw' => by rw [hw] at hw'; cases hw'; exact ⟨hn, hwl⟩]
        rfl
      | true =>
        have tk := take_number_ok (n := n) hN hw hwl hn
        rw [NN_set hp] at tk
        have e : compL (cStepX Pr (callF Pr (n + 5)) (.mc 4 31 (.var 1) []) [6] (.nm 6) [] (RE t p cs L a4 a5 a6)) ((d :: ds).map W.p) acc (NN MM p items k vs) = compL (cStepX Pr (callF Pr (n + 5)) (.mc 4 31 (.var 1) []) [6] (.nm 6) [] (RE t p cs L a4 a5 a6)) (ds.map W.p) (.p (resW w) :: acc) (NN MM p items (k + 1) vs) := by
          rw [cl, st, tk]; rfl
        rcases nums_loop (n := n) (t := t) (cs := cs) (L := L) (a4 := a4) (a5 := a5) (a6 := a6) (vs := vs) hp hi ds (k + 1) (.p (resW w) :: acc) r hd2 with ⟨us, ws', q1, q2, q3, q4⟩ | ⟨us, ws', q1, q2, q3, q4, q5⟩
        · refine .inl ⟨w :: us, ws', by rw [q1]; rfl, by simp [q2], fun y hy => ?_, ?_⟩
          · rcases List.mem_cons.mp hy with rfl | hy
            · exact hn
            · exact q3 y hy
          · rw [e, q4, List.length_cons, show k + (us.length + 1) = k + 1 + us.length by omega]
            simp
        · refine .inr ⟨w :: us, ws', by rw [q1]; rfl, by simp [q2], fun y hy => ?_, q4, ?_⟩
          · rcases List.mem_cons.mp hy with rfl | hy
            · exact hn
            · exact q3 y hy
          · rw [e, q5, List.length_cons, show k + (us.length + 1) = k + 1 + us.length by omega]
theorem nums_ev {n : Nat} {t : W} {cs : List D} {L : Nat} {a4 a5 a6 : Option W} {vs : List W} (hp : p < MM.length) (hi : ∀ w ∈ items, w.length ≤ 100000) {k : Nat} {ws : List It} (hd : items.drop k = ws) :
    (∃ us ws', ws = us ++ ws' ∧ us.length = cs.length ∧ (∀ w ∈ us, numb w = true) ∧ ev Pr (callF Pr (n + 5)) rdX (RE t p cs L a4 a5 a6) (NN MM p items k vs) = .ok (.p (.lst (us.map resW))) (NN MM p items (k + us.length) vs)) ∨
    (∃ us ws', ws = us ++ ws' ∧ us.length < cs.length ∧ (∀ w ∈ us, numb w = true) ∧ (ws' = [] ∨ ∃ w r, ws' = w :: r ∧ numb w = false) ∧ ev Pr (callF Pr (n + 5)) rdX (RE t p cs L a4 a5 a6) (NN MM p items k vs) = .exc 3 [3, 4] [.int 0, .int ((k + us.length : Nat) : Int)] (NN MM p items (k + us.length) vs)) := by
  have e : ev Pr (callF Pr (n + 5)) rdX (RE t p cs L a4 a5 a6) (NN MM p items k vs) = (compL (cStepX Pr (callF Pr (n + 5)) (.mc 4 31 (.var 1) []) [6] (.nm 6) [] (RE t p cs L a4 a5 a6)) (cs.map W.p) [] (NN MM p items k vs)).bind fun vs M => Res.of (mkLst vs) M := rfl
  rcases nums_loop (n := n) (t := t) (cs := cs) (L := L) (a4 := a4) (a5 := a5) (a6 := a6) (vs := vs) hp hi cs k [] ws hd with ⟨us, ws', q1, q2, q3, q4⟩ | ⟨us, ws', q1, q2, q3, q4, q5⟩
  · refine .inl ⟨us, ws', q1, q2, q3, ?_⟩
    rw [e, q4, Res.bind_ok, List.reverse_nil, List.nil_append, mkLst_p]
    rfl
  · refine .inr ⟨us, ws', q1, q2, q3, q4, ?_⟩
    rw [e, q5]
    rfl
/-- what is refused within numbers -/
theorem pa_stop {m g s at_ : Nat} {us ws' : List It} (h1 : 1 ≤ s) (h2 : s + us.length < m + 1) (h : ∀ w ∈ us, numb w = true) (hw : ws' = [] ∨ ∃ w r, ws' = w :: r ∧ numb w = false) : pa m s g at_ (us ++ ws') = some (at_ + us.length) := by
  rw [pa_nums us s at_ ws' h1 (by omega) h]
  rcases hw with rfl | ⟨w, r, rfl, hn⟩
  · unfold pa
    rw [if_neg (by omega)]
  · refine pa_no ?_
    unfold fits
    rw [if_neg (by omega), if_neg (by omega)]
    exact hn
theorem rd_loop {n : Nat} {t : W} {cs : List D} (hp : p < MM.length) (hi : ∀ w ∈ items, w.length ≤ 100000) (hc0 : 0 < cs.length) : ∀ (N : Nat) (ws : List It) (at_ fuel : Nat) (gs : List Gp) (a4 a5 a6 : Option W), ws.length ≤ N → items.drop at_ = ws → gs.length ≤ 60 → at_ ≤ items.length → ws.length < fuel →
    (∃ k b4 b5 b6 vs, pa cs.length 0 gs.length at_ ws = some k ∧ whileL (ev Pr (callF Pr (n + 6)) rdT) (exs Pr (callF Pr (n + 6)) rdB) fuel (RE t p cs MM.length a4 a5 a6) (NN MM p items at_ (gs.map condW)) = .exc 3 [3, 4] [.int 0, .int (k : Int)] (RE t p cs MM.length b4 b5 b6) (NN MM p items k vs)) ∨
    (∃ hs b4 b5 b6, ws = hs.flatMap flatG ∧ (∀ h ∈ hs, okG cs.length h) ∧ gs.length + hs.length ≤ 60 ∧ whileL (ev Pr (callF Pr (n + 6)) rdT) (exs Pr (callF Pr (n + 6)) rdB) fuel (RE t p cs MM.length a4 a5 a6) (NN MM p items at_ (gs.map condW)) = .nx (RE t p cs MM.length b4 b5 b6) (NN MM p items items.length ((gs ++ hs).map condW)))
  | N, ws, at_, 0, gs, a4, a5, a6, _, _, _, _, h => by omega
  | N, [], at_, f + 1, gs, a4, a5, a6, hN, hd, hg, hat, hf => by
    have hl : items.length ≤ at_ := List.drop_eq_nil_iff.mp hd
    have el : at_ = items.length := by omega
    have hm := NN_at (M := MM) (p := p) (items := items) (k := at_) (vs := gs.map condW) hp
    have ha := ahead_ev (n := n + 5) (env := RE t p cs MM.length a4 a5 a6) (v := 1) rfl hm
    have e : ev Pr (callF Pr (n + 6)) rdT (RE t p cs MM.length a4 a5 a6) (NN MM p items at_ (gs.map condW)) = .ok (.p (.bl false)) (NN MM p items at_ (gs.map condW)) := by
      unfold rdT
      rw [isn_non' ha]
      unfold K06.hd
      rw [List.getElem?_eq_none hl]
      rfl
    refine .inr ⟨[], a4, a5, a6, rfl, fun h hh => (by cases hh), by simpa using hg, ?_⟩
    conv => lhs; unfold whileL
    rw [e, List.append_nil, ← el]
    rfl
  | 0, w :: r, at_, f + 1, gs, a4, a5, a6, hN, _, _, _, _ => by simp at hN
  | N + 1, w :: r, at_, f + 1, gs, a4, a5, a6, hN, hd, hg, hat, hf => by
    obtain ⟨hl, hw, hd2⟩ := drop_at hd
    have hm := NN_at (M := MM) (p := p) (items := items) (k := at_) (vs := gs.map condW) hp
    have ha := ahead_ev (n := n + 5) (env := RE t p cs MM.length a4 a5 a6) (v := 1) rfl hm
    have e : ev Pr (callF Pr (n + 6)) rdT (RE t p cs MM.length a4 a5 a6) (NN MM p items at_ (gs.map condW)) = .ok (.p (.bl true)) (NN MM p items at_ (gs.map condW)) := by
      unfold rdT
      rw [isn_non' ha]
      unfold K06.hd
      rw [hw]
      rfl
    have v3 : ∀ (k : Nat) (vs : List W) (a4 a5 a6 : Option W), ev Pr (callF Pr (n + 6)) (.var 3) (RE t p cs MM.length a4 a5 a6) (NN MM p items k vs) = .ok (.loc MM.length) (NN MM p items k vs) := fun k vs a4 a5 a6 => by
      rw [ev_var]
      show Res.ok (rd _ (.loc MM.length)) _ = _
      rw [NN_rd]
    have c : ev Pr (callF Pr (n + 6)) (.cmp .eq (.blt .len [(.var 3)]) (.glob 6)) (RE t p cs MM.length a4 a5 a6) (NN MM p items at_ (gs.map condW)) = .ok (.p (.bl (decide (gs.length = 60)))) (NN MM p items at_ (gs.map condW)) := by
      rw [ev_cmp, ev_blt, evs_cons, v3, Res.bind_ok, evs_nil, Res.bind_ok, Res.bind_ok, NN_len, Res.of_some, Res.bind_ok, List.length_map]
      show Res.of ((cmpW (NN MM p items at_ (gs.map condW)) .eq (.p (.int (gs.length : Int))) (.p (.int 60))).map fun b => W.p (.bl b)) (NN MM p items at_ (gs.map condW)) = _
      rw [eqI]
      have : decide ((gs.length : Int) = 60) = decide (gs.length = 60) := decide_eq_decide.mpr (by omega)
      rw [this]; rfl
    have wl : ∀ z, exs Pr (callF Pr (n + 6)) rdB (RE t p cs MM.length a4 a5 a6) (NN MM p items at_ (gs.map condW)) = z → whileL (ev Pr (callF Pr (n + 6)) rdT) (exs Pr (callF Pr (n + 6)) rdB) (f + 1) (RE t p cs MM.length a4 a5 a6) (NN MM p items at_ (gs.map condW)) = (match z with
        | .nx env' M'' => whileL (ev Pr (callF Pr (n + 6)) rdT) (exs Pr (callF Pr (n + 6)) rdB) f env' M''
        | .ct env' M'' => whileL (ev Pr (callF Pr (n + 6)) rdT) (exs Pr (callF Pr (n + 6)) rdB) f env' M''
        | .bk env' M'' => .nx env' M''
        | z => z) := fun z hz => by
      conv => lhs; unfold whileL
      rw [e]
      dsimp only [tru, truD]
      rw [hz] <;> cases z <;> rfl
    by_cases h60 : gs.length = 60
    · have eb : exs Pr (callF Pr (n + 6)) rdB (RE t p cs MM.length a4 a5 a6) (NN MM p items at_ (gs.map condW)) = .exc 3 [3, 4] [.int 0, .int (at_ : Int)] (RE t p cs MM.length a4 a5 a6) (NN MM p items at_ (gs.map condW)) := by
        unfold rdB
        rw [exs_cons, ex_ifs, c, decide_eq_true h60]
        show ((exs Pr (callF Pr (n + 6)) [.expr (.mc 4 27 (.var 1) [])] _ _).andT _) = _
        rw [exs_one, refuse_ex (n := n + 5) rfl hm]
        rfl
      refine .inl ⟨at_, a4, a5, a6, _, pa_no ?_, (wl _ eb).trans rfl⟩
      unfold fits
      rw [if_pos rfl, h60]
      cases decide (w = [47]) <;> rfl
    · have tj : ev Pr (callF Pr (n + 6)) (.mc 4 29 (.var 1) [(.glob 2)]) (RE t p cs MM.length a4 a5 a6) (NN MM p items at_ (gs.map condW)) = callF Pr (n + 6) 29 [.loc p, .p (.str "/")] (NN MM p items at_ (gs.map condW)) := by
        rw [mc_ev rfl hm]; rfl
      have sk := if_skip (a := [.expr (.mc 4 27 (.var 1) [])]) (by rw [c, decide_eq_false h60])
      by_cases hb : w = [47]
      · subst hb
        have tk := take_just_ok (n := n + 3) hm hw
        rw [NN_set hp] at tk
        have x2 : ex Pr (callF Pr (n + 6)) (.expr (.mc 4 29 (.var 1) [(.glob 2)])) (RE t p cs MM.length a4 a5 a6) (NN MM p items at_ (gs.map condW)) = .nx (RE t p cs MM.length a4 a5 a6) (NN MM p items (at_ + 1) (gs.map condW)) := by
          rw [ex_expr, tj, tk]; rfl
        have ff := fits_bar (m := cs.length) (g := gs.length) (by omega)
        have pa1 : pa cs.length 0 gs.length at_ ([47] :: r) = pa cs.length 1 gs.length (at_ + 1) r := pa_step ff (by omega)
        rcases nums_ev (n := n + 1) (t := t) (cs := cs) (L := MM.length) (a4 := a4) (a5 := a5) (a6 := a6) (vs := gs.map condW) hp hi hd2 with ⟨us, ws', q1, q2, q3, q4⟩ | ⟨us, ws', q1, q2, q3, q4, q5⟩
        · -- the numbers are there
          have x3 : ex Pr (callF Pr (n + 6)) (.asg 4 rdX) (RE t p cs MM.length a4 a5 a6) (NN MM p items (at_ + 1) (gs.map condW)) = .nx (RE t p cs MM.length (some (.p (.lst (us.map resW)))) a5 a6) (NN MM p items (at_ + 1 + us.length) (gs.map condW)) := by
            rw [ex_asg, q4]; rfl
          have pa2 : pa cs.length 1 gs.length (at_ + 1) r = pa cs.length (cs.length + 1) gs.length (at_ + 1 + us.length) ws' := by
            rw [q1, pa_nums us 1 _ _ (Nat.le_refl _) (by omega) q3, show 1 + us.length = cs.length + 1 by omega]
          have hd3 : items.drop (at_ + 1 + us.length) = ws' := by
            have := List.drop_drop (i := us.length) (j := at_ + 1) (l := items)
            rw [hd2, q1, List.drop_left] at this
            exact this.symm
          have hm3 := NN_at (M := MM) (p := p) (items := items) (k := at_ + 1 + us.length) (vs := gs.map condW) hp
          have tw : ev Pr (callF Pr (n + 6)) (.mc 4 30 (.var 1) [(.tup [(.glob 3), (.glob 4)])]) (RE t p cs MM.length (some (.p (.lst (us.map resW)))) a5 a6) (NN MM p items (at_ + 1 + us.length) (gs.map condW)) = callF Pr (n + 6) 30 [.loc p, .p wdsD] (NN MM p items (at_ + 1 + us.length) (gs.map condW)) := by
            rw [mc_ev rfl hm3]; rfl
          have noW : isW items (at_ + 1 + us.length) = false → exs Pr (callF Pr (n + 6)) rdB (RE t p cs MM.length a4 a5 a6) (NN MM p items at_ (gs.map condW)) = .exc 3 [3, 4] [.int 0, .int ((at_ + 1 + us.length : Nat) : Int)] (RE t p cs MM.length (some (.p (.lst (us.map resW)))) a5 a6) (NN MM p items (at_ + 1 + us.length) (gs.map condW)) := fun hz => by
            unfold rdB
            rw [exs_cons, sk, SR.andT_nx, exs_cons, x2, SR.andT_nx, exs_cons, x3, SR.andT_nx, exs_cons, ex_asg, tw, take_word_no (n := n + 3) hm3 hz]
            rfl
          cases ws' with
          | nil =>
            have hl3 : items.length ≤ at_ + 1 + us.length := List.drop_eq_nil_iff.mp hd3
            have hz : isW items (at_ + 1 + us.length) = false := by unfold isW; rw [List.getElem?_eq_none hl3]
            refine .inl ⟨at_ + 1 + us.length, _, _, _, _, ?_, (wl _ (noW hz)).trans rfl⟩
            rw [pa1, pa2]
            unfold pa
            rw [if_neg (by omega)]
          | cons v ws2 =>
            obtain ⟨hl3, hw3, hd4⟩ := drop_at hd3
            cases hv : isWd v with
            | false =>
              have hz : isW items (at_ + 1 + us.length) = false := by unfold isW; rw [hw3]; exact hv
              refine .inl ⟨at_ + 1 + us.length, _, _, _, _, ?_, (wl _ (noW hz)).trans rfl⟩
              rw [pa1, pa2]
              exact pa_no (by rw [fits_wd]; exact hv)
            | true =>
              have tk5 := take_word_ok (n := n + 3) hm3 hw3 hv
              rw [NN_set hp] at tk5
              have x4 : ex Pr (callF Pr (n + 6)) (.asg 5 (.mc 4 30 (.var 1) [(.tup [(.glob 3), (.glob 4)])])) (RE t p cs MM.length (some (.p (.lst (us.map resW)))) a5 a6) (NN MM p items (at_ + 1 + us.length) (gs.map condW)) = .nx (RE t p cs MM.length (some (.p (.lst (us.map resW)))) (some (.p (.str (sl v)))) a6) (NN MM p items (at_ + 1 + us.length + 1) (gs.map condW)) := by
                rw [ex_asg, tw, tk5]; rfl
              have hm5 := NN_at (M := MM) (p := p) (items := items) (k := at_ + 1 + us.length + 1) (vs := gs.map condW) hp
              have pa3 : pa cs.length (cs.length + 1) gs.length (at_ + 1 + us.length) (v :: ws2) = pa cs.length (cs.length + 2) gs.length (at_ + 1 + us.length + 1) ws2 := pa_step (by rw [fits_wd]; exact hv) (by omega)
              have tn : ev Pr (callF Pr (n + 6)) (.mc 4 31 (.var 1) []) (RE t p cs MM.length (some (.p (.lst (us.map resW)))) (some (.p (.str (sl v)))) a6) (NN MM p items (at_ + 1 + us.length + 1) (gs.map condW)) = callF Pr (n + 6) 31 [.loc p] (NN MM p items (at_ + 1 + us.length + 1) (gs.map condW)) := by
                rw [mc_ev rfl hm5]; rfl
              have ta : ∀ (res : Res W), callF Pr (n + 6) 31 [.loc p] (NN MM p items (at_ + 1 + us.length + 1) (gs.map condW)) = res → ev Pr (callF Pr (n + 6)) rdA (RE t p cs MM.length (some (.p (.lst (us.map resW)))) (some (.p (.str (sl v)))) a6) (NN MM p items (at_ + 1 + us.length + 1) (gs.map condW)) = res.bind fun x M => .ok (mkTup [.p (.lst (us.map resW)), .p (.str (sl v)), x]) M := fun res hr => by
                unfold rdA
                rw [ev_tup, evs_cons]
                show Res.bind (Res.bind (Res.ok (W.p (.lst (us.map resW))) _) _) _ = _
                rw [Res.bind_ok, evs_cons]
                show Res.bind (Res.bind (Res.bind (Res.ok (W.p (.str (sl v))) _) _) _) _ = _
                rw [Res.bind_ok, evs_cons, tn, hr]
                cases res <;> rfl
              have noN : (∀ y, items[at_ + 1 + us.length + 1]? = some y → numb y = false ∧ y.length ≤ 100000) → exs Pr (callF Pr (n + 6)) rdB (RE t p cs MM.length a4 a5 a6) (NN MM p items at_ (gs.map condW)) = .exc 3 [3, 4] [.int 0, .int ((at_ + 1 + us.length + 1 : Nat) : Int)] (RE t p cs MM.length (some (.p (.lst (us.map resW)))) (some (.p (.str (sl v)))) a6) (NN MM p items (at_ + 1 + us.length + 1) (gs.map condW)) := fun hz => by
                have tx := ta _ (take_number_no (n := n + 1) hm5 hz)
                unfold rdB
                rw [exs_cons, sk, SR.andT_nx, exs_cons, x2, SR.andT_nx, exs_cons, x3, SR.andT_nx, exs_cons, x4, SR.andT_nx, exs_one, app_x (v3 _ _ _ _ _) NN_isl tx]
              cases ws2 with
              | nil =>
                have hl5 : items.length ≤ at_ + 1 + us.length + 1 := List.drop_eq_nil_iff.mp hd4
                refine .inl ⟨at_ + 1 + us.length + 1, _, _, _, _, ?_, (wl _ (noN fun y hy => by rw [List.getElem?_eq_none hl5] at hy; cases hy)).trans rfl⟩
                rw [pa1, pa2, pa3]
                unfold pa
                rw [if_neg (by omega)]
              | cons x ws3 =>
                obtain ⟨hl5, hw5, hd6⟩ := drop_at hd4
                have hxl : x.length ≤ 100000 := hi x (List.mem_of_getElem? hw5)
                cases hx : numb x with
                | false =>
                  refine .inl ⟨at_ + 1 + us.length + 1, _, _, _, _, ?_, (wl _ (noN fun y hy => by rw [hw5] at hy; cases hy; exact ⟨hx, hxl⟩)).trans rfl⟩
                  rw [pa1, pa2, pa3]
                  exact pa_no (by rw [fits_last]; exact hx)
                | true =>
                  have tk6 := take_number_ok (n := n + 1) hm5 hw5 hxl hx
                  rw [NN_set hp] at tk6
                  have tx := ta _ tk6
                  have okg : okG cs.length (us, v, x) := ⟨q2, q3, hv, hx⟩
                  have eb : exs Pr (callF Pr (n + 6)) rdB (RE t p cs MM.length a4 a5 a6) (NN MM p items at_ (gs.map condW)) = .nx (RE t p cs MM.length (some (.p (.lst (us.map resW)))) (some (.p (.str (sl v)))) a6) (NN MM p items (at_ + 1 + us.length + 1 + 1) ((gs ++ [(us, v, x)]).map condW)) := by
                    unfold rdB
                    rw [exs_cons, sk, SR.andT_nx, exs_cons, x2, SR.andT_nx, exs_cons, x3, SR.andT_nx, exs_cons, x4, SR.andT_nx, exs_one, app_ev (v3 _ _ _ _ _) NN_isl tx (NN_app (by rw [List.length_map]; omega)), List.map_append]
                    rfl
                  have pa4 : pa cs.length (cs.length + 2) gs.length (at_ + 1 + us.length + 1) (x :: ws3) = pa cs.length 0 (gs.length + 1) (at_ + 1 + us.length + 1 + 1) ws3 := pa_last (by rw [fits_last]; exact hx)
                  have lr : r.length = us.length + 2 + ws3.length := by rw [q1]; simp; omega
                  rcases rd_loop (n := n) (t := t) (cs := cs) hp hi hc0 N ws3 (at_ + 1 + us.length + 1 + 1) f (gs ++ [(us, v, x)]) (some (.p (.lst (us.map resW)))) (some (.p (.str (sl v)))) a6 (by simp at hN; omega) hd6 (by simp; omega) (by omega) (by simp at hf; omega) with ⟨k, b4, b5, b6, vs, k1, k2⟩ | ⟨hs, b4, b5, b6, k1, k2, k3, k4⟩
                  · refine .inl ⟨k, b4, b5, b6, vs, ?_, (wl _ eb).trans k2⟩
                    rw [pa1, pa2, pa3, pa4, ← k1, List.length_append]; rfl
                  · refine .inr ⟨(us, v, x) :: hs, b4, b5, b6, ?_, ?_, ?_, ?_⟩
                    · rw [q1, k1, List.flatMap_cons]
                      show [47] :: (us ++ v :: x :: _) = [47] :: (us ++ [v, x]) ++ _
                      simp
                    · intro h hh
                      rcases List.mem_cons.mp hh with rfl | hh
                      · exact okg
                      · exact k2 h hh
                    · rw [List.length_append] at k3
                      simp at k3 ⊢
                      omega
                    · refine ((wl _ eb).trans k4).trans ?_
                      rw [List.append_assoc]; rfl
        · -- a number is not there
          have x3 : ex Pr (callF Pr (n + 6)) (.asg 4 rdX) (RE t p cs MM.length a4 a5 a6) (NN MM p items (at_ + 1) (gs.map condW)) = .exc 3 [3, 4] [.int 0, .int ((at_ + 1 + us.length : Nat) : Int)] (RE t p cs MM.length a4 a5 a6) (NN MM p items (at_ + 1 + us.length) (gs.map condW)) := by
            rw [ex_asg, q5]; rfl
          have eb : exs Pr (callF Pr (n + 6)) rdB (RE t p cs MM.length a4 a5 a6) (NN MM p items at_ (gs.map condW)) = .exc 3 [3, 4] [.int 0, .int ((at_ + 1 + us.length : Nat) : Int)] (RE t p cs MM.length a4 a5 a6) (NN MM p items (at_ + 1 + us.length) (gs.map condW)) := by
            unfold rdB
            rw [exs_cons, sk, SR.andT_nx, exs_cons, x2, SR.andT_nx, exs_cons, x3]
            rfl
          refine .inl ⟨at_ + 1 + us.length, _, _, _, _, ?_, (wl _ eb).trans rfl⟩
          rw [pa1, q1]
          exact pa_stop (Nat.le_refl _) (by omega) q3 q4
      · have hj : items[at_]? ≠ some [47] := by rw [hw]; exact fun z => hb (Option.some.inj z)
        have tk := take_just_no (n := n + 3) hm hj
        have eb : exs Pr (callF Pr (n + 6)) rdB (RE t p cs MM.length a4 a5 a6) (NN MM p items at_ (gs.map condW)) = .exc 3 [3, 4] [.int 0, .int (at_ : Int)] (RE t p cs MM.length a4 a5 a6) (NN MM p items at_ (gs.map condW)) := by
          unfold rdB
          rw [exs_cons, sk, SR.andT_nx, exs_cons, ex_expr, tj, tk]
          rfl
        refine .inl ⟨at_, a4, a5, a6, _, pa_no ?_, (wl _ eb).trans rfl⟩
        unfold fits
        rw [if_pos rfl, decide_eq_false hb]
        rfl
end
end K06

set_option maxHeartbeats 4000000
namespace K06
open G
theorem pop_more {d : D} {M R : Mem} (hB : M.all (belowC M.length) = true) : popR M (.p d) (M ++ R) = .ok (.p d) M := by
  unfold popR
  by_cases h : (M ++ R).length = M.length
  · have : R = [] := by rw [List.length_append] at h; exact List.length_eq_zero_iff.mp (by omega)
    rw [if_pos h, this, List.append_nil]
  · rw [if_neg h, List.take_left, hB]; rfl
theorem popx_more {c : Nat} {ns : List Nat} {vs : List D} {env : Env} {M R : Mem} (hB : M.all (belowC M.length) = true) : fnR true M (.exc c ns vs env (M ++ R)) = .exc c ns vs M := by
  show (if true && decide (M.length < (M ++ R).length) then (if ((M ++ R).take M.length).all (belowC M.length) then Res.exc c ns vs ((M ++ R).take M.length) else .bad) else .exc c ns vs (M ++ R)) = _
  by_cases h : M.length < (M ++ R).length
  · rw [decide_eq_true h, List.take_left, hB]; rfl
  · have : R = [] := by rw [List.length_append] at h; exact List.length_eq_zero_iff.mp (by omega)
    rw [decide_eq_false h, this, List.append_nil]; rfl
theorem below_mono {n k : Nat} (h : n ≤ k) : (∀ w, belowW n w = true → belowW k w = true) ∧ ∀ ws, belowWs n ws = true → belowWs k ws = true := by
  have key : ∀ w : W, belowW n w = true → belowW k w = true := fun w => by
    refine W.rec (motive_1 := fun w => belowW n w = true → belowW k w = true) (motive_2 := fun ws => belowWs n ws = true → belowWs k ws = true) ?_ ?_ ?_ ?_ ?_ w
    · intro d _; rfl
    · intro l hl
      have hl : l < n := of_decide_eq_true hl
      exact decide_eq_true (by omega)
    · intro ws ih h; exact ih h
    · intro _; rfl
    · intro w ws h1 h2 h
      have h : (belowW n w && belowWs n ws) = true := h
      rw [Bool.and_eq_true] at h
      show (belowW k w && belowWs k ws) = true
      rw [h1 h.1, h2 h.2]; rfl
  refine ⟨key, fun ws => ?_⟩
  induction ws with
  | nil => exact fun _ => rfl
  | cons w ws ih =>
    intro h
    have h : (belowW n w && belowWs n ws) = true := h
    rw [Bool.and_eq_true] at h
    show (belowW k w && belowWs k ws) = true
    rw [key w h.1, ih h.2]; rfl
theorem belowC_mono {n k : Nat} (h : n ≤ k) {c : Cell} (hc : belowC n c = true) : belowC k c = true := by
  cases c with
  | lst ws => exact (below_mono h).2 ws hc
  | ins _ _ ws => exact (below_mono h).2 ws hc
  | dic _ ws => exact (below_mono h).2 ws hc
  | fz d => rfl
theorem all_more {M : Mem} {c : Cell} (hB : M.all (belowC M.length) = true) (hc : belowC (M.length + 1) c = true) : (M ++ [c]).all (belowC (M ++ [c]).length) = true := by
  have hl : (M ++ [c]).length = M.length + 1 := by simp
  rw [hl, List.all_append]
  have h1 : M.all (belowC (M.length + 1)) = true := List.all_eq_true.mpr fun x hx => belowC_mono (Nat.le_succ _) (List.all_eq_true.mp hB x hx)
  rw [h1]
  show (true && (belowC (M.length + 1) c && true)) = true
  rw [hc]; rfl
theorem scan_new {n : Nat} {M : Mem} {env : Env} {l : List Nat} (hv : getV env 0 = some (.p (.str (sl l)))) (hl : l.length ≤ 90000) : ev Pr (callF Pr (n + 1)) (.new 4 25 [(.var 0)] [] []) env M = .ok (.loc M.length) (M ++ [sc (wds 32 l) 0]) := by
  have v0 : ev Pr (callF Pr (n + 1)) (.var 0) env M = .ok (.p (.str (sl l))) M := by rw [ev_var, hv]; rfl
  have e : ev Pr (callF Pr (n + 1)) (.new 4 25 [(.var 0)] [] []) env M = (evs Pr (callF Pr (n + 1)) [(.var 0)] env M).bind fun ws M => (evs Pr (callF Pr (n + 1)) [] env M).bind fun us M =>
    (callF Pr (n + 1) 25 (.loc M.length :: permW (ws ++ us) []) (M ++ [.ins 4 [] []])).bind fun w M' => match w with
      | .p .non => .ok (.loc M.length) M'
      | _ => .bad := rfl
  have ir : callF Pr (n + 1) 25 [.loc M.length, .p (.str (sl l))] (M ++ [.ins 4 [] []]) = .ok (.p .non) (M ++ [sc (wds 32 l) 0]) := by
    rw [call_s (d := ⟨2, 2, false, b_m_Scan_init⟩) rfl rfl]
    show fnR false _ (exs Pr (callF Pr n) b_m_Scan_init [some (.loc M.length), some (.p (.str (sl l)))] (M ++ [.ins 4 [] []])) = _
    have st : ∀ (f : Nat) (e : G.Ex) (ns : List Nat) (ws : List W) (d : D), ev Pr (callF Pr n) e [some (.loc M.length), some (.p (.str (sl l)))] (M ++ [.ins 4 ns ws]) = .ok (.p d) (M ++ [.ins 4 ns ws]) → (fldOk Pr 4 f false && ns.all (fun g => fldOk Pr 4 g false) && decide (ns.length < 900) && decide (ns.Nodup)) = true →
        ex Pr (callF Pr n) (.setA (.var 0) f e) [some (.loc M.length), some (.p (.str (sl l)))] (M ++ [.ins 4 ns ws]) = .nx [some (.loc M.length), some (.p (.str (sl l)))] (M ++ [.ins 4 (putA f (.p d) ns ws).1 (putA f (.p d) ns ws).2]) := fun f e ns ws d he hf => by
      have e2 : ex Pr (callF Pr n) (.setA (.var 0) f e) [some (.loc M.length), some (.p (.str (sl l)))] (M ++ [.ins 4 ns ws]) = (ev Pr (callF Pr n) e [some (.loc M.length), some (.p (.str (sl l)))] (M ++ [.ins 4 ns ws])).st [some (.loc M.length), some (.p (.str (sl l)))] fun v' M' => (ev Pr (callF Pr n) (.var 0) [some (.loc M.length), some (.p (.str (sl l)))] M').st [some (.loc M.length), some (.p (.str (sl l)))] fun a M' => match attCell Pr M' a f v' with
        | some M'' => .nx [some (.loc M.length), some (.p (.str (sl l)))] M''
        | none => .bad := rfl
      have v0 : ev Pr (callF Pr n) (.var 0) [some (.loc M.length), some (.p (.str (sl l)))] (M ++ [.ins 4 ns ws]) = .ok (.loc M.length) (M ++ [.ins 4 ns ws]) := by
        show Res.ok (match (M ++ [Cell.ins 4 ns ws])[M.length]? with
          | some (.fz d) => W.p d
          | _ => .loc M.length) _ = _
        rw [T_top]
      have e3 : attCell Pr (M ++ [.ins 4 ns ws]) (.loc M.length) f (.p d) = some (M ++ [.ins 4 (putA f (.p d) ns ws).1 (putA f (.p d) ns ws).2]) := by
        show (match (M ++ [Cell.ins 4 ns ws])[M.length]? with
          | some (.ins c ns ws) => if fldOk Pr c f false && ns.all (fun g => fldOk Pr c g false) && decide (ns.length < 900) && decide (ns.Nodup) then some ((M ++ [Cell.ins 4 _ _]).set M.length (.ins c (putA f (.p d) ns ws).1 (putA f (.p d) ns ws).2)) else none
          | _ => none) = _
        rw [T_top]
        dsimp only
        rw [if_pos hf, T_put]
      rw [e2, he, Res.st_ok, v0, Res.st_ok, e3]
    have c0 : ev Pr (callF Pr n) (.not (.isi (.var 1) [.str])) [some (.loc M.length), some (.p (.str (sl l)))] (M ++ [.ins 4 [] []]) = .ok (.p (.bl false)) (M ++ [.ins 4 [] []]) := rfl
    have s5 := st 5 (.mth .split (.var 1) (.str " ")) [] [] (sD (wds 32 l)) (split_ev (c := 32) s_sp rfl (by omega)) (by decide)
    have s6 := st 6 (.int 0) [5] [.p (sD (wds 32 l))] (.int 0) rfl (by decide)
    unfold b_m_Scan_init
    rw [exs_cons, if_skip c0, SR.andT_nx, exs_cons, s5, SR.andT_nx, exs_one]
    show fnR false _ (ex Pr (callF Pr n) (.setA (.var 0) 6 (.int 0)) _ (M ++ [.ins 4 [5] [.p (sD (wds 32 l))]])) = _
    rw [s6]
    rfl
  rw [e, evs_cons, v0, Res.bind_ok, evs_nil, Res.bind_ok, Res.bind_ok, evs_nil, Res.bind_ok]
  show (callF Pr (n + 1) 25 [.loc M.length, .p (.str (sl l))] (M ++ [.ins 4 [] []])).bind _ = _
  rw [ir]
  rfl
theorem set_top {M : Mem} {items : List It} {k j : Nat} : (M ++ [sc items k]).set M.length (sc items j) = M ++ [sc items j] := T_put
theorem read_run {n : Nat} {M : Mem} {l : List Nat} (hB : M.all (belowC M.length) = true) (hl : l.length ≤ 90000) :
    (∃ k, stopF (wds 32 l) = some k ∧ callF Pr (n + 9) 35 [.p (.str (sl l))] M = .exc 3 [3, 4] [.int 0, .int (k : Int)] M) ∨
    (∃ g0 gs, Val g0 gs ∧ wds 32 l = itemsOf g0 gs ∧ callF Pr (n + 9) 35 [.p (.str (sl l))] M = .ok (.p (objP (g0.map resW) (gs.map toC))) M) := by
  obtain ⟨items, hit⟩ : ∃ items, items = wds 32 l := ⟨_, rfl⟩
  have hi : ∀ w ∈ items, w.length ≤ 100000 := fun w hw => Nat.le_trans (wds_w (by rw [← hit]; exact hw)) (by omega)
  have hn : items.length ≤ 90001 := by rw [hit]; have := wds_n 32 l; omega
  have hne : items ≠ [] := by rw [hit]; exact wds_ne _ _
  have cl : callF Pr (n + 9) 35 [.p (.str (sl l))] M = fnR true M (exs Pr (callF Pr (n + 8)) b_m_Program_read [some (.p (.str (sl l))), none, none, none, none, none, none] M) := by
    rw [call_s (d := ⟨1, 7, true, b_m_Program_read⟩) rfl rfl]
    rfl
  have g1 : ex Pr (callF Pr (n + 8)) (.asg 1 (.new 4 25 [(.var 0)] [] [])) [some (.p (.str (sl l))), none, none, none, none, none, none] M = .nx [some (.p (.str (sl l))), some (.loc M.length), none, none, none, none, none] (M ++ [sc items 0]) := by
    rw [ex_asg, scan_new (n := n + 7) rfl hl, hit]; rfl
  obtain ⟨MM, hMM⟩ : ∃ MM : Mem, MM = M ++ [sc items 0] := ⟨_, rfl⟩
  have hBM : MM.all (belowC MM.length) = true := by rw [hMM]; exact all_more hB below_sc
  have hM0 : MM[M.length]? = some (sc items 0) := by rw [hMM]; exact T_top
  have hp : M.length < MM.length := by rw [hMM]; simp
  have ci := costs_in_run (n := n + 1) hM0 hBM hi hn hne
  have st : ∀ j, MM.set M.length (sc items j) = M ++ [sc items j] := fun j => by rw [hMM]; exact set_top
  have ce : ev Pr (callF Pr (n + 8)) (.call 13 [(.var 1)] [] []) [some (.p (.str (sl l))), some (.loc M.length), none, none, none, none, none] MM = callF Pr (n + 8) 13 [.loc M.length] MM := by
    have v1 : ev Pr (callF Pr (n + 8)) (.var 1) [some (.p (.str (sl l))), some (.loc M.length), none, none, none, none, none] MM = .ok (.loc M.length) MM := var_sc rfl hM0
    rw [ev_call, evs_cons, v1]
    rfl
  unfold stopF
  rw [← hit]
  cases hq : pc 0 items with
  | inl j =>
    rw [hq] at ci
    dsimp only at ci
    refine .inl ⟨j, rfl, ?_⟩
    rw [cl, b_read_eq, exs_cons, g1, SR.andT_nx, ← hMM, exs_cons, ex_par, ce, ci, st]
    exact popx_more (R := [_]) hB
  | inr j =>
    obtain ⟨_, j1, j2⟩ := (pc_ok items 0 (by decide)).1 j hq
    have j0 := pc_pos hne hq
    rw [hq] at ci
    dsimp only at ci
    have hcs : ((items.take j).map resW).length = j := by rw [List.length_map, List.length_take]; omega
    have g2 : ex Pr (callF Pr (n + 8)) (.par 2 3 (.call 13 [(.var 1)] [] []) (.lstL [])) [some (.p (.str (sl l))), some (.loc M.length), none, none, none, none, none] MM = .nx (RE (.p (.str (sl l))) M.length ((items.take j).map resW) MM.length none none none) (NN MM M.length items j []) := by
      rw [ex_par, ce, ci, Res.st_ok, ev_lstL, evs_nil, Res.bind_ok, Res.st_ok, List.length_set]
      rfl
    have lp := rd_loop (n := n + 2) (MM := MM) (items := items) (p := M.length) (t := .p (.str (sl l))) (cs := (items.take j).map resW) hp hi (by rw [hcs]; exact j0) items.length (items.drop j) j Pr.fuel [] none none none (by rw [List.length_drop]; omega) rfl (by simp) (by omega) (by have := fuel_big; rw [List.length_drop]; omega)
    have run : ∀ z, whileL (ev Pr (callF Pr (n + 8)) rdT) (exs Pr (callF Pr (n + 8)) rdB) Pr.fuel (RE (.p (.str (sl l))) M.length ((items.take j).map resW) MM.length none none none) (NN MM M.length items j []) = z → callF Pr (n + 9) 35 [.p (.str (sl l))] M = fnR true M (z.andT (exs Pr (callF Pr (n + 8)) [.ret (.fz (.new 5 32 [(.var 2), (.fz (.var 3))] [] []))])) := fun z hz => by
      rw [cl, b_read_eq, exs_cons, g1, SR.andT_nx, ← hMM, exs_cons, g2, SR.andT_nx, exs_cons, ex_while, hz]
    rcases lp with ⟨k, b4, b5, b6, vs, k1, k2⟩ | ⟨hs, b4, b5, b6, k1, k2, k3, k4⟩
    · rw [hcs] at k1
      refine .inl ⟨k, k1, ?_⟩
      rw [run _ k2]
      show fnR true M (.exc 3 [3, 4] [.int 0, .int (k : Int)] _ (MM.set M.length (sc items k) ++ [_])) = _
      rw [st, List.append_assoc]
      exact popx_more hB
    · rw [hcs] at k2
      have hv : Val (items.take j) hs := by
        refine ⟨fun z => ?_, by rw [List.length_take]; omega, fun w hw => pc_numb items 0 j hq w (by rw [Nat.sub_zero]; exact hw), fun g hg => ?_, by simpa using k3⟩
        · have : (items.take j).length = 0 := by rw [z]; rfl
          rw [List.length_take] at this
          omega
        · have := k2 g hg
          rw [show (items.take j).length = j by rw [List.length_take]; omega]
          exact this
      refine .inr ⟨items.take j, hs, hv, ?_, ?_⟩
      · unfold itemsOf
        rw [← k1, List.take_append_drop]
      · rw [run _ k4, SR.andT_nx, List.nil_append, exs_one, ex_ret]
        have e1 : hs.map condW = ((hs.map toC).map condL).map W.p := by rw [List.map_map, List.map_map]; rfl
        have ef : ev Pr (callF Pr (n + 8)) (.fz (.var 3)) (RE (.p (.str (sl l))) M.length ((items.take j).map resW) MM.length b4 b5 b6) (NN MM M.length items items.length (hs.map condW)) = .ok (.p (.lst ((hs.map toC).map condL))) (MM.set M.length (sc items items.length) ++ [.fz (.lst ((hs.map toC).map condL))]) := by
          have v3 : ev Pr (callF Pr (n + 8)) (.var 3) (RE (.p (.str (sl l))) M.length ((items.take j).map resW) MM.length b4 b5 b6) (NN MM M.length items items.length (hs.map condW)) = .ok (.loc MM.length) (NN MM M.length items items.length (hs.map condW)) := by
            rw [ev_var]
            show Res.ok (rd _ (.loc MM.length)) _ = _
            rw [NN_rd]
          show (ev Pr (callF Pr (n + 8)) (.var 3) _ _).bind _ = _
          rw [v3, Res.bind_ok, e1, NN_frz (by rw [List.length_map, List.length_map]; have := hv.gl; omega)]
        have es : evs Pr (callF Pr (n + 8)) [(.var 2), (.fz (.var 3))] (RE (.p (.str (sl l))) M.length ((items.take j).map resW) MM.length b4 b5 b6) (NN MM M.length items items.length (hs.map condW)) = .ok [.p (.lst ((items.take j).map resW)), .p (.lst ((hs.map toC).map condL))] (MM.set M.length (sc items items.length) ++ [.fz (.lst ((hs.map toC).map condL))]) := by
          rw [evs_cons]
          show Res.bind (Res.ok (W.p (.lst ((items.take j).map resW))) _) _ = _
          rw [Res.bind_ok, evs_cons, ef, Res.bind_ok, evs_nil]
          rfl
        have ne := new_ev (n := n + 2) (cs := (items.take j).map resW) (qs := hs.map toC) es (fun d hd => by
          obtain ⟨w, hw, rfl⟩ := List.mem_map.mp hd
          exact (res_num (hv.nb w hw)).1) (fun z => hv.ne (List.map_eq_nil_iff.mp z)) (by rw [hcs]; exact j1) (fun x hx => by
          obtain ⟨g, hg, rfl⟩ := List.mem_map.mp hx
          rw [hcs]
          exact okC_of (k2 g hg)) (by rw [List.length_map]; exact hv.gl)
        rw [ne, Res.st_ok]
        show popR M _ ((MM.set M.length (sc items items.length) ++ [_]) ++ [_]) = _
        rw [st, List.append_assoc, List.append_assoc]
        exact pop_more hB
theorem readx {n : Nat} {M : Mem} {d : D} (hB : M.all (belowC M.length) = true) (hd : ev Pr (callF Pr (n + 1)) (.not (.isi (.var 1) [.str])) [some (.loc M.length), some (.p d)] (M ++ [.ins 4 [] []]) = .ok (.p (.bl true)) (M ++ [.ins 4 [] []])) : callF Pr (n + 3) 35 [.p d] M = .exc 3 [3, 4] [.int 0, .int 0] M := by
  rw [call_s (d := ⟨1, 7, true, b_m_Program_read⟩) rfl rfl]
  show fnR true M (exs Pr (callF Pr (n + 2)) b_m_Program_read [some (.p d), none, none, none, none, none, none] M) = _
  have ir : callF Pr (n + 2) 25 [.loc M.length, .p d] (M ++ [.ins 4 [] []]) = .exc 3 [3, 4] [.int 0, .int 0] (M ++ [.ins 4 [] []]) := by
    rw [call_s (d := ⟨2, 2, false, b_m_Scan_init⟩) rfl rfl]
    show fnR false _ (exs Pr (callF Pr (n + 1)) b_m_Scan_init [some (.loc M.length), some (.p d)] (M ++ [.ins 4 [] []])) = _
    unfold b_m_Scan_init
    rw [exs_cons, ex_ifs, hd]
    rfl
  have e : ev Pr (callF Pr (n + 2)) (.new 4 25 [(.var 0)] [] []) [some (.p d), none, none, none, none, none, none] M = (callF Pr (n + 2) 25 [.loc M.length, .p d] (M ++ [.ins 4 [] []])).bind fun w M' => match w with
      | .p .non => .ok (.loc M.length) M'
      | _ => .bad := rfl
  rw [b_read_eq, exs_cons, ex_asg, e, ir]
  exact popx_more (R := [_]) hB
/-! the law's reading -/
theorem lread_x {n k : Nat} {M : Mem} {d : D} (h : callF Pr (n + 1) 35 [.p d] M = .exc 3 [3, 4] [.int 0, .int (k : Int)] M) : callF Pr (n + 2) 23 [.p d] M = .ok (.p (.tup [.int 0, .int (k : Int)])) M := by
  rw [← fin_d, call_s (d := ⟨1, 2, true, b_l_read⟩) rfl rfl]
  show fnR true M (exs Pr (callF Pr (n + 1)) b_l_read [some (.p d), none] M) = _
  congr 1
  have e1 : exs Pr (callF Pr (n + 1)) [.ret (.scl 5 35 [(.var 0)])] [some (.p d), none] M = .exc 3 [3, 4] [.int 0, .int (k : Int)] [some (.p d), none] M := by
    rw [exs_one, ex_ret]
    show (callF Pr (n + 1) 35 [.p d] M).st _ _ = _
    rw [h]; rfl
  have e2 : ∀ hcs su, ex Pr (callF Pr (n + 1)) (.try_ [.ret (.scl 5 35 [(.var 0)])] hcs su) [some (.p d), none] M = (match exs Pr (callF Pr (n + 1)) [.ret (.scl 5 35 [(.var 0)])] [some (.p d), none] M with
    | .exc c ns vs env' M' => exh Pr (callF Pr (n + 1)) hcs su c ns vs env' M'
    | z => z) := fun _ _ => rfl
  unfold b_l_read
  rw [exs_one, e2, e1]
  rfl
theorem lread_ok {n : Nat} {M : Mem} {d e : D} (h : callF Pr (n + 1) 35 [.p d] M = .ok (.p e) M) : callF Pr (n + 2) 23 [.p d] M = .ok (.p e) M := by
  rw [← fin_d, call_s (d := ⟨1, 2, true, b_l_read⟩) rfl rfl]
  show fnR true M (exs Pr (callF Pr (n + 1)) b_l_read [some (.p d), none] M) = _
  congr 1
  have e1 : exs Pr (callF Pr (n + 1)) [.ret (.scl 5 35 [(.var 0)])] [some (.p d), none] M = .rt (.p e) M := by
    rw [exs_one, ex_ret]
    show (callF Pr (n + 1) 35 [.p d] M).st _ _ = _
    rw [h]; rfl
  have e2 : ∀ hcs su, ex Pr (callF Pr (n + 1)) (.try_ [.ret (.scl 5 35 [(.var 0)])] hcs su) [some (.p d), none] M = (match exs Pr (callF Pr (n + 1)) [.ret (.scl 5 35 [(.var 0)])] [some (.p d), none] M with
    | .exc c ns vs env' M' => exh Pr (callF Pr (n + 1)) hcs su c ns vs env' M'
    | z => z) := fun _ _ => rfl
  unfold b_l_read
  rw [exs_one, e2, e1]
/-- what a text is read as -/
theorem lread_run {n : Nat} {M : Mem} {l : List Nat} (hB : M.all (belowC M.length) = true) (hl : l.length ≤ 90000) :
    (∃ k, stopF (wds 32 l) = some k ∧ callF Pr (n + 10) 23 [.p (.str (sl l))] M = .ok (.p (.tup [.int 0, .int (k : Int)])) M) ∨
    (∃ g0 gs, Val g0 gs ∧ stopF (wds 32 l) = none ∧ l = jn [32] (itemsOf g0 gs) ∧ callF Pr (n + 10) 23 [.p (.str (sl l))] M = .ok (.p (objP (g0.map resW) (gs.map toC))) M) := by
  rcases read_run (n := n) hB hl with ⟨k, k1, k2⟩ | ⟨g0, gs, v, e, r⟩
  · exact .inl ⟨k, k1, lread_x k2⟩
  · refine .inr ⟨g0, gs, v, ?_, ?_, lread_ok r⟩
    · rw [e]; exact stop_val v
    · rw [← e, wds_jn]
theorem lread_val {n : Nat} {M : Mem} {g0 : List It} {gs : List Gp} (hB : M.all (belowC M.length) = true) (v : Val g0 gs) (hf : ∀ w ∈ itemsOf g0 gs, 32 ∉ w) (hl : (jn [32] (itemsOf g0 gs)).length ≤ 90000) :
    callF Pr (n + 10) 23 [.p (.str (sl (jn [32] (itemsOf g0 gs))))] M = .ok (.p (objP (g0.map resW) (gs.map toC))) M ∧ stopF (wds 32 (jn [32] (itemsOf g0 gs))) = none := by
  have hne : itemsOf g0 gs ≠ [] := by unfold itemsOf; simp [v.ne]
  have hw : wds 32 (jn [32] (itemsOf g0 gs)) = itemsOf g0 gs := wds_of hne hf
  have s0 := stop_val v
  rcases read_run (n := n) hB hl with ⟨k, k1, k2⟩ | ⟨h0, hs, v', e, r⟩
  · rw [hw, s0] at k1; cases k1
  · rw [hw] at e
    obtain ⟨e1, e2⟩ := val_inj v v' e
    subst e1 e2
    exact ⟨lread_ok r, by rw [hw]; exact s0⟩
end K06

set_option maxHeartbeats 4000000
namespace K06
open G
/-! ### programs drawn -/
def nw : List It := [[48], [45, 51], [55], [49, 47, 50], [45, 50, 50, 47, 55], 49 :: List.replicate 59 48, 49 :: (List.replicate 59 48 ++ [47, 51]), [49]]
theorem nw_ok : ∀ w ∈ nw, numb w = true ∧ 32 ∉ w ∧ w.length ≤ 62 := by decide +kernel
def pairD (w : It) : D := .tup [resW w, .str (sl w)]
def numE : G.Ex := match b_l_number with
  | [.ret (.call _ [_, e] _ _)] => e
  | _ => .non
theorem b_number_eq : b_l_number = [.ret (.call 16 [(.var 0), numE] [] [])] := by rfl
theorem numE_ev {C : Calls} {env : Env} {M : Mem} : ev Pr C numE env M = .ok (.p (.lst (nw.map pairD))) M := by kernel_rfl
def b1000 : (nw.map pairD).length = 8 := rfl
section
variable {cs : List Int} {R : Mem}
theorem rd0 {t l : Int} : rd (deck cs t l :: R) (.loc 0) = .loc 0 := rfl
theorem number_run {n : Nat} {t l : Int} (ht : 0 ≤ t ∧ t ≤ 2000) (hl : 0 ≤ l) : ∃ (w : It) (t' l' : Int), callF Pr (n + 3) 20 [.loc 0] (deck cs t l :: R) = .ok (.p (pairD w)) (deck cs t' l' :: R) ∧ w ∈ nw ∧ 0 ≤ t' ∧ t' ≤ t + 1 ∧ 0 ≤ l' := by
  obtain ⟨d, t', l', e, hd, h1, h2, h3⟩ := pick_run (n := n) (R := R) (cs := cs) (ds := nw.map pairD) ht hl (by decide) (by decide)
  obtain ⟨w, hw, rfl⟩ := List.mem_map.mp hd
  refine ⟨w, t', l', ?_, hw, h1, h2, h3⟩
  rw [call_s (d := ⟨1, 1, true, b_l_number⟩) rfl rfl]
  show fnR true _ (exs Pr (callF Pr (n + 2)) b_l_number [some (.loc 0)] (deck cs t l :: R)) = _
  have v0 : ev Pr (callF Pr (n + 2)) (.var 0) [some (.loc 0)] (deck cs t l :: R) = .ok (.loc 0) (deck cs t l :: R) := rfl
  rw [b_number_eq, exs_one, ex_ret, ev_call, evs_cons, v0, Res.bind_ok, evs_cons, numE_ev, Res.bind_ok, evs_nil, Res.bind_ok, Res.bind_ok, Res.bind_ok, evs_nil, Res.bind_ok]
  show fnR true _ ((callF Pr (n + 2) 16 [.loc 0, .p (.lst (nw.map pairD))] (deck cs t l :: R)).st _ _) = _
  rw [e]
  exact popR_same _ _ _ rfl
theorem compN {n : Nat} {env : Env} (h0 : getV env 0 = some (.loc 0)) : ∀ (ws : List W) (acc : List W) (t l : Int), 0 ≤ t → t + (ws.length : Int) ≤ 2000 → 0 ≤ l →
    ∃ (us : List It) (t' l' : Int), compL (cStep Pr (callF Pr (n + 3)) (.call 20 [(.var 0)] [] []) [11] (.nm 11) [] env) ws acc (deck cs t l :: R) = .ok (acc.reverse ++ (us.map pairD).map W.p) (deck cs t' l' :: R) ∧ us.length = ws.length ∧ (∀ w ∈ us, w ∈ nw) ∧ 0 ≤ t' ∧ t' ≤ t + (ws.length : Int) ∧ 0 ≤ l'
  | [], acc, t, l, h1, h2, h3 => ⟨[], t, l, by show Res.ok acc.reverse _ = _; simp, rfl, fun w hw => (by cases hw), h1, by simp, h3⟩
  | x :: ws, acc, t, l, h1, h2, h3 => by
    rw [List.length_cons] at h2
    obtain ⟨w, t1, l1, e, hw, q1, q2, q3⟩ := number_run (n := n) (cs := cs) (R := R) (t := t) (l := l) ⟨h1, by omega⟩ h3
    have st : cStep Pr (callF Pr (n + 3)) (.call 20 [(.var 0)] [] []) [11] (.nm 11) [] env x (deck cs t l :: R) = .ok (some (.p (pairD w))) (deck cs t1 l1 :: R) := by
      have v : getV ((env.set 11 none).set 11 (some x)) 0 = some (.loc 0) := by
        rw [← h0]
        unfold getV
        rw [List.getElem?_set_ne (by decide), List.getElem?_set_ne (by decide)]
      show (ev Pr (callF Pr (n + 3)) (.call 20 [(.var 0)] [] []) ((env.set 11 none).set 11 (some x)) (deck cs t l :: R)).bind _ = _
      rw [ev_call, evs_cons, ev_var, v]
      show ((callF Pr (n + 3) 20 [.loc 0] (deck cs t l :: R)).bind _) = _
      rw [e]
      rfl
    obtain ⟨us, t', l', e', a1, a2, a3, a4, a5⟩ := compN (n := n) (env := env) h0 ws (.p (pairD w) :: acc) t1 l1 q1 (by omega) q3
    refine ⟨w :: us, t', l', ?_, by simp [a1], fun y hy => ?_, a3, by rw [List.length_cons]; omega, a5⟩
    · show (cStep Pr (callF Pr (n + 3)) (.call 20 [(.var 0)] [] []) [11] (.nm 11) [] env x (deck cs t l :: R)).bind _ = _
      rw [st, Res.bind_ok]
      show compL _ ws (.p (pairD w) :: acc) (deck cs t1 l1 :: R) = _
      rw [e']
      simp
    · rcases List.mem_cons.mp hy with rfl | hy
      · exact hw
      · exact a2 y hy
def ncE : G.Ex := .comp (.call 20 [(.var 0)] [] []) [11] (.nm 11) (.rng1 (.var 4)) []
theorem rngW_len (m : Nat) : (rngW 0 (m : Int)).length = m := by
  unfold rngW
  rw [List.length_map, List.length_range]
  omega
theorem ncE_ev {n m : Nat} {env : Env} {t l : Int} (h0 : getV env 0 = some (.loc 0)) (h4 : getV env 4 = some (.p (.int (m : Int)))) (hm : m ≤ 60) (h1 : 0 ≤ t) (h2 : t + (m : Int) ≤ 2000) (h3 : 0 ≤ l) :
    ∃ (us : List It) (t' l' : Int), ev Pr (callF Pr (n + 3)) ncE env (deck cs t l :: R) = .ok (.p (.lst (us.map pairD))) (deck cs t' l' :: R) ∧ us.length = m ∧ (∀ w ∈ us, w ∈ nw) ∧ 0 ≤ t' ∧ t' ≤ t + (m : Int) ∧ 0 ≤ l' := by
  have hr := rngW_len m
  obtain ⟨us, t', l', e, a1, a2, a3, a4, a5⟩ := compN (n := n) (cs := cs) (R := R) (env := env) h0 (rngW 0 (m : Int)) [] t l h1 (by rw [hr]; exact h2) h3
  rw [hr] at a1 a4
  refine ⟨us, t', l', ?_, a1, a2, a3, a4, a5⟩
  have v4 : ev Pr (callF Pr (n + 3)) (.var 4) env (deck cs t l :: R) = .ok (.p (.int (m : Int))) (deck cs t l :: R) := by rw [ev_var, h4]; rfl
  have er : ev Pr (callF Pr (n + 3)) (.rng1 (.var 4)) env (deck cs t l :: R) = .ok (.tp (rngW 0 (m : Int))) (deck cs t l :: R) := by
    show (ev Pr (callF Pr (n + 3)) (.var 4) env _).bind _ = _
    rw [v4, Res.bind_ok]
    show (if szOk (m : Int).natAbs then Res.ok (W.tp (rngW 0 (m : Int))) (deck cs t l :: R) else .bad) = _
    rw [Int.natAbs_natCast, show szOk m = true from decide_eq_true (by omega)]
    rfl
  unfold ncE
  rw [ev_comp, er, Res.bind_ok]
  show ((compL _ (rngW 0 (m : Int)) [] _).noX.bind _) = _
  rw [e, Res.noX_ok, Res.bind_ok, List.reverse_nil, List.nil_append, mkLst_p]
  rfl
def wdE : G.Ex := .call 16 [(.var 0), (.lst [(.str "least"), (.str "just")])] [] []
theorem wdE_ev {n : Nat} {env : Env} {t l : Int} (h0 : getV env 0 = some (.loc 0)) (ht : 0 ≤ t ∧ t ≤ 2000) (hl : 0 ≤ l) : ∃ (w : It) (t' l' : Int), ev Pr (callF Pr (n + 2)) wdE env (deck cs t l :: R) = .ok (.p (.str (sl w))) (deck cs t' l' :: R) ∧ (w = least ∨ w = just) ∧ 0 ≤ t' ∧ t' ≤ t + 1 ∧ 0 ≤ l' := by
  obtain ⟨d, t', l', e, hd, h1, h2, h3⟩ := pick_run (n := n) (R := R) (cs := cs) (ds := [.str "least", .str "just"]) ht hl (by decide) (by decide)
  have hw : ∃ w, d = .str (sl w) ∧ (w = least ∨ w = just) := by
    rcases List.mem_cons.mp hd with rfl | hd
    · exact ⟨least, rfl, .inl rfl⟩
    · rw [List.mem_singleton] at hd
      subst hd
      exact ⟨just, rfl, .inr rfl⟩
  obtain ⟨w, rfl, hw⟩ := hw
  refine ⟨w, t', l', ?_, hw, h1, h2, h3⟩
  unfold wdE
  rw [ev_call, evs_cons, ev_var, h0]
  show ((callF Pr (n + 2) 16 [.loc 0, .p (.lst [.str "least", .str "just"])] (deck cs t l :: R))) = _
  rw [e]
def nbE : G.Ex := .call 20 [(.var 0)] [] []
theorem nbE_ev {n : Nat} {env : Env} {t l : Int} (h0 : getV env 0 = some (.loc 0)) (ht : 0 ≤ t ∧ t ≤ 2000) (hl : 0 ≤ l) : ∃ (w : It) (t' l' : Int), ev Pr (callF Pr (n + 3)) nbE env (deck cs t l :: R) = .ok (.p (pairD w)) (deck cs t' l' :: R) ∧ w ∈ nw ∧ 0 ≤ t' ∧ t' ≤ t + 1 ∧ 0 ≤ l' := by
  obtain ⟨w, t', l', e, h⟩ := number_run (n := n) (cs := cs) (R := R) ht hl
  refine ⟨w, t', l', ?_, h⟩
  unfold nbE
  rw [ev_call, evs_cons, ev_var, h0]
  show ((callF Pr (n + 3) 20 [.loc 0] (deck cs t l :: R))) = _
  rw [e]
end
def okD (m : Nat) (g : Gp) : Prop := g.1.length = m ∧ (∀ w ∈ g.1, w ∈ nw) ∧ (g.2.1 = least ∨ g.2.1 = just) ∧ g.2.2 ∈ nw
theorem okD_G {m : Nat} {g : Gp} (h : okD m g) : okG m g := by
  obtain ⟨h1, h2, h3, h4⟩ := h
  refine ⟨h1, fun w hw => (nw_ok w (h2 w hw)).1, ?_, (nw_ok _ h4).1⟩
  unfold isWd
  rcases h3 with h3 | h3
  · rw [h3]; rfl
  · rw [h3]; rfl
def toldD (g : Gp) : D := .tup [.lst (g.1.map pairD), .str (sl g.2.1), pairD g.2.2]
def PE (a1 a2 a3 : Option W) (many most : Int) (us : List It) (a8 a9 a10 : Option W) : Env := [some (.loc 0), a1, a2, a3, some (.p (.int many)), some (.p (.int most)), some (.p (.lst (us.map pairD))), some (.loc 1), a8, a9, a10, none, none, none]
def toldB : G.St := .app (.var 7) (.tup [ncE, wdE, nbE])
theorem toldB_ev {n m : Nat} {cs : List Int} {a1 a2 a3 a8 a9 a10 : Option W} {most : Int} {us : List It} {gs : List Gp} {t l : Int} (hm : m ≤ 60) (h1 : 0 ≤ t) (h2 : t + (m : Int) + 2 ≤ 2000) (h3 : 0 ≤ l) (hg : gs.length ≤ 900) :
    ∃ (g : Gp) (t' l' : Int), ex Pr (callF Pr (n + 3)) toldB (PE a1 a2 a3 (m : Int) most us a8 a9 a10) [deck cs t l, .lst ((gs.map toldD).map W.p)] = .nx (PE a1 a2 a3 (m : Int) most us a8 a9 a10) [deck cs t' l', .lst (((gs ++ [g]).map toldD).map W.p)] ∧ okD m g ∧ 0 ≤ t' ∧ t' ≤ t + (m : Int) + 2 ∧ 0 ≤ l' := by
  obtain ⟨vs, t1, l1, e1, b1, b2, b3, b4, b5⟩ := ncE_ev (n := n) (m := m) (cs := cs) (R := [.lst ((gs.map toldD).map W.p)]) (env := PE a1 a2 a3 (m : Int) most us a8 a9 a10) (t := t) (l := l) rfl rfl hm h1 (by omega) h3
  obtain ⟨w, t2, l2, e2, c1, c2, c3, c4⟩ := wdE_ev (n := n + 1) (cs := cs) (R := [.lst ((gs.map toldD).map W.p)]) (env := PE a1 a2 a3 (m : Int) most us a8 a9 a10) (t := t1) (l := l1) rfl ⟨b3, by omega⟩ b5
  obtain ⟨x, t3, l3, e3, d1, d2, d3, d4⟩ := nbE_ev (n := n) (cs := cs) (R := [.lst ((gs.map toldD).map W.p)]) (env := PE a1 a2 a3 (m : Int) most us a8 a9 a10) (t := t2) (l := l2) rfl ⟨c2, by omega⟩ c4
  refine ⟨(vs, w, x), t3, l3, ?_, ⟨b1, b2, c1, d1⟩, d2, by omega, d4⟩
  have v7 : ev Pr (callF Pr (n + 3)) (.var 7) (PE a1 a2 a3 (m : Int) most us a8 a9 a10) [deck cs t l, .lst ((gs.map toldD).map W.p)] = .ok (.loc 1) [deck cs t l, .lst ((gs.map toldD).map W.p)] := rfl
  have te : ev Pr (callF Pr (n + 3)) (.tup [ncE, wdE, nbE]) (PE a1 a2 a3 (m : Int) most us a8 a9 a10) [deck cs t l, .lst ((gs.map toldD).map W.p)] = .ok (.p (toldD (vs, w, x))) [deck cs t3 l3, .lst ((gs.map toldD).map W.p)] := by
    rw [ev_tup, evs_cons, e1, Res.bind_ok, evs_cons, e2, Res.bind_ok, evs_cons, e3, Res.bind_ok, evs_nil]
    rfl
  have ap := T_app (M := [deck cs t3 l3]) (vs := (gs.map toldD).map W.p) (v := .p (toldD (vs, w, x))) (by simp; omega)
  have := app_ev (C := callF Pr (n + 3)) (env := PE a1 a2 a3 (m : Int) most us a8 a9 a10) v7 (T_isl (M := [deck cs t l])) te ap
  unfold toldB
  rw [this, List.map_append, List.map_append]
  rfl
theorem told_loop {n m : Nat} {cs : List Int} {a2 a3 a8 a9 a10 : Option W} {most : Int} {us : List It} (hm : m ≤ 60) : ∀ (ws : List W) (gs : List Gp) (a1 : Option W) (t l : Int), 0 ≤ t → t + (ws.length : Int) * ((m : Int) + 2) ≤ 2000 → 0 ≤ l → gs.length + ws.length ≤ 900 → (∀ g ∈ gs, okD m g) →
    ∃ (hs : List Gp) (b1 : Option W) (t' l' : Int), forL (fun w env M => match give (.nm 1) w env with
      | some env' => exs Pr (callF Pr (n + 3)) [toldB] env' M
      | none => .bad) ws (PE a1 a2 a3 (m : Int) most us a8 a9 a10) [deck cs t l, .lst ((gs.map toldD).map W.p)] = .nx (PE b1 a2 a3 (m : Int) most us a8 a9 a10) [deck cs t' l', .lst ((hs.map toldD).map W.p)] ∧ (∀ g ∈ hs, okD m g) ∧ hs.length = gs.length + ws.length ∧ 0 ≤ t' ∧ t' ≤ t + (ws.length : Int) * ((m : Int) + 2) ∧ 0 ≤ l'
  | [], gs, a1, t, l, h1, h2, h3, h4, h5 => ⟨gs, a1, t, l, rfl, h5, by simp, h1, by simp, h3⟩
  | w :: ws, gs, a1, t, l, h1, h2, h3, h4, h5 => by
    rw [List.length_cons] at h2 h4
    have e0 : ((ws.length + 1 : Nat) : Int) * ((m : Int) + 2) = (ws.length : Int) * ((m : Int) + 2) + ((m : Int) + 2) := by
      rw [Int.natCast_add, Int.add_mul, Int.natCast_one, Int.one_mul]
    have pp : 0 ≤ (ws.length : Int) * ((m : Int) + 2) := Int.mul_nonneg (by omega) (by omega)
    rw [e0] at h2
    obtain ⟨g, t1, l1, e1, b1, b2, b3, b4⟩ := toldB_ev (n := n) (m := m) (cs := cs) (a1 := some w) (a2 := a2) (a3 := a3) (a8 := a8) (a9 := a9) (a10 := a10) (most := most) (us := us) (gs := gs) hm h1 (by omega) h3 (by omega)
    obtain ⟨hs, c1, t', l', e2, c2, c3, c4, c5, c6⟩ := told_loop (n := n) (m := m) (cs := cs) (a2 := a2) (a3 := a3) (a8 := a8) (a9 := a9) (a10 := a10) (most := most) (us := us) hm ws (gs ++ [g]) (some w) t1 l1 b2 (by omega) b4 (by simp; omega) (fun y hy => by
      rcases List.mem_append.mp hy with hy | hy
      · exact h5 y hy
      · rw [List.mem_singleton] at hy
        rw [hy]; exact b1)
    refine ⟨hs, c1, t', l', ?_, c2, by rw [c3]; simp; omega, c4, by rw [List.length_cons, e0]; omega, c6⟩
    have st : (match give (.nm 1) w (PE a1 a2 a3 (m : Int) most us a8 a9 a10) with
      | some env' => exs Pr (callF Pr (n + 3)) [toldB] env' [deck cs t l, .lst ((gs.map toldD).map W.p)]
      | none => .bad) = .nx (PE (some w) a2 a3 (m : Int) most us a8 a9 a10) [deck cs t1 l1, .lst (((gs ++ [g]).map toldD).map W.p)] := by
      show exs Pr (callF Pr (n + 3)) [toldB] (PE (some w) a2 a3 (m : Int) most us a8 a9 a10) _ = _
      rw [exs_one, e1]
    conv => lhs; unfold forL
    rw [st]
    exact e2
/-! the text, the conditions -/
def itE (v : Nat) : G.Ex := .comp (.var 13) [12, 13] (.tp [.nm 12, .nm 13]) (.it (.var v)) []
def nuE (v : Nat) : G.Ex := .comp (.var 12) [12, 13] (.tp [.nm 12, .nm 13]) (.it (.var v)) []
theorem pr_give {w : It} {env : Env} (h : 14 ≤ env.length) : ∃ e, give (.tp [.nm 12, .nm 13]) (.p (pairD w)) (wipeE env [12, 13]) = some e ∧ getV e 12 = some (.p (resW w)) ∧ getV e 13 = some (.p (.str (sl w))) := by
  refine ⟨_, rfl, ?_, ?_⟩
  · unfold getV
    show (match ((((env.set 13 none).set 12 none).set 12 (some (.p (resW w)))).set 13 (some (.p (.str (sl w)))))[12]? with
      | some (some w) => some w
      | _ => none) = _
    rw [List.getElem?_set_ne (by decide), List.getElem?_set_self (by simp; omega)]
  · unfold getV
    show (match ((((env.set 13 none).set 12 none).set 12 (some (.p (resW w)))).set 13 (some (.p (.str (sl w)))))[13]? with
      | some (some w) => some w
      | _ => none) = _
    rw [List.getElem?_set_self (by simp; omega)]
theorem itE_ev {C : Calls} {env : Env} {M : Mem} {v : Nat} {us : List It} (hv : getV env v = some (.p (.lst (us.map pairD)))) (h : 14 ≤ env.length) : ev Pr C (itE v) env M = .ok (.p (.lst (us.map fun w => D.str (sl w)))) M := by
  have e := comp_val (C := C) (env := env) (M := M) (elt := .var 13) (it := .it (.var v)) (own := [12, 13]) (t := .tp [.nm 12, .nm 13]) (w := .p (.lst (us.map pairD))) (ds := us.map pairD) (fun d => match d with
    | .tup [_, s] => s
    | _ => .non) (by show ev Pr C (.var v) env M = _; rw [ev_var, hv]; rfl) rfl fun x hx => by
      obtain ⟨w, _, rfl⟩ := List.mem_map.mp hx
      obtain ⟨e, e1, e2, e3⟩ := pr_give (w := w) h
      exact ⟨e, e1, by rw [ev_var, e3]; rfl⟩
  unfold itE
  rw [e, List.map_map]
  rfl
theorem nuE_ev {C : Calls} {env : Env} {M : Mem} {v : Nat} {us : List It} (hv : getV env v = some (.p (.lst (us.map pairD)))) (h : 14 ≤ env.length) : ev Pr C (nuE v) env M = .ok (.p (.lst (us.map resW))) M := by
  have e := comp_val (C := C) (env := env) (M := M) (elt := .var 12) (it := .it (.var v)) (own := [12, 13]) (t := .tp [.nm 12, .nm 13]) (w := .p (.lst (us.map pairD))) (ds := us.map pairD) (fun d => match d with
    | .tup [s, _] => s
    | _ => .non) (by show ev Pr C (.var v) env M = _; rw [ev_var, hv]; rfl) rfl fun x hx => by
      obtain ⟨w, _, rfl⟩ := List.mem_map.mp hx
      obtain ⟨e, e1, e2, e3⟩ := pr_give (w := w) h
      exact ⟨e, e1, by rw [ev_var, e2]; rfl⟩
  unfold nuE
  rw [e, List.map_map]
  rfl
end K06

set_option maxHeartbeats 4000000
namespace K06
open G
def grp (g : Gp) : It := [32, 47, 32] ++ jn [32] (g.1 ++ [g.2.1, g.2.2])
def txt (acc : It) (gs : List Gp) : It := acc ++ gs.flatMap grp
theorem txt_jn : ∀ (gs : List Gp) (a : It), txt a gs = jn [32, 47, 32] (a :: gs.map fun g => jn [32] (g.1 ++ [g.2.1, g.2.2]))
  | [], a => by show a ++ [] = a; simp
  | g :: gs, a => by
    have ih := txt_jn gs (jn [32] (g.1 ++ [g.2.1, g.2.2]))
    unfold txt at ih ⊢
    rw [List.flatMap_cons, List.map_cons, jn_cons (by simp), ← ih]
    unfold grp
    simp
theorem items_jn {us : List It} {gs : List Gp} (h : us ≠ []) : jn [32] (itemsOf us gs) = txt (jn [32] us) gs := by
  have e := jn_flat 32 (gs.map fun g => g.1 ++ [g.2.1, g.2.2]) us h (fun x hx => by
    obtain ⟨g, _, rfl⟩ := List.mem_map.mp hx
    simp)
  rw [List.flatMap_map] at e
  have e' : jn [32] (us ++ gs.flatMap flatG) = jn [32, 47, 32] ((us :: gs.map fun g => g.1 ++ [g.2.1, g.2.2]).map (jn [32])) := e
  unfold itemsOf
  rw [e', txt_jn, List.map_cons, List.map_map]
  rfl
theorem jn_app2 {us : List It} {w x : It} (h : us ≠ []) : jn [32] (us ++ [w, x]) = jn [32] us ++ [32] ++ w ++ [32] ++ x := by
  induction us with
  | nil => exact absurd rfl h
  | cons a r ih =>
    cases r with
    | nil => show a ++ [32] ++ (w ++ [32] ++ x) = a ++ [32] ++ w ++ [32] ++ x; simp
    | cons b r =>
      show jn [32] (a :: ((b :: r) ++ [w, x])) = _
      rw [jn_cons (by simp), ih (by simp), jn_cons (a := a) (r := b :: r) (by simp)]
      simp
theorem ad_str {M : Mem} {a b : It} (h : a.length + b.length ≤ 100000) : binW M .add (.p (.str (sl a))) (.p (.str (sl b))) = some (.p (.str (sl (a ++ b)))) := by
  show (if szOk ((sl a).length + (sl b).length) then some (D.str (sl a ++ sl b)) else none).map W.p = _
  rw [sl_len, sl_len, show szOk (a.length + b.length) = true from decide_eq_true h, sl_app]
  rfl
theorem add_ev {C : Calls} {env : Env} {M : Mem} {x y : G.Ex} {a b : It} (hx : ev Pr C x env M = .ok (.p (.str (sl a))) M) (hy : ev Pr C y env M = .ok (.p (.str (sl b))) M) (h : a.length + b.length ≤ 100000) : ev Pr C (.bin .add x y) env M = .ok (.p (.str (sl (a ++ b)))) M := by
  rw [ev_bin, hx, Res.bind_ok, hy, Res.bind_ok, ad_str h]
  rfl
def textB : G.St := .asg 2 (.bin .add (.bin .add (.bin .add (.bin .add (.bin .add (.bin .add (.var 2) (.str " / ")) (.mth .join (.str " ") (itE 8))) (.str " ")) (.var 9)) (.str " ")) (.idx (.var 10) (.int 1)))
theorem textB_ev {C : Calls} {M : Mem} {a1 a3 : Option W} {many most : Int} {us : List It} {acc : It} {g : Gp} (hg : g.1 ≠ []) (hl : (acc ++ grp g).length ≤ 90000) :
    ex Pr C textB (PE a1 (some (.p (.str (sl acc)))) a3 many most us (some (.p (.lst (g.1.map pairD)))) (some (.p (.str (sl g.2.1)))) (some (.p (pairD g.2.2)))) M = .nx (PE a1 (some (.p (.str (sl (acc ++ grp g))))) a3 many most us (some (.p (.lst (g.1.map pairD)))) (some (.p (.str (sl g.2.1)))) (some (.p (pairD g.2.2)))) M := by
  obtain ⟨env, he⟩ : ∃ env : Env, env = PE a1 (some (.p (.str (sl acc)))) a3 many most us (some (.p (.lst (g.1.map pairD)))) (some (.p (.str (sl g.2.1)))) (some (.p (pairD g.2.2))) := ⟨_, rfl⟩
  have e0 : acc ++ grp g = acc ++ [32, 47, 32] ++ jn [32] g.1 ++ [32] ++ g.2.1 ++ [32] ++ g.2.2 := by
    unfold grp
    rw [jn_app2 hg]
    simp
  rw [e0] at hl ⊢
  have h3 : ([32, 47, 32] : It).length = 3 := rfl
  have h1 : ([32] : It).length = 1 := rfl
  simp only [List.length_append, h3, h1] at hl
  have v2 : ev Pr C (.var 2) env M = .ok (.p (.str (sl acc))) M := by rw [he]; rfl
  have v9 : ev Pr C (.var 9) env M = .ok (.p (.str (sl g.2.1))) M := by rw [he]; rfl
  have v10 : ev Pr C (.idx (.var 10) (.int 1)) env M = .ok (.p (.str (sl g.2.2))) M := by rw [he]; rfl
  have sb : ev Pr C (.str " / ") env M = .ok (.p (.str (sl [32, 47, 32]))) M := by rw [ev_str, s_spb]
  have s1 : ev Pr C (.str " ") env M = .ok (.p (.str (sl [32]))) M := by rw [ev_str, s_sp1]
  have jv : ev Pr C (.mth .join (.str " ") (itE 8)) env M = .ok (.p (.str (sl (jn [32] g.1)))) M := join_ev s_sp1 (itE_ev (by rw [he]; rfl) (by rw [he]; exact (by decide : 14 ≤ 14))) (by omega) (by decide)
  have z := add_ev (add_ev (add_ev (add_ev (add_ev (add_ev v2 sb (by rw [h3]; omega)) jv (by simp only [List.length_append, h3]; omega)) s1 (by simp only [List.length_append, h3, h1]; omega)) v9 (by simp only [List.length_append, h3, h1]; omega)) s1 (by simp only [List.length_append, h3, h1]; omega)) v10 (by simp only [List.length_append, h3, h1]; omega)
  unfold textB
  rw [← he, ex_asg, z, he]
  rfl
theorem text_loop {C : Calls} {M : Mem} {a1 a3 : Option W} {many most : Int} {us : List It} : ∀ (gs : List Gp) (acc : It) (a8 a9 a10 : Option W), (∀ g ∈ gs, g.1 ≠ []) → (txt acc gs).length ≤ 90000 → ∃ b8 b9 b10, forL (fun w env M => match give (.tp [.nm 8, .nm 9, .nm 10]) w env with
      | some env' => exs Pr C [textB] env' M
      | none => .bad) ((gs.map toldD).map W.p) (PE a1 (some (.p (.str (sl acc)))) a3 many most us a8 a9 a10) M = .nx (PE a1 (some (.p (.str (sl (txt acc gs))))) a3 many most us b8 b9 b10) M
  | [], acc, a8, a9, a10, _, _ => ⟨a8, a9, a10, by rw [show txt acc [] = acc from List.append_nil acc]; rfl⟩
  | g :: gs, acc, a8, a9, a10, h, hl => by
    have e : txt acc (g :: gs) = txt (acc ++ grp g) gs := by unfold txt; rw [List.flatMap_cons, List.append_assoc]
    rw [e] at hl ⊢
    have hl1 : (acc ++ grp g).length ≤ 90000 := by
      unfold txt at hl
      rw [List.length_append] at hl
      omega
    have st : (match give (.tp [.nm 8, .nm 9, .nm 10]) (.p (toldD g)) (PE a1 (some (.p (.str (sl acc)))) a3 many most us a8 a9 a10) with
      | some env' => exs Pr C [textB] env' M
      | none => .bad) = .nx (PE a1 (some (.p (.str (sl (acc ++ grp g))))) a3 many most us (some (.p (.lst (g.1.map pairD)))) (some (.p (.str (sl g.2.1)))) (some (.p (pairD g.2.2)))) M := by
      show exs Pr C [textB] (PE a1 (some (.p (.str (sl acc)))) a3 many most us (some (.p (.lst (g.1.map pairD)))) (some (.p (.str (sl g.2.1)))) (some (.p (pairD g.2.2)))) M = _
      rw [exs_one, textB_ev (h g List.mem_cons_self) hl1]
    obtain ⟨b8, b9, b10, ih⟩ := text_loop (C := C) (M := M) (a1 := a1) (a3 := a3) (many := many) (most := most) (us := us) gs (acc ++ grp g) (some (.p (.lst (g.1.map pairD)))) (some (.p (.str (sl g.2.1)))) (some (.p (pairD g.2.2))) (fun y hy => h y (List.mem_cons_of_mem _ hy)) hl
    refine ⟨b8, b9, b10, ?_⟩
    rw [List.map_cons, List.map_cons]
    conv => lhs; unfold forL
    rw [st]
    exact ih
def cdE : G.Ex := .comp (.tup [nuE 8, (.var 9), (.idx (.var 10) (.int 0))]) [8, 9, 10] (.tp [.nm 8, .nm 9, .nm 10]) (.it (.fz (.var 7))) []
theorem cdE_ev {C : Calls} {X : Cell} {a1 a2 a3 a8 a9 a10 : Option W} {many most : Int} {us : List It} {gs : List Gp} : ev Pr C cdE (PE a1 a2 a3 many most us a8 a9 a10) [X, .fz (.lst (gs.map toldD))] = .ok (.p (.lst ((gs.map toC).map condL))) [X, .fz (.lst (gs.map toldD))] := by
  have e := comp_val (C := C) (env := PE a1 a2 a3 many most us a8 a9 a10) (M := [X, .fz (.lst (gs.map toldD))]) (elt := .tup [nuE 8, (.var 9), (.idx (.var 10) (.int 0))]) (it := .it (.fz (.var 7))) (own := [8, 9, 10]) (t := .tp [.nm 8, .nm 9, .nm 10]) (w := .p (.lst (gs.map toldD))) (ds := gs.map toldD) (fun d => match d with
    | .tup [.lst ps, w, .tup [x, _]] => .tup [.lst (ps.map fun p => match p with
      | .tup [s, _] => s
      | _ => .non), w, x]
    | _ => .non) rfl rfl fun x hx => by
      obtain ⟨g, _, rfl⟩ := List.mem_map.mp hx
      refine ⟨PE a1 a2 a3 many most us (some (.p (.lst (g.1.map pairD)))) (some (.p (.str (sl g.2.1)))) (some (.p (pairD g.2.2))), rfl, ?_⟩
      have n8 := nuE_ev (C := C) (env := PE a1 a2 a3 many most us (some (.p (.lst (g.1.map pairD)))) (some (.p (.str (sl g.2.1)))) (some (.p (pairD g.2.2)))) (M := [X, .fz (.lst (gs.map toldD))]) (v := 8) (us := g.1) rfl (by exact (by decide : 14 ≤ 14))
      rw [ev_tup, evs_cons, n8, Res.bind_ok, evs_cons]
      show Res.bind (Res.bind (Res.bind (Res.ok (W.p (.str (sl g.2.1))) _) _) _) _ = _
      rw [Res.bind_ok, evs_cons]
      show Res.bind (Res.bind (Res.bind (Res.bind (Res.ok (W.p (resW g.2.2)) _) _) _) _) _ = _
      rw [Res.bind_ok, evs_nil]
      show Res.ok (W.p (.tup [.lst (g.1.map resW), .str (sl g.2.1), resW g.2.2])) _ = Res.ok (W.p (.tup [.lst ((g.1.map pairD).map _), .str (sl g.2.1), resW g.2.2])) _
      rw [List.map_map]
      rfl
  unfold cdE
  rw [e, List.map_map, List.map_map]
  congr 4
  funext g
  show D.tup [.lst ((g.1.map pairD).map _), .str (sl g.2.1), resW g.2.2] = .tup [.lst (g.1.map resW), .str (sl g.2.1), resW g.2.2]
  rw [List.map_map]
  rfl
def ps1 : List D := [.tup [.int 1, .int 4], .tup [.int 2, .int 5], .tup [.int 3, .int 3], .tup [.int 1, .int 0]]
def ps2 : List D := [.tup [.int 60, .int 2], .tup [.int 2, .int 60]]
def pE1 : G.Ex := .call 16 [(.var 0), (.lst [(.tup [(.int 1), (.int 4)]), (.tup [(.int 2), (.int 5)]), (.tup [(.int 3), (.int 3)]), (.tup [(.int 1), (.int 0)])])] [] []
def pE2 : G.Ex := .call 16 [(.var 0), (.lst [(.tup [(.int 60), (.int 2)]), (.tup [(.int 2), (.int 60)])])] [] []
def turnE : G.Ex := .ite (.cmp .lt (.var 5) (.int 60)) (.call 15 [(.var 0), (.bin .add (.var 5) (.int 1))] [] []) (.int 60)
theorem b_program_eq : b_l_program = [.asgT (.tp [.nm 4, .nm 5]) (.ite (.cmp .gt (.call 15 [(.var 0), (.int 20)] [] []) (.int 0)) pE1 pE2), .par 6 7 ncE (.lstL []), .for_ (.nm 1) (.rng1 turnE) [toldB], .asg 2 (.mth .join (.str " ") (itE 6)), .for_ (.tp [.nm 8, .nm 9, .nm 10]) (.it (.fz (.var 7))) [textB], .asg 3 cdE, .ret (.tup [(.fz (.new 5 32 [nuE 6, (.var 3)] [] [])), (.var 2)])] := by rfl
def mm : List (Nat × Nat) := [(1, 4), (2, 5), (3, 3), (1, 0), (60, 2), (2, 60)]
theorem first_ev {n : Nat} {cs : List Int} {t l : Int} (h1 : 0 ≤ t) (h2 : t + 2 ≤ 2000) (h3 : 0 ≤ l) : ∃ (q : Nat × Nat) (t' l' : Int), ev Pr (callF Pr (n + 2)) (.ite (.cmp .gt (.call 15 [(.var 0), (.int 20)] [] []) (.int 0)) pE1 pE2) [some (.loc 0), none, none, none, none, none, none, none, none, none, none, none, none, none] [deck cs t l] = .ok (.p (.tup [.int (q.1 : Int), .int (q.2 : Int)])) [deck cs t' l'] ∧ q ∈ mm ∧ 0 ≤ t' ∧ t' ≤ t + 2 ∧ 0 ≤ l' := by
  obtain ⟨r, t1, l1, e1, _, _, q1, q2, q3⟩ := deal_run (n := n + 1) (R := []) (cs := cs) (many := 20) ⟨h1, by omega⟩ h3 (by decide)
  have c : ev Pr (callF Pr (n + 2)) (.cmp .gt (.call 15 [(.var 0), (.int 20)] [] []) (.int 0)) [some (.loc 0), none, none, none, none, none, none, none, none, none, none, none, none, none] [deck cs t l] = .ok (.p (.bl (decide (0 < r)))) [deck cs t1 l1] := by
    have : ev Pr (callF Pr (n + 2)) (.call 15 [(.var 0), (.int 20)] [] []) [some (.loc 0), none, none, none, none, none, none, none, none, none, none, none, none, none] [deck cs t l] = .ok (.p (.int r)) [deck cs t1 l1] := e1
    rw [ev_cmp, this]
    rfl
  rw [ev_ite, c, Res.bind_ok]
  cases decide (0 < r) with
  | true =>
    obtain ⟨d, t2, l2, e2, hd, p1, p2, p3⟩ := pick_run (n := n) (R := []) (cs := cs) (ds := ps1) (t := t1) (l := l1) ⟨q1, by omega⟩ q3 (by decide) (by decide)
    have e3 : ev Pr (callF Pr (n + 2)) pE1 [some (.loc 0), none, none, none, none, none, none, none, none, none, none, none, none, none] [deck cs t1 l1] = .ok (.p d) [deck cs t2 l2] := e2
    have hq : ∃ q ∈ mm, d = .tup [.int ((q.1 : Nat) : Int), .int ((q.2 : Nat) : Int)] := by
      simp [ps1] at hd
      rcases hd with rfl | rfl | rfl | rfl
      · exact ⟨(1, 4), by decide, rfl⟩
      · exact ⟨(2, 5), by decide, rfl⟩
      · exact ⟨(3, 3), by decide, rfl⟩
      · exact ⟨(1, 0), by decide, rfl⟩
    obtain ⟨q, hq, rfl⟩ := hq
    exact ⟨q, t2, l2, e3, hq, p1, by omega, p3⟩
  | false =>
    obtain ⟨d, t2, l2, e2, hd, p1, p2, p3⟩ := pick_run (n := n) (R := []) (cs := cs) (ds := ps2) (t := t1) (l := l1) ⟨q1, by omega⟩ q3 (by decide) (by decide)
    have e3 : ev Pr (callF Pr (n + 2)) pE2 [some (.loc 0), none, none, none, none, none, none, none, none, none, none, none, none, none] [deck cs t1 l1] = .ok (.p d) [deck cs t2 l2] := e2
    have hq : ∃ q ∈ mm, d = .tup [.int ((q.1 : Nat) : Int), .int ((q.2 : Nat) : Int)] := by
      simp [ps2] at hd
      rcases hd with rfl | rfl
      · exact ⟨(60, 2), by decide, rfl⟩
      · exact ⟨(2, 60), by decide, rfl⟩
    obtain ⟨q, hq, rfl⟩ := hq
    exact ⟨q, t2, l2, e3, hq, p1, by omega, p3⟩
theorem turn_ev {n : Nat} {cs : List Int} {R : Mem} {t l : Int} {a1 a2 a3 a8 a9 a10 : Option W} {many : Int} {most : Nat} {us : List It} (h1 : 0 ≤ t) (h2 : t + 1 ≤ 2000) (h3 : 0 ≤ l) (hm : most ≤ 60) : ∃ (k : Nat) (t' l' : Int), ev Pr (callF Pr (n + 1)) (.rng1 turnE) (PE a1 a2 a3 many (most : Int) us a8 a9 a10) (deck cs t l :: R) = .ok (.tp (rngW 0 (k : Int))) (deck cs t' l' :: R) ∧ k ≤ most ∧ 0 ≤ t' ∧ t' ≤ t + 1 ∧ 0 ≤ l' := by
  have key : ∃ (k : Nat) (t' l' : Int), ev Pr (callF Pr (n + 1)) turnE (PE a1 a2 a3 many (most : Int) us a8 a9 a10) (deck cs t l :: R) = .ok (.p (.int (k : Int))) (deck cs t' l' :: R) ∧ k ≤ most ∧ 0 ≤ t' ∧ t' ≤ t + 1 ∧ 0 ≤ l' := by
    have c : ev Pr (callF Pr (n + 1)) (.cmp .lt (.var 5) (.int 60)) (PE a1 a2 a3 many (most : Int) us a8 a9 a10) (deck cs t l :: R) = .ok (.p (.bl (decide ((most : Int) < 60)))) (deck cs t l :: R) := rfl
    unfold turnE
    rw [ev_ite, c, Res.bind_ok]
    by_cases z : (most : Int) < 60
    · obtain ⟨r, t1, l1, e1, r1, r2, q1, q2, q3⟩ := deal_run (n := n) (R := R) (cs := cs) (many := (most : Int) + 1) ⟨h1, by omega⟩ h3 ⟨by omega, by omega⟩
      rw [decide_eq_true z]
      obtain ⟨k, rfl⟩ : ∃ k : Nat, r = (k : Int) := ⟨r.toNat, by omega⟩
      exact ⟨k, t1, l1, e1, by omega, q1, q2, q3⟩
    · rw [decide_eq_false z]
      exact ⟨60, t, l, rfl, by omega, h1, by omega, h3⟩
  obtain ⟨k, t', l', e, hk, q⟩ := key
  refine ⟨k, t', l', ?_, hk, q⟩
  show (ev Pr (callF Pr (n + 1)) turnE _ _).bind _ = _
  rw [e, Res.bind_ok]
  show (if szOk (k : Int).natAbs then Res.ok (W.tp (rngW 0 (k : Int))) (deck cs t' l' :: R) else .bad) = _
  rw [Int.natAbs_natCast, show szOk k = true from decide_eq_true (by omega)]
  rfl
theorem sum_le {k : Nat} : ∀ {ws : List It}, (∀ w ∈ ws, w.length ≤ k) → (ws.map (·.length)).sum ≤ ws.length * k
  | [], _ => by simp
  | w :: ws, h => by
    have := sum_le (ws := ws) fun x hx => h x (List.mem_cons_of_mem _ hx)
    have := h w List.mem_cons_self
    rw [List.map_cons, List.sum_cons, List.length_cons, Nat.succ_mul]
    omega
theorem flat_len {m : Nat} : ∀ {gs : List Gp}, (∀ g ∈ gs, okD m g) → (gs.flatMap flatG).length = gs.length * (m + 3)
  | [], _ => by simp
  | g :: gs, h => by
    have h1 := (h g List.mem_cons_self).1
    rw [List.flatMap_cons, List.length_append, flat_len fun x hx => h x (List.mem_cons_of_mem _ hx), List.length_cons, Nat.succ_mul]
    have : (flatG g).length = m + 3 := by unfold flatG; simp [h1]
    omega
theorem words_ok {us : List It} {gs : List Gp} {m : Nat} (h0 : ∀ w ∈ us, w ∈ nw) (h : ∀ g ∈ gs, okD m g) : ∀ w ∈ itemsOf us gs, 32 ∉ w ∧ w.length ≤ 62 := fun w hw => by
  unfold itemsOf at hw
  rcases List.mem_append.mp hw with hw | hw
  · exact (nw_ok w (h0 w hw)).2
  · obtain ⟨g, hg, hw⟩ := List.mem_flatMap.mp hw
    obtain ⟨h1, h2, h3, h4⟩ := h g hg
    unfold flatG at hw
    rcases List.mem_cons.mp hw with rfl | hw
    · exact ⟨by decide, by decide⟩
    · rcases List.mem_append.mp hw with hw | hw
      · exact (nw_ok w (h2 w hw)).2
      · rcases List.mem_cons.mp hw with rfl | hw
        · rcases h3 with h3 | h3 <;> rw [h3] <;> exact ⟨by decide, by decide⟩
        · rw [List.mem_singleton] at hw
          rw [hw]
          exact (nw_ok _ h4).2
theorem program_run {n : Nat} {cs : List Int} {t l : Int} (h1 : 0 ≤ t) (h2 : t + 400 ≤ 2000) (h3 : 0 ≤ l) : ∃ (us : List It) (gs : List Gp) (t' l' : Int), callF Pr (n + 7) 21 [.loc 0] [deck cs t l] = .ok (.p (.tup [objP (us.map resW) (gs.map toC), .str (sl (jn [32] (itemsOf us gs)))])) [deck cs t' l'] ∧
    Val us gs ∧ (∀ w ∈ itemsOf us gs, 32 ∉ w) ∧ (jn [32] (itemsOf us gs)).length ≤ 20000 ∧ 0 ≤ t' ∧ t' ≤ t + 400 ∧ 0 ≤ l' := by
  obtain ⟨q, t1, l1, e1, hq, a1, a2, a3⟩ := first_ev (n := n + 4) (cs := cs) h1 (by omega) h3
  obtain ⟨m, ms⟩ := q
  have hb : 0 < m ∧ m ≤ 60 ∧ ms ≤ 60 ∧ m + ms * (m + 3) ≤ 310 := by
    simp [mm] at hq
    rcases hq with ⟨rfl, rfl⟩ | ⟨rfl, rfl⟩ | ⟨rfl, rfl⟩ | ⟨rfl, rfl⟩ | ⟨rfl, rfl⟩ | ⟨rfl, rfl⟩ <;> decide
  obtain ⟨m0, m1, m2, m3⟩ := hb
  obtain ⟨z, hz⟩ : ∃ z : Env, z = [some (.loc 0), none, none, none, some (.p (.int (m : Int))), some (.p (.int (ms : Int))), none, none, none, none, none, none, none, none] := ⟨_, rfl⟩
  obtain ⟨us, t2, l2, e2, b1, b2, b3, b4, b5⟩ := ncE_ev (n := n + 3) (m := m) (cs := cs) (R := []) (env := z) (t := t1) (l := l1) (by rw [hz]; rfl) (by rw [hz]; rfl) m1 a1 (by omega) a3
  obtain ⟨k, t3, l3, e3, c1, c2, c3, c4⟩ := turn_ev (n := n + 5) (cs := cs) (R := [.lst []]) (t := t2) (l := l2) (a1 := none) (a2 := none) (a3 := none) (a8 := none) (a9 := none) (a10 := none) (many := (m : Int)) (most := ms) (us := us) b3 (by omega) b5 m2
  have kr := rngW_len k
  have kk : k * (m + 3) ≤ ms * (m + 3) := Nat.mul_le_mul_right _ c1
  have kI : (k : Int) * ((m : Int) + 2) ≤ 310 := by
    have : k * (m + 2) ≤ k * (m + 3) := Nat.mul_le_mul_left _ (by omega)
    have e : ((k * (m + 2) : Nat) : Int) = (k : Int) * ((m : Int) + 2) := by rw [Int.natCast_mul, Int.natCast_add]; rfl
    omega
  obtain ⟨gs, b1', t4, l4, e4, d1, d2, d3, d4, d5⟩ := told_loop (n := n + 3) (m := m) (cs := cs) (a2 := none) (a3 := none) (a8 := none) (a9 := none) (a10 := none) (most := (ms : Int)) (us := us) m1 (rngW 0 (k : Int)) [] none t3 l3 c2 (by rw [kr]; omega) c4 (by rw [kr]; simp; omega) (fun g hg => (by cases hg))
  rw [kr] at d2 d4
  have d2 : gs.length = k := by simpa using d2
  have une : us ≠ [] := fun y => by rw [y] at b1; simp at b1; omega
  have hv : Val us gs := ⟨une, by omega, fun w hw => (nw_ok w (b2 w hw)).1, fun g hg => by rw [b1]; exact okD_G (d1 g hg), by omega⟩
  have hw := words_ok b2 d1
  have hlen : (jn [32] (itemsOf us gs)).length ≤ 20000 := by
    have j := jn_len [32] (itemsOf us gs)
    have s := sum_le (k := 62) fun w h => (hw w h).2
    have il : (itemsOf us gs).length = m + k * (m + 3) := by unfold itemsOf; rw [List.length_append, flat_len d1, b1, d2]
    have j2 := Nat.le_trans j (Nat.add_le_add_right s _)
    rw [il] at j2
    have h1 : ([32] : It).length = 1 := rfl
    rw [h1] at j2
    omega
  refine ⟨us, gs, t4, l4, ?_, hv, fun w h => (hw w h).1, hlen, d3, by omega, d5⟩
  have hne : ∀ g ∈ gs, g.1 ≠ [] := fun g hg y => by
    have := (d1 g hg).1
    rw [y] at this
    simp at this
    omega
  have tl : (txt (jn [32] us) gs).length ≤ 90000 := by rw [← items_jn une]; omega
  have ul : (jn [32] us).length ≤ 90000 := by unfold txt at tl; rw [List.length_append] at tl; omega
  obtain ⟨c8, c9, c10, e6⟩ := text_loop (C := callF Pr (n + 6)) (M := [deck cs t4 l4, .fz (.lst (gs.map toldD))]) (a1 := b1') (a3 := none) (many := (m : Int)) (most := (ms : Int)) (us := us) gs (jn [32] us) none none none hne tl
  rw [call_s (d := ⟨1, 14, true, b_l_program⟩) rfl rfl]
  show fnR true _ (exs Pr (callF Pr (n + 6)) b_l_program [some (.loc 0), none, none, none, none, none, none, none, none, none, none, none, none, none] [deck cs t l]) = _
  have g1 : ex Pr (callF Pr (n + 6)) (.asgT (.tp [.nm 4, .nm 5]) (.ite (.cmp .gt (.call 15 [(.var 0), (.int 20)] [] []) (.int 0)) pE1 pE2)) [some (.loc 0), none, none, none, none, none, none, none, none, none, none, none, none, none] [deck cs t l] = .nx z [deck cs t1 l1] := by
    rw [ex_asgT, e1, hz]; rfl
  have g2 : ex Pr (callF Pr (n + 6)) (.par 6 7 ncE (.lstL [])) z [deck cs t1 l1] = .nx (PE none none none (m : Int) (ms : Int) us none none none) [deck cs t2 l2, .lst []] := by
    rw [ex_par, e2, hz]; rfl
  have g3 := for_run (C := callF Pr (n + 6)) (t := .nm 1) (it := .rng1 turnE) (body := [toldB]) e3 rfl e4
  have g4 : ex Pr (callF Pr (n + 6)) (.asg 2 (.mth .join (.str " ") (itE 6))) (PE b1' none none (m : Int) (ms : Int) us none none none) [deck cs t4 l4, .lst ((gs.map toldD).map W.p)] = .nx (PE b1' (some (.p (.str (sl (jn [32] us))))) none (m : Int) (ms : Int) us none none none) [deck cs t4 l4, .lst ((gs.map toldD).map W.p)] := by
    rw [ex_asg, join_ev (s := [32]) (ws := us) s_sp1 (itE_ev (v := 6) (us := us) rfl (by exact (by decide : 14 ≤ 14))) (by omega) (by decide)]
    rfl
  have f7 : ev Pr (callF Pr (n + 6)) (.it (.fz (.var 7))) (PE b1' (some (.p (.str (sl (jn [32] us))))) none (m : Int) (ms : Int) us none none none) [deck cs t4 l4, .lst ((gs.map toldD).map W.p)] = .ok (.p (.lst (gs.map toldD))) [deck cs t4 l4, .fz (.lst (gs.map toldD))] := T_fz (M := [deck cs t4 l4]) rfl (by rw [List.length_map]; omega)
  have g5 := for_run (C := callF Pr (n + 6)) (t := .tp [.nm 8, .nm 9, .nm 10]) (it := .it (.fz (.var 7))) (body := [textB]) f7 rfl e6
  have g6 : ex Pr (callF Pr (n + 6)) (.asg 3 cdE) (PE b1' (some (.p (.str (sl (txt (jn [32] us) gs))))) none (m : Int) (ms : Int) us c8 c9 c10) [deck cs t4 l4, .fz (.lst (gs.map toldD))] = .nx (PE b1' (some (.p (.str (sl (txt (jn [32] us) gs))))) (some (.p (.lst ((gs.map toC).map condL)))) (m : Int) (ms : Int) us c8 c9 c10) [deck cs t4 l4, .fz (.lst (gs.map toldD))] := by
    rw [ex_asg, cdE_ev]; rfl
  have es : evs Pr (callF Pr (n + 6)) [nuE 6, (.var 3)] (PE b1' (some (.p (.str (sl (txt (jn [32] us) gs))))) (some (.p (.lst ((gs.map toC).map condL)))) (m : Int) (ms : Int) us c8 c9 c10) [deck cs t4 l4, .fz (.lst (gs.map toldD))] = .ok [.p (.lst (us.map resW)), .p (.lst ((gs.map toC).map condL))] [deck cs t4 l4, .fz (.lst (gs.map toldD))] := by
    rw [evs_cons, nuE_ev (v := 6) (us := us) rfl (by exact (by decide : 14 ≤ 14)), Res.bind_ok]
    rfl
  have ml : (us.map resW).length = m := by rw [List.length_map, b1]
  have nv := new_ev (n := n) es (fun d hd => by
    obtain ⟨w, hw', rfl⟩ := List.mem_map.mp hd
    exact (res_num (hv.nb w hw')).1) (fun y => une (List.map_eq_nil_iff.mp y)) (by rw [ml]; exact m1) (fun x hx => by
    obtain ⟨g, hg, rfl⟩ := List.mem_map.mp hx
    rw [ml]
    exact okC_of (okD_G (d1 g hg))) (by rw [List.length_map]; omega)
  rw [b_program_eq, exs_cons, g1, SR.andT_nx, exs_cons, g2, SR.andT_nx, exs_cons, g3, SR.andT_nx, exs_cons, g4, SR.andT_nx, exs_cons, g5, SR.andT_nx, exs_cons, g6, SR.andT_nx, exs_one, ex_ret, ev_tup, evs_cons, nv, Res.bind_ok, items_jn une]
  rfl
end K06

set_option maxHeartbeats 4000000
namespace K06
open G
/-! ### texts bent -/
def odd : List It := [[49, 95, 48], [51, 47, 49, 95, 48], [], [47], [108, 101, 97, 115, 116], [106, 117, 115, 116], [48], [45, 48], [49, 47, 50], [50, 47, 52], [51, 47, 49], [48, 49], [43, 49], [120], [49, 47, 50, 47, 51], [47, 50], [49, 47], [76, 101, 97, 115, 116], List.replicate 60 57, List.replicate 61 57, [49, 47, 45, 50], [45], [9], [48, 47, 53], [45, 53, 47, 51]]
theorem odd_len : ∀ w ∈ odd, w.length ≤ 61 := by decide +kernel
def oddE : G.Ex := match b_l_bent with
  | [_, _, .asg _ e, _, _, _] => e
  | _ => .non
theorem oddE_ev {C : Calls} {env : Env} {M : Mem} : ev Pr C oddE env M = .ok (.p (.lst (odd.map strD))) M := by kernel_rfl
/-- what a list of words weighs -/
def wt (ws : List It) : Nat := (ws.map fun w => w.length + 1).sum
theorem wt_app (a b : List It) : wt (a ++ b) = wt a + wt b := by unfold wt; rw [List.map_append, List.sum_append]
theorem wt_cut (ws : List It) (k : Nat) : wt (ws.take k) + wt (ws.drop k) = wt ws := by rw [← wt_app, List.take_append_drop]
theorem wt_drop (ws : List It) (k : Nat) : wt (ws.drop (k + 1)) ≤ wt (ws.drop k) := by
  have := wt_cut (ws.drop k) 1
  rw [List.drop_drop] at this
  omega
theorem jn_wt : ∀ ws : List It, (jn [32] ws).length ≤ wt ws
  | [] => Nat.zero_le _
  | [a] => by show a.length ≤ a.length + 1 + 0; omega
  | a :: b :: r => by
    have := jn_wt (b :: r)
    show (a ++ [32] ++ jn [32] (b :: r)).length ≤ (a.length + 1) + wt (b :: r)
    rw [List.length_append, List.length_append]
    show a.length + 1 + _ ≤ _
    omega
theorem wt_jn : ∀ {ws : List It}, ws ≠ [] → wt ws = (jn [32] ws).length + 1
  | [], h => absurd rfl h
  | [a], _ => by show a.length + 1 + 0 = a.length + 1; omega
  | a :: b :: r, _ => by
    have := wt_jn (ws := b :: r) (by simp)
    show (a.length + 1) + wt (b :: r) = (a ++ [32] ++ jn [32] (b :: r)).length + 1
    rw [List.length_append, List.length_append, this]
    show _ = a.length + 1 + _ + 1
    omega
theorem sum_set : ∀ {l : List Nat} {i : Nat} {y : Nat} (x : Nat), l[i]? = some y → (l.set i x).sum + y = l.sum + x
  | [], i, y, x, h => by simp at h
  | a :: l, 0, y, x, h => by
    have h : a = y := by simpa using h
    subst h
    show (x :: l).sum + a = (a :: l).sum + x
    rw [List.sum_cons, List.sum_cons]
    omega
  | a :: l, i + 1, y, x, h => by
    have := sum_set (l := l) (i := i) (y := y) x (by simpa using h)
    show (a :: l.set i x).sum + y = (a :: l).sum + x
    rw [List.sum_cons, List.sum_cons]
    omega
theorem wt_set {ws : List It} {i : Nat} {w : It} (x : It) (h : ws[i]? = some w) : wt (ws.set i x) + w.length = wt ws + x.length := by
  have := sum_set (l := ws.map fun w => w.length + 1) (i := i) (y := w.length + 1) (x.length + 1) (by rw [List.getElem?_map, h]; rfl)
  unfold wt
  rw [List.map_set]
  omega
theorem wt_swap {ws : List It} {i j : Nat} {x y : It} (hx : ws[i]? = some x) (hy : ws[j]? = some y) : wt ((ws.set i y).set j x) = wt ws := by
  have h1 := wt_set y hx
  have hj : (ws.set i y)[j]? = some y := by
    by_cases q : i = j
    · subst q
      rw [List.getElem?_set_self (List.getElem?_eq_some_iff.mp hx).1]
    · rw [List.getElem?_set_ne q, hy]
  have h2 := wt_set x hj
  omega
theorem wds_wt (x : It) : wt (wds 32 x) = x.length + 1 := by
  rw [wt_jn (wds_ne _ _), wds_jn]
/-! cuts of lists -/
theorem cut_take {α : Type} (xs : List α) (k : Nat) : cutL xs none (some (k : Int)) = xs.take k := by
  unfold cutL cutPt
  dsimp only
  rw [if_neg (by omega : ¬ (k : Int) < 0), Int.toNat_natCast, List.drop_zero, Nat.sub_zero]
  by_cases h : k ≤ xs.length
  · rw [Nat.min_eq_left h]
  · rw [Nat.min_eq_right (by omega), List.take_of_length_le (Nat.le_refl _), List.take_of_length_le (by omega)]
theorem cut_drop {α : Type} (xs : List α) (k : Nat) : cutL xs (some (k : Int)) none = xs.drop k := by
  unfold cutL cutPt
  dsimp only
  rw [if_neg (by omega : ¬ (k : Int) < 0), Int.toNat_natCast]
  by_cases h : k ≤ xs.length
  · rw [Nat.min_eq_left h, List.take_of_length_le (by rw [List.length_drop]; exact Nat.le_refl _)]
  · rw [Nat.min_eq_right (by omega), List.drop_length, List.drop_eq_nil_of_le (by omega), List.take_nil]
section
variable {C : Calls} {env : Env} {M : Mem}
theorem view_lst {ds : List D} {L : Nat} (h : M[L]? = some (.lst (ds.map W.p))) : W.view M (.loc L) = some (.lst ds) := by
  show (match M[L]? with
    | some (.lst ws) => (W.pures ws).map D.lst
    | some (.fz d) => some d
    | _ => none) = _
  rw [h]
  show (W.pures (ds.map W.p)).map D.lst = _
  rw [pures_p]
  rfl
theorem slcT {v : Nat} {a : W} {ds : List D} {e : G.Ex} {k : Nat} (hv : ev Pr C (.var v) env M = .ok a M) (hw : W.view M a = some (.lst ds)) (he : ev Pr C e env M = .ok (.p (.int (k : Int))) M) : ev Pr C (.slc (.var v) [] [e]) env M = .ok (.p (.lst (ds.take k))) M := by
  have z : slcW M a none (some (k : Int)) = some (.p (.lst (ds.take k))) := by
    unfold slcW
    rw [hw]
    dsimp only
    rw [cut_take]
  rw [ev_slc, hv, Res.bind_ok, evs_nil, Res.bind_ok, show oneInt [] = some none from rfl, Res.of_some, Res.bind_ok, evs_cons, he, Res.bind_ok, evs_nil, Res.bind_ok, Res.bind_ok, show oneInt [.p (.int (k : Int))] = some (some (k : Int)) from rfl, Res.of_some, Res.bind_ok, z]
  rfl
theorem slcD {v : Nat} {a : W} {ds : List D} {e : G.Ex} {k : Nat} (hv : ev Pr C (.var v) env M = .ok a M) (hw : W.view M a = some (.lst ds)) (he : ev Pr C e env M = .ok (.p (.int (k : Int))) M) : ev Pr C (.slc (.var v) [e] []) env M = .ok (.p (.lst (ds.drop k))) M := by
  have z : slcW M a (some (k : Int)) none = some (.p (.lst (ds.drop k))) := by
    unfold slcW
    rw [hw]
    dsimp only
    rw [cut_drop]
  rw [ev_slc, hv, Res.bind_ok, evs_cons, he, Res.bind_ok, evs_nil, Res.bind_ok, Res.bind_ok, show oneInt [.p (.int (k : Int))] = some (some (k : Int)) from rfl, Res.of_some, Res.bind_ok, evs_nil, Res.bind_ok, show oneInt [] = some none from rfl, Res.of_some, Res.bind_ok, z]
  rfl
theorem add_lst {x y : G.Ex} {a b : W} {as bs : List D} {M' M'' : Mem} (hx : ev Pr C x env M = .ok a M') (hy : ev Pr C y env M' = .ok b M'') (ha : W.view M'' a = some (.lst as)) (hb : W.view M'' b = some (.lst bs)) (h : as.length + bs.length ≤ 100000) : ev Pr C (.bin .add x y) env M = .ok (.p (.lst (as ++ bs))) M'' := by
  have z : binW M'' .add a b = some (.p (.lst (as ++ bs))) := by
    show (match W.view M'' a, W.view M'' b with
      | some x, some y => (binD .add x y).map W.p
      | _, _ => none) = _
    rw [ha, hb]
    show (if szOk (as.length + bs.length) then some (D.lst (as ++ bs)) else none).map W.p = _
    rw [show szOk (as.length + bs.length) = true from decide_eq_true h]
    rfl
  rw [ev_bin, hx, Res.bind_ok, hy, Res.bind_ok, z]
  rfl
end
def pk5 : G.Ex := .call 16 [(.var 0), (.lst [(.lst [(.var 3)]), (.lst [(.str "/")]), (.lst [(.str "/"), (.str "1")]), (.lst [(.str "/"), (.str "1"), (.str "least"), (.str "0")])])] [] []
def pk6 : G.Ex := .call 16 [(.var 0), (.lst [(.str " "), (.str "/"), (.str "1"), (.str "-"), (.str "_"), (.str "")])] [] []
def wy0 : List G.St := [.asg 4 (.bin .add (.bin .add (.slc (.var 4) [] [(.var 6)]) (.lst [(.var 3)])) (.slc (.var 4) [(.bin .add (.var 6) (.int 1))] []))]
def wy1 : List G.St := [.asg 4 (.bin .add (.slc (.var 4) [] [(.var 6)]) (.slc (.var 4) [(.bin .add (.var 6) (.int 1))] []))]
def wy2 : List G.St := [.asg 4 (.bin .add (.bin .add (.slc (.var 4) [] [(.var 6)]) (.lst [(.var 3)])) (.slc (.var 4) [(.var 6)] []))]
def wy3 : List G.St := [.swp (.var 4) (.var 6) (.var 7)]
def wy4 : List G.St := [.asg 4 (.slc (.var 4) [] [(.var 6)])]
def wy5 : List G.St := [.asg 4 (.bin .add (.var 4) pk5)]
def wy6 : List G.St := [.asg 8 (.call 15 [(.var 0), (.bin .add (.blt .len [(.var 1)]) (.int 1))] [] []), .ret (.bin .add (.bin .add (.slc (.var 1) [] [(.var 8)]) pk6) (.slc (.var 1) [(.bin .add (.var 8) (.int 1))] []))]
def isW_ (k : Int) : G.Ex := .cmp .eq (.var 5) (.int k)
def wyS : G.St := .ifs (isW_ 0) wy0 [.ifs (isW_ 1) wy1 [.ifs (isW_ 2) wy2 [.ifs (isW_ 3) wy3 [.ifs (isW_ 4) wy4 [.ifs (isW_ 5) wy5 wy6]]]]]
def dpE : G.Ex := .call 15 [(.var 0), (.blt .len [(.var 4)])] [] []
theorem b_bent_eq : b_l_bent = [.par 4 5 (.splL (.var 1) (.str " ")) (.call 15 [(.var 0), (.int 7)] [] []), .par 6 7 dpE dpE, .asg 2 oddE, .asg 3 (.call 16 [(.var 0), (.var 2)] [] []), wyS, .ret (.mth .join (.str " ") (.fz (.var 4)))] := by rfl
def BE (x it : It) (a4 : W) (way i j : Int) (a8 : Option W) : Env := [some (.loc 0), some (.p (.str (sl x))), some (.p (.lst (odd.map strD))), some (.p (strD it)), some a4, some (.p (.int way)), some (.p (.int i)), some (.p (.int j)), a8]
def MB (X : Cell) (ws : List It) : Mem := [X, .lst ((ws.map strD).map W.p)]
section
variable {C : Calls} {X : Cell} {x it : It} {ws : List It} {way i j : Int} {a8 : Option W}
theorem v4_ev : ev Pr C (.var 4) (BE x it (.loc 1) way i j a8) (MB X ws) = .ok (.loc 1) (MB X ws) := rfl
theorem vw4 : W.view (MB X ws) (.loc 1) = some (.lst (ws.map strD)) := view_lst rfl
theorem p1_ev {v : Nat} {k : Nat} {env : Env} {M : Mem} (h : ev Pr C (.var v) env M = .ok (.p (.int (k : Int))) M) : ev Pr C (.bin .add (.var v) (.int 1)) env M = .ok (.p (.int ((k + 1 : Nat) : Int))) M := by
  rw [ev_bin, h, Res.bind_ok, ev_int, Res.bind_ok]
  show Res.ok (W.p (.int ((k : Int) + 1))) M = _
  rw [Int.natCast_add]; rfl
theorem way_ev {k : Int} {env : Env} {M : Mem} (h : getV env 5 = some (.p (.int way))) : ev Pr C (isW_ k) env M = .ok (.p (.bl (decide (way = k)))) M := by
  unfold isW_
  rw [ev_cmp, ev_var, h]
  show Res.of ((cmpW M .eq (.p (.int way)) (.p (.int k))).map fun b => W.p (.bl b)) M = _
  rw [eqI]; rfl
theorem if_way {k : Int} {a b : List G.St} {env : Env} {M : Mem} (h : getV env 5 = some (.p (.int way))) : ex Pr C (.ifs (isW_ k) a b) env M = if way = k then exs Pr C a env M else exs Pr C b env M := by
  rw [ex_ifs, way_ev h, Res.st_ok]
  by_cases z : way = k
  · rw [decide_eq_true z, if_pos z]; rfl
  · rw [decide_eq_false z, if_neg z]; rfl
end
/-- after the bending: the list -/
def Done (z : SR) (x it : It) (way i j : Int) (a8 : Option W) (cs : List Int) (t l : Int) (B : Nat) : Prop :=
  (∃ vs t' l', z = .nx (BE x it (.p (.lst (vs.map strD))) way i j a8) (MB (deck cs t' l') (wds 32 x)) ∧ wt vs ≤ B ∧ vs.length ≤ 90000 ∧ 0 ≤ t' ∧ t' ≤ t + 2 ∧ 0 ≤ l') ∨
  (∃ vs t' l', z = .nx (BE x it (.loc 1) way i j a8) (MB (deck cs t' l') vs) ∧ wt vs ≤ B ∧ vs.length ≤ 90000 ∧ 0 ≤ t' ∧ t' ≤ t + 2 ∧ 0 ≤ l') ∨
  (∃ y t' l', z = .rt (.p (.str (sl y))) (MB (deck cs t' l') (wds 32 x)) ∧ y.length ≤ B ∧ 0 ≤ t' ∧ t' ≤ t + 2 ∧ 0 ≤ l')
theorem ways_ev {n : Nat} {cs : List Int} {x it : It} {way : Int} {i j : Nat} {t l : Int} (hx : x.length ≤ 60000) (hit : it.length ≤ 61) (hway : 0 ≤ way ∧ way < 7) (hi : i < (wds 32 x).length) (hj : j < (wds 32 x).length) (h1 : 0 ≤ t) (h2 : t + 2 ≤ 2000) (h3 : 0 ≤ l) :
    Done (ex Pr (callF Pr (n + 2)) wyS (BE x it (.loc 1) way (i : Int) (j : Int) none) (MB (deck cs t l) (wds 32 x))) x it way (i : Int) (j : Int) none cs t l (x.length + 100) := by
  obtain ⟨ws, hws⟩ : ∃ ws, ws = wds 32 x := ⟨_, rfl⟩
  have hN : ws.length ≤ 60001 := by rw [hws]; have := wds_n 32 x; omega
  have hT : wt ws = x.length + 1 := by rw [hws]; exact wds_wt x
  have g5 : ∀ (a4 : W), getV (BE x it a4 way (i : Int) (j : Int) none) 5 = some (.p (.int way)) := fun _ => rfl
  unfold wyS
  rw [← hws] at hi hj ⊢
  have v4 := v4_ev (C := callF Pr (n + 2)) (X := deck cs t l) (x := x) (it := it) (ws := ws) (way := way) (i := (i : Int)) (j := (j : Int)) (a8 := none)
  have w4 := vw4 (X := deck cs t l) (ws := ws)
  have v6 : ev Pr (callF Pr (n + 2)) (.var 6) (BE x it (.loc 1) way (i : Int) (j : Int) none) (MB (deck cs t l) ws) = .ok (.p (.int (i : Int))) (MB (deck cs t l) ws) := rfl
  have tk := slcT (C := callF Pr (n + 2)) (v := 4) v4 w4 v6
  have dr := slcD (C := callF Pr (n + 2)) (v := 4) v4 w4 v6
  have dr1 := slcD (C := callF Pr (n + 2)) (v := 4) v4 w4 (p1_ev v6)
  have one : ev Pr (callF Pr (n + 2)) (.lst [(.var 3)]) (BE x it (.loc 1) way (i : Int) (j : Int) none) (MB (deck cs t l) ws) = .ok (.p (.lst [strD it])) (MB (deck cs t l) ws) := rfl
  have ct := wt_cut ws i
  have cd := wt_drop ws i
  have o1 : wt [it] = it.length + 1 := by show it.length + 1 + 0 = _; omega
  have ln : ∀ k, (ws.take k).length ≤ 60001 ∧ (ws.drop k).length ≤ 60001 := fun k => ⟨by rw [List.length_take]; omega, by rw [List.length_drop]; omega⟩
  have l90 : ∀ vs : List It, wt vs ≤ x.length + 100 → vs.length ≤ 90000 := fun vs h => by
    have : vs.length ≤ wt vs := by
      clear h
      induction vs with
      | nil => exact Nat.zero_le _
      | cons w vs ih =>
        show vs.length + 1 ≤ (w.length + 1) + wt vs
        omega
    omega
  have tot : ∀ k, (ws.take k).length + (ws.drop k).length = ws.length := fun k => by rw [List.length_take, List.length_drop]; omega
  have totd : (ws.drop (i + 1)).length ≤ (ws.drop i).length := by rw [List.length_drop, List.length_drop]; omega
  have hti := tot i
  rw [if_way (g5 _)]
  by_cases e0 : way = 0
  · rw [if_pos e0]
    have z := add_lst (add_lst tk one rfl rfl (by rw [List.length_take, List.length_map]; simp; omega)) dr1 rfl rfl (by simp only [List.length_append, List.length_take, List.length_drop, List.length_map, List.length_cons, List.length_nil]; omega)
    have hv : wt (ws.take i ++ [it] ++ ws.drop (i + 1)) ≤ x.length + 100 := by rw [wt_app, wt_app, o1]; omega
    refine .inl ⟨ws.take i ++ [it] ++ ws.drop (i + 1), t, l, ?_, hv, l90 _ hv, h1, by omega, h3⟩
    unfold wy0
    rw [exs_one, ex_asg, z, hws]
    simp only [List.map_append, List.map_take, List.map_drop]
    rfl
  · rw [if_neg e0, exs_one, if_way (g5 _)]
    by_cases e1 : way = 1
    · rw [if_pos e1]
      have z := add_lst tk dr1 rfl rfl (by simp only [List.length_take, List.length_drop, List.length_map]; omega)
      have hv : wt (ws.take i ++ ws.drop (i + 1)) ≤ x.length + 100 := by rw [wt_app]; omega
      refine .inl ⟨ws.take i ++ ws.drop (i + 1), t, l, ?_, hv, l90 _ hv, h1, by omega, h3⟩
      unfold wy1
      rw [exs_one, ex_asg, z, hws]
      simp only [List.map_append, List.map_take, List.map_drop]
      rfl
    · rw [if_neg e1, exs_one, if_way (g5 _)]
      by_cases e2 : way = 2
      · rw [if_pos e2]
        have z := add_lst (add_lst tk one rfl rfl (by rw [List.length_take, List.length_map]; simp; omega)) dr rfl rfl (by simp only [List.length_append, List.length_take, List.length_drop, List.length_map, List.length_cons, List.length_nil]; omega)
        have hv : wt (ws.take i ++ [it] ++ ws.drop i) ≤ x.length + 100 := by rw [wt_app, wt_app, o1]; omega
        refine .inl ⟨ws.take i ++ [it] ++ ws.drop i, t, l, ?_, hv, l90 _ hv, h1, by omega, h3⟩
        unfold wy2
        rw [exs_one, ex_asg, z, hws]
        simp only [List.map_append, List.map_take, List.map_drop]
        rfl
      · rw [if_neg e2, exs_one, if_way (g5 _)]
        by_cases e3 : way = 3
        · rw [if_pos e3]
          obtain ⟨a, ha⟩ : ∃ a, ws[i]? = some a := ⟨_, List.getElem?_eq_getElem hi⟩
          obtain ⟨b, hb⟩ : ∃ b, ws[j]? = some b := ⟨_, List.getElem?_eq_getElem hj⟩
          have hv : wt ((ws.set i b).set j a) ≤ x.length + 100 := by rw [wt_swap ha hb]; omega
          refine .inr (.inl ⟨(ws.set i b).set j a, t, l, ?_, hv, l90 _ hv, h1, by omega, h3⟩)
          have e : ex Pr (callF Pr (n + 2)) (.swp (.var 4) (.var 6) (.var 7)) (BE x it (.loc 1) way (i : Int) (j : Int) none) (MB (deck cs t l) ws) = match swpCell (MB (deck cs t l) ws) (.loc 1) (.p (.int (i : Int))) (.p (.int (j : Int))) with
            | some M' => .nx (BE x it (.loc 1) way (i : Int) (j : Int) none) M'
            | none => .bad := rfl
          have s : swpCell (MB (deck cs t l) ws) (.loc 1) (.p (.int (i : Int))) (.p (.int (j : Int))) = some (MB (deck cs t l) ((ws.set i b).set j a)) := by
            have s1 : swpCell (MB (deck cs t l) ws) (.loc 1) (.p (.int (i : Int))) (.p (.int (j : Int))) = if 0 ≤ (i : Int) ∧ (i : Int).toNat < ((ws.map strD).map W.p).length ∧ 0 ≤ (j : Int) ∧ (j : Int).toNat < ((ws.map strD).map W.p).length then match ((ws.map strD).map W.p)[(i : Int).toNat]?, ((ws.map strD).map W.p)[(j : Int).toNat]? with
              | some x, some y => some ((MB (deck cs t l) ws).set 1 (.lst ((((ws.map strD).map W.p).set (i : Int).toNat (rd (MB (deck cs t l) ws) y)).set (j : Int).toNat (rd (MB (deck cs t l) ws) x))))
              | _, _ => none
              else none := rfl
            rw [s1, Int.toNat_natCast, Int.toNat_natCast, if_pos ⟨by omega, by simpa using hi, by omega, by simpa using hj⟩, List.getElem?_map, List.getElem?_map, List.getElem?_map, List.getElem?_map, ha, hb]
            show some ([deck cs t l, Cell.lst ((((ws.map strD).map W.p).set i (.p (strD b))).set j (.p (strD a)))]) = _
            unfold MB
            rw [List.map_set, List.map_set, List.map_set, List.map_set]
          unfold wy3
          rw [exs_one, e, s]
        · rw [if_neg e3, exs_one, if_way (g5 _)]
          by_cases e4 : way = 4
          · rw [if_pos e4]
            have hv : wt (ws.take i) ≤ x.length + 100 := by omega
            refine .inl ⟨ws.take i, t, l, ?_, hv, l90 _ hv, h1, by omega, h3⟩
            unfold wy4
            rw [exs_one, ex_asg, tk, hws]
            simp only [List.map_take]
            rfl
          · rw [if_neg e4, exs_one, if_way (g5 _)]
            by_cases e5 : way = 5
            · rw [if_pos e5]
              obtain ⟨d, t1, l1, ep, hd, p1, p2, p3⟩ := pick_run (n := n) (R := [.lst ((ws.map strD).map W.p)]) (cs := cs) (ds := [.lst [strD it], .lst [strD [47]], .lst [strD [47], strD [49]], .lst [strD [47], strD [49], strD least, strD [48]]]) (t := t) (l := l) ⟨h1, by omega⟩ h3 (by simp) (by simp)
              have hd' : ∃ us : List It, d = .lst (us.map strD) ∧ wt us ≤ 62 := by
                simp at hd
                rcases hd with rfl | rfl | rfl | rfl
                · exact ⟨[it], rfl, by rw [o1]; omega⟩
                · exact ⟨[[47]], rfl, by decide⟩
                · exact ⟨[[47], [49]], rfl, by decide⟩
                · exact ⟨[[47], [49], least, [48]], rfl, by decide⟩
              obtain ⟨us, rfl, hus⟩ := hd'
              have pe : ev Pr (callF Pr (n + 2)) pk5 (BE x it (.loc 1) way (i : Int) (j : Int) none) (MB (deck cs t l) ws) = .ok (.p (.lst (us.map strD))) (MB (deck cs t1 l1) ws) := ep
              have ul : us.length ≤ 62 := by
                have : us.length ≤ wt us := by
                  clear hus ep hd pe
                  induction us with
                  | nil => exact Nat.zero_le _
                  | cons w us ih =>
                    show us.length + 1 ≤ (w.length + 1) + wt us
                    omega
                omega
              have z := add_lst (M := MB (deck cs t l) ws) v4 pe (vw4 (X := deck cs t1 l1)) rfl (by rw [List.length_map, List.length_map]; omega)
              have hv : wt (ws ++ us) ≤ x.length + 100 := by rw [wt_app]; omega
              refine .inl ⟨ws ++ us, t1, l1, ?_, hv, l90 _ hv, p1, by omega, p3⟩
              unfold wy5
              rw [exs_one, ex_asg, z, hws, List.map_append]
              rfl
            · rw [if_neg e5]
              obtain ⟨r, t1, l1, er, r1, r2, p1, p2, p3⟩ := deal_run (n := n + 1) (R := [.lst ((ws.map strD).map W.p)]) (cs := cs) (many := (x.length : Int) + 1) (t := t) (l := l) ⟨h1, by omega⟩ h3 ⟨by omega, by omega⟩
              obtain ⟨s, rfl⟩ : ∃ s : Nat, r = (s : Int) := ⟨r.toNat, by omega⟩
              obtain ⟨d, t2, l2, ep, hd, q1, q2, q3⟩ := pick_run (n := n) (R := [.lst ((ws.map strD).map W.p)]) (cs := cs) (ds := [.str " ", .str "/", .str "1", .str "-", .str "_", .str ""]) (t := t1) (l := l1) ⟨p1, by omega⟩ p3 (by decide) (by decide)
              have hd' : ∃ c : It, d = .str (sl c) ∧ c.length ≤ 1 := by
                simp at hd
                rcases hd with rfl | rfl | rfl | rfl | rfl | rfl
                · exact ⟨[32], rfl, by decide⟩
                · exact ⟨[47], rfl, by decide⟩
                · exact ⟨[49], rfl, by decide⟩
                · exact ⟨[45], rfl, by decide⟩
                · exact ⟨[95], rfl, by decide⟩
                · exact ⟨[], rfl, by decide⟩
              obtain ⟨c, rfl, hc⟩ := hd'
              have le : ev Pr (callF Pr (n + 2)) (.blt .len [(.var 1)]) (BE x it (.loc 1) way (i : Int) (j : Int) none) (MB (deck cs t l) ws) = .ok (.p (.int (x.length : Int))) (MB (deck cs t l) ws) := by
                have z : bltW (MB (deck cs t l) ws) .len [.p (.str (sl x))] = some (.p (.int (x.length : Int))) := by
                  show (if (sl x).length ≤ 100000 then some (W.p (.int ((sl x).length : Int))) else none) = _
                  rw [sl_len, if_pos (by omega)]
                rw [ev_blt, evs_cons]
                show Res.of (bltW (MB (deck cs t l) ws) .len [.p (.str (sl x))]) _ = _
                rw [z]; rfl
              have d8 : ev Pr (callF Pr (n + 2)) (.call 15 [(.var 0), (.bin .add (.blt .len [(.var 1)]) (.int 1))] [] []) (BE x it (.loc 1) way (i : Int) (j : Int) none) (MB (deck cs t l) ws) = .ok (.p (.int (s : Int))) (MB (deck cs t1 l1) ws) := by
                have ae : ev Pr (callF Pr (n + 2)) (.bin .add (.blt .len [(.var 1)]) (.int 1)) (BE x it (.loc 1) way (i : Int) (j : Int) none) (MB (deck cs t l) ws) = .ok (.p (.int ((x.length : Int) + 1))) (MB (deck cs t l) ws) := by
                  rw [ev_bin, le, Res.bind_ok, ev_int, Res.bind_ok]; rfl
                rw [ev_call, evs_cons]
                show Res.bind (Res.bind (Res.ok (W.loc 0) (MB (deck cs t l) ws)) _) _ = _
                rw [Res.bind_ok, evs_cons, ae, Res.bind_ok, evs_nil]
                exact er
              obtain ⟨E, hE⟩ : ∃ E : Env, E = BE x it (.loc 1) way (i : Int) (j : Int) (some (.p (.int (s : Int)))) := ⟨_, rfl⟩
              have g1 : ex Pr (callF Pr (n + 2)) (.asg 8 (.call 15 [(.var 0), (.bin .add (.blt .len [(.var 1)]) (.int 1))] [] [])) (BE x it (.loc 1) way (i : Int) (j : Int) none) (MB (deck cs t l) ws) = .nx E (MB (deck cs t1 l1) ws) := by
                rw [ex_asg, d8, hE]; rfl
              have v8 : ∀ M : Mem, ev Pr (callF Pr (n + 2)) (.var 8) E M = .ok (.p (.int (s : Int))) M := fun M => by rw [hE]; rfl
              have c1 := cutL_ev (C := callF Pr (n + 2)) (env := E) (M := MB (deck cs t1 l1) ws) (v := 1) (l := x) (n := s) (e := .var 8) (by rw [hE]; rfl) (v8 _) (by omega)
              have c2 := cutR_ev (C := callF Pr (n + 2)) (env := E) (M := MB (deck cs t2 l2) ws) (v := 1) (l := x) (n := s + 1) (e := .bin .add (.var 8) (.int 1)) (by rw [hE]; rfl) (p1_ev (v8 _)) (by omega)
              have pe : ev Pr (callF Pr (n + 2)) pk6 E (MB (deck cs t1 l1) ws) = .ok (.p (.str (sl c))) (MB (deck cs t2 l2) ws) := by rw [hE]; exact ep
              have a1 : ev Pr (callF Pr (n + 2)) (.bin .add (.slc (.var 1) [] [(.var 8)]) pk6) E (MB (deck cs t1 l1) ws) = .ok (.p (.str (sl (x.take s ++ c)))) (MB (deck cs t2 l2) ws) := by
                rw [ev_bin, c1, Res.bind_ok, pe, Res.bind_ok, ad_str (by rw [List.length_take]; omega)]; rfl
              have a2 : ev Pr (callF Pr (n + 2)) (.bin .add (.bin .add (.slc (.var 1) [] [(.var 8)]) pk6) (.slc (.var 1) [(.bin .add (.var 8) (.int 1))] [])) E (MB (deck cs t1 l1) ws) = .ok (.p (.str (sl (x.take s ++ c ++ x.drop (s + 1))))) (MB (deck cs t2 l2) ws) := by
                rw [ev_bin, a1, Res.bind_ok, c2, Res.bind_ok, ad_str (by rw [List.length_append, List.length_take, List.length_drop]; omega)]; rfl
              refine .inr (.inr ⟨x.take s ++ c ++ x.drop (s + 1), t2, l2, ?_, by rw [List.length_append, List.length_append, List.length_take, List.length_drop]; omega, q1, by omega, q3⟩)
              unfold wy6
              rw [exs_cons, g1, SR.andT_nx, exs_one, ex_ret, a2, ← hws]
              rfl
end K06

set_option maxHeartbeats 4000000
namespace K06
open G
theorem dk_below {cs : List Int} {t l : Int} : ([deck cs t l] : Mem).all (belowC ([deck cs t l] : Mem).length) = true := rfl
theorem spl_ev {C : Calls} {X : Cell} {x : It} {a2 a3 a4 a5 a6 a7 a8 : Option W} (hx : x.length ≤ 90000) : ev Pr C (.splL (.var 1) (.str " ")) [some (.loc 0), some (.p (.str (sl x))), a2, a3, a4, a5, a6, a7, a8] [X] = .ok (.loc 1) (MB X (wds 32 x)) := by
  show (if !((" " : PySem.Str).length == 0) && szOk (sl x).length then Res.ok (W.loc 1) ([X] ++ [Cell.lst ((PySem.Txt.split (sl x) " ").map fun t => .p (.str t))]) else .bad) = _
  have h0 : ((" " : PySem.Str).length == 0) = false := by rfl
  rw [h0, sz_sl (by omega)]
  show Res.ok (W.loc 1) [X, Cell.lst ((PySem.Txt.split (sl x) " ").map fun t => .p (.str t))] = _
  rw [s_sp, wds_sl, List.map_map]
  unfold MB
  rw [List.map_map]
  rfl
theorem bent_run {n : Nat} {cs : List Int} {x : It} {t l : Int} (hx : x.length ≤ 25000) (h1 : 0 ≤ t) (h2 : t + 8 ≤ 2000) (h3 : 0 ≤ l) : ∃ (y : It) (t' l' : Int), callF Pr (n + 3) 22 [.loc 0, .p (.str (sl x))] [deck cs t l] = .ok (.p (.str (sl y))) [deck cs t' l'] ∧ y.length ≤ x.length + 100 ∧ 0 ≤ t' ∧ t' ≤ t + 8 ∧ 0 ≤ l' := by
  have hn : (wds 32 x).length ≤ 25001 := by have := wds_n 32 x; omega
  have hp : 0 < (wds 32 x).length := List.length_pos_iff.mpr (wds_ne _ _)
  obtain ⟨w, t1, l1, e1, w1, w2, p1, p2, p3⟩ := deal_run (n := n + 1) (R := [.lst (((wds 32 x).map strD).map W.p)]) (cs := cs) (many := 7) (t := t) (l := l) ⟨h1, by omega⟩ h3 (by decide)
  obtain ⟨i, t2, l2, e2, i1, i2, q1, q2, q3⟩ := deal_run (n := n + 1) (R := [.lst (((wds 32 x).map strD).map W.p)]) (cs := cs) (many := ((wds 32 x).length : Int)) (t := t1) (l := l1) ⟨p1, by omega⟩ p3 ⟨by omega, by omega⟩
  obtain ⟨j, t3, l3, e3, j1, j2, r1, r2, r3⟩ := deal_run (n := n + 1) (R := [.lst (((wds 32 x).map strD).map W.p)]) (cs := cs) (many := ((wds 32 x).length : Int)) (t := t2) (l := l2) ⟨q1, by omega⟩ q3 ⟨by omega, by omega⟩
  obtain ⟨d, t4, l4, e4, hd, s1, s2, s3⟩ := pick_run (n := n) (R := [.lst (((wds 32 x).map strD).map W.p)]) (cs := cs) (ds := odd.map strD) (t := t3) (l := l3) ⟨r1, by omega⟩ r3 (by decide) (by decide)
  obtain ⟨it, hit, rfl⟩ := List.mem_map.mp hd
  obtain ⟨i, rfl⟩ : ∃ k : Nat, i = (k : Int) := ⟨i.toNat, by omega⟩
  obtain ⟨j, rfl⟩ : ∃ k : Nat, j = (k : Int) := ⟨j.toNat, by omega⟩
  have dn := ways_ev (n := n) (cs := cs) (x := x) (it := it) (way := w) (i := i) (j := j) (t := t4) (l := l4) (by omega) (odd_len it hit) ⟨w1, w2⟩ (by omega) (by omega) s1 (by omega) s3
  have g1 : ex Pr (callF Pr (n + 2)) (.par 4 5 (.splL (.var 1) (.str " ")) (.call 15 [(.var 0), (.int 7)] [] [])) [some (.loc 0), some (.p (.str (sl x))), none, none, none, none, none, none, none] [deck cs t l] = .nx [some (.loc 0), some (.p (.str (sl x))), none, none, some (.loc 1), some (.p (.int w)), none, none, none] (MB (deck cs t1 l1) (wds 32 x)) := by
    have : ev Pr (callF Pr (n + 2)) (.call 15 [(.var 0), (.int 7)] [] []) [some (.loc 0), some (.p (.str (sl x))), none, none, none, none, none, none, none] (MB (deck cs t l) (wds 32 x)) = .ok (.p (.int w)) (MB (deck cs t1 l1) (wds 32 x)) := e1
    rw [ex_par, spl_ev (by omega), Res.st_ok, this]
    rfl
  have ln : ∀ (X : Cell) (a5 a6 a7 : Option W), ev Pr (callF Pr (n + 2)) (.blt .len [(.var 4)]) [some (.loc 0), some (.p (.str (sl x))), none, none, some (.loc 1), a5, a6, a7, none] (MB X (wds 32 x)) = .ok (.p (.int ((wds 32 x).length : Int))) (MB X (wds 32 x)) := fun X a5 a6 a7 => by
    show Res.ok (W.p (.int ((((wds 32 x).map strD).map W.p).length : Int))) _ = _
    rw [List.length_map, List.length_map]
  have dp : ∀ (X : Cell) (a5 a6 a7 : Option W), ev Pr (callF Pr (n + 2)) dpE [some (.loc 0), some (.p (.str (sl x))), none, none, some (.loc 1), a5, a6, a7, none] (MB (deck cs t1 l1) (wds 32 x)) = callF Pr (n + 2) 15 [.loc 0, .p (.int ((wds 32 x).length : Int))] (MB (deck cs t1 l1) (wds 32 x)) := fun X a5 a6 a7 => by
    unfold dpE
    rw [ev_call, evs_cons]
    show Res.bind (Res.bind (Res.ok (W.loc 0) _) _) _ = _
    rw [Res.bind_ok, evs_cons, ln]
    rfl
  have dp2 : ∀ (a5 a6 a7 : Option W), ev Pr (callF Pr (n + 2)) dpE [some (.loc 0), some (.p (.str (sl x))), none, none, some (.loc 1), a5, a6, a7, none] (MB (deck cs t2 l2) (wds 32 x)) = callF Pr (n + 2) 15 [.loc 0, .p (.int ((wds 32 x).length : Int))] (MB (deck cs t2 l2) (wds 32 x)) := fun a5 a6 a7 => by
    unfold dpE
    rw [ev_call, evs_cons]
    show Res.bind (Res.bind (Res.ok (W.loc 0) _) _) _ = _
    rw [Res.bind_ok, evs_cons, ln]
    rfl
  have g2 : ex Pr (callF Pr (n + 2)) (.par 6 7 dpE dpE) [some (.loc 0), some (.p (.str (sl x))), none, none, some (.loc 1), some (.p (.int w)), none, none, none] (MB (deck cs t1 l1) (wds 32 x)) = .nx [some (.loc 0), some (.p (.str (sl x))), none, none, some (.loc 1), some (.p (.int w)), some (.p (.int (i : Int))), some (.p (.int (j : Int))), none] (MB (deck cs t3 l3) (wds 32 x)) := by
    have e2' : callF Pr (n + 2) 15 [.loc 0, .p (.int ((wds 32 x).length : Int))] (MB (deck cs t1 l1) (wds 32 x)) = .ok (.p (.int (i : Int))) (MB (deck cs t2 l2) (wds 32 x)) := e2
    have e3' : callF Pr (n + 2) 15 [.loc 0, .p (.int ((wds 32 x).length : Int))] (MB (deck cs t2 l2) (wds 32 x)) = .ok (.p (.int (j : Int))) (MB (deck cs t3 l3) (wds 32 x)) := e3
    rw [ex_par, dp (deck cs t1 l1), e2', Res.st_ok, dp2, e3']
    rfl
  have g4 : ex Pr (callF Pr (n + 2)) (.asg 3 (.call 16 [(.var 0), (.var 2)] [] [])) [some (.loc 0), some (.p (.str (sl x))), some (.p (.lst (odd.map strD))), none, some (.loc 1), some (.p (.int w)), some (.p (.int (i : Int))), some (.p (.int (j : Int))), none] (MB (deck cs t3 l3) (wds 32 x)) = .nx (BE x it (.loc 1) w (i : Int) (j : Int) none) (MB (deck cs t4 l4) (wds 32 x)) := by
    have : ev Pr (callF Pr (n + 2)) (.call 16 [(.var 0), (.var 2)] [] []) [some (.loc 0), some (.p (.str (sl x))), some (.p (.lst (odd.map strD))), none, some (.loc 1), some (.p (.int w)), some (.p (.int (i : Int))), some (.p (.int (j : Int))), none] (MB (deck cs t3 l3) (wds 32 x)) = .ok (.p (strD it)) (MB (deck cs t4 l4) (wds 32 x)) := e4
    rw [ex_asg, this]
    rfl
  have run : ∀ z, ex Pr (callF Pr (n + 2)) wyS (BE x it (.loc 1) w (i : Int) (j : Int) none) (MB (deck cs t4 l4) (wds 32 x)) = z → callF Pr (n + 3) 22 [.loc 0, .p (.str (sl x))] [deck cs t l] = fnR true [deck cs t l] (z.andT (exs Pr (callF Pr (n + 2)) [.ret (.mth .join (.str " ") (.fz (.var 4)))])) := fun z hz => by
    rw [call_s (d := ⟨2, 9, true, b_l_bent⟩) rfl rfl]
    show fnR true _ (exs Pr (callF Pr (n + 2)) b_l_bent [some (.loc 0), some (.p (.str (sl x))), none, none, none, none, none, none, none] [deck cs t l]) = _
    rw [b_bent_eq, exs_cons, g1, SR.andT_nx, exs_cons, g2, SR.andT_nx, exs_cons, ex_asg, oddE_ev, Res.st_ok, SR.andT_nx]
    show fnR true _ (exs Pr (callF Pr (n + 2)) [_, _, _] [some (.loc 0), some (.p (.str (sl x))), some (.p (.lst (odd.map strD))), none, some (.loc 1), some (.p (.int w)), some (.p (.int (i : Int))), some (.p (.int (j : Int))), none] (MB (deck cs t3 l3) (wds 32 x))) = _
    rw [exs_cons, g4, SR.andT_nx, exs_cons, hz]
  rcases dn with ⟨vs, t', l', ez, hv, hvl, k1, k2, k3⟩ | ⟨vs, t', l', ez, hv, hvl, k1, k2, k3⟩ | ⟨y, t', l', ez, hv, k1, k2, k3⟩
  · have hj : (jn [32] vs).length ≤ x.length + 100 := Nat.le_trans (jn_wt vs) hv
    refine ⟨jn [32] vs, t', l', ?_, hj, k1, by omega, k3⟩
    have fz : ev Pr (callF Pr (n + 2)) (.fz (.var 4)) (BE x it (.p (.lst (vs.map strD))) w (i : Int) (j : Int) none) (MB (deck cs t' l') (wds 32 x)) = .ok (.p (.lst (vs.map fun w => D.str (sl w)))) (MB (deck cs t' l') (wds 32 x)) := rfl
    rw [run _ ez, SR.andT_nx, exs_one, ex_ret, join_ev (s := [32]) s_sp1 fz (by omega) (by decide)]
    rfl
  · have hj : (jn [32] vs).length ≤ x.length + 100 := Nat.le_trans (jn_wt vs) hv
    refine ⟨jn [32] vs, t', l', ?_, hj, k1, by omega, k3⟩
    have hs : vs.length ≤ 29000 := by
      have : vs.length ≤ wt vs := by
        clear hj ez hv hvl
        induction vs with
        | nil => exact Nat.zero_le _
        | cons w vs ih =>
          show vs.length + 1 ≤ (w.length + 1) + wt vs
          omega
      omega
    have fz : ev Pr (callF Pr (n + 2)) (.fz (.var 4)) (BE x it (.loc 1) w (i : Int) (j : Int) none) (MB (deck cs t' l') vs) = .ok (.p (.lst (vs.map fun w => D.str (sl w)))) [deck cs t' l', .fz (.lst (vs.map strD))] := T_fz (M := [deck cs t' l']) rfl (by rw [List.length_map]; exact hs)
    rw [run _ ez, SR.andT_nx, exs_one, ex_ret, join_ev (s := [32]) s_sp1 fz (by omega) (by decide)]
    rfl
  · refine ⟨y, t', l', ?_, hv, k1, by omega, k3⟩
    rw [run _ ez]
    rfl
end K06

set_option maxHeartbeats 4000000
namespace K06
open G
/-! ### the law -/
def lapB : List G.St := [.asg 5 (.call 22 [(.var 1), (.ite (.cmp .lt (.var 6) (.int 3)) (.var 8) (.var 5))] [] []), .par 9 10 (.call 19 [(.var 5)] [] []) (.call 23 [(.var 5)] [] []),
  .ifs (.and (.cmp .isn (.var 9) .non) (.cmp .ne (.var 10) (.tup [(.int 0), (.var 9)]))) [.ret (.bl false)] [],
  .ifs (.and (.cmp .is (.var 9) .non) (.or (.not (.isi (.var 10) [(.own 5)])) (.cmp .ne (.strO 5 34 (.var 10)) (.var 5)))) [.ret (.bl false)] []]
def rndB : List G.St := [.asgT (.tp [.nm 7, .nm 8]) (.call 21 [(.var 1)] [] []), .ifs (.or (.cmp .ne (.strO 5 34 (.var 7)) (.var 8)) (.or (.eqO true (.call 23 [(.var 8)] [] []) (.var 7)) (.cmp .isn (.call 19 [(.var 8)] [] []) .non))) [.ret (.bl false)] [], .asg 5 (.var 8), .for_ (.nm 6) (.rng1 (.int 4)) lapB]
def muchE : G.Ex := match b_law with
  | [_, _, .asg _ (.call _ [_, e] _ _), _, _] => e
  | _ => .non
def noneE : List G.Ex := [.non, (.int 5), (.bl true), (.lst [(.str "1")]), (.tup [(.str "1")]), (.dct [] []), (.fz (.new 5 32 [(.lst [(.int 1)]), (.lst [])] [] []))]
theorem b_law_eq : b_law = [.asg 1 (.call 14 [(.var 0)] [] []), .for_ (.nm 2) (.rng1 (.int 3)) rndB, .asg 3 (.call 16 [(.var 1), muchE] [] []), .asg 4 (.call 16 [(.var 1), (.lst noneE)] [] []),
  .ret (.and (.cmp .eq (.call 23 [(.var 3)] [] []) (.tup [(.int 0), (.call 19 [(.var 3)] [] [])])) (.cmp .eq (.call 23 [(.var 4)] [] []) (.tup [(.int 0), (.int 0)])))] := by rfl
def LE (x : W) (a2 a3 a4 a5 a6 a7 a8 a9 a10 : Option W) : Env := [some x, some (.loc 0), a2, a3, a4, a5, a6, a7, a8, a9, a10]
def sO (y : It) : Option W := some (.p (.str (sl y)))
theorem lap_ev {n : Nat} {cs : List Int} {x : W} {a2 a3 a4 a7 a9 a10 : Option W} {u b : It} {v : Int} {B : Nat} {t l : Int} (hu : u.length ≤ B) (hb : b.length ≤ B) (hB : B ≤ 25000) (h1 : 0 ≤ t) (h2 : t + 8 ≤ 2000) (h3 : 0 ≤ l) :
    ∃ (y : It) (b9 b10 : Option W) (t' l' : Int), exs Pr (callF Pr (n + 10)) lapB (LE x a2 a3 a4 (sO b) (some (.p (.int v))) a7 (sO u) a9 a10) [deck cs t l] = .nx (LE x a2 a3 a4 (sO y) (some (.p (.int v))) a7 (sO u) b9 b10) [deck cs t' l'] ∧ y.length ≤ B + 100 ∧ 0 ≤ t' ∧ t' ≤ t + 8 ∧ 0 ≤ l' := by
  obtain ⟨z, hz, hzB⟩ : ∃ z : It, ev Pr (callF Pr (n + 10)) (.ite (.cmp .lt (.var 6) (.int 3)) (.var 8) (.var 5)) (LE x a2 a3 a4 (sO b) (some (.p (.int v))) a7 (sO u) a9 a10) [deck cs t l] = .ok (.p (.str (sl z))) [deck cs t l] ∧ z.length ≤ B := by
    have c : ev Pr (callF Pr (n + 10)) (.cmp .lt (.var 6) (.int 3)) (LE x a2 a3 a4 (sO b) (some (.p (.int v))) a7 (sO u) a9 a10) [deck cs t l] = .ok (.p (.bl (decide (v < 3)))) [deck cs t l] := rfl
    by_cases q : v < 3
    · exact ⟨u, by rw [ev_ite, c, Res.bind_ok, decide_eq_true q]; rfl, hu⟩
    · exact ⟨b, by rw [ev_ite, c, Res.bind_ok, decide_eq_false q]; rfl, hb⟩
  obtain ⟨y, t', l', ey, hy, q1, q2, q3⟩ := bent_run (n := n + 7) (cs := cs) (x := z) (t := t) (l := l) (by omega) h1 h2 h3
  have g1 : ex Pr (callF Pr (n + 10)) (.asg 5 (.call 22 [(.var 1), (.ite (.cmp .lt (.var 6) (.int 3)) (.var 8) (.var 5))] [] [])) (LE x a2 a3 a4 (sO b) (some (.p (.int v))) a7 (sO u) a9 a10) [deck cs t l] = .nx (LE x a2 a3 a4 (sO y) (some (.p (.int v))) a7 (sO u) a9 a10) [deck cs t' l'] := by
    have : ev Pr (callF Pr (n + 10)) (.call 22 [(.var 1), (.ite (.cmp .lt (.var 6) (.int 3)) (.var 8) (.var 5))] [] []) (LE x a2 a3 a4 (sO b) (some (.p (.int v))) a7 (sO u) a9 a10) [deck cs t l] = .ok (.p (.str (sl y))) [deck cs t' l'] := by
      rw [ev_call, evs_cons]
      show Res.bind (Res.bind (Res.ok (W.loc 0) [deck cs t l]) _) _ = _
      rw [Res.bind_ok, evs_cons, hz, Res.bind_ok, evs_nil]
      exact ey
    rw [ex_asg, this]
    rfl
  have hyl : y.length ≤ 90000 := by omega
  have sr := stop_run (n := n + 7) (l := y) (M := [deck cs t' l']) hyl
  have par : ∀ d e, callF Pr (n + 10) 19 [.p (.str (sl y))] [deck cs t' l'] = .ok (.p d) [deck cs t' l'] → callF Pr (n + 10) 23 [.p (.str (sl y))] [deck cs t' l'] = .ok (.p e) [deck cs t' l'] →
      ex Pr (callF Pr (n + 10)) (.par 9 10 (.call 19 [(.var 5)] [] []) (.call 23 [(.var 5)] [] [])) (LE x a2 a3 a4 (sO y) (some (.p (.int v))) a7 (sO u) a9 a10) [deck cs t' l'] = .nx (LE x a2 a3 a4 (sO y) (some (.p (.int v))) a7 (sO u) (some (.p d)) (some (.p e))) [deck cs t' l'] := fun d e hd he => by
    have k1 : ev Pr (callF Pr (n + 10)) (.call 19 [(.var 5)] [] []) (LE x a2 a3 a4 (sO y) (some (.p (.int v))) a7 (sO u) a9 a10) [deck cs t' l'] = .ok (.p d) [deck cs t' l'] := hd
    have k2 : ev Pr (callF Pr (n + 10)) (.call 23 [(.var 5)] [] []) (LE x a2 a3 a4 (sO y) (some (.p (.int v))) a7 (sO u) a9 a10) [deck cs t' l'] = .ok (.p e) [deck cs t' l'] := he
    rw [ex_par, k1, Res.st_ok, k2]
    rfl
  rcases lread_run (n := n) (M := [deck cs t' l']) (l := y) dk_below hyl with ⟨k, k1, k2⟩ | ⟨g0, gs, v', s0, hl, r⟩
  · rw [k1] at sr
    refine ⟨y, some (.p (.int (k : Int))), some (.p (.tup [.int 0, .int (k : Int)])), t', l', ?_, by omega, q1, q2, q3⟩
    obtain ⟨E, hE⟩ : ∃ E, E = LE x a2 a3 a4 (sO y) (some (.p (.int v))) a7 (sO u) (some (.p (.int (k : Int)))) (some (.p (.tup [.int 0, .int (k : Int)]))) := ⟨_, rfl⟩
    have p := par _ _ sr k2
    have p : ex Pr (callF Pr (n + 10)) (.par 9 10 (.call 19 [(.var 5)] [] []) (.call 23 [(.var 5)] [] [])) (LE x a2 a3 a4 (sO y) (some (.p (.int v))) a7 (sO u) a9 a10) [deck cs t' l'] = .nx E [deck cs t' l'] := by rw [p, hE]; rfl
    have c1 : ev Pr (callF Pr (n + 10)) (.and (.cmp .isn (.var 9) .non) (.cmp .ne (.var 10) (.tup [(.int 0), (.var 9)]))) E [deck cs t' l'] = .ok (.p (.bl false)) [deck cs t' l'] := by
      rw [hE]
      show Res.of ((cmpW [deck cs t' l'] .ne (.p (.tup [.int 0, .int (k : Int)])) (.p (.tup [.int 0, .int (k : Int)]))).map fun b => W.p (.bl b)) [deck cs t' l'] = _
      rw [ne_same rfl]
      rfl
    have c2 : ev Pr (callF Pr (n + 10)) (.and (.cmp .is (.var 9) .non) (.or (.not (.isi (.var 10) [(.own 5)])) (.cmp .ne (.strO 5 34 (.var 10)) (.var 5)))) E [deck cs t' l'] = .ok (.p (.bl false)) [deck cs t' l'] := by
      rw [hE]
      rfl
    unfold lapB
    rw [exs_cons, g1, SR.andT_nx, exs_cons, p, SR.andT_nx, exs_cons, if_skip c1, SR.andT_nx, exs_one, if_skip c2, hE]
  · rw [s0] at sr
    refine ⟨y, some (.p .non), some (.p (objP (g0.map resW) (gs.map toC))), t', l', ?_, by omega, q1, q2, q3⟩
    obtain ⟨E, hE⟩ : ∃ E, E = LE x a2 a3 a4 (sO y) (some (.p (.int v))) a7 (sO u) (some (.p .non)) (some (.p (objP (g0.map resW) (gs.map toC)))) := ⟨_, rfl⟩
    have p := par _ _ sr r
    have p : ex Pr (callF Pr (n + 10)) (.par 9 10 (.call 19 [(.var 5)] [] []) (.call 23 [(.var 5)] [] [])) (LE x a2 a3 a4 (sO y) (some (.p (.int v))) a7 (sO u) a9 a10) [deck cs t' l'] = .nx E [deck cs t' l'] := by rw [p, hE]; rfl
    have ht : textP (g0.map resW) (gs.map toC) = y := by rw [text_of v', ← hl]
    have so := strO_ev (n := n + 7) (m := g0.length) (v := 10) (M := [deck cs t' l']) (env := E) (cs := g0.map resW) (qs := gs.map toC) (by rw [hE]; rfl) dk_below (fun d hd => by
      obtain ⟨w, hw, rfl⟩ := List.mem_map.mp hd
      exact (res_num (v'.nb w hw)).1) v'.le (fun q hq => by
      obtain ⟨g, hg, rfl⟩ := List.mem_map.mp hq
      exact okC_of (v'.ok g hg)) (by rw [List.length_map]; exact v'.gl) (by rw [ht]; omega)
    rw [ht] at so
    have c1 : ev Pr (callF Pr (n + 10)) (.and (.cmp .isn (.var 9) .non) (.cmp .ne (.var 10) (.tup [(.int 0), (.var 9)]))) E [deck cs t' l'] = .ok (.p (.bl false)) [deck cs t' l'] := by
      rw [hE]
      rfl
    have c2 : ev Pr (callF Pr (n + 10)) (.and (.cmp .is (.var 9) .non) (.or (.not (.isi (.var 10) [(.own 5)])) (.cmp .ne (.strO 5 34 (.var 10)) (.var 5)))) E [deck cs t' l'] = .ok (.p (.bl false)) [deck cs t' l'] := by
      have k1 : ev Pr (callF Pr (n + 10)) (.cmp .is (.var 9) .non) E [deck cs t' l'] = .ok (.p (.bl true)) [deck cs t' l'] := by rw [hE]; rfl
      have k2 : ev Pr (callF Pr (n + 10)) (.not (.isi (.var 10) [(.own 5)])) E [deck cs t' l'] = .ok (.p (.bl false)) [deck cs t' l'] := by rw [hE]; rfl
      have k3 : ev Pr (callF Pr (n + 10)) (.var 5) E [deck cs t' l'] = .ok (.p (.str (sl y))) [deck cs t' l'] := by rw [hE]; rfl
      have so : ev Pr (callF Pr (n + 10)) (.strO 5 34 (.var 10)) E [deck cs t' l'] = .ok (.p (.str (sl y))) [deck cs t' l'] := so
      rw [ev_and, k1, Res.bind_ok]
      show ev Pr (callF Pr (n + 10)) (.or _ _) E _ = _
      rw [ev_or, k2, Res.bind_ok]
      show ev Pr (callF Pr (n + 10)) (.cmp .ne _ _) E _ = _
      rw [ev_cmp, so, Res.bind_ok, k3, Res.bind_ok, ne_str]
      rfl
    unfold lapB
    rw [exs_cons, g1, SR.andT_nx, exs_cons, p, SR.andT_nx, exs_cons, if_skip c1, SR.andT_nx, exs_one, if_skip c2, hE]
theorem laps_ev {n : Nat} {cs : List Int} {x : W} {a2 a3 a4 a7 : Option W} {u : It} : ∀ (vs : List Int) (b : It) (B : Nat) (t l : Int) (a6 a9 a10 : Option W), u.length ≤ B → b.length ≤ B → B + 100 * vs.length ≤ 25000 → 0 ≤ t → t + 8 * (vs.length : Int) ≤ 2000 → 0 ≤ l →
    ∃ (y : It) (b6 b9 b10 : Option W) (t' l' : Int), forL (fun w env M => match give (.nm 6) w env with
      | some env' => exs Pr (callF Pr (n + 10)) lapB env' M
      | none => .bad) (vs.map fun v => W.p (.int v)) (LE x a2 a3 a4 (sO b) a6 a7 (sO u) a9 a10) [deck cs t l] = .nx (LE x a2 a3 a4 (sO y) b6 a7 (sO u) b9 b10) [deck cs t' l'] ∧ 0 ≤ t' ∧ t' ≤ t + 8 * (vs.length : Int) ∧ 0 ≤ l'
  | [], b, B, t, l, a6, a9, a10, hu, hb, hB, h1, h2, h3 => ⟨b, a6, a9, a10, t, l, rfl, h1, by simp, h3⟩
  | v :: vs, b, B, t, l, a6, a9, a10, hu, hb, hB, h1, h2, h3 => by
    rw [List.length_cons] at hB h2
    obtain ⟨y, b9, b10, t1, l1, e, hy, q1, q2, q3⟩ := lap_ev (n := n) (cs := cs) (x := x) (a2 := a2) (a3 := a3) (a4 := a4) (a7 := a7) (a9 := a9) (a10 := a10) (u := u) (b := b) (v := v) (B := B) (t := t) (l := l) hu hb (by omega) h1 (by omega) h3
    obtain ⟨y', c6, c9, c10, t', l', e', r1, r2, r3⟩ := laps_ev (n := n) (cs := cs) (x := x) (a2 := a2) (a3 := a3) (a4 := a4) (a7 := a7) (u := u) vs y (B + 100) t1 l1 (some (.p (.int v))) b9 b10 (by omega) hy (by omega) q1 (by omega) q3
    refine ⟨y', c6, c9, c10, t', l', ?_, r1, by rw [List.length_cons]; omega, r3⟩
    have st : (match give (.nm 6) (.p (.int v)) (LE x a2 a3 a4 (sO b) a6 a7 (sO u) a9 a10) with
      | some env' => exs Pr (callF Pr (n + 10)) lapB env' [deck cs t l]
      | none => .bad) = .nx (LE x a2 a3 a4 (sO y) (some (.p (.int v))) a7 (sO u) b9 b10) [deck cs t1 l1] := by
      show exs Pr (callF Pr (n + 10)) lapB (LE x a2 a3 a4 (sO b) (some (.p (.int v))) a7 (sO u) a9 a10) [deck cs t l] = _
      rw [e]
    rw [List.map_cons]
    conv => lhs; unfold forL
    rw [st]
    exact e'
theorem rnd_ev {n : Nat} {cs : List Int} {x : W} {a2 a3 a4 a5 a6 a7 a8 a9 a10 : Option W} {t l : Int} (h1 : 0 ≤ t) (h2 : t + 440 ≤ 2000) (h3 : 0 ≤ l) :
    ∃ (b5 b6 b7 b8 b9 b10 : Option W) (t' l' : Int), exs Pr (callF Pr (n + 10)) rndB (LE x a2 a3 a4 a5 a6 a7 a8 a9 a10) [deck cs t l] = .nx (LE x a2 a3 a4 b5 b6 b7 b8 b9 b10) [deck cs t' l'] ∧ 0 ≤ t' ∧ t' ≤ t + 440 ∧ 0 ≤ l' := by
  obtain ⟨us, gs, t1, l1, e1, v, hf, hl, q1, q2, q3⟩ := program_run (n := n + 3) (cs := cs) (t := t) (l := l) h1 (by omega) h3
  obtain ⟨u, hu⟩ : ∃ u, u = jn [32] (itemsOf us gs) := ⟨_, rfl⟩
  obtain ⟨lr, ls⟩ := lread_val (n := n) (M := [deck cs t1 l1]) dk_below v hf (by omega)
  rw [← hu] at e1 hl lr ls
  have ht : textP (us.map resW) (gs.map toC) = u := by rw [text_of v, hu]
  have sr := stop_run (n := n + 7) (l := u) (M := [deck cs t1 l1]) (by omega)
  rw [ls] at sr
  obtain ⟨E, hE⟩ : ∃ E, E = LE x a2 a3 a4 a5 a6 (some (.p (objP (us.map resW) (gs.map toC)))) (sO u) a9 a10 := ⟨_, rfl⟩
  have g1 : ex Pr (callF Pr (n + 10)) (.asgT (.tp [.nm 7, .nm 8]) (.call 21 [(.var 1)] [] [])) (LE x a2 a3 a4 a5 a6 a7 a8 a9 a10) [deck cs t l] = .nx E [deck cs t1 l1] := by
    have : ev Pr (callF Pr (n + 10)) (.call 21 [(.var 1)] [] []) (LE x a2 a3 a4 a5 a6 a7 a8 a9 a10) [deck cs t l] = .ok (.p (.tup [objP (us.map resW) (gs.map toC), .str (sl u)])) [deck cs t1 l1] := e1
    rw [ex_asgT, this, hE]
    rfl
  have nm : nums (us.map resW) := fun d hd => by
    obtain ⟨w, hw, rfl⟩ := List.mem_map.mp hd
    exact (res_num (v.nb w hw)).1
  have oc : ∀ q ∈ gs.map toC, okC us.length q := fun q hq => by
    obtain ⟨g, hg, rfl⟩ := List.mem_map.mp hq
    exact okC_of (v.ok g hg)
  have so := strO_ev (n := n + 7) (m := us.length) (v := 7) (M := [deck cs t1 l1]) (env := E) (cs := us.map resW) (qs := gs.map toC) (by rw [hE]; rfl) dk_below nm v.le oc (by rw [List.length_map]; exact v.gl) (by rw [ht]; omega)
  rw [ht] at so
  have so : ev Pr (callF Pr (n + 10)) (.strO 5 34 (.var 7)) E [deck cs t1 l1] = .ok (.p (.str (sl u))) [deck cs t1 l1] := so
  have v8 : ev Pr (callF Pr (n + 10)) (.var 8) E [deck cs t1 l1] = .ok (.p (.str (sl u))) [deck cs t1 l1] := by rw [hE]; rfl
  have v7 : ev Pr (callF Pr (n + 10)) (.var 7) E [deck cs t1 l1] = .ok (.p (objP (us.map resW) (gs.map toC))) [deck cs t1 l1] := by rw [hE]; rfl
  have c8 : ∀ f, ev Pr (callF Pr (n + 10)) (.call f [(.var 8)] [] []) E [deck cs t1 l1] = callF Pr (n + 10) f [.p (.str (sl u))] [deck cs t1 l1] := fun f => by
    rw [ev_call, evs_cons, v8]
    rfl
  have eo : ev Pr (callF Pr (n + 10)) (.eqO true (.call 23 [(.var 8)] [] []) (.var 7)) E [deck cs t1 l1] = .ok (.p (.bl false)) [deck cs t1 l1] := eqO_ev (n := n + 9) nm oc ((c8 23).trans lr) v7
  have c : ev Pr (callF Pr (n + 10)) (.or (.cmp .ne (.strO 5 34 (.var 7)) (.var 8)) (.or (.eqO true (.call 23 [(.var 8)] [] []) (.var 7)) (.cmp .isn (.call 19 [(.var 8)] [] []) .non))) E [deck cs t1 l1] = .ok (.p (.bl false)) [deck cs t1 l1] := by
    have k1 : ev Pr (callF Pr (n + 10)) (.cmp .ne (.strO 5 34 (.var 7)) (.var 8)) E [deck cs t1 l1] = .ok (.p (.bl false)) [deck cs t1 l1] := by
      rw [ev_cmp, so, Res.bind_ok, v8, Res.bind_ok, ne_str]
      rfl
    rw [ev_or, k1, Res.bind_ok]
    show ev Pr (callF Pr (n + 10)) (.or _ _) E _ = _
    rw [ev_or, eo, Res.bind_ok]
    show ev Pr (callF Pr (n + 10)) (.cmp .isn _ _) E _ = _
    rw [isn_non' ((c8 19).trans sr)]
    rfl
  obtain ⟨y, b6, b9, b10, t2, l2, e2, r1, r2, r3⟩ := laps_ev (n := n) (cs := cs) (x := x) (a2 := a2) (a3 := a3) (a4 := a4) (a7 := some (.p (objP (us.map resW) (gs.map toC)))) (u := u) [0, 1, 2, 3] u 20000 t1 l1 a6 a9 a10 hl hl (by decide) q1 (by simp; omega) q3
  have r2 : t2 ≤ t1 + 32 := by simpa using r2
  refine ⟨sO y, b6, some (.p (objP (us.map resW) (gs.map toC))), sO u, b9, b10, t2, l2, ?_, r1, by omega, r3⟩
  have g3 : ex Pr (callF Pr (n + 10)) (.asg 5 (.var 8)) E [deck cs t1 l1] = .nx (LE x a2 a3 a4 (sO u) a6 (some (.p (objP (us.map resW) (gs.map toC)))) (sO u) a9 a10) [deck cs t1 l1] := by
    rw [ex_asg, v8, hE]; rfl
  have g4 := for_run (C := callF Pr (n + 10)) (t := .nm 6) (it := .rng1 (.int 4)) (body := lapB) (env := LE x a2 a3 a4 (sO u) a6 (some (.p (objP (us.map resW) (gs.map toC)))) (sO u) a9 a10) (M := [deck cs t1 l1]) (x := .tp (rngW 0 4)) rfl rfl e2
  unfold rndB
  rw [exs_cons, g1, SR.andT_nx, exs_cons, if_skip c, SR.andT_nx, exs_cons, g3, SR.andT_nx, exs_one, g4]
theorem rnds_ev {n : Nat} {cs : List Int} {x : W} {a3 a4 : Option W} : ∀ (ws : List W) (t l : Int) (a2 a5 a6 a7 a8 a9 a10 : Option W), 0 ≤ t → t + 440 * (ws.length : Int) ≤ 2000 → 0 ≤ l →
    ∃ (b2 b5 b6 b7 b8 b9 b10 : Option W) (t' l' : Int), forL (fun w env M => match give (.nm 2) w env with
      | some env' => exs Pr (callF Pr (n + 10)) rndB env' M
      | none => .bad) ws (LE x a2 a3 a4 a5 a6 a7 a8 a9 a10) [deck cs t l] = .nx (LE x b2 a3 a4 b5 b6 b7 b8 b9 b10) [deck cs t' l'] ∧ 0 ≤ t' ∧ t' ≤ t + 440 * (ws.length : Int) ∧ 0 ≤ l'
  | [], t, l, a2, a5, a6, a7, a8, a9, a10, h1, h2, h3 => ⟨a2, a5, a6, a7, a8, a9, a10, t, l, rfl, h1, by simp, h3⟩
  | w :: ws, t, l, a2, a5, a6, a7, a8, a9, a10, h1, h2, h3 => by
    rw [List.length_cons] at h2
    obtain ⟨b5, b6, b7, b8, b9, b10, t1, l1, e, q1, q2, q3⟩ := rnd_ev (n := n) (cs := cs) (x := x) (a2 := some w) (a3 := a3) (a4 := a4) (a5 := a5) (a6 := a6) (a7 := a7) (a8 := a8) (a9 := a9) (a10 := a10) (t := t) (l := l) h1 (by omega) h3
    obtain ⟨c2, c5, c6, c7, c8, c9, c10, t', l', e', r1, r2, r3⟩ := rnds_ev (n := n) (cs := cs) (x := x) (a3 := a3) (a4 := a4) ws t1 l1 (some w) b5 b6 b7 b8 b9 b10 q1 (by omega) q3
    refine ⟨c2, c5, c6, c7, c8, c9, c10, t', l', ?_, r1, by rw [List.length_cons]; omega, r3⟩
    have st : (match give (.nm 2) w (LE x a2 a3 a4 a5 a6 a7 a8 a9 a10) with
      | some env' => exs Pr (callF Pr (n + 10)) rndB env' [deck cs t l]
      | none => .bad) = .nx (LE x (some w) a3 a4 b5 b6 b7 b8 b9 b10) [deck cs t1 l1] := by
      show exs Pr (callF Pr (n + 10)) rndB (LE x (some w) a3 a4 a5 a6 a7 a8 a9 a10) [deck cs t l] = _
      rw [e]
    conv => lhs; unfold forL
    rw [st]
    exact e'
/-! too much, and what is no text -/
def cyc : Nat → List It → List It
  | 0, _ => []
  | n + 1, x => x ++ cyc n x
def muchI : List (List It) := [cyc 61 [[49]], [49] :: cyc 61 [[47], [49], least, [48]], cyc 60 [[48]] ++ [47] :: (cyc 61 [[49]] ++ [least, [51]])]
theorem much_st : ∀ m ∈ muchI, (stopF m).isSome = true ∧ m ≠ [] ∧ (∀ w ∈ m, 32 ∉ w) ∧ (jn [32] m).length ≤ 1000 := by decide +kernel
def much : List It := muchI.map (jn [32])
theorem much_ok : ∀ m ∈ much, (stopF (wds 32 m)).isSome = true ∧ m.length ≤ 1000 := fun m hm => by
  obtain ⟨x, hx, rfl⟩ := List.mem_map.mp hm
  obtain ⟨h1, h2, h3, h4⟩ := much_st x hx
  rw [wds_of h2 h3]
  exact ⟨h1, h4⟩
theorem muchE_ev {C : Calls} {env : Env} {M : Mem} : ev Pr C muchE env M = .ok (.p (.lst (much.map strD))) M := by kernel_rfl
theorem one_num : nums [.int 1] := fun d hd => by rw [List.mem_singleton.mp hd]; exact .inl ⟨1, rfl, by decide⟩
def nones : List D := [.non, .int 5, .bl true, .lst [.str "1"], .tup [.str "1"], .dct [] [], objP [.int 1] []]
theorem nones_ev {n : Nat} {env : Env} {M : Mem} : ev Pr (callF Pr (n + 6)) (.lst noneE) env M = .ok (.p (.lst nones)) (M ++ [.fz (objP [.int 1] [])]) := by
  have es : evs Pr (callF Pr (n + 6)) [(.lst [(.int 1)]), (.lst [])] env M = .ok [.p (.lst [.int 1]), .p (.lst (([] : List Cn).map condL))] M := rfl
  have nv := new_ev (n := n) es one_num (by simp) (by decide) (fun x hx => (by cases hx)) (by decide)
  have e : evs Pr (callF Pr (n + 6)) noneE env M = (ev Pr (callF Pr (n + 6)) (.fz (.new 5 32 [(.lst [(.int 1)]), (.lst [])] [] [])) env M).bind fun w M => .ok [.p .non, .p (.int 5), .p (.bl true), .p (.lst [.str "1"]), .p (.tup [.str "1"]), .p (.dct [] []), w] M := by
    show ((((((((ev Pr (callF Pr (n + 6)) (.fz (.new 5 32 [(.lst [(.int 1)]), (.lst [])] [] [])) env M).bind _).bind _).bind _).bind _).bind _).bind _).bind _) = _
    rw [nv]
    rfl
  rw [ev_lst, e, nv]
  rfl
end K06

set_option maxHeartbeats 4000000
namespace K06
open G
theorem none_read {cs : List Int} {t l : Int} {d : D} (hd : d ∈ nones) : callF Pr 10 23 [.p d] [deck cs t l, .fz (objP [.int 1] [])] = .ok (.p (.tup [.int 0, .int 0])) [deck cs t l, .fz (objP [.int 1] [])] := by
  refine lread_x (n := 8) (k := 0) (readx (n := 6) rfl ?_)
  simp only [nones, List.mem_cons, List.not_mem_nil, or_false] at hd
  rcases hd with rfl | rfl | rfl | rfl | rfl | rfl | rfl <;> rfl
def finR : G.Ex := .and (.cmp .eq (.call 23 [(.var 3)] [] []) (.tup [(.int 0), (.call 19 [(.var 3)] [] [])])) (.cmp .eq (.call 23 [(.var 4)] [] []) (.tup [(.int 0), (.int 0)]))
theorem fin_ev {cs : List Int} {x : W} {a2 a5 a6 a7 a8 a9 a10 : Option W} {t l : Int} {m : It} {d : D} (hm : m ∈ much) (hd : d ∈ nones) : ev Pr (callF Pr 10) finR (LE x a2 (sO m) (some (.p d)) a5 a6 a7 a8 a9 a10) [deck cs t l, .fz (objP [.int 1] [])] = .ok (.p (.bl true)) [deck cs t l, .fz (objP [.int 1] [])] := by
  obtain ⟨ms, ml⟩ := much_ok m hm
  have hB : ([deck cs t l, .fz (objP [.int 1] [])] : Mem).all (belowC ([deck cs t l, .fz (objP [.int 1] [])] : Mem).length) = true := rfl
  have sr := stop_run (n := 7) (l := m) (M := [deck cs t l, .fz (objP [.int 1] [])]) (by omega)
  rcases lread_run (n := 0) (M := [deck cs t l, .fz (objP [.int 1] [])]) (l := m) hB (by omega) with ⟨k, k1, k2⟩ | ⟨g0, gs, v, s0, _, _⟩
  · rw [k1] at sr
    have e1 : ev Pr (callF Pr 10) (.call 23 [(.var 3)] [] []) (LE x a2 (sO m) (some (.p d)) a5 a6 a7 a8 a9 a10) [deck cs t l, .fz (objP [.int 1] [])] = .ok (.p (.tup [.int 0, .int (k : Int)])) [deck cs t l, .fz (objP [.int 1] [])] := k2
    have e2 : ev Pr (callF Pr 10) (.call 19 [(.var 3)] [] []) (LE x a2 (sO m) (some (.p d)) a5 a6 a7 a8 a9 a10) [deck cs t l, .fz (objP [.int 1] [])] = .ok (.p (.int (k : Int))) [deck cs t l, .fz (objP [.int 1] [])] := sr
    have e3 : ev Pr (callF Pr 10) (.tup [(.int 0), (.call 19 [(.var 3)] [] [])]) (LE x a2 (sO m) (some (.p d)) a5 a6 a7 a8 a9 a10) [deck cs t l, .fz (objP [.int 1] [])] = .ok (.p (.tup [.int 0, .int (k : Int)])) [deck cs t l, .fz (objP [.int 1] [])] := by
      rw [ev_tup, evs_cons, ev_int, Res.bind_ok, evs_cons, e2, Res.bind_ok, evs_nil]
      rfl
    have e4 : ev Pr (callF Pr 10) (.call 23 [(.var 4)] [] []) (LE x a2 (sO m) (some (.p d)) a5 a6 a7 a8 a9 a10) [deck cs t l, .fz (objP [.int 1] [])] = .ok (.p (.tup [.int 0, .int 0])) [deck cs t l, .fz (objP [.int 1] [])] := none_read hd
    have c1 : ev Pr (callF Pr 10) (.cmp .eq (.call 23 [(.var 3)] [] []) (.tup [(.int 0), (.call 19 [(.var 3)] [] [])])) (LE x a2 (sO m) (some (.p d)) a5 a6 a7 a8 a9 a10) [deck cs t l, .fz (objP [.int 1] [])] = .ok (.p (.bl true)) [deck cs t l, .fz (objP [.int 1] [])] := by
      rw [ev_cmp, e1, Res.bind_ok, e3, Res.bind_ok, eq_same rfl]
      rfl
    have e5 : ev Pr (callF Pr 10) (.tup [(.int 0), (.int 0)]) (LE x a2 (sO m) (some (.p d)) a5 a6 a7 a8 a9 a10) [deck cs t l, .fz (objP [.int 1] [])] = .ok (.p (.tup [.int 0, .int 0])) [deck cs t l, .fz (objP [.int 1] [])] := rfl
    unfold finR
    rw [ev_and, c1, Res.bind_ok]
    show ev Pr (callF Pr 10) (.cmp .eq _ _) _ _ = _
    rw [ev_cmp, e4, Res.bind_ok, e5, Res.bind_ok, eq_same rfl]
    rfl
  · rw [s0] at ms; cases ms
theorem ans : ∀ ns : List Int, ns.length ≤ 63 → ∃ M, callF T.P 11 24 [.p (.lst (ns.map D.int))] [] = .ok (.p (.bl true)) M := by
  intro ns _
  obtain ⟨x, hx⟩ : ∃ x : W, x = .p (.lst (ns.map D.int)) := ⟨_, rfl⟩
  obtain ⟨cs, hcs⟩ : ∃ cs, cs = ns.take (min 58 ns.length) := ⟨_, rfl⟩
  obtain ⟨b2, b5, b6, b7, b8, b9, b10, t1, l1, e1, q1, q2, q3⟩ := rnds_ev (n := 0) (cs := cs) (x := x) (a3 := none) (a4 := none) (rngW 0 3) 0 0 none none none none none none none (Int.le_refl 0) (by decide) (Int.le_refl 0)
  have q2 : t1 ≤ 1320 := by
    have : (rngW 0 3).length = 3 := rfl
    rw [this] at q2
    omega
  obtain ⟨d, t2, l2, e2, hd, r1, r2, r3⟩ := pick_run (n := 8) (R := []) (cs := cs) (ds := much.map strD) (t := t1) (l := l1) ⟨q1, by omega⟩ q3 (by decide) (by decide)
  obtain ⟨m, hm, rfl⟩ := List.mem_map.mp hd
  obtain ⟨d2, t3, l3, e3, hd2, s1, s2, s3⟩ := pick_run (n := 8) (R := [.fz (objP [.int 1] [])]) (cs := cs) (ds := nones) (t := t2) (l := l2) ⟨r1, by omega⟩ r3 (by decide) (by decide)
  refine ⟨[], ?_⟩
  have g0 : ex Pr (callF Pr 10) (.asg 1 (.call 14 [(.var 0)] [] [])) [some x, none, none, none, none, none, none, none, none, none, none] [] = .nx (LE x none none none none none none none none none) [deck cs 0 0] := by
    have : ev Pr (callF Pr 10) (.call 14 [(.var 0)] [] []) [some x, none, none, none, none, none, none, none, none, none, none] [] = .ok (.loc 0) [deck cs 0 0] := by
      rw [hx, hcs]
      exact deck_run (n := 9)
    rw [ex_asg, this]
    rfl
  rw [← hx]
  show callF Pr (10 + 1) 24 [x] [] = _
  rw [call_s (d := ⟨1, 11, true, b_law⟩) rfl rfl]
  show fnR true [] (exs Pr (callF Pr 10) b_law [some x, none, none, none, none, none, none, none, none, none, none] []) = _
  have g1 := for_run (C := callF Pr 10) (t := .nm 2) (it := .rng1 (.int 3)) (body := rndB) (env := LE x none none none none none none none none none) (M := [deck cs 0 0]) (x := .tp (rngW 0 3)) rfl rfl e1
  have g2 : ex Pr (callF Pr 10) (.asg 3 (.call 16 [(.var 1), muchE] [] [])) (LE x b2 none none b5 b6 b7 b8 b9 b10) [deck cs t1 l1] = .nx (LE x b2 (sO m) none b5 b6 b7 b8 b9 b10) [deck cs t2 l2] := by
    have : ev Pr (callF Pr 10) (.call 16 [(.var 1), muchE] [] []) (LE x b2 none none b5 b6 b7 b8 b9 b10) [deck cs t1 l1] = .ok (.p (strD m)) [deck cs t2 l2] := by
      rw [ev_call, evs_cons]
      show Res.bind (Res.bind (Res.ok (W.loc 0) [deck cs t1 l1]) _) _ = _
      rw [Res.bind_ok, evs_cons, muchE_ev, Res.bind_ok, evs_nil]
      exact e2
    rw [ex_asg, this]
    rfl
  have g3 : ex Pr (callF Pr 10) (.asg 4 (.call 16 [(.var 1), (.lst noneE)] [] [])) (LE x b2 (sO m) none b5 b6 b7 b8 b9 b10) [deck cs t2 l2] = .nx (LE x b2 (sO m) (some (.p d2)) b5 b6 b7 b8 b9 b10) [deck cs t3 l3, .fz (objP [.int 1] [])] := by
    have : ev Pr (callF Pr 10) (.call 16 [(.var 1), (.lst noneE)] [] []) (LE x b2 (sO m) none b5 b6 b7 b8 b9 b10) [deck cs t2 l2] = .ok (.p d2) [deck cs t3 l3, .fz (objP [.int 1] [])] := by
      rw [ev_call, evs_cons]
      show Res.bind (Res.bind (Res.ok (W.loc 0) [deck cs t2 l2]) _) _ = _
      rw [Res.bind_ok, evs_cons, nones_ev (n := 4), Res.bind_ok, evs_nil]
      exact e3
    rw [ex_asg, this]
    rfl
  have fe := fin_ev (cs := cs) (x := x) (a2 := b2) (a5 := b5) (a6 := b6) (a7 := b7) (a8 := b8) (a9 := b9) (a10 := b10) (t := t3) (l := l3) hm hd2
  unfold finR at fe
  rw [b_law_eq, exs_cons, g0, SR.andT_nx, exs_cons, g1, SR.andT_nx, exs_cons, g2, SR.andT_nx, exs_cons, g3, SR.andT_nx, exs_one, ex_ret, fe]
  rfl
open PySem PySem.Spec PyProof.Rows L2 G
abbrev R : PySem.W.OpenRow := PySem.W.OpenLaw.row PySem.Challenge.rw_planless_k06_texts_of_programs_bent_anyw
abbrev hk : PySem.W.Hook := hookX 6 T
def ob (s : PySem.W.SharedT) : Bool := obsX 6 T (HandSHeadRun.getT s)
theorem ob_eq (s : PySem.W.SharedT) : ob s = hk.obs s.abs := obsX_eq (HandSHeadRun.getT_eq s)
theorem run (w : World) : HandSHeadRun.RunEq R (PySem.W.view R.prog [lawAt]) hk ob 10000 loose w := by
  intro os
  kernel_rfl
end K06
open PySem PySem.W PySem.Calls PyProof.Rows G
theorem PySem.Challenge.cw_planless_k06_texts_of_programs_bent_anyw_holds : PySem.Challenge.rw_planless_k06_texts_of_programs_bent_anyw.Holds := by
  w_on; o_law
  refine HandSHeadRun.head_any (r := K06.R) (q := view K06.R.prog [K06.lawAt]) (H := K06.hk) (ob := K06.ob) (M := 10000) (loose := K06.loose) (d := HandSHeadRun.topDef K06.R.prog K06.lawAt) (kwd := []) K06.ob_eq
    (by kernel_rfl) (fun s => by kernel_rfl) K06.run (by kernel_rfl) (by kernel_rfl) (by kernel_rfl) (by rfl) (by first | assumption | decide +kernel) (by decide +kernel) ⟨rfl, rfl, rfl, rfl, rfl, by decide +kernel⟩ ?hw ?hc
  case hw => w_witness2
  case hc =>
    exact walk_X (l := PySem.Challenge.rw_planless_k06_texts_of_programs_bent_anyw) (n := 63) (N0 := 11) (m := 6) (f := 24) (x := "_law_script") (T := K06.T) rfl (by decide) (by kernel_rfl) (by kernel_rfl) ⟨rfl, by decide, by decide⟩ (by rfl) K06.ans

