import PyProof.Rows.All
import Wide.All
import OpenK.AllK
import Wide.FinOn
import HandS.ForMost
import HandS.Evl
import HandS.IsInst
import HandS.TupAny
import HandS.Zip
import HandS.Walk
import HandS.Defaults
import HandS.Style
import HandS.Flow
import HandS.EndBits
import HandS.Wide
import HandS.Text
import HandS.Exc
import HandS.Iter
import HandS.Lambda
import KE.SortKeyHeap
import KE.DataCmp
import HandS.SortKw
import HandS.Deep
import HandS.DeepEq
import KE.DataEq
import HandS.Zip0
import HandS.Dict
import HandS.DictComp
import HandS.DictTup
import KE.GoesEnumKw
import KE.KEqDict
import PyProof.InstNe
import KE.RegKIsAll
import KE.GoesEnum
import KE.GoesZip
import KE.GoesMore
import PyProof.CollectIter
import PyProof.WalksMore
import KE.KTupSum
import HandS.TupMul
import HandS.Conv
import HandS.CallSlots
import HandS.ExcInit
import HandS.ExcField
import HandS.ExcIs
import HandS.WordsExc
import HandS.RaiseMore
import HandS.TryOnly
import HandS.More
import HandS.CallLocal
import HandS.MakeKwOnly
import HandS.TupSets
import HandS.SetTxt0
import HandS.Strs
import KE.KDictCopyH
import KE.KDictPairs
import KE.Datum
import KE.KDictList
import PyProof.DictValues
import PyProof.WalkInts
import PyProof.ReprRoads
import HandS.FStr
import HandS.ListItems
import KE.DataMinMax
import HandS.WordsDict
import KE.KDictItemsList
import KE.DatumIndex
import PyProof.CompUse
import HandS.SortOrd
import KE.KSortTup
import PyProof.Rows.SortKeyStr
import HandS.Hot
import HandS.HotCalls
import HandS.Comp
import KE.KTryMore
import HandS.TryMany
import HandS.ExcCtx
import KE.KExcInit
import PyProof.ExcBaseAll.LookupError
import HandS.Base
import HandS.Call
import HandS.Ends
import HandS.Head0
import HandS.Head1
import HandS.Head2
import HandS.HeadHook1
import HandS.HeadHook2
import HandS.HeadHook3
import Wide.Once
import HandS.HeadWalk
import HandS.OwnEq
import KE.RegKCallOwn
import PyProof.P3In
import PyProof.RowDictHeap
import PySem.Challenge.RW_crowdpurse_k05_rooms_and_serving
set_option Elab.async false
set_option linter.all false
set_option maxRecDepth 100000
set_option maxHeartbeats 4000000
/-! the head by one run over the heap as a tree; facts of what the names reach -/
namespace Dh
open PySem PySem.Spec PyProof.Rows L2
/-- what the module's names reach, layer by layer -/
def lay (g : Addr → Option Obj) : Nat → List Addr → List Addr
  | 0, as => as
  | n + 1, as => as ++ lay g n (as.flatMap fun a => match g a with
    | some o => He.refsD o
    | none => [])
abbrev At : Type := Str × Option Str
def inB (K : PySem.W.Frag) (a : Addr) (x : Str) (i : Int) : Bool := match PySem.W.nsIn K a x with
  | some (some (.int j _)) => decide (j = i)
  | _ => false
theorem inB_ok {K : PySem.W.Frag} {a : Addr} {x : Str} {i : Int} (h : inB K a x i = true) : ∃ t, PySem.W.nsIn K a x = some (some (.int i t)) := by
  unfold inB at h
  cases e : PySem.W.nsIn K a x with
  | none =>
    rw [e] at h
    cases h
  | some o =>
    rw [e] at h
    cases o with
    | none => cases h
    | some v =>
      cases v with
      | int j t =>
        have ej : j = i := of_decide_eq_true h
        exact ⟨t, by rw [ej]⟩
      | _ => cases h
def stB (K : PySem.W.Frag) (a : Addr) (x z : Str) : Bool := match PySem.W.nsIn K a x with
  | some (some (.str y _)) => decide (y = z)
  | _ => false
theorem stB_ok {K : PySem.W.Frag} {a : Addr} {x z : Str} (h : stB K a x z = true) : ∃ t, PySem.W.nsIn K a x = some (some (.str z t)) := by
  unfold stB at h
  cases e : PySem.W.nsIn K a x with
  | none =>
    rw [e] at h
    cases h
  | some o =>
    rw [e] at h
    cases o with
    | none => cases h
    | some v =>
      cases v with
      | str y t =>
        have ej : y = z := of_decide_eq_true h
        exact ⟨t, by rw [ej]⟩
      | _ => cases h
/-- the object, the function at a def's place -/
def oO (K : PySem.W.Frag) (p : At) : Obj := match K.lookup (He.fAd K p) with
  | some o => o
  | none => default
def fO (K : PySem.W.Frag) (p : At) : FuncData := match (oO K p).data with
  | .func fd => fd
  | _ => default
theorem l_of {K : PySem.W.Frag} {d : He.FnD} (e : He.fnObs K d.at_ = d.val) (c : (He.Fa.code d.at_ d.qual).ok K = true) :
    K.lookup (He.fAd K d.at_) = some ⟨(oO K d.at_).cls, (oO K d.at_).dict, .func (PySem.W.fnOf d.name d.qual d.params d.body d.scope .none (fO K d.at_).kwdefaults (fO K d.at_).doc (fO K d.at_).pyModule (fO K d.at_).annotations (fO K d.at_).code (fO K d.at_).closureTuple), (oO K d.at_).slots⟩ ∧ PySem.W.codeIn K (fO K d.at_).code d.qual = true := by
  obtain ⟨oc, od, osl, kV, doc, pm, an, cdv, ct, l, c2⟩ := He.fn_ok e c
  have eo : oO K d.at_ = ⟨oc, od, .func (PySem.W.fnOf d.name d.qual d.params d.body d.scope .none kV doc pm an cdv ct), osl⟩ := by
    unfold oO
    rw [l]
  have ef : fO K d.at_ = PySem.W.fnOf d.name d.qual d.params d.body d.scope .none kV doc pm an cdv ct := by
    unfold fO
    rw [eo]
  rw [eo, ef]
  exact ⟨l, c2⟩
def tkO (K : PySem.W.Frag) (a : Addr) (x : Str) : Tok := match PySem.W.nsIn K a x with
  | some (some (.int _ t)) => t
  | some (some (.str _ t)) => t
  | _ => default
theorem in_of {K : PySem.W.Frag} {a : Addr} {x : Str} {i : Int} (h : inB K a x i = true) : PySem.W.nsIn K a x = some (some (.int i (tkO K a x))) := by
  obtain ⟨t, e⟩ := inB_ok h
  have ev : tkO K a x = t := by
    unfold tkO
    rw [e]
  rw [ev]
  exact e
theorem st_of {K : PySem.W.Frag} {a : Addr} {x z : Str} (h : stB K a x z = true) : PySem.W.nsIn K a x = some (some (.str z (tkO K a x))) := by
  obtain ⟨t, e⟩ := stB_ok h
  have ev : tkO K a x = t := by
    unfold tkO
    rw [e]
  rw [ev]
  exact e
/-! a def with a tuple () behind its only = -/
def fnObN (K : PySem.W.Frag) (p : At) : He.FnV := match K.lookup (He.fAd K p) with
  | some ⟨_, _, .func fd, _⟩ => some (fd.name, fd.qualname, fd.params, fd.body, fd.scope, fd.globals, fd.closure, .none, fd.builtins)
  | _ => none
def refOf : Value → Addr
  | .ref a => a
  | _ => 0
def objAt (K : PySem.W.Frag) (a : Addr) : Obj := match K.lookup a with
  | some o => o
  | none => default
def isRef : Value → Bool
  | .ref _ => true
  | _ => false
theorem look_obj {K : PySem.W.Frag} {a : Addr} (h : (K.lookup a).isSome = true) : K.lookup a = some ⟨(objAt K a).cls, (objAt K a).dict, (objAt K a).data, (objAt K a).slots⟩ := by
  unfold objAt
  cases e : K.lookup a with
  | none => rw [e] at h; cases h
  | some o => rfl
/-! ### the Hook: some parts, each observed by a run of its own -/
structure Pt where
  fb : PySem.W.Frag → Bool
  fn : List He.FnD
  ts : List (Str × List Str)
  fd : List He.FnD := []
abbrev AlM : Type := Bool × List He.FnV × List (Option (List (Option (Str × Int)))) × List He.FnV
def Pt.obs (p : Pt) (K : PySem.W.Frag) : AlM := (p.fb K, p.fn.map fun d => He.fnObs K d.at_, p.ts.map fun t => He.dicW K (He.ga K t.1), p.fd.map fun d => fnObN K d.at_)
def Pt.val (p : Pt) (w : World) : AlM := (true, p.fn.map He.FnD.val, p.ts.map fun t => some (He.keysIn w.params t.2), p.fd.map He.FnD.val)
def Pt.obsG (p : Pt) (g : Addr → Option Obj) : AlM := p.obs (He.frG g (lay g 5 [mainGlobals]))
def Says (ps : List Pt) (w : World) (K : PySem.W.Frag) : Prop := ps.map (fun p => p.obs K) = ps.map fun p => p.val w
def ob (ps : List Pt) (s : PySem.W.SharedT) : List AlM := ps.map fun p => p.obsG (HandSHeadRun.getT s)
theorem Says.pt {ps : List Pt} {w : World} {K : PySem.W.Frag} (c : Says ps w K) (i : Nat) {p : Pt} (h : ps[i]? = some p := by rfl) : p.obs K = p.val w := by
  have e2 : (ps.map fun p => p.obs K)[i]? = (ps.map fun p => p.val w)[i]? := by rw [show (ps.map fun p => p.obs K) = _ from c]
  rw [List.getElem?_map, List.getElem?_map, h] at e2
  exact Option.some.inj e2
section
variable {p : Pt} {w : World} {K : PySem.W.Frag}
theorem facts_of (c : p.obs K = p.val w) : p.fb K = true := congrArg (fun z : AlM => z.1) c
theorem at_of (c : p.obs K = p.val w) (i : Nat) {d : He.FnD} (h : p.fn[i]? = some d := by rfl) : He.fnObs K d.at_ = d.val := by
  have e : p.fn.map (fun d => He.fnObs K d.at_) = p.fn.map He.FnD.val := congrArg (fun z : AlM => z.2.1) c
  have e2 : (p.fn.map fun d => He.fnObs K d.at_)[i]? = (p.fn.map He.FnD.val)[i]? := by rw [e]
  rw [List.getElem?_map, List.getElem?_map, h] at e2
  exact Option.some.inj e2
end
/-! ### the run, part by part -/
noncomputable abbrev ends (r : PySem.W.OpenRow) (M : Nat) (w : World) (os : OsState) : Option PySem.W.SharedT := HandSHeadRun.endF (HandSHeadRun.stepQ (HandSHeadRun.denQ HandSHeadRun.tabQ) r.prog w) M r.prog w os
theorem join {σ α β γ : Type} {o : Option σ} {f : σ → α} {g : σ → β} {u : σ → Unit} {k : σ → γ} {a : α} {b : β} {c : γ} (h1 : o.map (fun s => (f s, g s, u s)) = some (a, b, ())) (h2 : o.map k = some c) : o.map (fun s => (f s, g s, k s)) = some (a, b, c) := by
  cases o with
  | none => cases h1
  | some s =>
    have e1 : (f s, g s, u s) = (a, b, ()) := Option.some.inj h1
    have e2 : k s = c := Option.some.inj h2
    injection e1 with x1 x2
    injection x2 with x3 x4
    show some (f s, g s, k s) = some (a, b, c)
    rw [x1, x3, e2]
theorem parts {σ : Type} {o : Option σ} {w : World} {x : σ → PySem.W.SharedT} : ∀ {ps : List Pt}, o.isSome = true → (∀ p ∈ ps, o.map (fun s => p.obsG (HandSHeadRun.getT (x s))) = some (p.val w)) → o.map (fun s => ob ps (x s)) = some (ps.map fun p => p.val w) := by
  intro ps ho h
  cases o with
  | none => cases ho
  | some s =>
    show some (ps.map fun p => p.obsG (HandSHeadRun.getT (x s))) = some (ps.map fun p => p.val w)
    exact congrArg some (List.map_congr_left fun p hp => Option.some.inj (h p hp))
end Dh
/-! DnHeadT: the head of a law with lambdas: the written part without the empty tables of code objects; the tables told apart -/
namespace Dh
open PySem PySem.Spec PyProof.Rows L2
def isNo : Value → Bool
  | .none => true
  | _ => false
def noTab (o : Obj) : Bool := match o.data with
  | .fields us => decide (us.size ≠ 0)
  | _ => true
/-- an empty table -/
def emTab (o : Obj) : Bool := isNo o.cls && (o.dict.isNone && (decide (o.slots.size = 0) && match o.data with
  | .fields us => decide (us.size = 0)
  | _ => false))
theorem emTab_ok {o : Obj} (h : emTab o = true) : o = { cls := .none, data := .fields #[] } := by
  obtain ⟨c, d, dt, sl⟩ := o
  unfold emTab at h
  simp only [Bool.and_eq_true] at h
  obtain ⟨h1, h2, h3, h4⟩ := h
  cases dt with
  | fields us =>
    have e1 : c = .none := by cases c <;> first | rfl | cases h1
    have e2 : d = none := by cases d <;> first | rfl | cases h2
    have e3 : sl = #[] := Array.size_eq_zero_iff.mp (of_decide_eq_true h3)
    have e4 : us = #[] := Array.size_eq_zero_iff.mp (of_decide_eq_true h4)
    rw [e1, e2, e3, e4]
  | _ => cases h4
def isStr : Value → Bool
  | .str _ _ => true
  | _ => false
def isInt : Value → Bool
  | .int _ _ => true
  | _ => false
def isBool : Value → Bool
  | .bool _ => true
  | _ => false
def refO : Option Value → Option Addr
  | some (.ref a) => some a
  | _ => none
def fieldsO : Data → Array Value
  | .fields us => us
  | _ => #[]
def isFld : Data → Bool
  | .fields _ => true
  | _ => false
def isCodeT : Value → Bool
  | .type x => decide (x = "code")
  | _ => false
/-- the def's code object; its table -/
def cdA (K : PySem.W.Frag) (x : Str) : Addr := refOf (fO K (x, none)).code
def tbA (K : PySem.W.Frag) (x : Str) : Addr := refOf (((fieldsO (objAt K (cdA K x)).data)[11]?).getD .none)
def tabIs (K K0 : PySem.W.Frag) (x : Str) : Bool := isRef (fO K (x, none)).code && ((K.lookup (cdA K x)).isSome && (isCodeT (objAt K (cdA K x)).cls && (isFld (objAt K (cdA K x)).data && (isRef (((fieldsO (objAt K (cdA K x)).data)[11]?).getD .none) && (isStr ((fieldsO (objAt K (cdA K x)).data).getD 18 .none) &&
  (isInt ((fieldsO (objAt K (cdA K x)).data).getD 7 .none) && (isBool ((fieldsO (objAt K (cdA K x)).data).getD 9 .none) && (isInt ((fieldsO (objAt K (cdA K x)).data).getD 10 .none) && (decide (cdA K x ≠ tbA K x) && ((K.lookup (tbA K x)).isNone && ((K0.lookup (tbA K x)).isSome && emTab (objAt K0 (tbA K x)))))))))))))
theorem ref_of {v : Value} (h : isRef v = true) : v = .ref (refOf v) := by cases v <;> first | rfl | cases h
theorem getD_of {us : Array Value} {i : Nat} {v : Value} (h : isRef ((us[i]?).getD v) = true) (hv : isRef v = false) : us[i]? = some (.ref (refOf ((us[i]?).getD v))) := by
  cases e : us[i]? with
  | none => rw [e] at h; rw [show (none : Option Value).getD v = v from rfl, hv] at h; cases h
  | some u => rw [e] at h; rw [show (some u).getD v = u from rfl] at h ⊢; rw [← ref_of h]
structure TabOk (K K0 : PySem.W.Frag) (x : Str) (c P : Addr) : Prop where
  code : (fO K (x, none)).code = .ref c
  hd : ∀ h : Heap, K.In h → PySem.W.CodeHd h c P
  no : K.lookup P = none
  em : K0.lookup P = some { cls := .none, data := .fields #[] }
  at_ : ∃ (oc : Obj) (us : Array Value), K.lookup c = some oc ∧ oc.data = .fields us ∧ us[11]? = some (.ref P)
theorem tab_ok {K K0 : PySem.W.Frag} {x : Str} (h : tabIs K K0 x = true) : TabOk K K0 x (cdA K x) (tbA K x) := by
  unfold tabIs at h
  simp only [Bool.and_eq_true] at h
  obtain ⟨h1, h2, h3, h4, h5, h6, h7, h8, h9, h10, h11, h12, h13⟩ := h
  have eo := look_obj h2
  have ef : ∃ us, (objAt K (cdA K x)).data = .fields us := by
    generalize (objAt K (cdA K x)).data = d at h4
    cases d with
    | fields us => exact ⟨us, rfl⟩
    | _ => cases h4
  obtain ⟨us, ef⟩ := ef
  have ec : (objAt K (cdA K x)).cls = .type "code" := by
    generalize (objAt K (cdA K x)).cls = v at h3
    cases v with
    | type n => rw [of_decide_eq_true (show decide (n = "code") = true from h3)]
    | _ => cases h3
  have eu : fieldsO (objAt K (cdA K x)).data = us := by rw [ef]; rfl
  rw [eu] at h5 h6 h7 h8 h9
  have e11 : us[11]? = some (.ref (tbA K x)) := by
    have z := getD_of h5 rfl
    rw [z]
    unfold tbA
    rw [eu, z]
  refine ⟨ref_of h1, fun hp hK => ?_, by simpa using h11, ?_, ⟨_, us, eo, ef, e11⟩⟩
  · obtain ⟨fl, tf, e18⟩ : ∃ a b, us.getD 18 .none = .str a b := by
      generalize us.getD 18 .none = v at h6
      cases v with
      | str a b => exact ⟨a, b, rfl⟩
      | _ => cases h6
    obtain ⟨i7, t7, e7⟩ : ∃ a b, us.getD 7 .none = .int a b := by
      generalize us.getD 7 .none = v at h7
      cases v with
      | int a b => exact ⟨a, b, rfl⟩
      | _ => cases h7
    obtain ⟨b9, e9⟩ : ∃ a, us.getD 9 .none = .bool a := by
      generalize us.getD 9 .none = v at h8
      cases v with
      | bool a => exact ⟨a, rfl⟩
      | _ => cases h8
    obtain ⟨i10, t10, e10⟩ : ∃ a b, us.getD 10 .none = .int a b := by
      generalize us.getD 10 .none = v at h9
      cases v with
      | int a b => exact ⟨a, b, rfl⟩
      | _ => cases h9
    refine ⟨_, us, fl, tf, i7, t7, b9, i10, t10, hK _ _ eo, ec, ef, e11, ?_, e18, e7, e9, e10, of_decide_eq_true h10⟩
    have hs := (Array.getElem?_eq_some_iff.mp e11)
    obtain ⟨hlt, hv⟩ := hs
    simp [Array.getD, hlt, hv]
  · have z := look_obj h12
    rw [show (⟨(objAt K0 (tbA K x)).cls, (objAt K0 (tbA K x)).dict, (objAt K0 (tbA K x)).data, (objAt K0 (tbA K x)).slots⟩ : Obj) = objAt K0 (tbA K x) from rfl, emTab_ok h13] at z
    exact z
/-! ### the Hook -/
structure PtT where
  pt : Pt
  tb : List Str
abbrev AlT : Type := AlM × List Bool
def layN (g : Addr → Option Obj) : List Addr := (lay g 5 [mainGlobals]).filter fun a => match g a with
  | some o => noTab o
  | none => true
def PtT.obs (p : PtT) (K K0 : PySem.W.Frag) : AlT := (p.pt.obs K, p.tb.map (tabIs K K0))
def PtT.val (p : PtT) (w : World) : AlT := (p.pt.val w, p.tb.map fun _ => true)
def PtT.obsG (p : PtT) (g : Addr → Option Obj) : AlT := p.obs (He.frG g (layN g)) (He.frG g (lay g 5 [mainGlobals]))
def SaysT (ps : List PtT) (w : World) (K K0 : PySem.W.Frag) : Prop := ps.map (fun p => p.obs K K0) = ps.map fun p => p.val w
def hookT (ps : List PtT) : PySem.W.Hook where
  α := List AlT
  obs := fun s => ps.map fun p => p.obsG s.heap.get?
  val := fun w => ps.map fun p => p.val w
  says := fun w h => ∃ K K0 : PySem.W.Frag, K.In h ∧ K0.In h ∧ SaysT ps w K K0
  of := fun w s e => ⟨He.frG s.heap.get? (layN s.heap.get?), He.frG s.heap.get? (lay s.heap.get? 5 [mainGlobals]), He.frG_in, He.frG_in, (show ps.map (fun p => p.obsG s.heap.get?) = ps.map (fun p => p.val w) from e)⟩
  keeps := fun _ _ _ ⟨K, K0, hK, hK0, c⟩ k => ⟨K, K0, PySem.W.Frag.In.keeps hK k, PySem.W.Frag.In.keeps hK0 k, c⟩
def obT (ps : List PtT) (s : PySem.W.SharedT) : List AlT := ps.map fun p => p.obsG (HandSHeadRun.getT s)
theorem obT_eq (ps : List PtT) (s : PySem.W.SharedT) : obT ps s = (hookT ps).obs s.abs := by
  have e : HandSHeadRun.getT s = s.abs.heap.get? := funext (HandSHeadRun.getT_eq s)
  unfold obT
  rw [e] <;> rfl
theorem SaysT.pt {ps : List PtT} {w : World} {K K0 : PySem.W.Frag} (c : SaysT ps w K K0) (i : Nat) {p : PtT} (h : ps[i]? = some p := by rfl) : p.pt.obs K = p.pt.val w ∧ p.tb.map (tabIs K K0) = p.tb.map fun _ => true := by
  have e2 : (ps.map fun p => p.obs K K0)[i]? = (ps.map fun p => p.val w)[i]? := by rw [show (ps.map fun p => p.obs K K0) = _ from c]
  rw [List.getElem?_map, List.getElem?_map, h] at e2
  have e3 : p.obs K K0 = p.val w := Option.some.inj e2
  exact ⟨congrArg (·.1) e3, congrArg (·.2) e3⟩
theorem tabs_of {tb : List Str} {K K0 : PySem.W.Frag} (h : tb.map (tabIs K K0) = tb.map fun _ => true) : ∀ x ∈ tb, TabOk K K0 x (cdA K x) (tbA K x) := fun x hx => by
  obtain ⟨i, hi⟩ := List.getElem?_of_mem hx
  have e2 : (tb.map (tabIs K K0))[i]? = (tb.map fun _ => true)[i]? := by rw [h]
  rw [List.getElem?_map, List.getElem?_map, hi] at e2
  exact tab_ok (Option.some.inj e2)
def PtTRun (r : PySem.W.OpenRow) (M : Nat) (p : PtT) (w : World) : Prop := ∀ os : OsState, (ends r M w os).map (fun s => p.obsG (HandSHeadRun.getT s)) = some (p.val w)
theorem partsT {σ : Type} {o : Option σ} {w : World} {x : σ → PySem.W.SharedT} : ∀ {ps : List PtT}, o.isSome = true → (∀ p ∈ ps, o.map (fun s => p.obsG (HandSHeadRun.getT (x s))) = some (p.val w)) → o.map (fun s => obT ps (x s)) = some (ps.map fun p => p.val w) := by
  intro ps ho h
  cases o with
  | none => cases ho
  | some s =>
    show some (ps.map fun p => p.obsG (HandSHeadRun.getT (x s))) = some (ps.map fun p => p.val w)
    exact congrArg some (List.map_congr_left fun p hp => Option.some.inj (h p hp))
theorem run_ofT {r : PySem.W.OpenRow} {q : Program} {M : Nat} {loose : List Str} {w : World} {ps : List PtT} (h0 : HandSHeadRun.RunEq r q PySem.W.Hook.none (fun _ => ()) M loose w) (h : ∀ p ∈ ps, PtTRun r M p w) : HandSHeadRun.RunEq r q (hookT ps) (obT ps) M loose w := by
  intro os
  refine join (h0 os) (partsT (x := fun s => s) ?_ fun p hp => h p hp os)
  cases e : ends r M w os with
  | none =>
    have z := h0 os
    rw [show HandSHeadRun.endF (HandSHeadRun.stepQ (HandSHeadRun.denQ HandSHeadRun.tabQ) r.prog w) M r.prog w os = none from e] at z
    cases z
  | some s => exact congrArg Option.isSome e
end Dh
namespace Dn
open PySem PySem.Spec PyProof.Rows L2 Evl
def ownN : List Str := ["NoSet", "NoBook", "NoHouse", "NoDesk", "Down", "Up", "NoName", "NoCount", "NoRoom", "NoKind", "TooMany", "Taken", "NoGuest", "Waits", "Bound", "NoKey", "Needed", "NoLetter", "NoDeed", "NoText", "NoRow"]
def basN : List (Str × String) := [("KeyError", "KeyError"), ("ValueError", "ValueError"), ("RuntimeError", "RuntimeError"), ("LookupError", "LookupError"), ("OverflowError", "OverflowError"), ("IndexError", "IndexError"), ("ArithmeticError", "ArithmeticError"), ("TypeError", "TypeError")]
def tbW (x : Str) (bs : List Str) : Str → Bool := fun c => c == x || bs.contains c
end Dn
namespace Dn
open PySem PySem.Spec PyProof.Rows L2 Evl
def clN : List (List Str) := [["NoDesk", "NoSet"], ["NoName", "NoRoom", "NoKind"], ["Down", "Up"], ["Taken", "NoGuest", "Waits", "Bound"], ["NoDeed", "NoBook", "NoText"], ["NoHouse"], ["NoCount"], ["NoKey"], ["Needed"], ["NoLetter"], ["TooMany", "NoRow"]]
def mtOf (K : PySem.W.Frag) : List Value → Value → Option Bool
  | [c] => fun cls => PySem.W.exmOne K cls c
  | cs => fun cls => PySem.W.exmAny K cls cs
end Dn
namespace Dn
open PySem PySem.Spec PyProof.Rows L2 Evl
def exoB (K : PySem.W.Frag) (C : Addr) (newId : String) (bmB : List Value) : Bool := match K.lookup C with
  | some ⟨.type t, _, .cls ⟨_, _, .ref C' :: bm, _, _, true, _, _, _, _, false⟩, sl⟩ => decide (t = "type") && (decide (C' = C) && ((bm == bmB) && match sl.toList with
    | [_, _, _, _, some (.builtin n), _] => decide (n = newId)
    | _ => false))
  | _ => false
def oexB (K : PySem.W.Frag) (C : Addr) (newId : String) (bmB : List Value) : Bool := exoB K C newId bmB && (He.eqO (PySem.W.findIn K (.ref C) "__setattr__") (some (some (.builtin "object.__setattr__"))) && (decide (PySem.W.subIn K (.ref C) (.type "BaseException") = some true) && (decide (PySem.W.typeIn K (.ref C) = some (.type "type")) && PySem.W.keepIn K (.ref C))))
def isRefV : Option (Option Value) → Bool
  | some (some (.ref _)) => true
  | _ => false
def kcOf (K : PySem.W.Frag) (n : Str) : Value := match PySem.W.nsIn K mainGlobals n with
  | some (some v) => v
  | _ => .none
def ownB (K : PySem.W.Frag) : Bool := ownN.all (fun n => isRefV (PySem.W.nsIn K mainGlobals n)) && basN.all fun b => He.eqO (PySem.W.nsIn K mainGlobals b.1) (some none)
def fldB (K : PySem.W.Frag) (C : Addr) : Option Str → Bool
  | some y => He.eqO (PySem.W.findIn K (.ref C) y) (some none)
  | none => true
def excB (K : PySem.W.Frag) (C : Addr) : Bool := He.eqO (PySem.W.findIn K (.ref C) "__getattribute__") (some (some (.builtin "BaseException.__getattribute__"))) && (He.eqO (PySem.W.findIn K (.ref C) "__getattr__") (some none) && (decide (PySem.W.subIn K (.ref C) (.type "BaseException") = some true) && (PySem.W.hasDictIn K C && (He.eqO (PySem.W.findIn K (.ref C) "__class__") (some (some (.builtin "object.__class__"))) &&
  (He.eqO (PySem.W.specialIn K (.builtin "object.__class__") "__get__") (some (some (.builtin "getset_descriptor.__get__"))) && (decide (PySem.W.takesIn K (.builtin "object.__class__") = some true) && decide (PySem.W.mroIn K C (.type "object") = some true)))))))
def rfB (K : PySem.W.Frag) (C : Addr) (x : Str) (bs : List Str) (j : Nat) (fl : Option Str) : Bool := excB K C && (fldB K C fl && (ownN.all (fun n => decide (PySem.W.kitOne K (.ref C) (kcOf K n) = some (tbW x bs n))) && (basN.all (fun b => decide (PySem.W.kitOne K (.ref C) (.type b.2) = some (tbW x bs b.1))) &&
  clN.zipIdx.all fun p => decide (j < p.2) || decide (mtOf K (p.1.map (kcOf K)) (.ref C) = some (decide (p.2 = j))))))
def vvB (K : PySem.W.Frag) (B ini : String) : Bool := match PySem.W.findCls K (.type B) (.type "type") "__init__" with
  | some (.val v) => decide (v = .builtin ini)
  | _ => false
def ndB (K : PySem.W.Frag) (tb : List Str) : Bool := decide ((tb.map (Dh.tbA K)).Nodup)
end Dn
namespace Law
namespace Hd
open PySem PyProof.Rows L2
abbrev R : PySem.W.OpenRow := PySem.W.OpenLaw.row PySem.Challenge.rw_crowdpurse_k05_rooms_and_serving
abbrev qv : Program := PySem.W.view R.prog [55]
def top (i : Nat) : Stmt := PySem.Challenge.pw_crowdpurse_k05_rooms_and_serving.main.body.getD i (.Pass ⟨0, 0, 0, 0⟩)
def names0 : List PySem.Str := ["NoSet", "NoBook", "NoHouse", "NoDesk", "Down", "Up", "NoName", "NoCount", "NoRoom", "NoKind", "TooMany", "Taken", "NoGuest", "Waits", "Bound", "NoKey"]
def names1 : List PySem.Str := ["Needed", "NoLetter", "NoDeed", "NoText", "NoRow", "SIGNS", "MOST_SIGNS", "is_name", "is_rising", "is_set", "MOST_ROOMS", "is_room", "are_rooms", "takes_of_room", "is_met", "serves"]
def names2 : List PySem.Str := ["_law_bag", "_law_take", "_law_names", "_law_sets", "_law_rooms", "_law_share", "_law_kinds", "_law_which", "_law_refusal", "_law_is_name", "_law_odd", "_law_text_bent", "_law_row_bent", "_law_rises", "_law_is_set", "_law_truths"]
def names3 : List PySem.Str := ["_law_is_room", "_law_are_rooms", "_law_bent"]
def names : List PySem.Str := names0 ++ names1 ++ names2 ++ names3
def d_law_take : He.FnD := ⟨("_law_take", none), "_law_take", "_law_take", defArgs (top 37), defBody (top 37), defScope (top 37)⟩
def d_law_odd : He.FnD := ⟨("_law_odd", none), "_law_odd", "_law_odd", defArgs (top 46), defBody (top 46), defScope (top 46)⟩
def d_law_text_bent : He.FnD := ⟨("_law_text_bent", none), "_law_text_bent", "_law_text_bent", defArgs (top 47), defBody (top 47), defScope (top 47)⟩
def d_takes_of_room : He.FnD := ⟨("takes_of_room", none), "takes_of_room", "takes_of_room", defArgs (top 32), defBody (top 32), defScope (top 32)⟩
def d_is_met : He.FnD := ⟨("is_met", none), "is_met", "is_met", defArgs (top 33), defBody (top 33), defScope (top 33)⟩
def d_serves : He.FnD := ⟨("serves", none), "serves", "serves", defArgs (top 34), defBody (top 34), defScope (top 34)⟩
def d_law_share : He.FnD := ⟨("_law_share", none), "_law_share", "_law_share", defArgs (top 41), defBody (top 41), defScope (top 41)⟩
def d_law_truths : He.FnD := ⟨("_law_truths", none), "_law_truths", "_law_truths", defArgs (top 51), defBody (top 51), defScope (top 51)⟩
def d_law_row_bent : He.FnD := ⟨("_law_row_bent", none), "_law_row_bent", "_law_row_bent", defArgs (top 48), defBody (top 48), defScope (top 48)⟩
def d_law_bent : He.FnD := ⟨("_law_bent", none), "_law_bent", "_law_bent", defArgs (top 54), defBody (top 54), defScope (top 54)⟩
def d_law_rises : He.FnD := ⟨("_law_rises", none), "_law_rises", "_law_rises", defArgs (top 49), defBody (top 49), defScope (top 49)⟩
def d_law_is_name : He.FnD := ⟨("_law_is_name", none), "_law_is_name", "_law_is_name", defArgs (top 45), defBody (top 45), defScope (top 45)⟩
def d_law_sets : He.FnD := ⟨("_law_sets", none), "_law_sets", "_law_sets", defArgs (top 39), defBody (top 39), defScope (top 39)⟩
def d_law_is_set : He.FnD := ⟨("_law_is_set", none), "_law_is_set", "_law_is_set", defArgs (top 50), defBody (top 50), defScope (top 50)⟩
def d_law_is_room : He.FnD := ⟨("_law_is_room", none), "_law_is_room", "_law_is_room", defArgs (top 52), defBody (top 52), defScope (top 52)⟩
def d_law_are_rooms : He.FnD := ⟨("_law_are_rooms", none), "_law_are_rooms", "_law_are_rooms", defArgs (top 53), defBody (top 53), defScope (top 53)⟩
def d_is_name : He.FnD := ⟨("is_name", none), "is_name", "is_name", defArgs (top 25), defBody (top 25), defScope (top 25)⟩
def d_is_rising : He.FnD := ⟨("is_rising", none), "is_rising", "is_rising", defArgs (top 26), defBody (top 26), defScope (top 26)⟩
def d_is_set : He.FnD := ⟨("is_set", none), "is_set", "is_set", defArgs (top 27), defBody (top 27), defScope (top 27)⟩
def d_is_room : He.FnD := ⟨("is_room", none), "is_room", "is_room", defArgs (top 30), defBody (top 30), defScope (top 30)⟩
def d_are_rooms : He.FnD := ⟨("are_rooms", none), "are_rooms", "are_rooms", defArgs (top 31), defBody (top 31), defScope (top 31)⟩
def d_law_names : He.FnD := ⟨("_law_names", none), "_law_names", "_law_names", defArgs (top 38), defBody (top 38), defScope (top 38)⟩
def d_law_rooms : He.FnD := ⟨("_law_rooms", none), "_law_rooms", "_law_rooms", defArgs (top 40), defBody (top 40), defScope (top 40)⟩
def d_law_kinds : He.FnD := ⟨("_law_kinds", none), "_law_kinds", "_law_kinds", defArgs (top 42), defBody (top 42), defScope (top 42)⟩
def d_law_bag : He.FnD := ⟨("_law_bag", none), "_law_bag", "_law_bag", defArgs (top 36), defBody (top 36), defScope (top 36)⟩
def d_law : He.FnD := ⟨("law", none), "law", "law", defArgs (top 55), defBody (top 55), defScope (top 55)⟩
def d_law_which : He.FnD := ⟨("_law_which", none), "_law_which", "_law_which", defArgs (top 43), defBody (top 43), defScope (top 43)⟩
def d_law_refusal : He.FnD := ⟨("_law_refusal", none), "_law_refusal", "_law_refusal", defArgs (top 44), defBody (top 44), defScope (top 44)⟩
def d_NoRoom_init : He.FnD := ⟨("NoRoom", some "__init__"), "__init__", "NoRoom.__init__", defArgs (inClass (top 9) 0), defBody (inClass (top 9) 0), defScope (inClass (top 9) 0)⟩
def fb0_0 (K : PySem.W.Frag) : Bool := He.eqO (PySem.W.nsIn K mainGlobals "_law_take") (some (some (.ref (He.ga K "_law_take")))) && (PySem.W.keepIn K (.ref (He.ga K "_law_take")) && (He.eqO (PySem.W.nsIn K mainGlobals "_law_odd") (some (some (.ref (He.ga K "_law_odd")))) && (PySem.W.keepIn K (.ref (He.ga K "_law_odd")) && (He.eqO (PySem.W.nsIn K mainGlobals "_law_text_bent") (some (some (.ref (He.ga K "_law_text_bent")))) && (PySem.W.keepIn K (.ref (He.ga K "_law_text_bent")) && (He.eqO (PySem.W.nsIn K mainGlobals "takes_of_room") (some (some (.ref (He.ga K "takes_of_room")))) && (PySem.W.keepIn K (.ref (He.ga K "takes_of_room")) && (He.eqO (PySem.W.nsIn K mainGlobals "is_met") (some (some (.ref (He.ga K "is_met")))) && (PySem.W.keepIn K (.ref (He.ga K "is_met")) && (He.eqO (PySem.W.nsIn K mainGlobals "serves") (some (some (.ref (He.ga K "serves")))) && (PySem.W.keepIn K (.ref (He.ga K "serves")))))))))))))
def fb0_1 (K : PySem.W.Frag) : Bool := He.eqO (PySem.W.nsIn K mainGlobals "_law_share") (some (some (.ref (He.ga K "_law_share")))) && (PySem.W.keepIn K (.ref (He.ga K "_law_share")) && (He.eqO (PySem.W.nsIn K mainGlobals "_law_truths") (some (some (.ref (He.ga K "_law_truths")))) && (PySem.W.keepIn K (.ref (He.ga K "_law_truths")) && (He.eqO (PySem.W.nsIn K mainGlobals "_law_row_bent") (some (some (.ref (He.ga K "_law_row_bent")))) && (PySem.W.keepIn K (.ref (He.ga K "_law_row_bent")) && (He.eqO (PySem.W.nsIn K mainGlobals "_law_bent") (some (some (.ref (He.ga K "_law_bent")))) && (PySem.W.keepIn K (.ref (He.ga K "_law_bent")) && (He.eqO (PySem.W.nsIn K mainGlobals "_law_rises") (some (some (.ref (He.ga K "_law_rises")))) && (PySem.W.keepIn K (.ref (He.ga K "_law_rises")) && (He.eqO (PySem.W.nsIn K mainGlobals "_law_is_name") (some (some (.ref (He.ga K "_law_is_name")))) && (PySem.W.keepIn K (.ref (He.ga K "_law_is_name")))))))))))))
def fb0_2 (K : PySem.W.Frag) : Bool := He.eqO (PySem.W.nsIn K mainGlobals "_law_sets") (some (some (.ref (He.ga K "_law_sets")))) && (PySem.W.keepIn K (.ref (He.ga K "_law_sets")) && (He.eqO (PySem.W.nsIn K mainGlobals "_law_is_set") (some (some (.ref (He.ga K "_law_is_set")))) && (PySem.W.keepIn K (.ref (He.ga K "_law_is_set")) && (He.eqO (PySem.W.nsIn K mainGlobals "_law_is_room") (some (some (.ref (He.ga K "_law_is_room")))) && (PySem.W.keepIn K (.ref (He.ga K "_law_is_room")) && (He.eqO (PySem.W.nsIn K mainGlobals "_law_are_rooms") (some (some (.ref (He.ga K "_law_are_rooms")))) && (PySem.W.keepIn K (.ref (He.ga K "_law_are_rooms")) && (He.eqO (PySem.W.nsIn K mainGlobals "is_name") (some (some (.ref (He.ga K "is_name")))) && (PySem.W.keepIn K (.ref (He.ga K "is_name")) && (He.eqO (PySem.W.nsIn K mainGlobals "is_rising") (some (some (.ref (He.ga K "is_rising")))) && (PySem.W.keepIn K (.ref (He.ga K "is_rising")))))))))))))
def fb0_3 (K : PySem.W.Frag) : Bool := He.eqO (PySem.W.nsIn K mainGlobals "is_set") (some (some (.ref (He.ga K "is_set")))) && (PySem.W.keepIn K (.ref (He.ga K "is_set")) && (He.eqO (PySem.W.nsIn K mainGlobals "is_room") (some (some (.ref (He.ga K "is_room")))) && (PySem.W.keepIn K (.ref (He.ga K "is_room")) && (He.eqO (PySem.W.nsIn K mainGlobals "are_rooms") (some (some (.ref (He.ga K "are_rooms")))) && (PySem.W.keepIn K (.ref (He.ga K "are_rooms")) && (He.eqO (PySem.W.nsIn K mainGlobals "_law_names") (some (some (.ref (He.ga K "_law_names")))) && (PySem.W.keepIn K (.ref (He.ga K "_law_names")) && ((He.Fa.code (("_law_take", none) : Dh.At) "_law_take").ok K && ((He.Fa.code (("_law_odd", none) : Dh.At) "_law_odd").ok K && ((He.Fa.code (("_law_text_bent", none) : Dh.At) "_law_text_bent").ok K && ((He.Fa.code (("takes_of_room", none) : Dh.At) "takes_of_room").ok K)))))))))))
def fb0_4 (K : PySem.W.Frag) : Bool := (He.Fa.code (("is_met", none) : Dh.At) "is_met").ok K && ((He.Fa.code (("serves", none) : Dh.At) "serves").ok K && ((He.Fa.code (("_law_share", none) : Dh.At) "_law_share").ok K && ((He.Fa.code (("_law_truths", none) : Dh.At) "_law_truths").ok K && ((He.Fa.code (("_law_row_bent", none) : Dh.At) "_law_row_bent").ok K && ((He.Fa.code (("_law_bent", none) : Dh.At) "_law_bent").ok K && ((He.Fa.code (("_law_rises", none) : Dh.At) "_law_rises").ok K && ((He.Fa.code (("_law_is_name", none) : Dh.At) "_law_is_name").ok K && ((He.Fa.code (("_law_sets", none) : Dh.At) "_law_sets").ok K && ((He.Fa.code (("_law_is_set", none) : Dh.At) "_law_is_set").ok K && ((He.Fa.code (("_law_is_room", none) : Dh.At) "_law_is_room").ok K))))))))))
def fb0 (K : PySem.W.Frag) : Bool := fb0_0 K && (fb0_1 K && (fb0_2 K && (fb0_3 K && (fb0_4 K))))
def fn0_0 : List He.FnD := [d_law_take, d_law_odd, d_law_text_bent, d_takes_of_room, d_is_met, d_serves, d_law_share, d_law_truths, d_law_row_bent, d_law_bent, d_law_rises, d_law_is_name]
def fn0_1 : List He.FnD := [d_law_sets, d_law_is_set, d_law_is_room]
def fn0 : List He.FnD := fn0_0 ++ (fn0_1)
def ts0 : List (Str × List Str) := []
def fd0 : List He.FnD := []
def pt0 : Dh.PtT := ⟨⟨fb0, fn0, ts0, fd0⟩, []⟩
def fb1_0 (K : PySem.W.Frag) : Bool := He.eqO (PySem.W.nsIn K mainGlobals "_law_rooms") (some (some (.ref (He.ga K "_law_rooms")))) && (PySem.W.keepIn K (.ref (He.ga K "_law_rooms")) && (He.eqO (PySem.W.nsIn K mainGlobals "_law_kinds") (some (some (.ref (He.ga K "_law_kinds")))) && (PySem.W.keepIn K (.ref (He.ga K "_law_kinds")) && (He.eqO (PySem.W.nsIn K mainGlobals "_law_bag") (some (some (.ref (He.ga K "_law_bag")))) && (PySem.W.keepIn K (.ref (He.ga K "_law_bag")) && (He.eqO (PySem.W.nsIn K mainGlobals "law") (some (some (.ref (He.ga K "law")))) && (PySem.W.keepIn K (.ref (He.ga K "law")) && (He.eqO (PySem.W.nsIn K mainGlobals "NoRoom") (some (some (.ref (He.ga K "NoRoom")))) && (Dn.ownB K && (Dn.rfB K (He.ga K "NoRoom") "NoRoom" ["LookupError"] 1 (some "name") && (He.eqO (PySem.W.nsIn K mainGlobals "_law_which") (some (some (.ref (He.ga K "_law_which")))))))))))))))
def fb1_1 (K : PySem.W.Frag) : Bool := PySem.W.keepIn K (.ref (He.ga K "_law_which")) && (He.eqO (PySem.W.nsIn K mainGlobals "_law_refusal") (some (some (.ref (He.ga K "_law_refusal")))) && (PySem.W.keepIn K (.ref (He.ga K "_law_refusal")) && (He.eqO (PySem.W.findIn K (.ref (He.ga K "NoRoom")) "__init__") (some (some (.ref (He.ma K (He.ga K "NoRoom") "__init__")))) && (PySem.W.keepIn K (.ref (He.ma K (He.ga K "NoRoom") "__init__")) && (Dn.oexB K (He.ga K "NoRoom") "LookupError.__new__" [.type "LookupError", .type "Exception", .type "BaseException", .type "object"] && (decide (PySem.W.typeIn K (.ref (He.ma K (He.ga K "NoRoom") "__init__")) = some (.type "function")) && (He.eqO (PySem.W.findIn K (.ref (He.ga K "NoRoom")) "name") (some none) && (He.eqO (PySem.W.findIn K (.ref (He.ga K "NoRoom")) "called") (some none) && (Dn.vvB K "LookupError" "LookupError.__init__" && (He.eqO (PySem.W.nsIn K mainGlobals "LookupError") (some none) && (Dn.ndB K ["law"])))))))))))
def fb1_2 (K : PySem.W.Frag) : Bool := Dh.stB K mainGlobals "SIGNS" "abcdefghijklmnopqrstuvwxyz" && (Dh.inB K mainGlobals "MOST_SIGNS" (8) && (Dh.inB K mainGlobals "MOST_ROOMS" (8) && (He.eqO (PySem.W.nsIn K mainGlobals "abs") (some none) && (He.eqO (PySem.W.nsIn K mainGlobals "all") (some none) && (He.eqO (PySem.W.nsIn K mainGlobals "any") (some none) && (He.eqO (PySem.W.nsIn K mainGlobals "bool") (some none) && (He.eqO (PySem.W.nsIn K mainGlobals "int") (some none) && (He.eqO (PySem.W.nsIn K mainGlobals "isinstance") (some none) && (He.eqO (PySem.W.nsIn K mainGlobals "len") (some none) && (He.eqO (PySem.W.nsIn K mainGlobals "list") (some none) && (He.eqO (PySem.W.nsIn K mainGlobals "max") (some none))))))))))))
def fb1_3 (K : PySem.W.Frag) : Bool := He.eqO (PySem.W.nsIn K mainGlobals "min") (some none) && (He.eqO (PySem.W.nsIn K mainGlobals "range") (some none) && (He.eqO (PySem.W.nsIn K mainGlobals "repr") (some none) && (He.eqO (PySem.W.nsIn K mainGlobals "sorted") (some none) && (He.eqO (PySem.W.nsIn K mainGlobals "str") (some none) && (He.eqO (PySem.W.nsIn K mainGlobals "sum") (some none) && (He.eqO (PySem.W.nsIn K mainGlobals "tuple") (some none) && (He.eqO (PySem.W.nsIn K mainGlobals "zip") (some none) && ((He.Fa.code (("_law_are_rooms", none) : Dh.At) "_law_are_rooms").ok K && ((He.Fa.code (("is_name", none) : Dh.At) "is_name").ok K && ((He.Fa.code (("is_rising", none) : Dh.At) "is_rising").ok K && ((He.Fa.code (("is_set", none) : Dh.At) "is_set").ok K)))))))))))
def fb1_4 (K : PySem.W.Frag) : Bool := (He.Fa.code (("is_room", none) : Dh.At) "is_room").ok K && ((He.Fa.code (("are_rooms", none) : Dh.At) "are_rooms").ok K && ((He.Fa.code (("_law_names", none) : Dh.At) "_law_names").ok K && ((He.Fa.code (("_law_rooms", none) : Dh.At) "_law_rooms").ok K && ((He.Fa.code (("_law_kinds", none) : Dh.At) "_law_kinds").ok K && ((He.Fa.code (("_law_bag", none) : Dh.At) "_law_bag").ok K && ((He.Fa.code (("law", none) : Dh.At) "law").ok K && ((He.Fa.code (("_law_which", none) : Dh.At) "_law_which").ok K && ((He.Fa.code (("_law_refusal", none) : Dh.At) "_law_refusal").ok K && ((He.Fa.code (("NoRoom", some "__init__") : Dh.At) "NoRoom.__init__").ok K)))))))))
def fb1 (K : PySem.W.Frag) : Bool := fb1_0 K && (fb1_1 K && (fb1_2 K && (fb1_3 K && (fb1_4 K))))
def fn1_0 : List He.FnD := [d_law_are_rooms, d_is_name, d_is_rising, d_is_set, d_is_room, d_are_rooms, d_law_names, d_law_rooms, d_law_kinds, d_law_bag, d_law, d_law_which]
def fn1_1 : List He.FnD := [d_law_refusal, d_NoRoom_init]
def fn1 : List He.FnD := fn1_0 ++ (fn1_1)
def ts1 : List (Str × List Str) := []
def fd1 : List He.FnD := []
def pt1 : Dh.PtT := ⟨⟨fb1, fn1, ts1, fd1⟩, ["law"]⟩
def pts : List Dh.PtT := [pt0, pt1]
set_option maxHeartbeats 0 in
theorem runF (w : World) : HandSHeadRun.RunEq R qv PySem.W.Hook.none (fun _ => ()) 17000 names (w.withFollow "special-get-raises" false) := by
  intro os
  kernel_rfl
set_option maxHeartbeats 0 in
theorem runF0 (w : World) : Dh.PtTRun R 17000 pt0 (w.withFollow "special-get-raises" false) := by
  intro os
  kernel_rfl
set_option maxHeartbeats 0 in
theorem runF1 (w : World) : Dh.PtTRun R 17000 pt1 (w.withFollow "special-get-raises" false) := by
  intro os
  kernel_rfl
theorem runFa (w : World) : HandSHeadRun.RunEq R qv (Dh.hookT pts) (Dh.obT pts) 17000 names (w.withFollow "special-get-raises" false) := Dh.run_ofT (runF w) (by
  intro p hp
  simp only [pts, List.mem_cons, List.not_mem_nil, or_false] at hp
  rcases hp with rfl | rfl
  · exact runF0 w
  · exact runF1 w)
set_option maxHeartbeats 0 in
theorem runT (w : World) : HandSHeadRun.RunEq R qv PySem.W.Hook.none (fun _ => ()) 17000 names (w.withFollow "special-get-raises" true) := by
  intro os
  kernel_rfl
set_option maxHeartbeats 0 in
theorem runT0 (w : World) : Dh.PtTRun R 17000 pt0 (w.withFollow "special-get-raises" true) := by
  intro os
  kernel_rfl
set_option maxHeartbeats 0 in
theorem runT1 (w : World) : Dh.PtTRun R 17000 pt1 (w.withFollow "special-get-raises" true) := by
  intro os
  kernel_rfl
theorem runTa (w : World) : HandSHeadRun.RunEq R qv (Dh.hookT pts) (Dh.obT pts) 17000 names (w.withFollow "special-get-raises" true) := Dh.run_ofT (runT w) (by
  intro p hp
  simp only [pts, List.mem_cons, List.not_mem_nil, or_false] at hp
  rcases hp with rfl | rfl
  · exact runT0 w
  · exact runT1 w)
theorem run (w : World) : HandSHeadRun.RunEq R qv (Dh.hookT pts) (Dh.obT pts) 17000 names w := PySem.W.byRow2 "special-get-raises" (P := fun w => HandSHeadRun.RunEq R qv (Dh.hookT pts) (Dh.obT pts) 17000 names w) runFa runTa w
section
variable {K : PySem.W.Frag}
theorem e0_0 (c : fb0 K = true) : fb0_0 K = true := (He.ba c).1
theorem e0_1 (c : fb0 K = true) : fb0_1 K = true := (He.ba (He.ba c).2).1
theorem e0_2 (c : fb0 K = true) : fb0_2 K = true := (He.ba (He.ba (He.ba c).2).2).1
theorem e0_3 (c : fb0 K = true) : fb0_3 K = true := (He.ba (He.ba (He.ba (He.ba c).2).2).2).1
theorem e0_4 (c : fb0 K = true) : fb0_4 K = true := (He.ba (He.ba (He.ba (He.ba c).2).2).2).2
theorem e1_0 (c : fb1 K = true) : fb1_0 K = true := (He.ba c).1
theorem e1_1 (c : fb1 K = true) : fb1_1 K = true := (He.ba (He.ba c).2).1
theorem e1_2 (c : fb1 K = true) : fb1_2 K = true := (He.ba (He.ba (He.ba c).2).2).1
theorem e1_3 (c : fb1 K = true) : fb1_3 K = true := (He.ba (He.ba (He.ba (He.ba c).2).2).2).1
theorem e1_4 (c : fb1 K = true) : fb1_4 K = true := (He.ba (He.ba (He.ba (He.ba c).2).2).2).2
theorem b_a_law_take (c : fb0 K = true) : (He.eqO (PySem.W.nsIn K mainGlobals "_law_take") (some (some (.ref (He.ga K "_law_take"))))) = true := (He.ba (e0_0 c)).1
theorem b_k_law_take (c : fb0 K = true) : (PySem.W.keepIn K (.ref (He.ga K "_law_take"))) = true := (He.ba (He.ba (e0_0 c)).2).1
theorem b_a_law_odd (c : fb0 K = true) : (He.eqO (PySem.W.nsIn K mainGlobals "_law_odd") (some (some (.ref (He.ga K "_law_odd"))))) = true := (He.ba (He.ba (He.ba (e0_0 c)).2).2).1
theorem b_k_law_odd (c : fb0 K = true) : (PySem.W.keepIn K (.ref (He.ga K "_law_odd"))) = true := (He.ba (He.ba (He.ba (He.ba (e0_0 c)).2).2).2).1
theorem b_a_law_text_bent (c : fb0 K = true) : (He.eqO (PySem.W.nsIn K mainGlobals "_law_text_bent") (some (some (.ref (He.ga K "_law_text_bent"))))) = true := (He.ba (He.ba (He.ba (He.ba (He.ba (e0_0 c)).2).2).2).2).1
theorem b_k_law_text_bent (c : fb0 K = true) : (PySem.W.keepIn K (.ref (He.ga K "_law_text_bent"))) = true := (He.ba (He.ba (He.ba (He.ba (He.ba (He.ba (e0_0 c)).2).2).2).2).2).1
theorem b_a_takes_of_room (c : fb0 K = true) : (He.eqO (PySem.W.nsIn K mainGlobals "takes_of_room") (some (some (.ref (He.ga K "takes_of_room"))))) = true := (He.ba (He.ba (He.ba (He.ba (He.ba (He.ba (He.ba (e0_0 c)).2).2).2).2).2).2).1
theorem b_k_takes_of_room (c : fb0 K = true) : (PySem.W.keepIn K (.ref (He.ga K "takes_of_room"))) = true := (He.ba (He.ba (He.ba (He.ba (He.ba (He.ba (He.ba (He.ba (e0_0 c)).2).2).2).2).2).2).2).1
theorem b_a_is_met (c : fb0 K = true) : (He.eqO (PySem.W.nsIn K mainGlobals "is_met") (some (some (.ref (He.ga K "is_met"))))) = true := (He.ba (He.ba (He.ba (He.ba (He.ba (He.ba (He.ba (He.ba (He.ba (e0_0 c)).2).2).2).2).2).2).2).2).1
theorem b_k_is_met (c : fb0 K = true) : (PySem.W.keepIn K (.ref (He.ga K "is_met"))) = true := (He.ba (He.ba (He.ba (He.ba (He.ba (He.ba (He.ba (He.ba (He.ba (He.ba (e0_0 c)).2).2).2).2).2).2).2).2).2).1
theorem b_a_serves (c : fb0 K = true) : (He.eqO (PySem.W.nsIn K mainGlobals "serves") (some (some (.ref (He.ga K "serves"))))) = true := (He.ba (He.ba (He.ba (He.ba (He.ba (He.ba (He.ba (He.ba (He.ba (He.ba (He.ba (e0_0 c)).2).2).2).2).2).2).2).2).2).2).1
theorem b_k_serves (c : fb0 K = true) : (PySem.W.keepIn K (.ref (He.ga K "serves"))) = true := (He.ba (He.ba (He.ba (He.ba (He.ba (He.ba (He.ba (He.ba (He.ba (He.ba (He.ba (e0_0 c)).2).2).2).2).2).2).2).2).2).2).2
theorem b_a_law_share (c : fb0 K = true) : (He.eqO (PySem.W.nsIn K mainGlobals "_law_share") (some (some (.ref (He.ga K "_law_share"))))) = true := (He.ba (e0_1 c)).1
theorem b_k_law_share (c : fb0 K = true) : (PySem.W.keepIn K (.ref (He.ga K "_law_share"))) = true := (He.ba (He.ba (e0_1 c)).2).1
theorem b_a_law_truths (c : fb0 K = true) : (He.eqO (PySem.W.nsIn K mainGlobals "_law_truths") (some (some (.ref (He.ga K "_law_truths"))))) = true := (He.ba (He.ba (He.ba (e0_1 c)).2).2).1
theorem b_k_law_truths (c : fb0 K = true) : (PySem.W.keepIn K (.ref (He.ga K "_law_truths"))) = true := (He.ba (He.ba (He.ba (He.ba (e0_1 c)).2).2).2).1
theorem b_a_law_row_bent (c : fb0 K = true) : (He.eqO (PySem.W.nsIn K mainGlobals "_law_row_bent") (some (some (.ref (He.ga K "_law_row_bent"))))) = true := (He.ba (He.ba (He.ba (He.ba (He.ba (e0_1 c)).2).2).2).2).1
theorem b_k_law_row_bent (c : fb0 K = true) : (PySem.W.keepIn K (.ref (He.ga K "_law_row_bent"))) = true := (He.ba (He.ba (He.ba (He.ba (He.ba (He.ba (e0_1 c)).2).2).2).2).2).1
theorem b_a_law_bent (c : fb0 K = true) : (He.eqO (PySem.W.nsIn K mainGlobals "_law_bent") (some (some (.ref (He.ga K "_law_bent"))))) = true := (He.ba (He.ba (He.ba (He.ba (He.ba (He.ba (He.ba (e0_1 c)).2).2).2).2).2).2).1
theorem b_k_law_bent (c : fb0 K = true) : (PySem.W.keepIn K (.ref (He.ga K "_law_bent"))) = true := (He.ba (He.ba (He.ba (He.ba (He.ba (He.ba (He.ba (He.ba (e0_1 c)).2).2).2).2).2).2).2).1
theorem b_a_law_rises (c : fb0 K = true) : (He.eqO (PySem.W.nsIn K mainGlobals "_law_rises") (some (some (.ref (He.ga K "_law_rises"))))) = true := (He.ba (He.ba (He.ba (He.ba (He.ba (He.ba (He.ba (He.ba (He.ba (e0_1 c)).2).2).2).2).2).2).2).2).1
theorem b_k_law_rises (c : fb0 K = true) : (PySem.W.keepIn K (.ref (He.ga K "_law_rises"))) = true := (He.ba (He.ba (He.ba (He.ba (He.ba (He.ba (He.ba (He.ba (He.ba (He.ba (e0_1 c)).2).2).2).2).2).2).2).2).2).1
theorem b_a_law_is_name (c : fb0 K = true) : (He.eqO (PySem.W.nsIn K mainGlobals "_law_is_name") (some (some (.ref (He.ga K "_law_is_name"))))) = true := (He.ba (He.ba (He.ba (He.ba (He.ba (He.ba (He.ba (He.ba (He.ba (He.ba (He.ba (e0_1 c)).2).2).2).2).2).2).2).2).2).2).1
theorem b_k_law_is_name (c : fb0 K = true) : (PySem.W.keepIn K (.ref (He.ga K "_law_is_name"))) = true := (He.ba (He.ba (He.ba (He.ba (He.ba (He.ba (He.ba (He.ba (He.ba (He.ba (He.ba (e0_1 c)).2).2).2).2).2).2).2).2).2).2).2
theorem b_a_law_sets (c : fb0 K = true) : (He.eqO (PySem.W.nsIn K mainGlobals "_law_sets") (some (some (.ref (He.ga K "_law_sets"))))) = true := (He.ba (e0_2 c)).1
theorem b_k_law_sets (c : fb0 K = true) : (PySem.W.keepIn K (.ref (He.ga K "_law_sets"))) = true := (He.ba (He.ba (e0_2 c)).2).1
theorem b_a_law_is_set (c : fb0 K = true) : (He.eqO (PySem.W.nsIn K mainGlobals "_law_is_set") (some (some (.ref (He.ga K "_law_is_set"))))) = true := (He.ba (He.ba (He.ba (e0_2 c)).2).2).1
theorem b_k_law_is_set (c : fb0 K = true) : (PySem.W.keepIn K (.ref (He.ga K "_law_is_set"))) = true := (He.ba (He.ba (He.ba (He.ba (e0_2 c)).2).2).2).1
theorem b_a_law_is_room (c : fb0 K = true) : (He.eqO (PySem.W.nsIn K mainGlobals "_law_is_room") (some (some (.ref (He.ga K "_law_is_room"))))) = true := (He.ba (He.ba (He.ba (He.ba (He.ba (e0_2 c)).2).2).2).2).1
theorem b_k_law_is_room (c : fb0 K = true) : (PySem.W.keepIn K (.ref (He.ga K "_law_is_room"))) = true := (He.ba (He.ba (He.ba (He.ba (He.ba (He.ba (e0_2 c)).2).2).2).2).2).1
theorem b_a_law_are_rooms (c : fb0 K = true) : (He.eqO (PySem.W.nsIn K mainGlobals "_law_are_rooms") (some (some (.ref (He.ga K "_law_are_rooms"))))) = true := (He.ba (He.ba (He.ba (He.ba (He.ba (He.ba (He.ba (e0_2 c)).2).2).2).2).2).2).1
theorem b_k_law_are_rooms (c : fb0 K = true) : (PySem.W.keepIn K (.ref (He.ga K "_law_are_rooms"))) = true := (He.ba (He.ba (He.ba (He.ba (He.ba (He.ba (He.ba (He.ba (e0_2 c)).2).2).2).2).2).2).2).1
theorem b_a_is_name (c : fb0 K = true) : (He.eqO (PySem.W.nsIn K mainGlobals "is_name") (some (some (.ref (He.ga K "is_name"))))) = true := (He.ba (He.ba (He.ba (He.ba (He.ba (He.ba (He.ba (He.ba (He.ba (e0_2 c)).2).2).2).2).2).2).2).2).1
theorem b_k_is_name (c : fb0 K = true) : (PySem.W.keepIn K (.ref (He.ga K "is_name"))) = true := (He.ba (He.ba (He.ba (He.ba (He.ba (He.ba (He.ba (He.ba (He.ba (He.ba (e0_2 c)).2).2).2).2).2).2).2).2).2).1
theorem b_a_is_rising (c : fb0 K = true) : (He.eqO (PySem.W.nsIn K mainGlobals "is_rising") (some (some (.ref (He.ga K "is_rising"))))) = true := (He.ba (He.ba (He.ba (He.ba (He.ba (He.ba (He.ba (He.ba (He.ba (He.ba (He.ba (e0_2 c)).2).2).2).2).2).2).2).2).2).2).1
theorem b_k_is_rising (c : fb0 K = true) : (PySem.W.keepIn K (.ref (He.ga K "is_rising"))) = true := (He.ba (He.ba (He.ba (He.ba (He.ba (He.ba (He.ba (He.ba (He.ba (He.ba (He.ba (e0_2 c)).2).2).2).2).2).2).2).2).2).2).2
theorem b_a_is_set (c : fb0 K = true) : (He.eqO (PySem.W.nsIn K mainGlobals "is_set") (some (some (.ref (He.ga K "is_set"))))) = true := (He.ba (e0_3 c)).1
theorem b_k_is_set (c : fb0 K = true) : (PySem.W.keepIn K (.ref (He.ga K "is_set"))) = true := (He.ba (He.ba (e0_3 c)).2).1
theorem b_a_is_room (c : fb0 K = true) : (He.eqO (PySem.W.nsIn K mainGlobals "is_room") (some (some (.ref (He.ga K "is_room"))))) = true := (He.ba (He.ba (He.ba (e0_3 c)).2).2).1
theorem b_k_is_room (c : fb0 K = true) : (PySem.W.keepIn K (.ref (He.ga K "is_room"))) = true := (He.ba (He.ba (He.ba (He.ba (e0_3 c)).2).2).2).1
theorem b_a_are_rooms (c : fb0 K = true) : (He.eqO (PySem.W.nsIn K mainGlobals "are_rooms") (some (some (.ref (He.ga K "are_rooms"))))) = true := (He.ba (He.ba (He.ba (He.ba (He.ba (e0_3 c)).2).2).2).2).1
theorem b_k_are_rooms (c : fb0 K = true) : (PySem.W.keepIn K (.ref (He.ga K "are_rooms"))) = true := (He.ba (He.ba (He.ba (He.ba (He.ba (He.ba (e0_3 c)).2).2).2).2).2).1
theorem b_a_law_names (c : fb0 K = true) : (He.eqO (PySem.W.nsIn K mainGlobals "_law_names") (some (some (.ref (He.ga K "_law_names"))))) = true := (He.ba (He.ba (He.ba (He.ba (He.ba (He.ba (He.ba (e0_3 c)).2).2).2).2).2).2).1
theorem b_k_law_names (c : fb0 K = true) : (PySem.W.keepIn K (.ref (He.ga K "_law_names"))) = true := (He.ba (He.ba (He.ba (He.ba (He.ba (He.ba (He.ba (He.ba (e0_3 c)).2).2).2).2).2).2).2).1
theorem b_cc_law_take (c : fb0 K = true) : ((He.Fa.code (("_law_take", none) : Dh.At) "_law_take").ok K) = true := (He.ba (He.ba (He.ba (He.ba (He.ba (He.ba (He.ba (He.ba (He.ba (e0_3 c)).2).2).2).2).2).2).2).2).1
theorem b_cc_law_odd (c : fb0 K = true) : ((He.Fa.code (("_law_odd", none) : Dh.At) "_law_odd").ok K) = true := (He.ba (He.ba (He.ba (He.ba (He.ba (He.ba (He.ba (He.ba (He.ba (He.ba (e0_3 c)).2).2).2).2).2).2).2).2).2).1
theorem b_cc_law_text_bent (c : fb0 K = true) : ((He.Fa.code (("_law_text_bent", none) : Dh.At) "_law_text_bent").ok K) = true := (He.ba (He.ba (He.ba (He.ba (He.ba (He.ba (He.ba (He.ba (He.ba (He.ba (He.ba (e0_3 c)).2).2).2).2).2).2).2).2).2).2).1
theorem b_cc_takes_of_room (c : fb0 K = true) : ((He.Fa.code (("takes_of_room", none) : Dh.At) "takes_of_room").ok K) = true := (He.ba (He.ba (He.ba (He.ba (He.ba (He.ba (He.ba (He.ba (He.ba (He.ba (He.ba (e0_3 c)).2).2).2).2).2).2).2).2).2).2).2
theorem b_cc_is_met (c : fb0 K = true) : ((He.Fa.code (("is_met", none) : Dh.At) "is_met").ok K) = true := (He.ba (e0_4 c)).1
theorem b_cc_serves (c : fb0 K = true) : ((He.Fa.code (("serves", none) : Dh.At) "serves").ok K) = true := (He.ba (He.ba (e0_4 c)).2).1
theorem b_cc_law_share (c : fb0 K = true) : ((He.Fa.code (("_law_share", none) : Dh.At) "_law_share").ok K) = true := (He.ba (He.ba (He.ba (e0_4 c)).2).2).1
theorem b_cc_law_truths (c : fb0 K = true) : ((He.Fa.code (("_law_truths", none) : Dh.At) "_law_truths").ok K) = true := (He.ba (He.ba (He.ba (He.ba (e0_4 c)).2).2).2).1
theorem b_cc_law_row_bent (c : fb0 K = true) : ((He.Fa.code (("_law_row_bent", none) : Dh.At) "_law_row_bent").ok K) = true := (He.ba (He.ba (He.ba (He.ba (He.ba (e0_4 c)).2).2).2).2).1
theorem b_cc_law_bent (c : fb0 K = true) : ((He.Fa.code (("_law_bent", none) : Dh.At) "_law_bent").ok K) = true := (He.ba (He.ba (He.ba (He.ba (He.ba (He.ba (e0_4 c)).2).2).2).2).2).1
theorem b_cc_law_rises (c : fb0 K = true) : ((He.Fa.code (("_law_rises", none) : Dh.At) "_law_rises").ok K) = true := (He.ba (He.ba (He.ba (He.ba (He.ba (He.ba (He.ba (e0_4 c)).2).2).2).2).2).2).1
theorem b_cc_law_is_name (c : fb0 K = true) : ((He.Fa.code (("_law_is_name", none) : Dh.At) "_law_is_name").ok K) = true := (He.ba (He.ba (He.ba (He.ba (He.ba (He.ba (He.ba (He.ba (e0_4 c)).2).2).2).2).2).2).2).1
theorem b_cc_law_sets (c : fb0 K = true) : ((He.Fa.code (("_law_sets", none) : Dh.At) "_law_sets").ok K) = true := (He.ba (He.ba (He.ba (He.ba (He.ba (He.ba (He.ba (He.ba (He.ba (e0_4 c)).2).2).2).2).2).2).2).2).1
theorem b_cc_law_is_set (c : fb0 K = true) : ((He.Fa.code (("_law_is_set", none) : Dh.At) "_law_is_set").ok K) = true := (He.ba (He.ba (He.ba (He.ba (He.ba (He.ba (He.ba (He.ba (He.ba (He.ba (e0_4 c)).2).2).2).2).2).2).2).2).2).1
theorem b_cc_law_is_room (c : fb0 K = true) : ((He.Fa.code (("_law_is_room", none) : Dh.At) "_law_is_room").ok K) = true := (He.ba (He.ba (He.ba (He.ba (He.ba (He.ba (He.ba (He.ba (He.ba (He.ba (e0_4 c)).2).2).2).2).2).2).2).2).2).2
theorem b_a_law_rooms (c : fb1 K = true) : (He.eqO (PySem.W.nsIn K mainGlobals "_law_rooms") (some (some (.ref (He.ga K "_law_rooms"))))) = true := (He.ba (e1_0 c)).1
theorem b_k_law_rooms (c : fb1 K = true) : (PySem.W.keepIn K (.ref (He.ga K "_law_rooms"))) = true := (He.ba (He.ba (e1_0 c)).2).1
theorem b_a_law_kinds (c : fb1 K = true) : (He.eqO (PySem.W.nsIn K mainGlobals "_law_kinds") (some (some (.ref (He.ga K "_law_kinds"))))) = true := (He.ba (He.ba (He.ba (e1_0 c)).2).2).1
theorem b_k_law_kinds (c : fb1 K = true) : (PySem.W.keepIn K (.ref (He.ga K "_law_kinds"))) = true := (He.ba (He.ba (He.ba (He.ba (e1_0 c)).2).2).2).1
theorem b_a_law_bag (c : fb1 K = true) : (He.eqO (PySem.W.nsIn K mainGlobals "_law_bag") (some (some (.ref (He.ga K "_law_bag"))))) = true := (He.ba (He.ba (He.ba (He.ba (He.ba (e1_0 c)).2).2).2).2).1
theorem b_k_law_bag (c : fb1 K = true) : (PySem.W.keepIn K (.ref (He.ga K "_law_bag"))) = true := (He.ba (He.ba (He.ba (He.ba (He.ba (He.ba (e1_0 c)).2).2).2).2).2).1
theorem b_a_law (c : fb1 K = true) : (He.eqO (PySem.W.nsIn K mainGlobals "law") (some (some (.ref (He.ga K "law"))))) = true := (He.ba (He.ba (He.ba (He.ba (He.ba (He.ba (He.ba (e1_0 c)).2).2).2).2).2).2).1
theorem b_k_law (c : fb1 K = true) : (PySem.W.keepIn K (.ref (He.ga K "law"))) = true := (He.ba (He.ba (He.ba (He.ba (He.ba (He.ba (He.ba (He.ba (e1_0 c)).2).2).2).2).2).2).2).1
theorem b_aE_NoRoom (c : fb1 K = true) : (He.eqO (PySem.W.nsIn K mainGlobals "NoRoom") (some (some (.ref (He.ga K "NoRoom"))))) = true := (He.ba (He.ba (He.ba (He.ba (He.ba (He.ba (He.ba (He.ba (He.ba (e1_0 c)).2).2).2).2).2).2).2).2).1
theorem b_rg (c : fb1 K = true) : (Dn.ownB K) = true := (He.ba (He.ba (He.ba (He.ba (He.ba (He.ba (He.ba (He.ba (He.ba (He.ba (e1_0 c)).2).2).2).2).2).2).2).2).2).1
theorem b_rf_NoRoom (c : fb1 K = true) : (Dn.rfB K (He.ga K "NoRoom") "NoRoom" ["LookupError"] 1 (some "name")) = true := (He.ba (He.ba (He.ba (He.ba (He.ba (He.ba (He.ba (He.ba (He.ba (He.ba (He.ba (e1_0 c)).2).2).2).2).2).2).2).2).2).2).1
theorem b_a_law_which (c : fb1 K = true) : (He.eqO (PySem.W.nsIn K mainGlobals "_law_which") (some (some (.ref (He.ga K "_law_which"))))) = true := (He.ba (He.ba (He.ba (He.ba (He.ba (He.ba (He.ba (He.ba (He.ba (He.ba (He.ba (e1_0 c)).2).2).2).2).2).2).2).2).2).2).2
theorem b_k_law_which (c : fb1 K = true) : (PySem.W.keepIn K (.ref (He.ga K "_law_which"))) = true := (He.ba (e1_1 c)).1
theorem b_a_law_refusal (c : fb1 K = true) : (He.eqO (PySem.W.nsIn K mainGlobals "_law_refusal") (some (some (.ref (He.ga K "_law_refusal"))))) = true := (He.ba (He.ba (e1_1 c)).2).1
theorem b_k_law_refusal (c : fb1 K = true) : (PySem.W.keepIn K (.ref (He.ga K "_law_refusal"))) = true := (He.ba (He.ba (He.ba (e1_1 c)).2).2).1
theorem b_a_NoRoom_init (c : fb1 K = true) : (He.eqO (PySem.W.findIn K (.ref (He.ga K "NoRoom")) "__init__") (some (some (.ref (He.ma K (He.ga K "NoRoom") "__init__"))))) = true := (He.ba (He.ba (He.ba (He.ba (e1_1 c)).2).2).2).1
theorem b_k_NoRoom_init (c : fb1 K = true) : (PySem.W.keepIn K (.ref (He.ma K (He.ga K "NoRoom") "__init__"))) = true := (He.ba (He.ba (He.ba (He.ba (He.ba (e1_1 c)).2).2).2).2).1
theorem b_xo_NoRoom (c : fb1 K = true) : (Dn.oexB K (He.ga K "NoRoom") "LookupError.__new__" [.type "LookupError", .type "Exception", .type "BaseException", .type "object"]) = true := (He.ba (He.ba (He.ba (He.ba (He.ba (He.ba (e1_1 c)).2).2).2).2).2).1
theorem b_xt_NoRoom (c : fb1 K = true) : (decide (PySem.W.typeIn K (.ref (He.ma K (He.ga K "NoRoom") "__init__")) = some (.type "function"))) = true := (He.ba (He.ba (He.ba (He.ba (He.ba (He.ba (He.ba (e1_1 c)).2).2).2).2).2).2).1
theorem b_x1_NoRoom (c : fb1 K = true) : (He.eqO (PySem.W.findIn K (.ref (He.ga K "NoRoom")) "name") (some none)) = true := (He.ba (He.ba (He.ba (He.ba (He.ba (He.ba (He.ba (He.ba (e1_1 c)).2).2).2).2).2).2).2).1
theorem b_x2_NoRoom (c : fb1 K = true) : (He.eqO (PySem.W.findIn K (.ref (He.ga K "NoRoom")) "called") (some none)) = true := (He.ba (He.ba (He.ba (He.ba (He.ba (He.ba (He.ba (He.ba (He.ba (e1_1 c)).2).2).2).2).2).2).2).2).1
theorem b_xv_NoRoom (c : fb1 K = true) : (Dn.vvB K "LookupError" "LookupError.__init__") = true := (He.ba (He.ba (He.ba (He.ba (He.ba (He.ba (He.ba (He.ba (He.ba (He.ba (e1_1 c)).2).2).2).2).2).2).2).2).2).1
theorem b_xz_NoRoom (c : fb1 K = true) : (He.eqO (PySem.W.nsIn K mainGlobals "LookupError") (some none)) = true := (He.ba (He.ba (He.ba (He.ba (He.ba (He.ba (He.ba (He.ba (He.ba (He.ba (He.ba (e1_1 c)).2).2).2).2).2).2).2).2).2).2).1
theorem b_nd_tabs (c : fb1 K = true) : (Dn.ndB K ["law"]) = true := (He.ba (He.ba (He.ba (He.ba (He.ba (He.ba (He.ba (He.ba (He.ba (He.ba (He.ba (e1_1 c)).2).2).2).2).2).2).2).2).2).2).2
theorem b_q_SIGNS (c : fb1 K = true) : (Dh.stB K mainGlobals "SIGNS" "abcdefghijklmnopqrstuvwxyz") = true := (He.ba (e1_2 c)).1
theorem b_q_MOST_SIGNS (c : fb1 K = true) : (Dh.inB K mainGlobals "MOST_SIGNS" (8)) = true := (He.ba (He.ba (e1_2 c)).2).1
theorem b_q_MOST_ROOMS (c : fb1 K = true) : (Dh.inB K mainGlobals "MOST_ROOMS" (8)) = true := (He.ba (He.ba (He.ba (e1_2 c)).2).2).1
theorem b_z_abs (c : fb1 K = true) : (He.eqO (PySem.W.nsIn K mainGlobals "abs") (some none)) = true := (He.ba (He.ba (He.ba (He.ba (e1_2 c)).2).2).2).1
theorem b_z_all (c : fb1 K = true) : (He.eqO (PySem.W.nsIn K mainGlobals "all") (some none)) = true := (He.ba (He.ba (He.ba (He.ba (He.ba (e1_2 c)).2).2).2).2).1
theorem b_z_any (c : fb1 K = true) : (He.eqO (PySem.W.nsIn K mainGlobals "any") (some none)) = true := (He.ba (He.ba (He.ba (He.ba (He.ba (He.ba (e1_2 c)).2).2).2).2).2).1
theorem b_z_bool (c : fb1 K = true) : (He.eqO (PySem.W.nsIn K mainGlobals "bool") (some none)) = true := (He.ba (He.ba (He.ba (He.ba (He.ba (He.ba (He.ba (e1_2 c)).2).2).2).2).2).2).1
theorem b_z_int (c : fb1 K = true) : (He.eqO (PySem.W.nsIn K mainGlobals "int") (some none)) = true := (He.ba (He.ba (He.ba (He.ba (He.ba (He.ba (He.ba (He.ba (e1_2 c)).2).2).2).2).2).2).2).1
theorem b_z_isinstance (c : fb1 K = true) : (He.eqO (PySem.W.nsIn K mainGlobals "isinstance") (some none)) = true := (He.ba (He.ba (He.ba (He.ba (He.ba (He.ba (He.ba (He.ba (He.ba (e1_2 c)).2).2).2).2).2).2).2).2).1
theorem b_z_len (c : fb1 K = true) : (He.eqO (PySem.W.nsIn K mainGlobals "len") (some none)) = true := (He.ba (He.ba (He.ba (He.ba (He.ba (He.ba (He.ba (He.ba (He.ba (He.ba (e1_2 c)).2).2).2).2).2).2).2).2).2).1
theorem b_z_list (c : fb1 K = true) : (He.eqO (PySem.W.nsIn K mainGlobals "list") (some none)) = true := (He.ba (He.ba (He.ba (He.ba (He.ba (He.ba (He.ba (He.ba (He.ba (He.ba (He.ba (e1_2 c)).2).2).2).2).2).2).2).2).2).2).1
theorem b_z_max (c : fb1 K = true) : (He.eqO (PySem.W.nsIn K mainGlobals "max") (some none)) = true := (He.ba (He.ba (He.ba (He.ba (He.ba (He.ba (He.ba (He.ba (He.ba (He.ba (He.ba (e1_2 c)).2).2).2).2).2).2).2).2).2).2).2
theorem b_z_min (c : fb1 K = true) : (He.eqO (PySem.W.nsIn K mainGlobals "min") (some none)) = true := (He.ba (e1_3 c)).1
theorem b_z_range (c : fb1 K = true) : (He.eqO (PySem.W.nsIn K mainGlobals "range") (some none)) = true := (He.ba (He.ba (e1_3 c)).2).1
theorem b_z_repr (c : fb1 K = true) : (He.eqO (PySem.W.nsIn K mainGlobals "repr") (some none)) = true := (He.ba (He.ba (He.ba (e1_3 c)).2).2).1
theorem b_z_sorted (c : fb1 K = true) : (He.eqO (PySem.W.nsIn K mainGlobals "sorted") (some none)) = true := (He.ba (He.ba (He.ba (He.ba (e1_3 c)).2).2).2).1
theorem b_z_str (c : fb1 K = true) : (He.eqO (PySem.W.nsIn K mainGlobals "str") (some none)) = true := (He.ba (He.ba (He.ba (He.ba (He.ba (e1_3 c)).2).2).2).2).1
theorem b_z_sum (c : fb1 K = true) : (He.eqO (PySem.W.nsIn K mainGlobals "sum") (some none)) = true := (He.ba (He.ba (He.ba (He.ba (He.ba (He.ba (e1_3 c)).2).2).2).2).2).1
theorem b_z_tuple (c : fb1 K = true) : (He.eqO (PySem.W.nsIn K mainGlobals "tuple") (some none)) = true := (He.ba (He.ba (He.ba (He.ba (He.ba (He.ba (He.ba (e1_3 c)).2).2).2).2).2).2).1
theorem b_z_zip (c : fb1 K = true) : (He.eqO (PySem.W.nsIn K mainGlobals "zip") (some none)) = true := (He.ba (He.ba (He.ba (He.ba (He.ba (He.ba (He.ba (He.ba (e1_3 c)).2).2).2).2).2).2).2).1
theorem b_cc_law_are_rooms (c : fb1 K = true) : ((He.Fa.code (("_law_are_rooms", none) : Dh.At) "_law_are_rooms").ok K) = true := (He.ba (He.ba (He.ba (He.ba (He.ba (He.ba (He.ba (He.ba (He.ba (e1_3 c)).2).2).2).2).2).2).2).2).1
theorem b_cc_is_name (c : fb1 K = true) : ((He.Fa.code (("is_name", none) : Dh.At) "is_name").ok K) = true := (He.ba (He.ba (He.ba (He.ba (He.ba (He.ba (He.ba (He.ba (He.ba (He.ba (e1_3 c)).2).2).2).2).2).2).2).2).2).1
theorem b_cc_is_rising (c : fb1 K = true) : ((He.Fa.code (("is_rising", none) : Dh.At) "is_rising").ok K) = true := (He.ba (He.ba (He.ba (He.ba (He.ba (He.ba (He.ba (He.ba (He.ba (He.ba (He.ba (e1_3 c)).2).2).2).2).2).2).2).2).2).2).1
theorem b_cc_is_set (c : fb1 K = true) : ((He.Fa.code (("is_set", none) : Dh.At) "is_set").ok K) = true := (He.ba (He.ba (He.ba (He.ba (He.ba (He.ba (He.ba (He.ba (He.ba (He.ba (He.ba (e1_3 c)).2).2).2).2).2).2).2).2).2).2).2
theorem b_cc_is_room (c : fb1 K = true) : ((He.Fa.code (("is_room", none) : Dh.At) "is_room").ok K) = true := (He.ba (e1_4 c)).1
theorem b_cc_are_rooms (c : fb1 K = true) : ((He.Fa.code (("are_rooms", none) : Dh.At) "are_rooms").ok K) = true := (He.ba (He.ba (e1_4 c)).2).1
theorem b_cc_law_names (c : fb1 K = true) : ((He.Fa.code (("_law_names", none) : Dh.At) "_law_names").ok K) = true := (He.ba (He.ba (He.ba (e1_4 c)).2).2).1
theorem b_cc_law_rooms (c : fb1 K = true) : ((He.Fa.code (("_law_rooms", none) : Dh.At) "_law_rooms").ok K) = true := (He.ba (He.ba (He.ba (He.ba (e1_4 c)).2).2).2).1
theorem b_cc_law_kinds (c : fb1 K = true) : ((He.Fa.code (("_law_kinds", none) : Dh.At) "_law_kinds").ok K) = true := (He.ba (He.ba (He.ba (He.ba (He.ba (e1_4 c)).2).2).2).2).1
theorem b_cc_law_bag (c : fb1 K = true) : ((He.Fa.code (("_law_bag", none) : Dh.At) "_law_bag").ok K) = true := (He.ba (He.ba (He.ba (He.ba (He.ba (He.ba (e1_4 c)).2).2).2).2).2).1
theorem b_cc_law (c : fb1 K = true) : ((He.Fa.code (("law", none) : Dh.At) "law").ok K) = true := (He.ba (He.ba (He.ba (He.ba (He.ba (He.ba (He.ba (e1_4 c)).2).2).2).2).2).2).1
theorem b_cc_law_which (c : fb1 K = true) : ((He.Fa.code (("_law_which", none) : Dh.At) "_law_which").ok K) = true := (He.ba (He.ba (He.ba (He.ba (He.ba (He.ba (He.ba (He.ba (e1_4 c)).2).2).2).2).2).2).2).1
theorem b_cc_law_refusal (c : fb1 K = true) : ((He.Fa.code (("_law_refusal", none) : Dh.At) "_law_refusal").ok K) = true := (He.ba (He.ba (He.ba (He.ba (He.ba (He.ba (He.ba (He.ba (He.ba (e1_4 c)).2).2).2).2).2).2).2).2).1
theorem b_cc_NoRoom_init (c : fb1 K = true) : ((He.Fa.code (("NoRoom", some "__init__") : Dh.At) "NoRoom.__init__").ok K) = true := (He.ba (He.ba (He.ba (He.ba (He.ba (He.ba (He.ba (He.ba (He.ba (e1_4 c)).2).2).2).2).2).2).2).2).2
end
end Hd
end Law
/-! Dn: data (values without addresses), a memory of the few things that change, and what a text of the program makes of them, as plain functions -/
namespace Dn
open PySem L2 Evl

/-- data: what a value is, down to the innermost; ptr: a thing that may change, by its number; raw: anything else -/
inductive D where
  | non | bl (b : Bool) | int (i : Int) | str (s : Str)
  | lst (xs : List D) | tup (xs : List D) | dct (kvs : List (Key × D)) | dcT (kvs : List (List Key × D)) | ins (x : Str) (fs : List (Str × D)) | fn (x : Str) | scr (ns : List Int) | ptr (n : Nat) | raw (v : V)
/-- a thing that may change -/
inductive Ob where
  | lst (xs : List D) | dK (kvs : List (Key × D)) | dT (kvs : List (List Key × D)) | ins (x : Str) (fs : List (Str × D)) | gone | tab (x q : Str) | xd (d : Addr) (gs : List (Str × V))
abbrev Mem := List Ob
abbrev Dv := List (Option D)
/-- an error: its class by name, its fields -/
structure Exc where
  cls : Str
  fs : List (Str × D)
/-- what comes: a value, an error, or nothing is said -/
inductive R (α : Type) where
  | ok (a : α) (m : Mem) | ex (e : Exc) (m : Mem) | no
def R.bind {α β : Type} : R α → (α → Mem → R β) → R β
  | .ok a m, k => k a m
  | .ex e m, _ => .ex e m
  | .no, _ => .no
/-- where no error may leave -/
def R.calm {α : Type} : R α → R α
  | .ok a m => .ok a m
  | _ => .no
def R.of {α : Type} (o : Option α) (m : Mem) : R α := match o with
  | some a => .ok a m
  | none => .no
@[simp] theorem R.bind_ok {α β : Type} (a : α) (m : Mem) (k : α → Mem → R β) : (R.ok a m).bind k = k a m := rfl
@[simp] theorem R.bind_ex {α β : Type} (e : Exc) (m : Mem) (k : α → Mem → R β) : (R.ex e m).bind k = .ex e m := rfl
@[simp] theorem R.bind_no {α β : Type} (k : α → Mem → R β) : (R.no).bind k = .no := rfl
@[simp] theorem R.calm_ok {α : Type} (a : α) (m : Mem) : (R.ok a m).calm = .ok a m := rfl
@[simp] theorem R.of_some {α : Type} (a : α) (m : Mem) : R.of (some a) m = .ok a m := rfl
/-! ### what stands for what -/
mutual
inductive Rp (K : PySem.W.Frag) (B : Hp) (ρ : List Addr) : D → V → Prop
  | non : Rp K B ρ .non .non
  | bl (b : Bool) : Rp K B ρ (.bl b) (.bl b)
  | int (i : Int) : Rp K B ρ (.int i) (.int i)
  | str (s : Str) : Rp K B ρ (.str s) (.str s)
  | lst {a : Addr} {vs : List V} {ds : List D} : B a = some (.lst vs) → Rps K B ρ ds vs → Rp K B ρ (.lst ds) (.ref a)
  | tup {a : Addr} {vs : List V} {ds : List D} : SqT K B a vs → Rps K B ρ ds vs → ((vs = [] ∨ ∃ y, D.fn y ∈ ds) ∨ B a = some (.tup vs)) → Rp K B ρ (.tup ds) (.ref a)
  | dct {a : Addr} {o : Obj} {kvs : List (Key × V)} {kds : List (Key × D)} : B a = some (.frz o (.dK kvs)) → Rpk K B ρ kds kvs → Rp K B ρ (.dct kds) (.ref a)
  | dcT {a : Addr} {o : Obj} {kvs : List (List Key × V)} {kds : List (List Key × D)} : B a = some (.frz o (.dT kvs)) → Rpt K B ρ kds kvs → Rp K B ρ (.dcT kds) (.ref a)
  | ins {a C dx : Addr} {x : Str} {gs : List (Str × V)} {fs : List (Str × D)} : PySem.W.nsIn K mainGlobals x = some (some (.ref C)) → B a = some (.ins C dx gs) → Rpf K B ρ fs gs → Rp K B ρ (.ins x fs) (.ref a)
  | fn {a : Addr} {x : Str} : PySem.W.nsIn K mainGlobals x = some (some (.ref a)) → Rp K B ρ (.fn x) (.ref a)
  | scr {a : Addr} {ns : List Int} : SqL K B a (ns.map V.int) → Rp K B ρ (.scr ns) (.ref a)
  | ptr {n : Nat} {a : Addr} : ρ[n]? = some a → Rp K B ρ (.ptr n) (.ref a)
  | raw (v : V) : Rp K B ρ (.raw v) v
inductive Rps (K : PySem.W.Frag) (B : Hp) (ρ : List Addr) : List D → List V → Prop
  | nil : Rps K B ρ [] []
  | cons {d : D} {v : V} {ds : List D} {vs : List V} : Rp K B ρ d v → Rps K B ρ ds vs → Rps K B ρ (d :: ds) (v :: vs)
inductive Rpk (K : PySem.W.Frag) (B : Hp) (ρ : List Addr) : List (Key × D) → List (Key × V) → Prop
  | nil : Rpk K B ρ [] []
  | cons {k : Key} {d : D} {v : V} {ds : List (Key × D)} {vs : List (Key × V)} : Rp K B ρ d v → Rpk K B ρ ds vs → Rpk K B ρ ((k, d) :: ds) ((k, v) :: vs)
inductive Rpt (K : PySem.W.Frag) (B : Hp) (ρ : List Addr) : List (List Key × D) → List (List Key × V) → Prop
  | nil : Rpt K B ρ [] []
  | cons {k : List Key} {d : D} {v : V} {ds : List (List Key × D)} {vs : List (List Key × V)} : Rp K B ρ d v → Rpt K B ρ ds vs → Rpt K B ρ ((k, d) :: ds) ((k, v) :: vs)
inductive Rpf (K : PySem.W.Frag) (B : Hp) (ρ : List Addr) : List (Str × D) → List (Str × V) → Prop
  | nil : Rpf K B ρ [] []
  | cons {k : Str} {d : D} {v : V} {ds : List (Str × D)} {vs : List (Str × V)} : Rp K B ρ d v → Rpf K B ρ ds vs → Rpf K B ρ ((k, d) :: ds) ((k, v) :: vs)
end
/-- more is known -/
def Le (B : Hp) (ρ : List Addr) (B' : Hp) (ρ' : List Addr) : Prop := Ex B B' ∧ ∃ z, ρ' = ρ ++ z
theorem Le.refl (B : Hp) (ρ : List Addr) : Le B ρ B ρ := ⟨Ex.refl B, [], by simp⟩
theorem Le.trans {B B1 B2 : Hp} {ρ ρ1 ρ2 : List Addr} (a : Le B ρ B1 ρ1) (b : Le B1 ρ1 B2 ρ2) : Le B ρ B2 ρ2 := by
  obtain ⟨e, z, rfl⟩ := a
  obtain ⟨e', z', rfl⟩ := b
  exact ⟨e.trans e', z ++ z', by simp⟩
theorem Le.at {B B1 : Hp} {ρ ρ1 : List Addr} (a : Le B ρ B1 ρ1) {n : Nat} {x : Addr} (h : ρ[n]? = some x) : ρ1[n]? = some x := by
  obtain ⟨_, z, rfl⟩ := a
  have hl := (List.getElem?_eq_some_iff.mp h).1
  rw [List.getElem?_append_left hl]
  exact h
section
variable {K : PySem.W.Frag} {B B' : Hp} {ρ ρ' : List Addr}
mutual
theorem Rp.mono (l : Le B ρ B' ρ') : ∀ {d : D} {v : V}, Rp K B ρ d v → Rp K B' ρ' d v
  | _, _, .non => .non
  | _, _, .bl b => .bl b
  | _, _, .int i => .int i
  | _, _, .str s => .str s
  | _, _, .lst h r => .lst (l.1 _ _ h) (Rps.mono l r)
  | _, _, .scr h => .scr (ex_l l.1 h)
  | _, _, .tup h r z => .tup (ex_t l.1 h) (Rps.mono l r) (z.imp id fun q => l.1 _ _ q)
  | _, _, .dct h r => .dct (l.1 _ _ h) (Rpk.mono l r)
  | _, _, .dcT h r => .dcT (l.1 _ _ h) (Rpt.mono l r)
  | _, _, .ins c h r => .ins c (l.1 _ _ h) (Rpf.mono l r)
  | _, _, .fn c => .fn c
  | _, _, .ptr h => .ptr (l.at h)
  | _, _, .raw v => .raw v
theorem Rps.mono (l : Le B ρ B' ρ') : ∀ {ds : List D} {vs : List V}, Rps K B ρ ds vs → Rps K B' ρ' ds vs
  | _, _, .nil => .nil
  | _, _, .cons h t => .cons (Rp.mono l h) (Rps.mono l t)
theorem Rpk.mono (l : Le B ρ B' ρ') : ∀ {ds : List (Key × D)} {vs : List (Key × V)}, Rpk K B ρ ds vs → Rpk K B' ρ' ds vs
  | _, _, .nil => .nil
  | _, _, .cons h t => .cons (Rp.mono l h) (Rpk.mono l t)
theorem Rpt.mono (l : Le B ρ B' ρ') : ∀ {ds : List (List Key × D)} {vs : List (List Key × V)}, Rpt K B ρ ds vs → Rpt K B' ρ' ds vs
  | _, _, .nil => .nil
  | _, _, .cons h t => .cons (Rp.mono l h) (Rpt.mono l t)
theorem Rpf.mono (l : Le B ρ B' ρ') : ∀ {ds : List (Str × D)} {vs : List (Str × V)}, Rpf K B ρ ds vs → Rpf K B' ρ' ds vs
  | _, _, .nil => .nil
  | _, _, .cons h t => .cons (Rp.mono l h) (Rpf.mono l t)
end
/-- the same, pair by pair -/
abbrev PrD {κ : Type} (K : PySem.W.Frag) (B : Hp) (ρ : List Addr) : κ × D → κ × V → Prop := fun p q => p.1 = q.1 ∧ Rp K B ρ p.2 q.2
theorem Rps.len : ∀ {ds : List D} {vs : List V}, Rps K B ρ ds vs → ds.length = vs.length
  | _, _, .nil => rfl
  | _, _, .cons _ t => by rw [List.length_cons, List.length_cons, t.len]
theorem Rps.get : ∀ {ds : List D} {vs : List V} {i : Nat} {d : D}, Rps K B ρ ds vs → ds[i]? = some d → ∃ v, vs[i]? = some v ∧ Rp K B ρ d v
  | _, _, _, _, .nil, e => by simp at e
  | _, _, 0, _, .cons h _, e => by simp at e; subst e; exact ⟨_, rfl, h⟩
  | _, _, i + 1, d, .cons _ t, e => by
    obtain ⟨v, h1, h2⟩ := t.get (i := i) (d := d) (by simpa using e)
    exact ⟨v, by simpa using h1, h2⟩
theorem Rps.app : ∀ {ds es : List D} {vs us : List V}, Rps K B ρ ds vs → Rps K B ρ es us → Rps K B ρ (ds ++ es) (vs ++ us)
  | _, _, _, _, .nil, s => s
  | _, _, _, _, .cons h t, s => .cons h (t.app s)
theorem Rps.take : ∀ {ds : List D} {vs : List V} (n : Nat), Rps K B ρ ds vs → Rps K B ρ (ds.take n) (vs.take n)
  | _, _, 0, _ => by simp; exact .nil
  | _, _, _ + 1, .nil => by simp; exact .nil
  | _, _, n + 1, .cons h t => by simp; exact .cons h (t.take n)
theorem Rps.drop : ∀ {ds : List D} {vs : List V} (n : Nat), Rps K B ρ ds vs → Rps K B ρ (ds.drop n) (vs.drop n)
  | _, _, 0, r => by simpa using r
  | _, _, _ + 1, .nil => by simp; exact .nil
  | _, _, n + 1, .cons h t => by simp; exact t.drop n
theorem Rps.set : ∀ {ds : List D} {vs : List V} {d : D} {v : V} (n : Nat), Rps K B ρ ds vs → Rp K B ρ d v → Rps K B ρ (ds.set n d) (vs.set n v)
  | _, _, _, _, _, .nil, _ => .nil
  | _, _, _, _, 0, .cons _ t, h => .cons h t
  | _, _, _, _, n + 1, .cons g t, h => .cons g (t.set n h)
theorem Rps.snoc {ds : List D} {vs : List V} {d : D} {v : V} (r : Rps K B ρ ds vs) (h : Rp K B ρ d v) : Rps K B ρ (ds ++ [d]) (vs ++ [v]) := r.app (.cons h .nil)
theorem Rps.rev : ∀ {ds : List D} {vs : List V}, Rps K B ρ ds vs → Rps K B ρ ds.reverse vs.reverse
  | _, _, .nil => .nil
  | _, _, .cons h t => by
    rw [List.reverse_cons, List.reverse_cons]
    exact t.rev.snoc h
end

/-! ### the memory -/
/-- P: the table of the code objects of the def x -/
def TabAt (K : PySem.W.Frag) (x : Str) (P : Addr) : Prop := ∃ (f c : Addr) (o oc : Obj) (fd : FuncData) (us : Array Value), PySem.W.nsIn K mainGlobals x = some (some (.ref f)) ∧ K.lookup f = some o ∧ o.data = .func fd ∧ fd.code = .ref c ∧ K.lookup c = some oc ∧ oc.data = .fields us ∧ us[11]? = some (.ref P)
theorem TabAt.inj {K : PySem.W.Frag} {x : Str} {P Q : Addr} (a : TabAt K x P) (b : TabAt K x Q) : P = Q := by
  obtain ⟨f, c, o, oc, fd, us, h1, h2, h3, h4, h5, h6, h7⟩ := a
  obtain ⟨f', c', o', oc', fd', us', g1, g2, g3, g4, g5, g6, g7⟩ := b
  rw [h1] at g1; cases g1
  rw [h2] at g2; cases g2
  rw [h3] at g3; cases g3
  rw [h4] at g4; cases g4
  rw [h5] at g5; cases g5
  rw [h6] at g6; cases g6
  rw [h7] at g7; cases g7
  rfl
def ObR (K : PySem.W.Frag) (B : Hp) (ρ : List Addr) (H : Hp) (a : Addr) : Ob → Prop
  | .lst ds => ∃ vs, H a = some (.lst vs) ∧ Rps K B ρ ds vs
  | .dK kds => ∃ kvs, H a = some (.dK kvs) ∧ Rpk K B ρ kds kvs
  | .dT kds => ∃ kvs : List (List Key × V), H a = some (.dT kvs) ∧ Paired (fun (p : List Key × D) (q : List Key × V) => p.1 = q.1 ∧ Rp K B ρ p.2 q.2) kds kvs
  | .ins x fs => ∃ (C dx : Addr) (gs : List (Str × V)), PySem.W.nsIn K mainGlobals x = some (some (.ref C)) ∧ H a = some (.ins C dx gs) ∧ Paired (fun (p : Str × D) (q : Str × V) => p.1 = q.1 ∧ Rp K B ρ p.2 q.2) fs gs
  | .gone => ∃ o, H a = some o
  | .xd d gs => a = d ∧ H a = some (.xd gs)
  | .tab x q => TabAt K x a ∧ ∃ ps : Array Value, H a = some (.tbl ps) ∧ TriplesOk ps.toList ∧ ∀ (pos : Pos) (cv : Value), codeAmong pos ps.toList = some cv → ∃ c, cv = .ref c ∧ B c = some (LamX.CodeO c q)
theorem ObR.there {K : PySem.W.Frag} {B H : Hp} {ρ : List Addr} {a : Addr} {o : Ob} (r : ObR K B ρ H a o) : ∃ u, H a = some u := by
  cases o with
  | lst ds => obtain ⟨_, h, _⟩ := r; exact ⟨_, h⟩
  | dK ds => obtain ⟨_, h, _⟩ := r; exact ⟨_, h⟩
  | dT ds => obtain ⟨_, h, _⟩ := r; exact ⟨_, h⟩
  | ins C fs => obtain ⟨_, _, _, _, h, _⟩ := r; exact ⟨_, h⟩
  | gone => exact r
  | tab x q => obtain ⟨_, _, h, _⟩ := r; exact ⟨_, h⟩
  | xd d gs => obtain ⟨_, h⟩ := r; exact ⟨_, h⟩
theorem ObR.mono {K : PySem.W.Frag} {B B' H H' : Hp} {ρ ρ' : List Addr} {a : Addr} {o : Ob} (l : Le B ρ B' ρ') (e : ∀ u, H a = some u → H' a = some u) (r : ObR K B ρ H a o) : ObR K B' ρ' H' a o := by
  cases o with
  | lst ds => obtain ⟨vs, h, q⟩ := r; exact ⟨vs, e _ h, q.mono l⟩
  | dK ds => obtain ⟨vs, h, q⟩ := r; exact ⟨vs, e _ h, q.mono l⟩
  | dT ds => obtain ⟨vs, h, q⟩ := r; exact ⟨vs, e _ h, Paired.mapP q fun _ _ z => ⟨z.1, z.2.mono l⟩⟩
  | ins x fs => obtain ⟨C, dx, gs, hc, h, q⟩ := r; exact ⟨C, dx, gs, hc, e _ h, Paired.mapP q fun _ _ z => ⟨z.1, z.2.mono l⟩⟩
  | gone => obtain ⟨u, h⟩ := r; exact ⟨u, e _ h⟩
  | xd d gs => obtain ⟨h1, h⟩ := r; exact ⟨h1, e _ h⟩
  | tab x q => obtain ⟨t, ps, h, k, z⟩ := r; exact ⟨t, ps, e _ h, k, fun pos cv hc => let ⟨c, e1, e2⟩ := z pos cv hc; ⟨c, e1, l.1 _ _ e2⟩⟩
/-- a locked thing -/
def isFrz : HO → Bool
  | .frz _ _ => true
  | _ => false
structure MR (K : PySem.W.Frag) (F B : Hp) (ρ : List Addr) (M : Mem) (H : Hp) : Prop where
  ex : Ex B H
  fr : Ex F H
  dj : ∀ a o, F a = some o → B a = none ∧ ∀ n : Nat, ρ[n]? = some a → isFrz o = true ∧ M[n]? = some .gone
  len : ρ.length = M.length
  nd : ρ.Nodup
  ob : ∀ (n : Nat) (o : Ob), M[n]? = some o → ∃ a, ρ[n]? = some a ∧ (o ≠ .gone → B a = none) ∧ ObR K B ρ H a o
  nt : ∀ a ys, F a ≠ some (.tup ys)
section
variable {K : PySem.W.Frag} {F B H : Hp} {ρ : List Addr} {M : Mem}
theorem MR.there (m : MR K F B ρ M H) {n : Nat} {a : Addr} (h : ρ[n]? = some a) : ∃ u, H a = some u := by
  have hl := (List.getElem?_eq_some_iff.mp h).1
  have hm : M[n]? = some (M[n]'(by rw [← m.len]; exact hl)) := List.getElem?_eq_getElem _
  obtain ⟨b, hb, _, r⟩ := m.ob n _ hm
  rw [h] at hb
  cases hb
  exact r.there
theorem MR.dj' (m : MR K F B ρ M H) {a : Addr} {o : HO} (e : F a = some o) (h : isFrz o = false) : B a = none ∧ a ∉ ρ := ⟨(m.dj a o e).1, fun z => by
  obtain ⟨n, hn⟩ := List.getElem?_of_mem z
  have := ((m.dj a o e).2 n hn).1
  rw [h] at this
  cases this⟩
theorem MR.dj_set (m : MR K F B ρ M H) {n : Nat} {old ob : Ob} (hm : M[n]? = some old) (hg : old ≠ .gone) : ∀ a o, F a = some o → B a = none ∧ ∀ k : Nat, ρ[k]? = some a → isFrz o = true ∧ (M.set n ob)[k]? = some .gone := fun a o e => ⟨(m.dj a o e).1, fun k hk => by
  obtain ⟨h1, h2⟩ := (m.dj a o e).2 k hk
  refine ⟨h1, ?_⟩
  by_cases q : n = k
  · subst q
    rw [hm] at h2
    exact absurd (Option.some.inj h2) hg
  · rw [List.getElem?_set_ne q]
    exact h2⟩
theorem MR.nef (m : MR K F B ρ M H) {n : Nat} {a b : Addr} {old : Ob} {u : HO} (ha : ρ[n]? = some a) (hm : M[n]? = some old) (hg : old ≠ .gone) (e : F b = some u) : b ≠ a := fun z => by
  have q := ((m.dj b u e).2 n (by rw [z]; exact ha)).2
  rw [hm] at q
  exact hg (Option.some.inj q)
theorem MR.notin (m : MR K F B ρ M H) {p : Addr} (hp : H p = none) : p ∉ ρ := fun hm => by
  obtain ⟨n, h⟩ := List.getElem?_of_mem hm
  obtain ⟨u, e⟩ := m.there h
  rw [hp] at e
  cases e
/-- a new thing that stays as it is -/
theorem MR.new (m : MR K F B ρ M H) {p : Addr} {o : HO} (hp : H p = none) : MR K F (upd B p o) ρ M (upd H p o) ∧ Le B ρ (upd B p o) ρ := by
  have hb : B p = none := fresh_back m.ex hp
  have l : Le B ρ (upd B p o) ρ := ⟨Ex.new hb, [], by simp⟩
  refine ⟨⟨fun a u e => ?_, fun a u e => ?_, fun a u e => ?_, m.len, m.nd, fun n ob h => ?_, m.nt⟩, l⟩
  · by_cases q : a = p
    · subst q
      rw [upd_same] at e ⊢
      exact e
    · rw [upd_ne q] at e ⊢
      exact m.ex a u e
  · rw [upd_ne (ne_of_none (m.fr a u e) hp)]
    exact m.fr a u e
  · rw [upd_ne (ne_of_none (m.fr a u e) hp)]
    exact m.dj a u e
  · obtain ⟨a, ha, hB, r⟩ := m.ob n ob h
    obtain ⟨u, hu⟩ := r.there
    have na : a ≠ p := ne_of_none hu hp
    exact ⟨a, ha, fun z => by rw [upd_ne na]; exact hB z, r.mono l fun w q => by rw [upd_ne na]; exact q⟩
/-- a heap that has more -/
theorem MR.more (m : MR K F B ρ M H) {H' : Hp} (e : Ex H H') : MR K F B ρ M H' :=
  ⟨m.ex.trans e, m.fr.trans e, m.dj, m.len, m.nd, fun n ob h => by
    obtain ⟨a, ha, hB, r⟩ := m.ob n ob h
    exact ⟨a, ha, hB, r.mono (Le.refl _ _) fun w q => e a w q⟩, m.nt⟩
/-- a new thing that may change -/
theorem MR.alloc (m : MR K F B ρ M H) {p : Addr} {o : HO} {ob : Ob} (hp : H p = none) (r : ObR K B (ρ ++ [p]) (upd H p o) p ob) : MR K F B (ρ ++ [p]) (M ++ [ob]) (upd H p o) ∧ Le B ρ B (ρ ++ [p]) := by
  have hb : B p = none := fresh_back m.ex hp
  have l : Le B ρ B (ρ ++ [p]) := ⟨Ex.refl B, [p], rfl⟩
  refine ⟨⟨fun a u e => ?_, fun a u e => ?_, fun a u e => ?_, by simp [m.len], ?_, fun n o' h => ?_, m.nt⟩, l⟩
  · rw [upd_ne (ne_of_none e hb)]
    exact m.ex a u e
  · rw [upd_ne (ne_of_none (m.fr a u e) hp)]
    exact m.fr a u e
  · refine ⟨(m.dj a u e).1, fun k hk => ?_⟩
    by_cases hn : k < ρ.length
    · rw [List.getElem?_append_left hn] at hk
      obtain ⟨h1, h2⟩ := (m.dj a u e).2 k hk
      exact ⟨h1, by rw [List.getElem?_append_left (by rw [← m.len]; exact hn)]; exact h2⟩
    · have hz : a = p := by
        have hl := (List.getElem?_eq_some_iff.mp hk).1
        rw [List.getElem?_append_right (by omega)] at hk
        have e0 : k - ρ.length = 0 := by simp at hl; omega
        rw [e0] at hk
        simpa using hk.symm
      exact absurd hz (ne_of_none (m.fr a u e) hp)
  · rw [List.nodup_append]
    refine ⟨m.nd, by simp, fun a ha b hb' => ?_⟩
    simp at hb'
    subst hb'
    exact fun e => m.notin hp (e ▸ ha)
  · by_cases hn : n < M.length
    · rw [List.getElem?_append_left hn] at h
      obtain ⟨a, ha, hB, q⟩ := m.ob n o' h
      obtain ⟨u, hu⟩ := q.there
      have na : a ≠ p := ne_of_none hu hp
      exact ⟨a, l.at ha, hB, q.mono l fun w z => by rw [upd_ne na]; exact z⟩
    · rw [List.getElem?_append_right (by omega)] at h
      have hz : n - M.length = 0 := by
        have := (List.getElem?_eq_some_iff.mp h).1
        simp at this
        omega
      rw [hz] at h
      simp at h
      subst h
      have en : n = ρ.length := by rw [m.len]; omega
      exact ⟨p, by rw [en]; simp, fun _ => hb, r⟩
/-- a thing changed -/
theorem MR.put (m : MR K F B ρ M H) {n : Nat} {a : Addr} {o : HO} {ob old : Ob} (ha : ρ[n]? = some a) (ho : M[n]? = some old) (hg : old ≠ .gone) (r : ObR K B ρ (upd H a o) a ob) : MR K F B ρ (M.set n ob) (upd H a o) := by
  have hB : B a = none := by
    obtain ⟨b, hb, q, _⟩ := m.ob n old ho
    rw [ha] at hb
    cases hb
    exact q hg
  refine ⟨fun b u e => ?_, fun b u e => ?_, m.dj_set ho hg, by simp [m.len], m.nd, fun k o' h => ?_, m.nt⟩
  · rw [upd_ne (ne_of_none e hB)]
    exact m.ex b u e
  · have nb : b ≠ a := m.nef ha ho hg e
    rw [upd_ne nb]
    exact m.fr b u e
  · by_cases hk : k = n
    · subst hk
      have hl := (List.getElem?_eq_some_iff.mp ho).1
      rw [List.getElem?_set_self hl] at h
      cases h
      exact ⟨a, ha, fun _ => hB, r⟩
    · rw [List.getElem?_set_ne (Ne.symm hk)] at h
      obtain ⟨b, hb, hq, q⟩ := m.ob k o' h
      have nb : b ≠ a := fun e => by
        subst e
        exact hk (nodup_ix' m.nd hb ha)
      exact ⟨b, hb, hq, q.mono (Le.refl _ _) fun w z => by rw [upd_ne nb]; exact z⟩
where
  nodup_ix' {N : List Addr} (hN : N.Nodup) {i j : Nat} {x : Addr} (a : N[i]? = some x) (b : N[j]? = some x) : i = j := by
    obtain ⟨h1, e1⟩ := List.getElem?_eq_some_iff.mp a
    obtain ⟨h2, e2⟩ := List.getElem?_eq_some_iff.mp b
    exact (List.getElem_inj hN).mp (e1.trans e2.symm)
end

/-- a thing that changes no more -/
theorem MR.freeze {K : PySem.W.Frag} {F B H : Hp} {ρ : List Addr} {M : Mem} (m : MR K F B ρ M H) {n : Nat} {a : Addr} {o : HO} {ob : Ob} (ha : ρ[n]? = some a) (hm : M[n]? = some ob) (hg : ob ≠ .gone) (hH : H a = some o) : MR K F (upd B a o) ρ (M.set n .gone) H ∧ Le B ρ (upd B a o) ρ := by
  have hB : B a = none := by
    obtain ⟨b, hb, q, _⟩ := m.ob n ob hm
    rw [ha] at hb
    cases hb
    exact q hg
  have l : Le B ρ (upd B a o) ρ := ⟨Ex.new hB, [], by simp⟩
  refine ⟨⟨fun b u e => ?_, m.fr, fun b u e => ?_, by simp [m.len], m.nd, fun k o' h => ?_, m.nt⟩, l⟩
  · by_cases q : b = a
    · subst q
      rw [upd_same] at e
      cases e
      exact hH
    · rw [upd_ne q] at e
      exact m.ex b u e
  · have nb : b ≠ a := m.nef ha hm hg e
    rw [upd_ne nb]
    exact m.dj_set hm hg b u e
  · by_cases hk : k = n
    · subst hk
      have hl := (List.getElem?_eq_some_iff.mp hm).1
      rw [List.getElem?_set_self hl] at h
      cases h
      exact ⟨a, ha, fun z => absurd rfl z, o, hH⟩
    · rw [List.getElem?_set_ne (Ne.symm hk)] at h
      obtain ⟨b, hb, hq, q⟩ := m.ob k o' h
      have nb : b ≠ a := fun e => by
        subst e
        exact hk (MR.put.nodup_ix' m.nd hb ha)
      exact ⟨b, hb, fun z => by rw [upd_ne nb]; exact hq z, q.mono l fun w z => z⟩
/-- what is told of a thing, otherwise -/
theorem MR.retell {K : PySem.W.Frag} {F B H : Hp} {ρ : List Addr} {M : Mem} (m : MR K F B ρ M H) {n : Nat} {a : Addr} {ob old : Ob} (ha : ρ[n]? = some a) (hm : M[n]? = some old) (hg : old ≠ .gone) (r : ObR K B ρ H a ob) : MR K F B ρ (M.set n ob) H := by
  refine ⟨m.ex, m.fr, m.dj_set hm hg, by simp [m.len], m.nd, fun k o' h => ?_, m.nt⟩
  by_cases hk : k = n
  · subst hk
    have hl := (List.getElem?_eq_some_iff.mp hm).1
    rw [List.getElem?_set_self hl] at h
    cases h
    obtain ⟨b, hb, q, _⟩ := m.ob k old hm
    rw [ha] at hb
    cases hb
    exact ⟨a, ha, fun _ => q hg, r⟩
  · rw [List.getElem?_set_ne (Ne.symm hk)] at h
    exact m.ob k o' h
/-- an error's own dict, followed from now on -/
theorem MR.track {K : PySem.W.Frag} {F B H : Hp} {ρ : List Addr} {M : Mem} {dd : Addr} {gs : List (Str × V)} (m : MR K F B ρ M H) (hd : H dd = some (.xd gs)) (hF : F dd = none) (hB : B dd = none) (hρ : dd ∉ ρ) : MR K F B (ρ ++ [dd]) (M ++ [.xd dd gs]) H ∧ Le B ρ B (ρ ++ [dd]) := by
  have l : Le B ρ B (ρ ++ [dd]) := ⟨Ex.refl B, [dd], rfl⟩
  refine ⟨⟨m.ex, m.fr, fun a o e => ⟨(m.dj a o e).1, fun k hk => ?_⟩, by simp [m.len], ?_, fun n ob h => ?_, m.nt⟩, l⟩
  · have ne : a ≠ dd := fun z => by rw [z, hF] at e; cases e
    by_cases hl : k < ρ.length
    · rw [List.getElem?_append_left hl] at hk
      obtain ⟨h1, h2⟩ := (m.dj a o e).2 k hk
      exact ⟨h1, by rw [List.getElem?_append_left (by rw [← m.len]; exact hl)]; exact h2⟩
    · have h0 := List.mem_of_getElem? hk
      rw [List.getElem?_append_right (by omega)] at hk
      have := List.mem_of_getElem? hk
      simp at this
      exact absurd this ne
  · rw [List.nodup_append]
    exact ⟨m.nd, by simp, fun a ha b hb e => hρ (by simp at hb; rw [← hb, ← e]; exact ha)⟩
  · by_cases hl : n < M.length
    · rw [List.getElem?_append_left hl] at h
      obtain ⟨a, ha, q, r⟩ := m.ob n ob h
      exact ⟨a, l.at ha, q, r.mono l fun _ z => z⟩
    · rw [List.getElem?_append_right (by omega)] at h
      have hz : n - M.length = 0 := by
        have := (List.getElem?_eq_some_iff.mp h).1
        simp at this; omega
      rw [hz] at h
      simp at h
      subst h
      have en : n = ρ.length := by rw [m.len]; omega
      exact ⟨dd, by rw [en]; simp, fun _ => hB, rfl, hd⟩
/-- freeze it -/
def frz (M : Mem) : D → Option (D × Mem)
  | .ptr n => match M[n]? with
    | some (.lst ds) => some (.lst ds, M.set n .gone)
    | some (.dK k) => some (.dct k, M.set n .gone)
    | some (.dT k) => some (.dcT k, M.set n .gone)
    | some (.ins x fs) => some (.ins x fs, M.set n .gone)
    | _ => none
  | d => some (d, M)
/-- what holds behind some locking -/
inductive Lks (R : Hp → Prop) : Hp → Prop
  | here {H : Hp} : R H → Lks R H
  | lock {H : Hp} {d : Addr} {u : HO} : H d = some u → Mut (some u) → (∀ od, Lks R (upd H d (.frz od u))) → Lks R H
theorem Lks.bind {R R' : Hp → Prop} {H : Hp} (h : Lks R H) (k : ∀ H', R H' → Lks R' H') : Lks R' H := by
  induction h with
  | here r => exact k _ r
  | lock e m _ ih => exact .lock e m ih
theorem pe_locks {X : Cx} {e : Expr} {t : TE} (h : PE X e t) : PE X e (fun σ H Q => t σ H fun v H1 => Lks (Q v) H1) := by
  refine ⟨fun pins s σ H Q I hw => ?_⟩
  refine thn (h.run pins s σ H _ I hw) fun v s1 ⟨x, H1, I1, r, q⟩ => ?_
  induction q with
  | here q => exact ⟨x, _, I1, r, q⟩
  | lock e m _ ih =>
    obtain ⟨od, I2⟩ := I1.lock e m
    exact ih od I2
theorem upd_upd {H : Hp} {p : Addr} {o o' : HO} : upd (upd H p o) p o' = upd H p o' := by
  funext q
  by_cases h : q = p
  · subst h; rw [upd_same, upd_same]
  · rw [upd_ne h, upd_ne h, upd_ne h]
/-- a dict that changes no more is locked -/
theorem MR.lock {K : PySem.W.Frag} {F B H : Hp} {ρ : List Addr} {M : Mem} (m : MR K F B ρ M H) {n : Nat} {a : Addr} {o o' : HO} {ob : Ob} (ha : ρ[n]? = some a) (hm : M[n]? = some ob) (hg : ob ≠ .gone) (hH : H a = some o) : MR K F (upd B a o') ρ (M.set n .gone) (upd H a o') ∧ Le B ρ (upd B a o') ρ := by
  have m1 : MR K F B ρ (M.set n .gone) (upd H a o') := m.put ha hm hg ⟨o', upd_same⟩
  have hB : B a = none := by
    obtain ⟨b, hb, q, _⟩ := m.ob n ob hm
    rw [ha] at hb
    cases hb
    exact q hg
  have l : Le B ρ (upd B a o') ρ := ⟨Ex.new hB, [], by simp⟩
  refine ⟨⟨fun b u e => ?_, m1.fr, fun b u e => ?_, m1.len, m1.nd, fun k ob' h => ?_, m1.nt⟩, l⟩
  · by_cases q : b = a
    · subst q
      rw [upd_same] at e ⊢
      exact e
    · rw [upd_ne q] at e
      exact m1.ex b u e
  · have nb : b ≠ a := m.nef ha hm hg e
    rw [upd_ne nb]
    exact m1.dj b u e
  · by_cases hk : k = n
    · subst hk
      have hl := (List.getElem?_eq_some_iff.mp hm).1
      rw [List.getElem?_set_self hl] at h
      cases h
      exact ⟨a, ha, fun z => absurd rfl z, o', upd_same⟩
    · obtain ⟨b, hb, hq, q⟩ := m1.ob k ob' h
      have nb : b ≠ a := fun e => by
        subst e
        exact hk (MR.put.nodup_ix' m.nd hb ha)
      exact ⟨b, hb, fun z => by rw [upd_ne nb]; exact hq z, q.mono l fun w z => z⟩
/-! ### the slots -/
structure ER (K : PySem.W.Frag) (B : Hp) (ρ : List Addr) (η : Dv) (σ : L2.St) : Prop where
  len : η.length = σ.length
  at' : ∀ (i : Nat) (d : D), η[i]? = some (some d) → ∃ v, σ[i]? = some (some v) ∧ Rp K B ρ d v
section
variable {K : PySem.W.Frag} {B B' : Hp} {ρ ρ' : List Addr} {η : Dv} {σ : L2.St}
theorem ER.mono (l : Le B ρ B' ρ') (e : ER K B ρ η σ) : ER K B' ρ' η σ := ⟨e.len, fun i d h => let ⟨v, h1, h2⟩ := e.at' i d h; ⟨v, h1, h2.mono l⟩⟩
theorem ER.set (e : ER K B ρ η σ) (i : Nat) {d : D} {v : V} (r : Rp K B ρ d v) : ER K B ρ (η.set i (some d)) (σ.set i (some v)) := by
  refine ⟨by simp [e.len], fun j c h => ?_⟩
  by_cases hj : j = i
  · subst hj
    have hl : j < η.length := by
      have := (List.getElem?_eq_some_iff.mp h).1
      simpa using this
    rw [List.getElem?_set_self hl] at h
    cases h
    exact ⟨v, List.getElem?_set_self (by rw [← e.len]; exact hl), r⟩
  · rw [List.getElem?_set_ne (Ne.symm hj)] at h
    obtain ⟨u, h1, h2⟩ := e.at' j c h
    exact ⟨u, by rw [List.getElem?_set_ne (Ne.symm hj)]; exact h1, h2⟩
/-- slots forgotten -/
def wipeD (η : Dv) : List Nat → Dv
  | [] => η
  | v :: vs => (wipeD η vs).set v none
theorem ER.wipe (e : ER K B ρ η σ) : ∀ vs : List Nat, ER K B ρ (wipeD η vs) (L2.wipe σ vs)
  | [] => e
  | v :: vs => by
    have ih := e.wipe vs
    refine ⟨by show ((wipeD η vs).set v none).length = ((L2.wipe σ vs).set v none).length; simp [ih.len], fun j c h => ?_⟩
    have h : ((wipeD η vs).set v none)[j]? = some (some c) := h
    show ∃ u, ((L2.wipe σ vs).set v none)[j]? = some (some u) ∧ _
    by_cases hj : j = v
    · subst hj
      have hl : j < (wipeD η vs).length := by
        have := (List.getElem?_eq_some_iff.mp h).1
        simpa using this
      rw [List.getElem?_set_self hl] at h
      cases h
    · rw [List.getElem?_set_ne (Ne.symm hj)] at h
      obtain ⟨u, h1, h2⟩ := ih.at' j c h
      exact ⟨u, by rw [List.getElem?_set_ne (Ne.symm hj)]; exact h1, h2⟩
end
/-- only the slots ts may have changed -/
def Off (ts : List Nat) (σ σ' : L2.St) : Prop := σ'.length = σ.length ∧ ∀ j, j ∉ ts → σ'[j]? = σ[j]?
theorem Off.refl (ts : List Nat) (σ : L2.St) : Off ts σ σ := ⟨rfl, fun _ _ => rfl⟩
theorem Off.trans {ts us : List Nat} {σ σ1 σ2 : L2.St} (a : Off ts σ σ1) (b : Off us σ1 σ2) : Off (ts ++ us) σ σ2 :=
  ⟨b.1.trans a.1, fun j h => (b.2 j fun z => h (List.mem_append_right _ z)).trans (a.2 j fun z => h (List.mem_append_left _ z))⟩
theorem Off.set (i : Nat) (v : Option V) (σ : L2.St) : Off [i] σ (σ.set i v) := ⟨by simp, fun j h => List.getElem?_set_ne (fun e => h (by simp [e]))⟩
theorem wipe_off : ∀ {ts vs : List Nat} {σ σ' : L2.St}, Off ts σ σ' → (∀ t ∈ ts, t ∈ vs) → L2.wipe σ' vs = L2.wipe σ vs := by
  intro ts vs σ σ' h hs
  apply List.ext_getElem?
  intro j
  by_cases hj : j ∈ vs
  · have gen : ∀ (τ : L2.St) (ws : List Nat), j ∈ ws → (L2.wipe τ ws)[j]? = if j < τ.length then some none else none := by
      intro τ ws
      induction ws with
      | nil => intro z; cases z
      | cons w ws ih =>
        intro z
        show ((L2.wipe τ ws).set w none)[j]? = _
        by_cases e : w = j
        · subst e
          by_cases hl : w < τ.length
          · rw [if_pos hl, List.getElem?_set_self (by rw [L2.wipe_length]; exact hl)]
          · rw [if_neg hl, List.getElem?_eq_none]
            rw [List.length_set, L2.wipe_length]; omega
        · rw [List.getElem?_set_ne e]
          exact ih (by rcases List.mem_cons.mp z with q | q; exact absurd q.symm e; exact q)
    rw [gen _ _ hj, gen _ _ hj, h.1]
  · rw [L2.wipe_out hj, L2.wipe_out hj]
    exact h.2 j fun z => hj (hs j z)

/-! ### what is wanted of what comes -/
/-- an error as it stands: its class, its own dict -/
def XR (K : PySem.W.Frag) (mg : Str → Option Value) (F B : Hp) (ρ : List Addr) (H : Hp) (e : Exc) (c : Value) (dx : Option Addr) : Prop :=
  mg e.cls = some c ∧ ∃ (d : Addr) (gs : List (Str × V)), dx = some d ∧ H d = some (.xd gs) ∧ Paired (fun (p : Str × D) (q : Str × V) => p.1 = q.1 ∧ Rp K B ρ p.2 q.2) e.fs gs ∧ F d = none ∧ B d = none ∧ d ∉ ρ
theorem XR.less {K : PySem.W.Frag} {mg : Str → Option Value} {F B H : Hp} {ρ : List Addr} {e : Exc} {c : Value} {dx : Option Addr} {p : Addr} {u : HO} (x : XR K mg (upd F p u) B ρ H e c dx) : XR K mg F B ρ H e c dx := by
  obtain ⟨h, d, gs, h1, h2, h3, h4, h5⟩ := x
  refine ⟨h, d, gs, h1, h2, h3, ?_, h5⟩
  by_cases q : d = p
  · rw [q, upd_same] at h4; cases h4
  · rw [upd_ne q] at h4; exact h4
def Wp {α : Type} (K : PySem.W.Frag) (mg : Str → Option Value) (F B : Hp) (ρ : List Addr) (W : XK) (P : α → Hp → List Addr → Hp → Prop) : R α → Prop
  | .ok a M' => ∀ B' ρ' H', Le B ρ B' ρ' → MR K F B' ρ' M' H' → P a B' ρ' H'
  | .ex e M' => ∀ c dx B' ρ' H', Le B ρ B' ρ' → MR K F B' ρ' M' H' → XR K mg F B' ρ' H' e c dx → W c dx H'
  | .no => False
section
variable {α β : Type} {K : PySem.W.Frag} {mg : Str → Option Value} {F B B' : Hp} {ρ ρ' : List Addr} {W U : XK} {P : α → Hp → List Addr → Hp → Prop} {P' : β → Hp → List Addr → Hp → Prop}
theorem Wp.mono {r : R α} (l : Le B ρ B' ρ') (h : Wp K mg F B ρ W P r) : Wp K mg F B' ρ' W P r := by
  cases r with
  | ok a M => exact fun B2 ρ2 H2 l2 m => h B2 ρ2 H2 (l.trans l2) m
  | ex e M => exact fun c dx B2 ρ2 H2 l2 m x => h c dx B2 ρ2 H2 (l.trans l2) m x
  | no => exact h
theorem Wp.bind {r : R β} {k : β → Mem → R α} (h : Wp K mg F B ρ W P (r.bind k)) (hk : ∀ b M' B' ρ' H', Le B ρ B' ρ' → MR K F B' ρ' M' H' → Wp K mg F B' ρ' W P (k b M') → P' b B' ρ' H') (hU : ∀ c d H, W c d H → U c d H := by first | exact fun _ _ _ h => h | exact fun _ _ _ h => h _ | exact fun _ _ _ h _ => h) : Wp K mg F B ρ U P' r := by
  cases r with
  | ok a M => exact fun B2 ρ2 H2 l2 m => hk a M B2 ρ2 H2 l2 m (Wp.mono l2 h)
  | ex e M => exact fun c dx B2 ρ2 H2 l2 m x => hU _ _ _ (h c dx B2 ρ2 H2 l2 m x)
  | no => exact h
theorem Wp.imp {P2 : α → Hp → List Addr → Hp → Prop} {r : R α} (h : Wp K mg F B ρ W P r) (hp : ∀ a B' ρ' H', Le B ρ B' ρ' → P a B' ρ' H' → P2 a B' ρ' H') : Wp K mg F B ρ W P2 r := by
  cases r with
  | ok a M => exact fun B2 ρ2 H2 l2 m => hp a B2 ρ2 H2 l2 (h B2 ρ2 H2 l2 m)
  | ex e M => exact h
  | no => exact h
theorem Wp.of {o : Option α} {M : Mem} (h : Wp K mg F B ρ W P (R.of o M)) : ∃ a, o = some a ∧ Wp K mg F B ρ W P (.ok a M) := by
  cases o with
  | none => exact h.elim
  | some a => exact ⟨a, rfl, h⟩
theorem Wp.ret {a : α} {M : Mem} {H : Hp} (h : Wp K mg F B ρ W P (.ok a M)) (m : MR K F B ρ M H) : P a B ρ H := h B ρ H (Le.refl _ _) m
end

/-- a wish with the slots, at these; at any -/
abbrev wAt (W : WX) (σ : L2.St) : XK := fun c d H => W c d σ H
abbrev wAll (W : WX) : XK := fun c d H => ∀ σ, W c d σ H
abbrev XE := Dv → Mem → R D
abbrev XT := Dv → Mem → R Bool
abbrev XA := Dv → Mem → R (List D)
/-- how a statement ends -/
inductive Fl where
  | nx (η : Dv) | rt (d : D) | bk (η : Dv) | ct (η : Dv)
abbrev XS := Dv → Mem → R Fl
abbrev XG := D → Dv → Mem → R Dv
abbrev XI := Dv → Mem → R (List D)

section
variable (K : PySem.W.Frag) (mg : Str → Option Value) (W : WX)
def tE (f : XE) : TE := fun σ H Q => ∃ η F B ρ M, ER K B ρ η σ ∧ MR K F B ρ M H ∧ Wp K mg F B ρ (wAt W σ) (fun d B' ρ' H' => ∀ v, Rp K B' ρ' d v → Q v H') (f η M)
def tT (f : XT) : TT := fun σ H Q => ∃ η F B ρ M, ER K B ρ η σ ∧ MR K F B ρ M H ∧ Wp K mg F B ρ (wAt W σ) (fun b _ _ H' => Q b H') (f η M)
def tA (f : XA) : TA := fun σ H Q => ∃ η F B ρ M, ER K B ρ η σ ∧ MR K F B ρ M H ∧ Wp K mg F B ρ (wAt W σ) (fun ds B' ρ' H' => ∀ vs, Rps K B' ρ' ds vs → Q vs H') (f η M)
def FlP (E : Ends) : Fl → Hp → List Addr → Hp → Prop
  | .nx η, B, ρ, H => ∀ σ, ER K B ρ η σ → E.nx σ H
  | .bk η, B, ρ, H => ∀ σ, ER K B ρ η σ → E.bk σ H
  | .ct η, B, ρ, H => ∀ σ, ER K B ρ η σ → E.ct σ H
  | .rt d, B, ρ, H => ∀ v, Rp K B ρ d v → E.rt v H
def tS (f : XS) : TS := fun E σ H => ∃ η F B ρ M, ER K B ρ η σ ∧ MR K F B ρ M H ∧ Wp K mg F B ρ (wAll W) (FlP K E) (f η M)
def tG (ts : List Nat) (g : XG) : TG := fun v σ H Q => ∃ d η F B ρ M, Rp K B ρ d v ∧ ER K B ρ η σ ∧ MR K F B ρ M H ∧ Wp K mg F B ρ (wAll W) (fun η' B' ρ' H' => ∀ σ', ER K B' ρ' η' σ' → Off ts σ σ' → Q σ' H') (g d η M)
def tGs (ts : List Nat) (g : List D → Dv → Mem → R Dv) : TGs := fun vs σ H Q => ∃ ds η F B ρ M, Rps K B ρ ds vs ∧ ER K B ρ η σ ∧ MR K F B ρ M H ∧ Wp K mg F B ρ (wAll W) (fun η' B' ρ' H' => ∀ σ', ER K B' ρ' η' σ' → Off ts σ σ' → Q σ' H') (g ds η M)
/-- a walk gives just these, as long as what is known stays -/
structure WalkD (J : It) (B : Hp) (ρ : List Addr) (ds : List D) : Prop where
  w : ∃ (G : Hp → Prop) (Y : Nat → Hp → V → Hp → Prop), Walk J ds.length G Y ∧ (∀ H, Ex B H → G H) ∧
    ∀ (i : Nat) (d : D), ds[i]? = some d → ∀ F B1 ρ1 M H x H2, Le B ρ B1 ρ1 → MR K F B1 ρ1 M H → Y i H x H2 → ∃ B2, Le B1 ρ1 B2 ρ1 ∧ MR K F B2 ρ1 M H2 ∧ Rp K B2 ρ1 d x ∧ Ex H H2
def tI (f : XI) : TI := fun σ H Z => ∃ η F B ρ M, ER K B ρ η σ ∧ MR K F B ρ M H ∧ Wp K mg F B ρ (wAt W σ) (fun ds B' ρ' H' => ∀ J, WalkD K J B' ρ' ds → Z J H') (f η M)
end
section
variable (X : Cx) (W : WX)
/-- THE JUDGEMENTS: a text of the program does what the plain function says -/
def DE (e : Expr) (f : XE) : Prop := PE X e (tE X.K X.mg W f)
def DT (e : Expr) (f : XT) : Prop := PT X e (tT X.K X.mg W f)
def DW (e : Expr) (f : XT) : Prop := PW X e (tT X.K X.mg W f)
def DA (es : List Expr) (f : XA) : Prop := PA X es (tA X.K X.mg W f)
def DS (st : Stmt) (f : XS) : Prop := PS X st (tS X.K X.mg W f)
def DSs (sts : List Stmt) (f : XS) : Prop := PSs X sts (tS X.K X.mg W f)
def DG (tg : Expr) (ts : List Nat) (g : XG) : Prop := PG X tg (tG X.K X.mg W ts g)
def DGs (tgs : List Expr) (ts : List Nat) (g : List D → Dv → Mem → R Dv) : Prop := PGs X tgs (tGs X.K X.mg W ts g)
def DI (tg iter : Expr) (f : XI) : Prop := PI X tg iter (tI X.K X.mg W f)
def DTs (ifs : List Expr) (f : XT) : Prop := PTs X ifs (tT X.K X.mg W f)
end
section
variable {X : Cx}
theorem PE.imp {e : Expr} {t t' : TE} (h : PE X e t) (i : ∀ σ H Q, t' σ H Q → t σ H Q) : PE X e t' := ⟨fun pins s σ H Q I q => h.run pins s σ H Q I (i σ H Q q)⟩
theorem PT.imp {e : Expr} {t t' : TT} (h : PT X e t) (i : ∀ σ H Q, t' σ H Q → t σ H Q) : PT X e t' := ⟨fun pins s σ H Q I q => h.run pins s σ H Q I (i σ H Q q)⟩
theorem PW.imp {e : Expr} {t t' : TT} (h : PW X e t) (i : ∀ σ H Q, t' σ H Q → t σ H Q) : PW X e t' := ⟨fun wh pins s σ H Q I q => h.run wh pins s σ H Q I (i σ H Q q)⟩
theorem PA.imp {es : List Expr} {t t' : TA} (h : PA X es t) (i : ∀ σ H Q, t' σ H Q → t σ H Q) : PA X es t' := ⟨fun pos pins s σ H Q I q => h.run pos pins s σ H Q I (i σ H Q q)⟩
theorem PS.imp {st : Stmt} {t t' : TS} (h : PS X st t) (i : ∀ E σ H, t' E σ H → t E σ H) : PS X st t' := ⟨fun pins s σ H E I q => h.run pins s σ H E I (i E σ H q)⟩
theorem PSs.imp {st : List Stmt} {t t' : TS} (h : PSs X st t) (i : ∀ E σ H, t' E σ H → t E σ H) : PSs X st t' := ⟨fun pins s σ H E I q => h.run pins s σ H E I (i E σ H q)⟩
theorem PG.imp {tg : Expr} {t t' : TG} (h : PG X tg t) (i : ∀ v σ H Q, t' v σ H Q → t v σ H Q) : PG X tg t' := ⟨fun pins s σ H v u Q I r q => h.run pins s σ H v u Q I r (i v σ H Q q)⟩
theorem PGs.imp {tg : List Expr} {t t' : TGs} (h : PGs X tg t) (i : ∀ v σ H Q, t' v σ H Q → t v σ H Q) : PGs X tg t' := ⟨fun pins s σ H v u Q I r q => h.run pins s σ H v u Q I r (i v σ H Q q)⟩
theorem PI.imp {tg it : Expr} {t t' : TI} (h : PI X tg it t) (i : ∀ σ H Q, t' σ H Q → t σ H Q) : PI X tg it t' := ⟨fun pins s σ H Q I q => h.run pins s σ H Q I (i σ H Q q)⟩
theorem PTs.imp {e : List Expr} {t t' : TT} (h : PTs X e t) (i : ∀ σ H Q, t' σ H Q → t σ H Q) : PTs X e t' := ⟨fun pins s σ H Q I q => h.run pins s σ H Q I (i σ H Q q)⟩
end
end Dn

namespace Dn
open PySem L2 Evl
section
variable {X : Cx} {W : WX}
/-! ### names, constants -/
def xVar (i : Nat) : XE := fun η M => match η[i]? with
  | some (some d) => .ok d M
  | _ => .no
def xC (d : D) : XE := fun _ M => .ok d M
theorem sE {e : Expr} {t : TE} {f : XE} (h : PE X e t) (i : ∀ σ H Q η F B ρ M, ER X.K B ρ η σ → MR X.K F B ρ M H → Wp X.K X.mg F B ρ (wAt W σ) (fun d B' ρ' H' => ∀ v, Rp X.K B' ρ' d v → Q v H') (f η M) → t σ H Q) : DE X W e f :=
  PE.imp h fun σ H Q ⟨η, F, B, ρ, M, e, m, w⟩ => i σ H Q η F B ρ M e m w
theorem de_var {i : Nat} {x : Str} {pos : Pos} (hN : X.N[i]? = some x := by rfl) (hv : Vis X.env.scope x := by first | exact Or.inl rfl | exact Or.inr (Or.inl rfl) | exact Or.inr (Or.inr rfl)) (hd : (x == ("__debug__" : Str)) = false := by decide)
    (hcd : (x == ("__classdict__" : Str)) = false := by decide) : DE X W (.Name x pos) (xVar i) := sE (pe_var hN hv hd hcd) fun σ H Q η F B ρ M e m w => by
  unfold xVar at w
  split at w
  · next d h =>
    obtain ⟨v, h1, h2⟩ := e.at' i d h
    exact ⟨v, h1, w.ret m v h2⟩
  · exact w.elim
theorem de_int {i : Int} {j pos} : DE X W (.Constant (.int i) j pos) (xC (.int i)) := sE pe_int fun σ H Q η F B ρ M e m w => w.ret m _ (.int i)
theorem de_str {x : Str} {j pos} : DE X W (.Constant (.str x) j pos) (xC (.str x)) := sE pe_str fun σ H Q η F B ρ M e m w => w.ret m _ (.str x)
theorem de_bl {b : Bool} {j pos} : DE X W (.Constant (.bool b) j pos) (xC (.bl b)) := sE pe_bl fun σ H Q η F B ρ M e m w => w.ret m _ (.bl b)
theorem de_non {j pos} : DE X W (.Constant .none j pos) (xC .non) := sE pe_non fun σ H Q η F B ρ M e m w => w.ret m _ .non
/-- flat data of a value -/
def dOf : V → D
  | .non => .non
  | .bl b => .bl b
  | .int i => .int i
  | .str s => .str s
  | v => .raw v
theorem rp_of (K : PySem.W.Frag) (B : Hp) (ρ : List Addr) (v : V) : Rp K B ρ (dOf v) v := by
  cases v with
  | non => exact .non
  | bl b => exact .bl b
  | int i => exact .int i
  | str s => exact .str s
  | byt b => exact .raw _
  | flt b => exact .raw _
  | ref a => exact .raw _
  | ty n => exact .raw _
theorem de_glob {x : Str} {v : V} {u : Value} {pos : Pos} (hg : Gl X x) (hm : X.mg x = some u) (r : RelV v u) (hd : (x == ("__debug__" : Str)) = false := by decide) : DE X W (.Name x pos) (xC (dOf v)) :=
  sE (pe_glob hg hm r hd) fun σ H Q η F B ρ M e m w => w.ret m _ (rp_of _ _ _ v)
theorem de_bltn {x : Str} {v : V} {u : Value} {pos : Pos} (hg : Gl X x) (hm : X.mg x = none) (hv : bootBuiltins x = some u) (r : RelV v u) (hn : x ≠ "__name__" := by decide) (hd : (x == ("__debug__" : Str)) = false := by decide) : DE X W (.Name x pos) (xC (dOf v)) :=
  sE (pe_bltn hg hm hv r hn hd) fun σ H Q η F B ρ M e m w => w.ret m _ (rp_of _ _ _ v)

/-! ### operators -/
/-- an operator on data -/
abbrev Op2 := Mem → D → D → Option D
/-- nothing but new things that stay -/
abbrev Done (K : PySem.W.Frag) (F B : Hp) (ρ : List Addr) (M : Mem) (d : D) (Q : VK) : Prop := ∀ v B' H', Le B ρ B' ρ → MR K F B' ρ M H' → Rp K B' ρ d v → Q v H'
def OSnd (K : PySem.W.Frag) (r : R2) (h : Op2) : Prop := ∀ F B ρ M H x y dx dy dz (Q : VK), MR K F B ρ M H → Rp K B ρ dx x → Rp K B ρ dy y → h M dx dy = some dz → Done K F B ρ M dz Q → r x y H Q
def xOp (h : Op2) (f g : XE) : XE := fun η M => (f η M).bind fun x M1 => (g η M1).bind fun y M2 => R.of (h M2 x y) M2
theorem done_of {U : XK} {K : PySem.W.Frag} {mg : Str → Option Value} {F B : Hp} {ρ : List Addr} {M : Mem} {d : D} {Q : VK} (h : Wp K mg F B ρ U (fun d B' ρ' H' => ∀ v, Rp K B' ρ' d v → Q v H') (.ok d M)) : Done K F B ρ M d Q :=
  fun v B' H' l m r => h B' ρ H' l m v r
theorem op_snd {r : R2} {h : Op2} {f g : XE} {ta tb : TE} (os : OSnd X.K r h) (ha : ∀ σ H Q, tE X.K X.mg W f σ H Q → ta σ H Q) (hb : ∀ σ H Q, tE X.K X.mg W g σ H Q → tb σ H Q) (σ : L2.St) (H : Hp) (Q : VK) (q : tE X.K X.mg W (xOp h f g) σ H Q) : tOp r ta tb σ H Q := by
  obtain ⟨η, F, B, ρ, M, e, m, w⟩ := q
  refine ha _ _ _ ⟨η, F, B, ρ, M, e, m, w.bind fun dx M1 B1 ρ1 H1 l1 m1 w1 x rx => ?_⟩
  refine hb _ _ _ ⟨η, F, B1, ρ1, M1, e.mono l1, m1, w1.bind fun dy M2 B2 ρ2 H2 l2 m2 w2 y ry => ?_⟩
  obtain ⟨dz, hz, w3⟩ := w2.of
  exact os F B2 ρ2 M2 H2 x y dx dy dz Q m2 (rx.mono l2) ry hz (done_of w3)
def OpD (X : Cx) (f : Value → Value → Sem Value) (h : Op2) : Prop := ∃ r, OpR X f r ∧ OSnd X.K r h
variable {a b c : Expr} {f g k : XE} {pos : Pos}
theorem de_op {op : Operator} {h : Op2} (o : OpD X (binaryOp op) h) (ha : DE X W a f) (hb : DE X W b g) : DE X W (.BinOp a op b pos) (xOp h f g) := by
  obtain ⟨r, ho, os⟩ := o
  exact PE.imp (pe_op ho ha hb) (op_snd os (fun _ _ _ q => q) fun _ _ _ q => q)
theorem de_cmp {op : CmpOp} {h : Op2} (o : OpD X (compareOp op) h) (ha : DE X W a f) (hb : DE X W b g) (hm : behindInMarks op b = false) : DE X W (.Compare a [op] [b] pos) (xOp h f g) := by
  obtain ⟨r, ho, os⟩ := o
  exact PE.imp (pe_cmpR ho ha hb hm) (op_snd os (fun _ _ _ q => q) fun _ _ _ q => q)
/-- the data is a truth -/
def asB : D → Option Bool
  | .bl b => some b
  | _ => none
theorem asB_some {d : D} {b : Bool} (h : asB d = some b) : d = .bl b := by
  cases d <;> simp_all [asB]
def xTst (f : XE) : XT := fun η M => (f η M).bind fun d M1 => R.of (asB d) M1
theorem tst_snd {f : XE} {te : TE} (ha : ∀ σ H Q, tE X.K X.mg W f σ H Q → te σ H Q) (σ : L2.St) (H : Hp) (Q : Bool → Hp → Prop) (q : tT X.K X.mg W (xTst f) σ H Q) : te σ H fun x H' => ∃ k, x = .bl k ∧ Q k H' := by
  obtain ⟨η, F, B, ρ, M, e, m, w⟩ := q
  refine ha _ _ _ ⟨η, F, B, ρ, M, e, m, w.bind fun dx M1 B1 ρ1 H1 l1 m1 w1 x rx => ?_⟩
  obtain ⟨b, hb, w2⟩ := w1.of
  rw [asB_some hb] at rx
  cases rx
  exact ⟨b, rfl, w2.ret m1⟩
theorem dt_cmp {op : CmpOp} {h : Op2} (o : OpD X (compareOp op) h) (ha : DE X W a f) (hb : DE X W b g) (hm : behindInMarks op b = false) : DT X W (.Compare a [op] [b] pos) (xTst (xOp h f g)) := by
  obtain ⟨r, ho, os⟩ := o
  exact PT.imp (pt_cmpR ho ha hb hm) fun σ H Q q => tst_snd (op_snd os (fun _ _ _ q => q) fun _ _ _ q => q) σ H Q q
/-- a chain of two comparisons -/
def xChain (h h' : Op2) (f g k : XE) : XE := fun η M => (f η M).bind fun x M1 => (g η M1).bind fun y M2 => (R.of ((h M2 x y).bind asB) M2).bind fun b M3 =>
  if b = true then (k η M3).bind fun z M4 => R.of (h' M4 y z) M4 else .ok (.bl false) M3
theorem chain_snd {r r' : R2} {h h' : Op2} (os : OSnd X.K r h) (os' : OSnd X.K r' h') (σ : L2.St) (H : Hp) (Q : VK) (q : tE X.K X.mg W (xChain h h' f g k) σ H Q) : tChain r r' (tE X.K X.mg W f) (tE X.K X.mg W g) (tE X.K X.mg W k) σ H Q := by
  obtain ⟨η, F, B, ρ, M, e, m, w⟩ := q
  refine ⟨η, F, B, ρ, M, e, m, w.bind fun dx M1 B1 ρ1 H1 l1 m1 w1 x rx => ?_⟩
  refine ⟨η, F, B1, ρ1, M1, e.mono l1, m1, w1.bind fun dy M2 B2 ρ2 H2 l2 m2 w2 y ry => ?_⟩
  have w2' := w2
  cases hz : (h M2 dx dy) with
  | none => rw [hz] at w2; exact w2.elim
  | some dz =>
    rw [hz] at w2
    cases hb : asB dz with
    | none => simp [hb] at w2; exact w2.elim
    | some t =>
      simp only [Option.bind_some, hb, R.of_some, R.bind_ok] at w2
      have ez := asB_some hb
      subst ez
      refine os F B2 ρ2 M2 H2 x y dx dy (.bl t) _ m2 (rx.mono l2) ry hz fun v B3 H3 l3 m3 r3 => ?_
      cases r3
      refine ⟨t, rfl, ?_⟩
      cases t with
      | true =>
        have w3 : Wp X.K X.mg F B2 ρ2 (wAt W σ) _ ((k η M2).bind fun z M4 => R.of (h' M4 dy z) M4) := w2
        refine ⟨η, F, B3, ρ2, M2, (e.mono (l1.trans l2)).mono l3, m3, (w3.mono l3).bind fun dz M4 B4 ρ4 H4 l4 m4 w4 z rz => ?_⟩
        obtain ⟨dw, hw, w5⟩ := w4.of
        exact os' F B4 ρ4 M4 H4 y z dy dz dw Q m4 (ry.mono (l3.trans l4)) rz hw (done_of w5)
      | false =>
        have w3 : Wp X.K X.mg F B2 ρ2 (wAt W σ) (fun d B' ρ' H' => ∀ v, Rp X.K B' ρ' d v → Q v H') (.ok (.bl false) M2) := w2
        exact w3 B3 ρ2 H3 l3 m3 _ (.bl false)
theorem dt_chain {op op' : CmpOp} {h h' : Op2} (o : OpD X (compareOp op) h) (o' : OpD X (compareOp op') h') (ha : DE X W a f) (hb : DE X W b g) (hc : DE X W c k) (h1 : lastMarks [op, op'] [b, c] = false := by with_unfolding_all rfl) : DT X W (.Compare a [op, op'] [b, c] pos) (xTst (xChain h h' f g k)) := by
  obtain ⟨r, ho, os⟩ := o
  obtain ⟨r', ho', os'⟩ := o'
  exact PT.imp (pt_chain ho ho' ha hb hc h1) fun σ H Q q => tst_snd (chain_snd os os') σ H Q q

/-! ### and, or, not, if else -/
variable {p q : XT} {rest : List Expr}
def xAnd (p q : XT) : XT := fun η M => (p η M).bind fun b M1 => if b = true then q η M1 else .ok false M1
def xOr (p q : XT) : XT := fun η M => (p η M).bind fun b M1 => if b = true then .ok true M1 else q η M1
def xNot (p : XT) : XT := fun η M => (p η M).bind fun b M1 => .ok (!b) M1
theorem dw_and1 (ha : DT X W a p) : DW X W (.BoolOp .And [a] pos) p := pw_and1 ha
theorem dw_or1 (ha : DT X W a p) : DW X W (.BoolOp .Or [a] pos) p := pw_or1 ha
theorem dw_and (ha : DT X W a p) (hb : DW X W (.BoolOp .And (b :: rest) pos) q) : DW X W (.BoolOp .And (a :: b :: rest) pos) (xAnd p q) :=
  PW.imp (pw_and ha hb) fun σ H Q z => by
    obtain ⟨η, F, B, ρ, M, e, m, w⟩ := z
    refine ⟨η, F, B, ρ, M, e, m, w.bind fun t M1 B1 ρ1 H1 l1 m1 w1 => ?_⟩
    cases t with
    | true => exact ⟨η, F, B1, ρ1, M1, e.mono l1, m1, w1⟩
    | false => exact Wp.ret (P := fun b _ _ H' => Q b H') w1 m1
theorem dw_or (ha : DT X W a p) (hb : DW X W (.BoolOp .Or (b :: rest) pos) q) : DW X W (.BoolOp .Or (a :: b :: rest) pos) (xOr p q) :=
  PW.imp (pw_or ha hb) fun σ H Q z => by
    obtain ⟨η, F, B, ρ, M, e, m, w⟩ := z
    refine ⟨η, F, B, ρ, M, e, m, w.bind fun t M1 B1 ρ1 H1 l1 m1 w1 => ?_⟩
    cases t with
    | false => exact ⟨η, F, B1, ρ1, M1, e.mono l1, m1, w1⟩
    | true => exact Wp.ret (P := fun b _ _ H' => Q b H') w1 m1
theorem dt_w {e : Expr} (h : DW X W e p) : DT X W e p := PW.pt h
theorem dt_not (ha : DT X W a p) : DT X W (.UnaryOp .Not a pos) (xNot p) :=
  PT.imp (pt_not ha) fun σ H Q z => by
    obtain ⟨η, F, B, ρ, M, e, m, w⟩ := z
    exact ⟨η, F, B, ρ, M, e, m, w.bind fun t M1 B1 ρ1 H1 l1 m1 w1 => Wp.ret (P := fun b _ _ H' => Q b H') w1 m1⟩
/-- as values: truths -/
def xAndV (f g : XE) : XE := fun η M => (f η M).bind fun d M1 => (R.of (asB d) M1).bind fun b M2 => if b = true then g η M2 else .ok (.bl false) M2
theorem de_one {op} (h : DE X W a f) : DE X W (.BoolOp op [a] pos) f := pe_one h
theorem de_and (ha : DE X W a f) (hb : DE X W (.BoolOp .And (b :: rest) pos) g) : DE X W (.BoolOp .And (a :: b :: rest) pos) (xAndV f g) :=
  PE.imp (pe_and ha hb) fun σ H Q z => by
    obtain ⟨η, F, B, ρ, M, e, m, w⟩ := z
    refine ⟨η, F, B, ρ, M, e, m, w.bind fun dx M1 B1 ρ1 H1 l1 m1 w1 x rx => ?_⟩
    cases hb : asB dx with
    | none => rw [hb] at w1; exact w1.elim
    | some t =>
      rw [hb] at w1
      rw [asB_some hb] at rx
      cases rx
      refine ⟨t, rfl, ?_⟩
      cases t with
      | true => exact ⟨η, F, B1, ρ1, M1, e.mono l1, m1, w1⟩
      | false => exact Wp.ret (P := fun d B' ρ' H' => ∀ v, Rp X.K B' ρ' d v → Q v H') w1 m1 _ (.bl false)
def xIf (p : XT) (f g : XE) : XE := fun η M => (p η M).bind fun b M1 => if b = true then f η M1 else g η M1
theorem de_if {c : Expr} (hc : DT X W c p) (ha : DE X W a f) (hb : DE X W b g) : DE X W (.IfExp c a b pos) (xIf p f g) :=
  PE.imp (pe_ifExp hc ha hb) fun σ H Q z => by
    obtain ⟨η, F, B, ρ, M, e, m, w⟩ := z
    refine ⟨η, F, B, ρ, M, e, m, w.bind fun t M1 B1 ρ1 H1 l1 m1 w1 => ?_⟩
    cases t with
    | true => exact ⟨η, F, B1, ρ1, M1, e.mono l1, m1, w1⟩
    | false => exact ⟨η, F, B1, ρ1, M1, e.mono l1, m1, w1⟩
end
end Dn

namespace Dn
open PySem L2 Evl
/-! ### what data is read as -/
def asL (M : Mem) : D → Option (List D)
  | .lst ds => some ds
  | .scr ns => some (ns.map D.int)
  | .ptr n => match M[n]? with
    | some (.lst ds) => some ds
    | _ => none
  | _ => none
def asT : D → Option (List D)
  | .tup ds => some ds
  | _ => none
def asS : D → Option Str
  | .str s => some s
  | _ => none
def asI : D → Option Int
  | .int i => some i
  | _ => none
section
variable {K : PySem.W.Frag} {F B H : Hp} {ρ : List Addr} {M : Mem}
theorem rps_ints : ∀ (ns : List Int), Rps K B ρ (ns.map D.int) (ns.map V.int)
  | [] => .nil
  | n :: ns => .cons (.int n) (rps_ints ns)
theorem MR.list (m : MR K F B ρ M H) {n : Nat} {a : Addr} {ds : List D} (ha : ρ[n]? = some a) (h : M[n]? = some (.lst ds)) : ∃ vs, H a = some (.lst vs) ∧ Rps K B ρ ds vs ∧ B a = none := by
  obtain ⟨b, hb, hB, vs, e, r⟩ := m.ob n _ h
  rw [ha] at hb
  cases hb
  exact ⟨vs, e, r, hB (by intro z; cases z)⟩
theorem asL_snd (m : MR K F B ρ M H) {d : D} {v : V} {ds : List D} (r : Rp K B ρ d v) (h : asL M d = some ds) : ∃ a vs, v = .ref a ∧ SqL K H a vs ∧ Rps K B ρ ds vs := by
  cases r with
  | lst e q => cases h; exact ⟨_, _, rfl, sq_of (m.ex _ _ e), q⟩
  | scr e => cases h; exact ⟨_, _, rfl, ex_l m.ex e, rps_ints _⟩
  | @ptr n a ha =>
    have h' : (match M[n]? with | some (.lst ds) => some ds | _ => none) = some ds := h
    split at h'
    · next ds' hm =>
      cases h'
      obtain ⟨vs, e, q, _⟩ := m.list ha hm
      exact ⟨_, vs, rfl, sq_of e, q⟩
    · cases h'
  | non => cases h
  | bl b => cases h
  | int i => cases h
  | str z => cases h
  | tup e q => cases h
  | dct e q => cases h
  | dcT e q => cases h
  | ins c e q => cases h
  | fn c => cases h
  | raw v => cases h
theorem asT_snd (m : MR K F B ρ M H) {d : D} {v : V} {ds : List D} (r : Rp K B ρ d v) (h : asT d = some ds) : ∃ a vs, v = .ref a ∧ SqT K H a vs ∧ Rps K B ρ ds vs := by
  cases r with
  | tup e q => cases h; exact ⟨_, _, rfl, ex_t m.ex e, q⟩
  | _ => cases h
theorem asS_snd {d : D} {v : V} {s : Str} (r : Rp K B ρ d v) (h : asS d = some s) : v = .str s := by
  cases r with
  | str e => cases h; rfl
  | _ => cases h
theorem asI_snd {d : D} {v : V} {i : Int} (r : Rp K B ρ d v) (h : asI d = some i) : v = .int i := by
  cases r with
  | int e => cases h; rfl
  | _ => cases h
/-- a new thing that stays is told -/
theorem Done.new {d : D} {Q : VK} {o : HO} (m : MR K F B ρ M H) (k : Done K F B ρ M d Q) (r : ∀ p, H p = none → Rp K (upd B p o) ρ d (.ref p)) : ∀ p, H p = none → Q (.ref p) (upd H p o) := fun p hp => by
  obtain ⟨m', l⟩ := m.new (o := o) hp
  exact k _ _ _ l m' (r p hp)
theorem Done.newL {ds : List D} {vs : List V} {Q : VK} (m : MR K F B ρ M H) (r : Rps K B ρ ds vs) (k : Done K F B ρ M (.lst ds) Q) : ∀ p, H p = none → Q (.ref p) (upd H p (.lst vs)) :=
  Done.new m k fun p hp => .lst upd_same (r.mono (m.new hp).2)
theorem Done.newT {ds : List D} {vs : List V} {Q : VK} (m : MR K F B ρ M H) (r : Rps K B ρ ds vs) (k : Done K F B ρ M (.tup ds) Q) : ∀ p, H p = none → Q (.ref p) (upd H p (.tup vs)) :=
  Done.new m k fun p hp => .tup (st_of upd_same) (r.mono (m.new hp).2) (.inr upd_same)
theorem Done.same {d : D} {v : V} {Q : VK} (m : MR K F B ρ M H) (r : Rp K B ρ d v) (k : Done K F B ρ M d Q) : Q v H := k v B H (Le.refl _ _) m r
end

/-! ### operators on data -/
def oOr (h h' : Op2) : Op2 := fun M x y => match h M x y with
  | some z => some z
  | none => h' M x y
section
variable {X : Cx} {fv : Value → Value → Sem Value}
theorem OpD.or {h h' : Op2} (a : OpD X fv h) (b : OpD X fv h') : OpD X fv (oOr h h') := by
  obtain ⟨r, o, s⟩ := a
  obtain ⟨r', o', s'⟩ := b
  refine ⟨_, OpR.or o o', fun F B ρ M H x y dx dy dz Q m rx ry e k => ?_⟩
  unfold oOr at e
  split at e
  · next z hz => cases e; exact .inl (s F B ρ M H x y dx dy _ Q m rx ry hz k)
  · exact .inr (s' F B ρ M H x y dx dy dz Q m rx ry e k)
/-- two ints -/
def oI (C : Int → Int → Prop) [∀ i j, Decidable (C i j)] (g : Int → Int → Int) : Op2 := fun _ x y => (asI x).bind fun i => (asI y).bind fun j => if C i j then some (.int (g i j)) else none
def oI0 (g : Int → Int → Int) : Op2 := fun _ x y => (asI x).bind fun i => (asI y).bind fun j => some (.int (g i j))
def oIB (g : Int → Int → Bool) : Op2 := fun _ x y => (asI x).bind fun i => (asI y).bind fun j => some (.bl (g i j))
theorem od_I {C : Int → Int → Prop} [∀ i j, Decidable (C i j)] {g : Int → Int → Int} (o : OpR X fv (rI C fun i j => .int (g i j))) : OpD X fv (oI C g) := by
  refine ⟨_, o, fun F B ρ M H x y dx dy dz Q m rx ry e k => ?_⟩
  unfold oI at e
  cases h1 : asI dx with
  | none => simp [h1] at e
  | some i =>
    cases h2 : asI dy with
    | none => simp [h1, h2] at e
    | some j =>
      by_cases hc : C i j
      · simp [h1, h2, hc] at e
        subst e
        exact ⟨i, j, asI_snd rx h1, asI_snd ry h2, hc, k.same m (.int _)⟩
      · simp [h1, h2, hc] at e
theorem od_I0 {g : Int → Int → Int} (o : OpR X fv (rI0 fun i j => .int (g i j))) : OpD X fv (oI0 g) := by
  refine ⟨_, o, fun F B ρ M H x y dx dy dz Q m rx ry e k => ?_⟩
  unfold oI0 at e
  cases h1 : asI dx with
  | none => simp [h1] at e
  | some i =>
    cases h2 : asI dy with
    | none => simp [h1, h2] at e
    | some j =>
      simp [h1, h2] at e
      subst e
      exact ⟨i, j, asI_snd rx h1, asI_snd ry h2, k.same m (.int _)⟩
theorem od_IB {g : Int → Int → Bool} (o : OpR X fv (rI0 fun i j => .bl (g i j))) : OpD X fv (oIB g) := by
  refine ⟨_, o, fun F B ρ M H x y dx dy dz Q m rx ry e k => ?_⟩
  unfold oIB at e
  cases h1 : asI dx with
  | none => simp [h1] at e
  | some i =>
    cases h2 : asI dy with
    | none => simp [h1, h2] at e
    | some j =>
      simp [h1, h2] at e
      subst e
      exact ⟨i, j, asI_snd rx h1, asI_snd ry h2, k.same m (.bl _)⟩
instance (i j : Int) : Decidable (CMul i j) := by unfold CMul; infer_instance
instance (i j : Int) : Decidable (CDiv i j) := by unfold CDiv; infer_instance
def CPw (i j : Int) : Prop := 0 ≤ j ∧ j ≤ 1000 ∧ i.natAbs < 2 ^ 10000
instance (i j : Int) : Decidable (CPw i j) := by unfold CPw; infer_instance
theorem bits_of {i : Int} {b : Nat} (h : i.natAbs < 2 ^ b) : Builtin.Int.intBits i ≤ b := by
  unfold Builtin.Int.intBits
  split
  · omega
  · next h0 =>
    have : i.natAbs ≠ 0 := by simpa using h0
    have := (Nat.log2_lt this).mpr h
    omega
theorem op_pw : OpR X (binaryOp .Pow) (rI CPw fun i j => .int (i ^ j.toNat)) := opI fun i j _ _ _ _ _ hc q => by
  refine PyProof.Rows.pow_int hc.1 ?_ q
  have h1 := bits_of hc.2.2
  have h2 := hc.2.1
  have h3 := hc.1
  have h4 : (Builtin.Int.intBits i : Int) ≤ 10000 := by omega
  have h5 : (Builtin.Int.intBits i : Int) * j ≤ 10000 * 1000 := Int.mul_le_mul h4 h2 h3 (by omega)
  omega
def dSub : Op2 := oI0 fun i j => i - j
def dMul : Op2 := oI CMul fun i j => i * j
def dMod : Op2 := oI (fun _ j => 0 < j) fun i j => i % j
def dDiv : Op2 := oI CDiv fun i j => i / j
def dPow : Op2 := oI CPw fun i j => i ^ j.toNat
theorem od_mul : OpD X (binaryOp .Mult) dMul := od_I op_mul
theorem od_mod : OpD X (binaryOp .Mod) dMod := od_I op_mod
theorem od_div : OpD X (binaryOp .FloorDiv) dDiv := od_I op_fdiv
theorem od_pow : OpD X (binaryOp .Pow) dPow := od_I op_pw
/-- two texts -/
def oS2 (g : Str → Str → Option D) : Op2 := fun _ x y => (asS x).bind fun i => (asS y).bind fun j => g i j
theorem oS2_some {g : Str → Str → Option D} {M : Mem} {x y z : D} (h : oS2 g M x y = some z) : ∃ i j, asS x = some i ∧ asS y = some j ∧ g i j = some z := by
  unfold oS2 at h
  cases h1 : asS x with
  | none => simp [h1] at h
  | some i =>
    cases h2 : asS y with
    | none => simp [h1, h2] at h
    | some j => simp [h1, h2] at h; exact ⟨i, j, rfl, rfl, h⟩
def sAdd : Op2 := oS2 fun i j => if i.length + j.length ≤ sizeLine then some (.str (i ++ j)) else none
theorem od_sadd : OpD X (binaryOp .Add) sAdd := by
  refine ⟨_, op_add_str, fun F B ρ M H x y dx dy dz Q m rx ry e k => ?_⟩
  obtain ⟨i, j, h1, h2, h3⟩ := oS2_some e
  by_cases hc : i.length + j.length ≤ sizeLine
  · simp [hc] at h3
    subst h3
    exact ⟨i, j, asS_snd rx h1, asS_snd ry h2, hc, k.same m (.str _)⟩
  · simp [hc] at h3
/-- two tuples -/
def tAdd' : Op2 := fun _ x y => (asT x).bind fun ds => (asT y).bind fun es => if ds.length + es.length ≤ sizeLine then some (.tup (ds ++ es)) else none
theorem od_tadd : OpD X (binaryOp .Add) tAdd' := by
  refine ⟨_, op_catA, fun F B ρ M H x y dx dy dz Q m rx ry e k => ?_⟩
  unfold tAdd' at e
  cases h1 : asT dx with
  | none => simp [h1] at e
  | some ds =>
    cases h2 : asT dy with
    | none => simp [h1, h2] at e
    | some es =>
      by_cases hc : ds.length + es.length ≤ sizeLine
      · simp [h1, h2, hc] at e
        subst e
        obtain ⟨a, vs, rfl, hs, rs⟩ := asT_snd m rx h1
        obtain ⟨b, us, rfl, ht, rt⟩ := asT_snd m ry h2
        have l1 := rs.len
        have l2 := rt.len
        refine ⟨a, b, vs, us, rfl, rfl, hs, ht, by omega, fun z => ?_, fun _ z => ?_, fun _ _ => k.newT m (rs.app rt)⟩
        · subst z
          cases rs
          have : asT dy = some es := h2
          cases dy <;> simp [asT] at this
          subst this
          exact k.same m ry
        · subst z
          cases rt
          have : asT dx = some ds := h1
          cases dx <;> simp [asT] at this
          subst this
          rw [List.append_nil] at k
          exact k.same m rx
      · simp [h1, h2, hc] at e
/-- two lists (plain ones) -/
def asP (M : Mem) : D → Option (List D)
  | .lst ds => some ds
  | .ptr n => match M[n]? with
    | some (.lst ds) => some ds
    | _ => none
  | _ => none
theorem asP_snd {K : PySem.W.Frag} {F B H : Hp} {ρ : List Addr} {M : Mem} (m : MR K F B ρ M H) {d : D} {v : V} {ds : List D} (r : Rp K B ρ d v) (h : asP M d = some ds) : ∃ a vs, v = .ref a ∧ H a = some (.lst vs) ∧ Rps K B ρ ds vs := by
  cases r with
  | lst e q => cases h; exact ⟨_, _, rfl, m.ex _ _ e, q⟩
  | @ptr n a ha =>
    have h' : (match M[n]? with | some (.lst ds) => some ds | _ => none) = some ds := h
    split at h'
    · next ds' hm =>
      cases h'
      obtain ⟨vs, e, q, _⟩ := m.list ha hm
      exact ⟨_, vs, rfl, e, q⟩
    · cases h'
  | non => cases h
  | bl b => cases h
  | int i => cases h
  | str z => cases h
  | tup e q => cases h
  | dct e q => cases h
  | dcT e q => cases h
  | ins c e q => cases h
  | fn c => cases h
  | scr e => cases h
  | raw v => cases h
def lAdd : Op2 := fun M x y => (asP M x).bind fun ds => (asP M y).bind fun es => if ds.length + es.length ≤ sizeLine then some (.lst (ds ++ es)) else none
theorem od_ladd : OpD X (binaryOp .Add) lAdd := by
  refine ⟨_, op_cat, fun F B ρ M H x y dx dy dz Q m rx ry e k => ?_⟩
  unfold lAdd at e
  cases h1 : asP M dx with
  | none => simp [h1] at e
  | some ds =>
    cases h2 : asP M dy with
    | none => simp [h1, h2] at e
    | some es =>
      by_cases hc : ds.length + es.length ≤ sizeLine
      · simp [h1, h2, hc] at e
        subst e
        obtain ⟨a, vs, rfl, hs, rs⟩ := asP_snd m rx h1
        obtain ⟨b, us, rfl, ht, rt⟩ := asP_snd m ry h2
        have l1 := rs.len
        have l2 := rt.len
        exact ⟨a, b, vs, us, rfl, rfl, hs, ht, by omega, k.newL m (rs.app rt)⟩
      · simp [h1, h2, hc] at e
def dAdd : Op2 := oOr (oI0 fun i j => i + j) (oOr sAdd (oOr tAdd' lAdd))
theorem od_add : OpD X (binaryOp .Add) dAdd := (od_I0 op_add).or (od_sadd.or (od_tadd.or od_ladd))
/-! comparisons -/
def dLt : Op2 := oOr (oIB fun i j => decide (i < j)) (oS2 fun i j => some (.bl (decide (i.cps.toList < j.cps.toList))))
def dLe : Op2 := oIB fun i j => decide (i ≤ j)
def dGt : Op2 := oIB fun i j => decide (j < i)
def dGe : Op2 := oIB fun i j => decide (j ≤ i)
theorem od_lts : OpD X (compareOp .Lt) (oS2 fun i j => some (.bl (decide (i.cps.toList < j.cps.toList)))) := by
  refine ⟨_, op_lt_str, fun F B ρ M H x y dx dy dz Q m rx ry e k => ?_⟩
  obtain ⟨i, j, h1, h2, h3⟩ := oS2_some e
  obtain rfl := Option.some.inj h3
  exact ⟨i, j, asS_snd rx h1, asS_snd ry h2, k.same m (.bl _)⟩
theorem od_lt : OpD X (compareOp .Lt) dLt := (od_IB op_lt).or od_lts
theorem od_le : OpD X (compareOp .LtE) dLe := od_IB op_le
theorem od_gt : OpD X (compareOp .Gt) dGt := od_IB op_gt
theorem od_ge : OpD X (compareOp .GtE) dGe := od_IB op_ge
/-- one sign in a text -/
def dInS : Op2 := oS2 fun i j => match i.cps.toList with
  | [c] => some (.bl (decide (c ∈ j.cps.toList)))
  | _ => none
theorem od_inS : OpD X (compareOp .In) dInS := by
  refine ⟨_, op_in_sign, fun F B ρ M H x y dx dy dz Q m rx ry e k => ?_⟩
  obtain ⟨i, j, h1, h2, h3⟩ := oS2_some e
  split at h3
  · next c hc =>
    obtain rfl := Option.some.inj h3
    have ei : i = ⟨#[c]⟩ := by
      cases i with
      | mk cs =>
        have : cs = #[c] := by
          apply Array.toList_inj.mp
          exact hc
        rw [this]
    subst ei
    exact ⟨c, j, asS_snd rx h1, asS_snd ry h2, k.same m (.bl _)⟩
  · cases h3
end
end Dn

namespace Dn
open PySem L2 Evl
section
variable {X : Cx} {W : WX} {a b c e o : Expr} {es : List Expr} {f g k : XE} {fa : XA} {pos : Pos}
/-! ### arguments, displays -/
def xNil : XA := fun _ M => .ok [] M
def xCons (f : XE) (g : XA) : XA := fun η M => (f η M).bind fun d M1 => (g η M1).bind fun ds M2 => .ok (d :: ds) M2
theorem da_nil : DA X W [] xNil := PA.imp pa_nil fun σ H Q z => by
  obtain ⟨η, F, B, ρ, M, e, m, w⟩ := z
  exact Wp.ret w m [] .nil
theorem da_cons (ha : DE X W e f) (hr : DA X W es fa) (hs : starEach (e :: es) X.env = (false, eval e X.env) :: starEach es X.env := by rfl) : DA X W (e :: es) (xCons f fa) :=
  PA.imp (pa_cons ha hr hs) fun σ H Q z => by
    obtain ⟨η, F, B, ρ, M, er, m, w⟩ := z
    refine ⟨η, F, B, ρ, M, er, m, w.bind fun d M1 B1 ρ1 H1 l1 m1 w1 x rx => ?_⟩
    exact ⟨η, F, B1, ρ1, M1, er.mono l1, m1, w1.bind fun ds M2 B2 ρ2 H2 l2 m2 w2 xs rxs => Wp.ret w2 m2 _ (.cons (rx.mono l2) rxs)⟩
def xTup (g : XA) : XE := fun η M => (g η M).bind fun ds M1 => if ds.length ≤ 100000 then .ok (.tup ds) M1 else .no
def xLst (g : XA) : XE := fun η M => (g η M).bind fun ds M1 => if ds.length ≤ 100000 then .ok (.lst ds) M1 else .no
/-- a new list that may change -/
def xLstM (g : XA) : XE := fun η M => (g η M).bind fun ds M1 => if ds.length ≤ 100000 then .ok (.ptr M1.length) (M1 ++ [.lst ds]) else .no
theorem de_tup {x1} (h : DA X W es fa) : DE X W (.Tuple es x1 pos) (xTup fa) := PE.imp (pe_tup h) fun σ H Q z => by
  obtain ⟨η, F, B, ρ, M, er, m, w⟩ := z
  refine ⟨η, F, B, ρ, M, er, m, w.bind fun ds M1 B1 ρ1 H1 l1 m1 w1 xs rx => ?_⟩
  split at w1
  · next hl => exact ⟨by rw [← rx.len]; exact sz_of hl, (done_of w1).newT m1 rx⟩
  · exact w1.elim
theorem de_lst (h : DA X W es fa) : DE X W (.List es pos) (xLst fa) := PE.imp (pe_lst h) fun σ H Q z => by
  obtain ⟨η, F, B, ρ, M, er, m, w⟩ := z
  refine ⟨η, F, B, ρ, M, er, m, w.bind fun ds M1 B1 ρ1 H1 l1 m1 w1 xs rx => ?_⟩
  split at w1
  · next hl => exact ⟨by rw [← rx.len]; exact sz_of hl, (done_of w1).newL m1 rx⟩
  · exact w1.elim
/-- a list told as one that may change -/
theorem putM {U : XK} {K : PySem.W.Frag} {mg : Str → Option Value} {F B H : Hp} {ρ : List Addr} {M : Mem} {ds : List D} {vs : List V} {Q : VK} (m : MR K F B ρ M H) (r : Rps K B ρ ds vs)
    (w : Wp K mg F B ρ U (fun d B' ρ' H' => ∀ v, Rp K B' ρ' d v → Q v H') (.ok (.ptr M.length) (M ++ [.lst ds]))) : ∀ p, H p = none → Q (.ref p) (upd H p (.lst vs)) := fun p hp => by
  have l : Le B ρ B (ρ ++ [p]) := ⟨Ex.refl B, [p], rfl⟩
  obtain ⟨m', _⟩ := m.alloc (o := .lst vs) (ob := .lst ds) hp ⟨vs, upd_same, r.mono l⟩
  exact w _ _ _ l m' _ (.ptr (by rw [← m.len]; simp))
theorem de_lstM (h : DA X W es fa) : DE X W (.List es pos) (xLstM fa) := PE.imp (pe_lst h) fun σ H Q z => by
  obtain ⟨η, F, B, ρ, M, er, m, w⟩ := z
  refine ⟨η, F, B, ρ, M, er, m, w.bind fun ds M1 B1 ρ1 H1 l1 m1 w1 xs rx => ?_⟩
  split at w1
  · next hl => exact ⟨by rw [← rx.len]; exact sz_of hl, putM m1 rx w1⟩
  · exact w1.elim

/-! ### subscripts -/
def lIx : Op2 := fun M x y => (asL M x).bind fun ds => (asI y).bind fun i => atI ds i
def tIx : Op2 := fun _ x y => (asT x).bind fun ds => (asI y).bind fun i => atI ds i
def sIx : Op2 := fun _ x y => (asS x).bind fun s => (asI y).bind fun i => if s.length ≤ sizeLine then (atI s.cps.toList i).map fun c => .str ⟨#[c]⟩ else none
theorem atI_rel {K : PySem.W.Frag} {B : Hp} {ρ : List Addr} {ds : List D} {vs : List V} {i : Int} {d : D} (r : Rps K B ρ ds vs) (h : atI ds i = some d) : ∃ v, atI vs i = some v ∧ Rp K B ρ d v := by
  unfold atI at h ⊢
  rw [r.len] at h
  cases hj : ixN vs.length i with
  | none => simp [hj] at h
  | some j =>
    simp [hj] at h
    obtain ⟨v, h1, h2⟩ := r.get h
    exact ⟨v, by simpa using h1, h2⟩
def IxD (X : Cx) (h : Op2) : Prop := ∃ r, IxR X r ∧ OSnd X.K r h
theorem IxD.or {h h' : Op2} (a : IxD X h) (b : IxD X h') : IxD X (oOr h h') := by
  obtain ⟨r, o, s⟩ := a
  obtain ⟨r', o', s'⟩ := b
  refine ⟨_, IxR.or o o', fun F B ρ M H x y dx dy dz Q m rx ry e k => ?_⟩
  unfold oOr at e
  split at e
  · next z hz => cases e; exact .inl (s F B ρ M H x y dx dy _ Q m rx ry hz k)
  · exact .inr (s' F B ρ M H x y dx dy dz Q m rx ry e k)
theorem ixd_list : IxD X lIx := by
  refine ⟨_, ix_list, fun F B ρ M H x y dx dy dz Q m rx ry e k => ?_⟩
  unfold lIx at e
  cases h1 : asL M dx with
  | none => simp [h1] at e
  | some ds =>
    cases h2 : asI dy with
    | none => simp [h1, h2] at e
    | some i =>
      simp [h1, h2] at e
      obtain ⟨a, vs, rfl, hs, rs⟩ := asL_snd m rx h1
      obtain ⟨v, hv, rv⟩ := atI_rel rs e
      exact ⟨a, vs, i, v, rfl, asI_snd ry h2, hs, hv, k.same m rv⟩
theorem ixd_tup : IxD X tIx := by
  refine ⟨_, ix_tup, fun F B ρ M H x y dx dy dz Q m rx ry e k => ?_⟩
  unfold tIx at e
  cases h1 : asT dx with
  | none => simp [h1] at e
  | some ds =>
    cases h2 : asI dy with
    | none => simp [h1, h2] at e
    | some i =>
      simp [h1, h2] at e
      obtain ⟨a, vs, rfl, hs, rs⟩ := asT_snd m rx h1
      obtain ⟨v, hv, rv⟩ := atI_rel rs e
      exact ⟨a, vs, i, v, rfl, asI_snd ry h2, hs, hv, k.same m rv⟩
theorem ixd_str : IxD X sIx := by
  refine ⟨_, ix_str, fun F B ρ M H x y dx dy dz Q m rx ry e k => ?_⟩
  unfold sIx at e
  cases h1 : asS dx with
  | none => simp [h1] at e
  | some s =>
    cases h2 : asI dy with
    | none => simp [h1, h2] at e
    | some i =>
      simp only [h1, h2, Option.bind_some] at e
      split at e
      · next hz =>
        cases h3 : atI s.cps.toList i with
        | none => rw [h3] at e; cases e
        | some c =>
          rw [h3] at e
          obtain rfl := Option.some.inj e
          exact ⟨s, i, c, asS_snd rx h1, asI_snd ry h2, hz, h3, k.same m (.str _)⟩
      · cases e
def dIx : Op2 := oOr lIx (oOr tIx sIx)
theorem de_ix (ha : DE X W a f) (hb : DE X W b g) (hs : PlainIx b := by intro _ _; rfl) : DE X W (.Subscript a b pos) (xOp dIx f g) := by
  obtain ⟨r, ho, os⟩ : IxD X dIx := ixd_list.or (ixd_tup.or ixd_str)
  exact PE.imp (pe_ix ho ha hb hs) (op_snd os (fun _ _ _ q => q) fun _ _ _ q => q)

/-! ### slices -/
abbrev XO := Dv → Mem → R (Option Int)
def tO' (K : PySem.W.Frag) (mg : Str → Option Value) (W : WX) (f : XO) : TO := fun σ H Q => ∃ η F B ρ M, ER K B ρ η σ ∧ MR K F B ρ M H ∧ Wp K mg F B ρ (wAt W σ) (fun b _ _ H' => Q b H') (f η M)
def DO (X : Cx) (W : WX) (e : Option Expr) (f : XO) : Prop := PO X e (tO' X.K X.mg W f)
theorem PO.imp {e : Option Expr} {t t' : TO} (h : PO X e t) (i : ∀ σ H Q, t' σ H Q → t σ H Q) : PO X e t' := ⟨fun pins s σ H Q I q => h.run pins s σ H Q I (i σ H Q q)⟩
def xNone : XO := fun _ M => .ok none M
def xSome (f : XE) : XO := fun η M => (f η M).bind fun d M1 => (R.of (asI d) M1).bind fun i M2 => .ok (some i) M2
theorem do_none : DO X W none xNone := PO.imp po_none fun σ H Q z => by
  obtain ⟨η, F, B, ρ, M, er, m, w⟩ := z
  exact Wp.ret (P := fun b _ _ H' => Q b H') w m
theorem do_some (he : DE X W e f) : DO X W (some e) (xSome f) := PO.imp (po_some he) fun σ H Q z => by
  obtain ⟨η, F, B, ρ, M, er, m, w⟩ := z
  refine ⟨η, F, B, ρ, M, er, m, w.bind fun d M1 B1 ρ1 H1 l1 m1 w1 x rx => ?_⟩
  cases h : asI d with
  | none => rw [h] at w1; exact w1.elim
  | some i =>
    rw [h] at w1
    exact ⟨i, asI_snd rx h, Wp.ret (P := fun b _ _ H' => Q b H') w1 m1⟩
abbrev OpS := Mem → D → Option Int → Option Int → Option D
def SSnd (K : PySem.W.Frag) (r : V → Option Int → Option Int → Hp → VK → Prop) (h : OpS) : Prop := ∀ F B ρ M H x lo hi dx dz (Q : VK), MR K F B ρ M H → Rp K B ρ dx x → h M dx lo hi = some dz → Done K F B ρ M dz Q → r x lo hi H Q
def SlD (X : Cx) (h : OpS) : Prop := ∃ r, SlR X r ∧ SSnd X.K r h
def sOr (h h' : OpS) : OpS := fun M x lo hi => match h M x lo hi with
  | some z => some z
  | none => h' M x lo hi
theorem SlD.or {h h' : OpS} (a : SlD X h) (b : SlD X h') : SlD X (sOr h h') := by
  obtain ⟨r, o, s⟩ := a
  obtain ⟨r', o', s'⟩ := b
  refine ⟨_, SlR.or o o', fun F B ρ M H x lo hi dx dz Q m rx e k => ?_⟩
  unfold sOr at e
  split at e
  · next z hz => cases e; exact .inl (s F B ρ M H x lo hi dx _ Q m rx hz k)
  · exact .inr (s' F B ρ M H x lo hi dx dz Q m rx e k)
def cutD {α : Type} (xs : List α) (lo hi : Option Int) : List α := (xs.drop (HT.sIx xs.length 0 lo)).take (HT.sIx xs.length xs.length hi - HT.sIx xs.length 0 lo)
theorem cut_rel {K : PySem.W.Frag} {B : Hp} {ρ : List Addr} {ds : List D} {vs : List V} (r : Rps K B ρ ds vs) (lo hi : Option Int) : Rps K B ρ (cutD ds lo hi) (cutV vs lo hi) := by
  unfold cutD cutV
  rw [r.len]
  exact (r.drop _).take _
def lSl : OpS := fun M x lo hi => (asL M x).map fun ds => .lst (cutD ds lo hi)
def tSl' : OpS := fun _ x lo hi => (asT x).map fun ds => .tup (cutD ds lo hi)
def sSl : OpS := fun _ x lo hi => (asS x).bind fun s => if s.length ≤ sizeLine then some (.str (cutS s lo hi)) else none
theorem sld_list : SlD X lSl := by
  refine ⟨_, sl_list, fun F B ρ M H x lo hi dx dz Q m rx e k => ?_⟩
  unfold lSl at e
  cases h1 : asL M dx with
  | none => simp [h1] at e
  | some ds =>
    simp [h1] at e
    subst e
    obtain ⟨a, vs, rfl, hs, rs⟩ := asL_snd m rx h1
    exact ⟨a, vs, rfl, hs, k.newL m (cut_rel rs lo hi)⟩
theorem sld_tup : SlD X tSl' := by
  refine ⟨_, sl_tupA, fun F B ρ M H x lo hi dx dz Q m rx e k => ?_⟩
  unfold tSl' at e
  cases h1 : asT dx with
  | none => simp [h1] at e
  | some ds =>
    simp [h1] at e
    subst e
    obtain ⟨a, vs, rfl, hs, rs⟩ := asT_snd m rx h1
    refine ⟨a, vs, rfl, hs, fun z => ?_, fun _ => k.newT m (cut_rel rs lo hi)⟩
    have e2 : cutD ds lo hi = ds := by
      unfold cutD
      rw [rs.len, z.1, z.2]
      simp [← rs.len]
    rw [e2] at k
    cases dx <;> simp [asT] at h1
    subst h1
    exact k.same m rx
theorem sld_str : SlD X sSl := by
  refine ⟨_, sl_str, fun F B ρ M H x lo hi dx dz Q m rx e k => ?_⟩
  unfold sSl at e
  cases h1 : asS dx with
  | none => simp [h1] at e
  | some s =>
    simp only [h1, Option.bind_some] at e
    split at e
    · next hz =>
      obtain rfl := Option.some.inj e
      exact ⟨s, asS_snd rx h1, hz, k.same m (.str _)⟩
    · cases e
def dSl : OpS := sOr lSl (sOr tSl' sSl)
def xSl (h : OpS) (f : XE) (l u : XO) : XE := fun η M => (f η M).bind fun x M1 => (l η M1).bind fun lo M2 => (u η M2).bind fun hi M3 => R.of (h M3 x lo hi) M3
theorem de_sl {lo hi : Option Expr} {l u : XO} {p2 : Pos} (he : DE X W e f) (hl : DO X W lo l) (hu : DO X W hi u) : DE X W (.Subscript e (.Slice lo hi none p2) pos) (xSl dSl f l u) := by
  obtain ⟨r, ho, os⟩ : SlD X dSl := sld_list.or (sld_tup.or sld_str)
  refine PE.imp (pe_slice ho he hl hu) fun σ H Q z => ?_
  obtain ⟨η, F, B, ρ, M, er, m, w⟩ := z
  refine ⟨η, F, B, ρ, M, er, m, w.bind fun dx M1 B1 ρ1 H1 l1 m1 w1 x rx => ?_⟩
  refine ⟨η, F, B1, ρ1, M1, er.mono l1, m1, w1.bind fun o1 M2 B2 ρ2 H2 l2 m2 w2 => ?_⟩
  refine ⟨η, F, B2, ρ2, M2, er.mono (l1.trans l2), m2, w2.bind fun o2 M3 B3 ρ3 H3 l3 m3 w3 => ?_⟩
  obtain ⟨dz, hz, w4⟩ := w3.of
  exact os F B3 ρ3 M3 H3 x o1 o2 dx dz Q m3 (rx.mono (l2.trans l3)) hz (done_of w4)

/-! ### calls of what is built in -/
abbrev OpC := Mem → List D → Option D
def CSnd (K : PySem.W.Frag) (r : List V → Hp → VK → Prop) (h : OpC) : Prop := ∀ F B ρ M H xs ds dz (Q : VK), MR K F B ρ M H → Rps K B ρ ds xs → h M ds = some dz → Done K F B ρ M dz Q → r xs H Q
def CallD (X : Cx) (v : Value) (h : OpC) : Prop := ∃ r, CallR X v r ∧ CSnd X.K r h
def cOr (h h' : OpC) : OpC := fun M ds => match h M ds with
  | some z => some z
  | none => h' M ds
theorem CallD.or {v : Value} {h h' : OpC} (a : CallD X v h) (b : CallD X v h') : CallD X v (cOr h h') := by
  obtain ⟨r, o, s⟩ := a
  obtain ⟨r', o', s'⟩ := b
  refine ⟨_, CallR.or o o', fun F B ρ M H xs ds dz Q m rx e k => ?_⟩
  unfold cOr at e
  split at e
  · next z hz => cases e; exact .inl (s F B ρ M H xs ds _ Q m rx hz k)
  · exact .inr (s' F B ρ M H xs ds dz Q m rx e k)
def xCall (h : OpC) (g : XA) : XE := fun η M => (g η M).bind fun ds M1 => R.of (h M1 ds) M1
theorem call_snd {r : List V → Hp → VK → Prop} {h : OpC} (os : CSnd X.K r h) (σ : L2.St) (H : Hp) (Q : VK) (z : tE X.K X.mg W (xCall h fa) σ H Q) : tCB r (tA X.K X.mg W fa) σ H Q := by
  obtain ⟨η, F, B, ρ, M, er, m, w⟩ := z
  refine ⟨η, F, B, ρ, M, er, m, w.bind fun ds M1 B1 ρ1 H1 l1 m1 w1 xs rx => ?_⟩
  obtain ⟨dz, hz, w2⟩ := w1.of
  exact os F B1 ρ1 M1 H1 xs ds dz Q m1 rx hz (done_of w2)
theorem de_callB {x : Str} {id : String} {h : OpC} {p : Pos} (o : CallD X (.builtin id) h) (hg : Gl X x) (hm : X.mg x = none) (hv : bootBuiltins x = some (.builtin id)) (ha : DA X W (e :: es) fa) (hn : x ≠ "__name__" := by decide) (hdb : (x == ("__debug__" : Str)) = false := by decide)
    (hs : starEach (e :: es) X.env = (false, eval e X.env) :: starEach es X.env := by rfl) (hp : (backTo pos (starEach es X.env)).any (·.1) = false := by rfl) : DE X W (.Call (.Name x p) (e :: es) [] pos) (xCall h fa) := by
  obtain ⟨r, ho, os⟩ := o
  exact PE.imp (pe_callB ho hg hm hv ha hn hdb hs hp) (call_snd os)
theorem de_callTy {x : Str} {T : String} {h : OpC} {p : Pos} (o : CallD X (.type T) h) (hg : Gl X x) (hm : X.mg x = none) (hv : bootBuiltins x = some (.type T)) (ha : DA X W (e :: es) fa) (hn : x ≠ "__name__" := by decide) (hdb : (x == ("__debug__" : Str)) = false := by decide)
    (hs : starEach (e :: es) X.env = (false, eval e X.env) :: starEach es X.env := by rfl) (hp : (backTo pos (starEach es X.env)).any (·.1) = false := by rfl) : DE X W (.Call (.Name x p) (e :: es) [] pos) (xCall h fa) := by
  obtain ⟨r, ho, os⟩ := o
  exact PE.imp (pe_callTy ho hg hm hv ha hn hdb hs hp) (call_snd os)
/-! the built-ins on data -/
def one (h : Mem → D → Option D) : OpC := fun M ds => match ds with
  | [d] => h M d
  | _ => none
def two (h : Mem → D → D → Option D) : OpC := fun M ds => match ds with
  | [d, e] => h M d e
  | _ => none
theorem one_some {h : Mem → D → Option D} {M : Mem} {ds : List D} {z : D} (e : one h M ds = some z) : ∃ d, ds = [d] ∧ h M d = some z := by
  unfold one at e
  split at e
  · exact ⟨_, rfl, e⟩
  · cases e
theorem two_some {h : Mem → D → D → Option D} {M : Mem} {ds : List D} {z : D} (e : two h M ds = some z) : ∃ d c, ds = [d, c] ∧ h M d c = some z := by
  unfold two at e
  split at e
  · exact ⟨_, _, rfl, e⟩
  · cases e
def bAbs : OpC := one fun _ d => (asI d).map fun i => .int (if i < 0 then -i else i)
theorem cd_abs : CallD X (.builtin "abs") bAbs := by
  refine ⟨_, call_abs, fun F B ρ M H xs ds dz Q m rx e k => ?_⟩
  obtain ⟨d, rfl, h⟩ := one_some e
  cases rx with
  | cons r rr =>
    cases rr
    cases hi : asI d with
    | none => simp [hi] at h
    | some i =>
      simp [hi] at h
      subst h
      exact ⟨i, by rw [asI_snd r hi], k.same m (.int _)⟩
def bMax : OpC := two fun _ d c => (asI d).bind fun i => (asI c).bind fun j => some (.int (if j > i then j else i))
def bMin : OpC := two fun _ d c => (asI d).bind fun i => (asI c).bind fun j => some (.int (if j < i then j else i))
theorem cd_max (hc : X.calm = true) : CallD X (.builtin "max") bMax := by
  refine ⟨_, call_max2 hc, fun F B ρ M H xs ds dz Q m rx e k => ?_⟩
  obtain ⟨d, c, rfl, h⟩ := two_some e
  cases rx with
  | cons r rr =>
    cases rr with
    | cons r' rr =>
      cases rr
      cases hi : asI d with
      | none => simp [hi] at h
      | some i =>
        cases hj : asI c with
        | none => simp [hi, hj] at h
        | some j =>
          simp only [hi, hj, Option.bind_some] at h
          obtain rfl := Option.some.inj h
          exact ⟨i, j, by rw [asI_snd r hi, asI_snd r' hj], k.same m (.int _)⟩
theorem cd_min (hc : X.calm = true) : CallD X (.builtin "min") bMin := by
  refine ⟨_, call_min2 hc, fun F B ρ M H xs ds dz Q m rx e k => ?_⟩
  obtain ⟨d, c, rfl, h⟩ := two_some e
  cases rx with
  | cons r rr =>
    cases rr with
    | cons r' rr =>
      cases rr
      cases hi : asI d with
      | none => simp [hi] at h
      | some i =>
        cases hj : asI c with
        | none => simp [hi, hj] at h
        | some j =>
          simp only [hi, hj, Option.bind_some] at h
          obtain rfl := Option.some.inj h
          exact ⟨i, j, by rw [asI_snd r hi, asI_snd r' hj], k.same m (.int _)⟩
/-- int of an int or a truth -/
def bInt : OpC := one fun _ d => match d with
  | .int i => some (.int i)
  | .bl b => some (.int (if b then 1 else 0))
  | _ => none
theorem cd_int : CallD X (.type "int") bInt := by
  refine ⟨_, call_int1, fun F B ρ M H xs ds dz Q m rx e k => ?_⟩
  obtain ⟨d, rfl, h⟩ := one_some e
  cases rx with
  | cons r rr =>
    cases rr
    split at h
    · obtain rfl := Option.some.inj h
      cases r
      exact .inl ⟨_, rfl, k.same m (.int _)⟩
    · obtain rfl := Option.some.inj h
      cases r
      exact .inr ⟨_, rfl, k.same m (.int _)⟩
    · cases h
/-- how many -/
def lenD (M : Mem) (d : D) : Option Nat := match asL M d with
  | some ds => some ds.length
  | none => match asT d with
    | some ds => some ds.length
    | none => match asS d with
      | some s => if s.length ≤ sizeLine then some s.length else none
      | none => none
def bLen : OpC := one fun M d => (lenD M d).map fun n => .int n
theorem cd_len : CallD X (.builtin "len") bLen := by
  refine ⟨_, call_len_seq.or call_len_str, fun F B ρ M H xs ds dz Q m rx e k => ?_⟩
  obtain ⟨d, rfl, h⟩ := one_some e
  cases rx with
  | cons r rr =>
    cases rr
    unfold lenD at h
    split at h
    · next es he =>
      simp at h
      subst h
      obtain ⟨a, vs, rfl, hs, rs⟩ := asL_snd m r he
      exact .inl ⟨a, vs, rfl, .inl hs, by rw [← rs.len]; exact k.same m (.int _)⟩
    · split at h
      · next es he =>
        simp at h
        subst h
        obtain ⟨a, vs, rfl, hs, rs⟩ := asT_snd m r he
        exact .inl ⟨a, vs, rfl, .inr hs, by rw [← rs.len]; exact k.same m (.int _)⟩
      · split at h
        · next s he =>
          split at h
          · next hz =>
            simp at h
            subst h
            rw [asS_snd r he]
            exact .inr ⟨s, rfl, hz, k.same m (.int _)⟩
          · simp at h
        · simp at h
/-- all truths -/
def asBs : List D → Option (List Bool)
  | [] => some []
  | d :: ds => (asB d).bind fun b => (asBs ds).map (b :: ·)
theorem asBs_snd {K : PySem.W.Frag} {B : Hp} {ρ : List Addr} : ∀ {ds : List D} {vs : List V} {bs : List Bool}, Rps K B ρ ds vs → asBs ds = some bs → vs = bs.map V.bl
  | _, _, _, .nil, h => by cases h; rfl
  | _, _, bs, .cons (d := d) (ds := ds) r t, h => by
    unfold asBs at h
    cases h1 : asB d with
    | none => simp [h1] at h
    | some b =>
      cases h2 : asBs ds with
      | none => simp [h1, h2] at h
      | some cs =>
        simp [h1, h2] at h
        subst h
        rw [asBs_snd t h2]
        rw [asB_some h1] at r
        cases r
        rfl
def bAll : OpC := one fun M d => (asL M d).bind fun ds => (asBs ds).map fun bs => .bl (bs.all id)
theorem cd_all (hc : X.calm = true) : CallD X (.builtin "all") bAll := by
  refine ⟨_, cr_all hc, fun F B ρ M H xs ds dz Q m rx e k => ?_⟩
  obtain ⟨d, rfl, h⟩ := one_some e
  cases rx with
  | cons r rr =>
    cases rr
    cases h1 : asL M d with
    | none => simp [h1] at h
    | some es =>
      cases h2 : asBs es with
      | none => simp [h1, h2] at h
      | some bs =>
        simp only [h1, h2, Option.bind_some, Option.map_some] at h
        obtain rfl := Option.some.inj h
        obtain ⟨a, vs, rfl, hs, rs⟩ := asL_snd m r h1
        have := asBs_snd rs h2
        subst this
        exact ⟨a, bs, rfl, hs, k.same m (.bl _)⟩
/-- list of a list or tuple; tuple of them -/
def bList : OpC := one fun M d => match asL M d with
  | some ds => some (.lst ds)
  | none => (asT d).map fun ds => .lst ds
def bTuple : OpC := one fun M d => match asL M d with
  | some ds => some (.tup ds)
  | none => (asT d).map fun ds => .tup ds
theorem cd_list : CallD X (.type "list") bList := by
  refine ⟨_, call_list_of, fun F B ρ M H xs ds dz Q m rx e k => ?_⟩
  obtain ⟨d, rfl, h⟩ := one_some e
  cases rx with
  | cons r rr =>
    cases rr
    split at h
    · next es he =>
      obtain rfl := Option.some.inj h
      obtain ⟨a, vs, rfl, hs, rs⟩ := asL_snd m r he
      exact ⟨a, vs, rfl, .inl hs, k.newL m rs⟩
    · cases h2 : asT d with
      | none => simp [h2] at h
      | some es =>
        simp [h2] at h
        subst h
        obtain ⟨a, vs, rfl, hs, rs⟩ := asT_snd m r h2
        exact ⟨a, vs, rfl, .inr hs, k.newL m rs⟩
theorem cd_tuple : CallD X (.type "tuple") bTuple := by
  refine ⟨_, call_tuple_of, fun F B ρ M H xs ds dz Q m rx e k => ?_⟩
  obtain ⟨d, rfl, h⟩ := one_some e
  cases rx with
  | cons r rr =>
    cases rr
    split at h
    · next es he =>
      obtain rfl := Option.some.inj h
      obtain ⟨a, vs, rfl, hs, rs⟩ := asL_snd m r he
      exact ⟨a, vs, rfl, .inl ⟨hs, k.newT m rs⟩⟩
    · cases h2 : asT d with
      | none => simp [h2] at h
      | some es =>
        simp [h2] at h
        subst h
        have r2 := r
        obtain ⟨a, vs, rfl, hs, rs⟩ := asT_snd m r h2
        cases d <;> simp [asT] at h2
        subst h2
        exact ⟨a, vs, rfl, .inr ⟨hs, k.same m r2⟩⟩
/-- the class of a thing, by name -/
def tyN (M : Mem) : D → Option String
  | .non => some "NoneType"
  | .bl _ => some "bool"
  | .int _ => some "int"
  | .str _ => some "str"
  | .lst _ => some "list"
  | .tup _ => some "tuple"
  | .dct _ => some "dict"
  | .ptr n => match M[n]? with
    | some (.lst _) => some "list"
    | some (.dK _) => some "dict"
    | some (.dT _) => some "dict"
    | _ => none
  | _ => none
theorem tyN_snd {K : PySem.W.Frag} {F B H : Hp} {ρ : List Addr} {M : Mem} (m : MR K F B ρ M H) {d : D} {v : V} {t : String} (r : Rp K B ρ d v) (h : tyN M d = some t) : TyX K H v (.type t) := by
  cases r with
  | non => cases h; exact .base .non
  | bl b => cases h; exact .base (.bl b)
  | int i => cases h; exact .base (.int i)
  | str s => cases h; exact .base (.str s)
  | lst e q => cases h; exact .base (.lst (m.ex _ _ e))
  | tup e q =>
    cases h
    rcases ex_t m.ex e with (e | ⟨o, e⟩) | ⟨o, its, n, e1, e2, _⟩
    · exact .base (.tup e)
    · exact .fTuple e
    · exact .kTuple e1 e2
  | dct e q => cases h; exact .fDict (m.ex _ _ e)
  | dcT e q => cases h
  | ins c e q => cases h
  | fn c => cases h
  | scr e => cases h
  | @ptr n a ha =>
    have h' : (match M[n]? with | some (.lst _) => some "list" | some (.dK _) => some "dict" | some (.dT _) => some "dict" | _ => none) = some t := h
    split at h'
    · next ds hm =>
      cases h'
      obtain ⟨b, hb, _, vs, e, _⟩ := m.ob n _ hm
      rw [ha] at hb
      cases hb
      exact .base (.lst e)
    · next ds hm =>
      cases h'
      obtain ⟨b, hb, _, vs, e, _⟩ := m.ob n _ hm
      rw [ha] at hb
      cases hb
      exact .base (.dK e)
    · next ds hm =>
      cases h'
      obtain ⟨b, hb, _, vs, e, _⟩ := m.ob n _ hm
      rw [ha] at hb
      cases hb
      exact .base (.dT e)
    · cases h'
  | raw v => cases h
def bIsi : OpC := two fun M d c => match c with
  | .raw (.ty t) => (tyN M d).bind fun s => (kitB s t).map D.bl
  | _ => none
theorem cd_isi : CallD X (.builtin "isinstance") bIsi := by
  refine ⟨_, call_isi, fun F B ρ M H xs ds dz Q m rx e k => ?_⟩
  obtain ⟨d, c, rfl, h⟩ := two_some e
  cases rx with
  | cons r rr =>
    cases rr with
    | cons r' rr =>
      cases rr
      split at h
      · next t =>
        cases r'
        cases h1 : tyN M d with
        | none => simp [h1] at h
        | some s =>
          cases h2 : kitB s t with
          | none => simp [h1, h2] at h
          | some b =>
            simp [h1, h2] at h
            subst h
            exact ⟨_, .ty t, .type s, .type t, b, rfl, .ty t, tyN_snd m r h1, kit_ty h2, k.same m (.bl _)⟩
      · cases h
/-- sorted of texts -/
def asSs : List D → Option (List Str)
  | [] => some []
  | d :: ds => (asS d).bind fun b => (asSs ds).map (b :: ·)
theorem asSs_snd {K : PySem.W.Frag} {B : Hp} {ρ : List Addr} : ∀ {ds : List D} {vs : List V} {bs : List Str}, Rps K B ρ ds vs → asSs ds = some bs → vs = bs.map V.str
  | _, _, _, .nil, h => by cases h; rfl
  | _, _, bs, .cons (d := d) (ds := ds) r t, h => by
    unfold asSs at h
    cases h1 : asS d with
    | none => simp [h1] at h
    | some b =>
      cases h2 : asSs ds with
      | none => simp [h1, h2] at h
      | some cs =>
        simp [h1, h2] at h
        subst h
        rw [asSs_snd t h2, asS_snd r h1]
        rfl
theorem rps_strs {K : PySem.W.Frag} {B : Hp} {ρ : List Addr} : ∀ (ns : List Str), Rps K B ρ (ns.map D.str) (ns.map V.str)
  | [] => .nil
  | n :: ns => .cons (.str n) (rps_strs ns)
end
end Dn

namespace Dn
open PySem L2 Evl
section
variable {X : Cx} {W : WX} {a b c e o tg : Expr} {es : List Expr} {f g k : XE} {fa : XA} {p : XT} {pos : Pos}
/-! ### targets -/
def xgName (i : Nat) : XG := fun d η M => .ok (η.set i (some d)) M
theorem dg_name {i : Nat} {x : Str} (hN : X.N.Nodup) (hi : X.N[i]? = some x := by rfl) (hx : Loc X.env.scope x := by first | exact Or.inl rfl | exact Or.inr rfl) (hf : X.fn x = true ∨ X.env.scope.names.lookup x = some .local := by first | exact .inl rfl | exact .inr rfl | assumption) : DG X W (.Name x pos) [i] (xgName i) :=
  PG.imp (pg_name hN hi hx hf) fun v σ H Q z => by
    obtain ⟨d, η, F, B, ρ, M, r, e, m, w⟩ := z
    exact Wp.ret w m _ (e.set i r) (Off.set i _ σ)
def xgsNil : List D → Dv → Mem → R Dv := fun ds η M => match ds with
  | [] => .ok η M
  | _ => .no
def xgsCons (g : XG) (gs : List D → Dv → Mem → R Dv) : List D → Dv → Mem → R Dv := fun ds η M => match ds with
  | d :: r => (g d η M).bind fun η' M1 => gs r η' M1
  | [] => .no
theorem dgs_nil : DGs X W [] [] xgsNil := PGs.imp pgs_nil fun v σ H Q z => by
  obtain ⟨ds, η, F, B, ρ, M, r, e, m, w⟩ := z
  cases r with
  | nil => exact ⟨rfl, Wp.ret w m _ e (Off.refl _ _)⟩
  | cons r rr => exact w.elim
theorem dgs_cons {ts us : List Nat} {g : XG} {gs : List D → Dv → Mem → R Dv} (h1 : DG X W e ts g) (h2 : DGs X W es us gs) (hs : (assignEach (e :: es) X.env).map (·.2) = assign e X.env :: (assignEach es X.env).map (·.2) := by rfl) :
    DGs X W (e :: es) (ts ++ us) (xgsCons g gs) := PGs.imp (pgs_cons h1 h2 hs) fun v σ H Q z => by
  obtain ⟨ds, η, F, B, ρ, M, r, er, m, w⟩ := z
  cases r with
  | nil => exact w.elim
  | @cons d v ds vs r rr =>
    have w : Wp X.K X.mg F B ρ (wAll W) _ ((g d η M).bind fun η' M1 => gs ds η' M1) := w
    refine ⟨v, vs, rfl, d, η, F, B, ρ, M, r, er, m, w.bind fun η1 M1 B1 ρ1 H1 l1 m1 w1 σ1 e1 o1 => ?_⟩
    exact ⟨ds, η1, F, B1, ρ1, M1, rr.mono l1, e1, m1, w1.imp fun η2 B2 ρ2 H2 l2 q σ2 e2 o2 => q σ2 e2 (o1.trans o2)⟩
def xgTup (n : Nat) (gs : List D → Dv → Mem → R Dv) : XG := fun d η M => match asT d with
  | some ds => if ds.length = n then gs ds η M else .no
  | none => .no
theorem dg_tup {kk : Nat} {ts : List Nat} {n : Nat} {gs : List D → Dv → Mem → R Dv} (hc : X.calm = true) (h : DGs X W es ts gs) (hn : (assignEach es X.env).length = n := by rfl) (hst : (assignEach es X.env).findIdx? (·.1) = none := by rfl) :
    DG X W (.Tuple es kk pos) ts (xgTup n gs) := PG.imp (pg_tup hc h hn hst) fun v σ H Q z => by
  obtain ⟨d, η, F, B, ρ, M, r, er, m, w⟩ := z
  unfold xgTup at w
  split at w
  · next ds hd =>
    split at w
    · next hl =>
      obtain ⟨a, vs, rfl, hs, rs⟩ := asT_snd m r hd
      exact ⟨a, vs, rfl, hs, by rw [← rs.len]; exact hl, ds, η, F, B, ρ, M, rs, er, m, w⟩
    · exact w.elim
  · exact w.elim

/-! ### blocks, small statements -/
def xNx : XS := fun η M => .ok (.nx η) M
def thenS (g : XS) : Fl → Mem → R Fl := fun fl M => match fl with
  | .nx η => g η M
  | .rt d => .ok (.rt d) M
  | .bk η => .ok (.bk η) M
  | .ct η => .ok (.ct η) M
def xSeq (f g : XS) : XS := fun η M => (f η M).bind (thenS g)
variable {st : Stmt} {rest : List Stmt} {s u : XS}
theorem dss_nil : DSs X W [] xNx := PSs.imp pss_nil fun E σ H z => by
  obtain ⟨η, F, B, ρ, M, er, m, w⟩ := z
  exact Wp.ret (P := FlP X.K E) w m σ er
theorem dss_one (h : DS X W st s) : DSs X W [st] s := PSs.imp (pss_one h) fun E σ H z => z
theorem dss_cons (h1 : DS X W st s) (h2 : DSs X W rest u) : DSs X W (st :: rest) (xSeq s u) := PSs.imp (pss_cons h1 h2) fun E σ H z => by
  obtain ⟨η, F, B, ρ, M, er, m, w⟩ := z
  refine ⟨η, F, B, ρ, M, er, m, w.bind fun fl M1 B1 ρ1 H1 l1 m1 w1 => ?_⟩
  cases fl with
  | nx η' => exact fun σ' e' => ⟨η', F, B1, ρ1, M1, e', m1, w1⟩
  | rt d => exact Wp.ret (P := FlP X.K E) w1 m1
  | bk η' => exact Wp.ret (P := FlP X.K E) w1 m1
  | ct η' => exact Wp.ret (P := FlP X.K E) w1 m1
def xDrop (f : XE) : XS := fun η M => (f η M).bind fun _ M1 => .ok (.nx η) M1
theorem ds_expr (he : DE X W e f) (hs : swapsWith e none pos.line X.env = pure false := by rfl) : DS X W (.Expr e pos) (xDrop f) := PS.imp (ps_expr he hs) fun E σ H z => by
  obtain ⟨η, F, B, ρ, M, er, m, w⟩ := z
  exact ⟨η, F, B, ρ, M, er, m, w.bind fun d M1 B1 ρ1 H1 l1 m1 w1 v rv => Wp.ret (P := FlP X.K E) w1 m1 σ (er.mono l1)⟩
def xRet (f : XE) : XS := fun η M => (f η M).bind fun d M1 => .ok (.rt d) M1
theorem ds_ret (he : DE X W e f) : DS X W (.Return (some e) pos) (xRet f) := PS.imp (ps_ret he) fun E σ H z => by
  obtain ⟨η, F, B, ρ, M, er, m, w⟩ := z
  exact ⟨η, F, B, ρ, M, er, m, w.bind fun d M1 B1 ρ1 H1 l1 m1 w1 v rv => Wp.ret (P := FlP X.K E) w1 m1 v rv⟩
def xIfS (p : XT) (s u : XS) : XS := fun η M => (p η M).bind fun b M1 => if b = true then s η M1 else u η M1
theorem ds_if {c : Expr} {xs ys : List Stmt} (hc : DT X W c p) (ha : DSs X W xs s) (hb : DSs X W ys u) : DS X W (.If c xs ys pos) (xIfS p s u) := PS.imp (ps_if hc ha hb) fun E σ H z => by
  obtain ⟨η, F, B, ρ, M, er, m, w⟩ := z
  refine ⟨η, F, B, ρ, M, er, m, w.bind fun t M1 B1 ρ1 H1 l1 m1 w1 => ?_⟩
  cases t with
  | true => exact ⟨η, F, B1, ρ1, M1, er.mono l1, m1, w1⟩
  | false => exact ⟨η, F, B1, ρ1, M1, er.mono l1, m1, w1⟩
/-! ### assignments -/
def xAsg (f : XE) (g : XG) : XS := fun η M => (f η M).bind fun d M1 => (g d η M1).bind fun η' M2 => .ok (.nx η') M2
theorem asg_snd {ts : List Nat} {g : XG} (E : Ends) (σ : L2.St) (H : Hp) (z : tS X.K X.mg W (xAsg f g) E σ H) : tE X.K X.mg W f σ H fun x H1 => tG X.K X.mg W ts g x σ H1 E.nx := by
  obtain ⟨η, F, B, ρ, M, er, m, w⟩ := z
  refine ⟨η, F, B, ρ, M, er, m, w.bind fun d M1 B1 ρ1 H1 l1 m1 w1 v rv => ?_⟩
  exact ⟨d, η, F, B1, ρ1, M1, rv, er.mono l1, m1, w1.bind fun η' M2 B2 ρ2 H2 l2 m2 w2 σ' e' _ => Wp.ret (P := FlP X.K E) w2 m2 σ' e'⟩
theorem ds_asg {ts : List Nat} {g : XG} (he : DE X W e f) (hg : DG X W tg ts g) (hs : swapsWithSole [tg] e pos.line X.env = pure false := by rfl) (hw : swappedStores [tg] e X.env = pure none := by rfl)
    (h1 : (assignEach [tg] X.env).map (·.2) = [assign tg X.env] := by rfl) : DS X W (.Assign [tg] e pos) (xAsg f g) := PS.imp (ps_asg he hg hs hw h1) asg_snd
theorem set_snd {i : Nat} (E : Ends) (σ : L2.St) (H : Hp) (z : tS X.K X.mg W (xAsg f (xgName i)) E σ H) : tE X.K X.mg W f σ H fun x H1 => gName i x σ H1 E.nx := by
  obtain ⟨η, F, B, ρ, M, er, m, w⟩ := z
  exact ⟨η, F, B, ρ, M, er, m, w.bind fun d M1 B1 ρ1 H1 l1 m1 w1 v rv => Wp.ret (P := FlP X.K E) w1 m1 _ ((er.mono l1).set i rv)⟩
theorem ds_set {i : Nat} {x : Str} {pos' : Pos} (hN : X.N.Nodup) (he : DE X W e f) (hi : X.N[i]? = some x := by rfl) (hx : Loc X.env.scope x := by first | exact Or.inl rfl | exact Or.inr rfl) (hs : swapsWith e (some (.Name x pos')) pos.line X.env = pure false := by rfl)
    (hf : X.fn x = true ∨ X.env.scope.names.lookup x = some .local := by first | exact .inl rfl | exact .inr rfl | assumption) : DS X W (.Assign [.Name x pos'] e pos) (xAsg f (xgName i)) := PS.imp (ps_set hN hi hx he hs hf) set_snd
/-- a, b = x, y -/
def xPar (i j : Nat) (f g : XE) : XS := fun η M => (f η M).bind fun d M1 => (g η M1).bind fun c M2 => .ok (.nx ((η.set i (some d)).set j (some c))) M2
theorem ds_par {i j : Nat} {x y : Str} {px py pt : Pos} {kt k2 pt2} (hc : X.calm = true) (hN : X.N.Nodup) (hij : i ≠ j) (ha : DE X W a f) (hb : DE X W b g) (hi : X.N[i]? = some x := by rfl) (hj : X.N[j]? = some y := by rfl)
    (hx : X.env.scope.names.lookup x = some .local := by rfl) (hy : X.env.scope.names.lookup y = some .local := by rfl)
    (hw : swappedStores [.Tuple [.Name x px, .Name y py] kt pt] (.Tuple [a, b] k2 pt2) X.env = pure (some [x, y]) := by rfl)
    (hs : swapsWithSole [.Tuple [.Name x px, .Name y py] kt pt] (.Tuple [a, b] k2 pt2) pos.line X.env = pure false := by rfl)
    (hs1 : starEach [a, b] X.env = (false, eval a X.env) :: starEach [b] X.env := by rfl) (hs2 : starEach [b] X.env = (false, eval b X.env) :: starEach [] X.env := by rfl) :
    DS X W (.Assign [.Tuple [.Name x px, .Name y py] kt pt] (.Tuple [a, b] k2 pt2) pos) (xPar i j f g) := PS.imp (ps_par hc hN hi hj hij hx hy (pa_cons ha (pa_cons hb pa_nil hs2) hs1) hw hs) fun E σ H z => by
  obtain ⟨η, F, B, ρ, M, er, m, w⟩ := z
  refine ⟨η, F, B, ρ, M, er, m, w.bind fun d M1 B1 ρ1 H1 l1 m1 w1 v rv => ?_⟩
  refine ⟨η, F, B1, ρ1, M1, er.mono l1, m1, w1.bind fun c M2 B2 ρ2 H2 l2 m2 w2 v2 rv2 => ?_⟩
  exact ⟨v, v2, rfl, Wp.ret (P := FlP X.K E) w2 m2 _ (((er.mono (l1.trans l2)).set i (rv.mono l2)).set j rv2)⟩
/-- xs[i] = v of a list that may change -/
def xSetL (v o i : XE) : XS := fun η M => (v η M).bind fun d M1 => (o η M1).bind fun l M2 => (i η M2).bind fun z M3 => match l, z with
  | .ptr n, .int j => match M3[n]? with
    | some (.lst ds) => match ixN ds.length j with
      | some q => .ok (.nx η) (M3.set n (.lst (ds.set q d)))
      | none => .no
    | _ => .no
  | _, _ => .no
theorem ds_setL {ti v : Expr} {h : XE} (he : DE X W v h) (ho : DE X W o f) (hi : DE X W ti g) (hw : swappedStores [.Subscript o ti pos] v X.env = pure none := by rfl)
    {spos : Pos} (hs' : swapsWithSole [.Subscript o ti pos] v spos.line X.env = pure false := by rfl)
    (h1 : (assignEach [.Subscript o ti pos] X.env).map (·.2) = [assign (.Subscript o ti pos) X.env] := by rfl)
    (hp : ∀ v, assign (.Subscript o ti pos) X.env v = (do
      let ov ← holding [v] (eval o X.env)
      let iv ← holding [v, ov] (eval ti X.env)
      standAt pos
      holding [v, ov, iv] (setItem ov iv v)
      release [v, ov, iv] []) := by intro _; rfl) : DS X W (.Assign [.Subscript o ti pos] v spos) (xSetL h f g) := PS.imp (ps_asg he (pg_sub ho hi set_list hp) hs' hw h1) fun E σ H z => by
  obtain ⟨η, F, B, ρ, M, er, m, w⟩ := z
  refine ⟨η, F, B, ρ, M, er, m, w.bind fun d M1 B1 ρ1 H1 l1 m1 w1 x rx => ?_⟩
  refine ⟨η, F, B1, ρ1, M1, er.mono l1, m1, w1.bind fun dl M2 B2 ρ2 H2 l2 m2 w2 y ry => ?_⟩
  refine ⟨η, F, B2, ρ2, M2, er.mono (l1.trans l2), m2, w2.bind fun dz M3 B3 ρ3 H3 l3 m3 w3 z rz => ?_⟩
  split at w3
  · next n j =>
    split at w3
    · next ds hm =>
      split at w3
      · next q hq =>
        cases rz
        have ry3 := ry.mono l3
        cases ry3 with
        | @ptr _ a ha =>
          obtain ⟨vs, hH, rs, hB⟩ := m3.list ha hm
          refine ⟨a, vs, j, q, rfl, rfl, hH, by rw [← rs.len]; exact hq, ?_⟩
          have m4 := m3.put (o := .lst (vs.set q x)) (ob := .lst (ds.set q d)) ha hm (by intro z; cases z) ⟨_, upd_same, rs.set q (rx.mono (l2.trans l3))⟩
          exact w3 _ _ _ (Le.refl _ _) m4 σ (er.mono ((l1.trans l2).trans l3))
      · exact w3.elim
    · exact w3.elim
  · exact w3.elim
end
end Dn

namespace Dn
open PySem L2 Evl
section
variable {X : Cx} {W : WX} {a b c e o tg it : Expr} {es : List Expr} {f g k : XE} {fa : XA} {p : XT} {pos : Pos}
/-! ### what is walked -/
def xRng (g : XA) : XI := fun η M => (g η M).bind fun ds M1 => match ds with
  | [.int j] => if -(2 ^ 62) ≤ j ∧ j < 2 ^ 62 then .ok ((List.range j.toNat).map fun i => .int (i : Nat)) M1 else .no
  | _ => .no
theorem walk_rng {K : PySem.W.Frag} {B : Hp} {ρ : List Addr} {n : Nat} : WalkD K (Itr 0 n) B ρ ((List.range n).map fun i => .int (i : Nat)) := by
  refine ⟨⟨fun _ => True, _, by simpa using walk_range, fun _ _ => trivial, fun i d h F B1 ρ1 M H x H2 l m y => ?_⟩⟩
  obtain ⟨rfl, rfl⟩ := y
  refine ⟨B1, Le.refl _ _, m, ?_, Ex.refl _⟩
  rw [List.getElem?_map] at h
  cases hr : (List.range n)[i]? with
  | none => rw [hr] at h; cases h
  | some q =>
    rw [hr] at h
    simp at h
    have : q = i := by
      have := (List.getElem?_eq_some_iff.mp hr).2
      simpa using this.symm
    subst this
    rw [← h]
    simpa using Rp.int (K := K) (B := B1) (ρ := ρ1) ((q : Nat) : Int)
theorem di_range1 {p0 pos : Pos} (hg : Gl X "range") (hm : X.mg "range" = none) (ha : DA X W [a] fa) (hs : starEach [a] X.env = [(false, eval a X.env)] := by rfl) : DI X W tg (.Call (.Name "range" p0) [a] [] pos) (xRng fa) :=
  PI.imp (pi_range1 hg hm ha hs) fun σ H Q z => by
    obtain ⟨η, F, B, ρ, M, er, m, w⟩ := z
    refine ⟨η, F, B, ρ, M, er, m, w.bind fun ds M1 B1 ρ1 H1 l1 m1 w1 vs rv => ?_⟩
    split at w1
    · next j =>
      split at w1
      · next hj =>
        cases rv with
        | cons r rr =>
          cases rr
          cases r
          exact ⟨j, rfl, hj.1, hj.2, Wp.ret w1 m1 _ walk_rng⟩
      · exact w1.elim
    · exact w1.elim
/-- the items of a list, a tuple, a text that stay -/
def itemsD : D → Option (List D)
  | .lst ds => some ds
  | .scr ns => some (ns.map D.int)
  | .tup ds => some ds
  | .str s => some (s.cps.toList.map fun c => .str ⟨#[c]⟩)
  | _ => none
def xSq (f : XE) : XI := fun η M => (f η M).bind fun d M1 => R.of (itemsD d) M1
theorem PI.or {t t' : TI} (h : PI X tg it t) (h' : PI X tg it t') : PI X tg it (fun σ H Q => t σ H Q ∨ t' σ H Q) := ⟨fun pins s σ H Q I q => q.elim (h.run pins s σ H Q I) (h'.run pins s σ H Q I)⟩
theorem walk_at {K : PySem.W.Frag} {J : It} {G : Hp → Prop} {B : Hp} {ρ : List Addr} {ds : List D} {vs : List V} (w : Walk J vs.length G (YAt vs)) (hG : ∀ H, Ex B H → G H) (r : Rps K B ρ ds vs) : WalkD K J B ρ ds := by
  refine ⟨⟨G, YAt vs, by rw [r.len]; exact w, hG, fun i d h F B1 ρ1 M H x H2 l m y => ?_⟩⟩
  obtain ⟨rfl, hx⟩ := y
  obtain ⟨v, h1, h2⟩ := r.get h
  rw [hx] at h1
  cases h1
  exact ⟨B1, Le.refl _ _, m, h2.mono l, Ex.refl _⟩
theorem di_sq (he : DE X W it f) : DI X W tg it (xSq f) :=
  PI.imp (PI.or (pi_list he) (PI.or (pi_tup he) (pi_str he))) fun σ H Q z => by
    obtain ⟨η, F, B, ρ, M, er, m, w⟩ := z
    unfold xSq at w
    cases hr : f η M with
    | no => rw [hr] at w; exact w.elim
    | ex e1 M1 =>
      rw [hr] at w
      refine .inl ⟨η, F, B, ρ, M, er, m, ?_⟩
      rw [hr]
      exact w
    | ok d M1 =>
      rw [hr] at w
      have w : Wp X.K X.mg F B ρ (wAt W σ) _ (R.of (itemsD d) M1) := w
      obtain ⟨ds, hd, w1⟩ := w.of
      cases d with
      | lst xs =>
        cases hd
        refine .inl ⟨η, F, B, ρ, M, er, m, ?_⟩
        rw [hr]
        intro B' ρ' H' l m' v rv
        cases rv with
        | lst e1 r1 => exact ⟨_, rfl, ⟨_, sq_of (m'.ex _ _ e1)⟩, w1 B' ρ' H' l m' _ (walk_at walk_list (fun H hH => sq_of (hH _ _ e1)) r1)⟩
      | scr ns =>
        cases hd
        refine .inl ⟨η, F, B, ρ, M, er, m, ?_⟩
        rw [hr]
        intro B' ρ' H' l m' v rv
        cases rv with
        | scr e1 => exact ⟨_, rfl, ⟨_, ex_l m'.ex e1⟩, w1 B' ρ' H' l m' _ (walk_at walk_list (fun H hH => ex_l hH e1) (rps_ints ns))⟩
      | tup xs =>
        cases hd
        refine .inr (.inl ⟨η, F, B, ρ, M, er, m, ?_⟩)
        rw [hr]
        intro B' ρ' H' l m' v rv
        cases rv with
        | tup e1 r1 => exact ⟨_, rfl, ⟨_, ex_t m'.ex e1⟩, w1 B' ρ' H' l m' _ (walk_at walk_tup (fun H hH => ex_t hH e1) r1)⟩
      | str s =>
        cases hd
        refine .inr (.inr ⟨η, F, B, ρ, M, er, m, ?_⟩)
        rw [hr]
        intro B' ρ' H' l m' v rv
        cases rv
        refine ⟨s, rfl, w1 B' ρ' H' l m' _ ⟨⟨fun _ => True, _, by simpa using walk_str, fun _ _ => trivial, fun i d h F B1 ρ1 M H x H2 l m y => ?_⟩⟩⟩
        obtain ⟨rfl, c, hc, rfl⟩ := y
        refine ⟨B1, Le.refl _ _, m, ?_, Ex.refl _⟩
        rw [List.getElem?_map] at h
        have hc' : s.cps.toList[i]? = some c := by simpa using hc
        rw [hc'] at h
        simp at h
        rw [← h]
        exact .str _
      | non => cases hd
      | bl _ => cases hd
      | int _ => cases hd
      | dct _ => cases hd
      | dcT _ => cases hd
      | ins _ _ => cases hd
      | fn _ => cases hd
      | ptr _ => cases hd
      | raw _ => cases hd
/-- pairs -/
def xZip (g : XA) : XI := fun η M => (g η M).bind fun ds M1 => match ds with
  | [.lst xs, .lst ys] => .ok (xs.zip ys |>.map fun q => .tup [q.1, q.2]) M1
  | [.tup xs, .tup ys] => .ok (xs.zip ys |>.map fun q => .tup [q.1, q.2]) M1
  | _ => .no
theorem walk_pair {K : PySem.W.Frag} {J : It} {G : Hp → Prop} {B : Hp} {ρ : List Addr} {ds es : List D} {vs us : List V} (w : Walk J (min vs.length us.length) G (YPair (fun i => vs[i]?) (fun i => us[i]?))) (hG : ∀ H, Ex B H → G H) (r : Rps K B ρ ds vs) (r' : Rps K B ρ es us) :
    WalkD K J B ρ (ds.zip es |>.map fun q => .tup [q.1, q.2]) := by
  refine ⟨⟨G, _, by rw [List.length_map, List.length_zip, r.len, r'.len]; exact w, hG, fun i d h F B1 ρ1 M H x H2 l m y => ?_⟩⟩
  obtain ⟨T, x1, y1, rfl, hT, rfl, hx, hy⟩ := y
  rw [List.getElem?_map] at h
  cases hz : (ds.zip es)[i]? with
  | none => rw [hz] at h; cases h
  | some q =>
    rw [hz] at h
    simp at h
    have hz' := List.getElem?_zip_eq_some.mp hz
    obtain ⟨v1, h1, h2⟩ := r.get hz'.1
    obtain ⟨v2, h3, h4⟩ := r'.get hz'.2
    have hx' : vs[i]? = some x1 := hx
    have hy' : us[i]? = some y1 := hy
    rw [hx'] at h1
    rw [hy'] at h3
    cases h1
    cases h3
    obtain ⟨m', l'⟩ := m.new (o := .tup [x1, y1]) hT
    refine ⟨_, l', m', ?_, Ex.new hT⟩
    rw [← h]
    exact .tup (st_of upd_same) (.cons (h2.mono (l.trans l')) (.cons (h4.mono (l.trans l')) .nil)) (.inr upd_same)
theorem walk_zipT {K : PySem.W.Frag} {a b : Addr} {xs ys : List V} : Walk (RZ.ItzT K a b) (min xs.length ys.length) (fun H => SqT K H a xs ∧ SqT K H b ys) (YPair (fun i => xs[i]?) (fun i => ys[i]?)) := by
  refine ⟨fun i _ hi q => ?_, fun _ q => ⟨xs, ys, q.1, q.2, by omega⟩, fun i H v H' _ q y => ?_⟩
  · have h1 : i < xs.length := by omega
    have h2 : i < ys.length := by omega
    exact ⟨xs, ys, xs[i], ys[i], q.1, q.2, by simp [h1], by simp [h2]⟩
  · obtain ⟨T, x, z, h1, h2, h3, h4, h5⟩ := y
    exact ⟨T, x, z, h1, h2, h3, h4 xs q.1, h5 ys q.2⟩
theorem di_zip {e2 : Expr} {p0 pos tpos : Pos} {elts : List Expr} {kk : Nat} (hg : Gl X "zip") (hm : X.mg "zip" = none) (ha : DA X W [e, e2] fa)
    (hs : starEach [e, e2] X.env = (false, eval e X.env) :: starEach [e2] X.env := by rfl) (hpl : (backTo pos (starEach [e2] X.env)).any (·.1) = false := by rfl) : DI X W (.Tuple elts kk tpos) (.Call (.Name "zip" p0) [e, e2] [] pos) (xZip fa) :=
  PI.imp (RZ.pi_zipA hg hm ha hs hpl) fun σ H Q z => by
    obtain ⟨η, F, B, ρ, M, er, m, w⟩ := z
    refine ⟨η, F, B, ρ, M, er, m, w.bind fun ds M1 B1 ρ1 H1 l1 m1 w1 vs rv => ?_⟩
    split at w1
    · next xs ys =>
      cases rv with
      | cons r rr =>
        cases rr with
        | cons r' rr =>
          cases rr
          cases r with
          | lst e1 q1 =>
            cases r' with
            | lst e2 q2 =>
              exact ⟨_, _, _, _, rfl, .inl ⟨sq_of (m1.ex _ _ e1), sq_of (m1.ex _ _ e2), Wp.ret w1 m1 _ (walk_pair (walk_zip rfl) (fun H hH => ⟨sq_of (hH _ _ e1), sq_of (hH _ _ e2)⟩) q1 q2)⟩⟩
    · next xs ys =>
      cases rv with
      | cons r rr =>
        cases rr with
        | cons r' rr =>
          cases rr
          cases r with
          | tup e1 q1 =>
            cases r' with
            | tup e2 q2 =>
              exact ⟨_, _, _, _, rfl, .inr ⟨ex_t m1.ex e1, ex_t m1.ex e2, Wp.ret w1 m1 _ (walk_pair walk_zipT (fun H hH => ⟨ex_t hH e1, ex_t hH e2⟩) q1 q2)⟩⟩
    · exact w1.elim

/-! ### for -/
def xForL (g : XG) (body : XS) : List D → Dv → Mem → R Fl
  | [], η, M => .ok (.nx η) M
  | d :: ds, η, M => (g d η M).bind fun η' M1 => (body η' M1).bind fun fl M2 => match fl with
    | .nx η2 => xForL g body ds η2 M2
    | .ct η2 => xForL g body ds η2 M2
    | .bk η2 => .ok (.nx η2) M2
    | .rt v => .ok (.rt v) M2
def xFor (i : XI) (g : XG) (body : XS) : XS := fun η M => (i η M).bind fun ds M1 => xForL g body ds η M1
theorem ds_for {body : List Stmt} {fi : XI} {ts : List Nat} {gt : XG} {s : XS} (hp : PassesOwn (model X.prog X.w) X.A X.env X.xe) (hc : X.calm = true) (hi : DI X W tg it fi) (hg : DG X W tg ts gt) (hb : DSs X W body s)
    (hs : ∀ x, foldedSetIterable it X.env x = pure x := by intro _; rfl) : DS X W (.For tg it body [] pos) (xFor fi gt s) := PS.imp (ps_for hp hc hi hg hb hs) fun E σ H z => by
  obtain ⟨η, F, B, ρ, M, er, m, w⟩ := z
  refine ⟨η, F, B, ρ, M, er, m, w.bind fun ds M1 B1 ρ1 H1 l1 m1 w1 J wd => ?_⟩
  obtain ⟨G, Y, wk, hG, hY⟩ := wd.w
  refine for_it wk (fun i σ' H' => ∃ η' B' ρ' M', ER X.K B' ρ' η' σ' ∧ MR X.K F B' ρ' M' H' ∧ Le B1 ρ1 B' ρ' ∧ Wp X.K X.mg F B' ρ' (wAll W) (FlP X.K E) (xForL gt s (ds.drop i) η' M')) ⟨η, B1, ρ1, M1, er.mono l1, m1, Le.refl _ _, by simpa using w1⟩
    (fun i σ' H' _ ⟨η', B', ρ', M', _, m', l', _⟩ => hG H' (l'.1.trans m'.ex)) (fun i x σ' H' H2 hi ⟨η', B', ρ', M', e', m', l', w'⟩ y => ?_) (fun σ' H' ⟨η', B', ρ', M', e', m', l', w'⟩ => ?_)
  · have hd : ds[i]? = some ds[i] := List.getElem?_eq_getElem hi
    rw [List.drop_eq_getElem_cons hi] at w'
    obtain ⟨B2, l2, m2, r2, _⟩ := hY i ds[i] hd F B' ρ' M' H' x H2 l' m' y
    have w2 : Wp X.K X.mg F B2 ρ' (wAll W) (FlP X.K E) ((gt ds[i] η' M').bind _) := w'.mono l2
    refine ⟨ds[i], η', F, B2, ρ', M', r2, e'.mono l2, m2, w2.bind fun η3 M3 B3 ρ3 H3 l3 m3 w3 σ3 e3 _ => ?_⟩
    refine ⟨η3, F, B3, ρ3, M3, e3, m3, w3.bind fun fl M4 B4 ρ4 H4 l4 m4 w4 => ?_⟩
    have lz : Le B1 ρ1 B4 ρ4 := ((l'.trans l2).trans l3).trans l4
    cases fl with
    | nx η4 => exact fun σ4 e4 => ⟨η4, B4, ρ4, M4, e4, m4, lz, w4⟩
    | ct η4 => exact fun σ4 e4 => ⟨η4, B4, ρ4, M4, e4, m4, lz, w4⟩
    | bk η4 => exact fun σ4 e4 => Wp.ret (P := FlP X.K E) w4 m4 σ4 e4
    | rt v => exact Wp.ret (P := FlP X.K E) w4 m4
  · rw [List.drop_length] at w'
    exact Wp.ret (P := FlP X.K E) w' m' σ' e'

/-! ### a list made by a comprehension -/
def xLcL (g : XG) (t : XT) (f : XE) : List D → Dv → Mem → R (List D)
  | [], _, M => .ok [] M
  | d :: ds, η, M => (g d η M).calm.bind fun η' M1 => (t η' M1).calm.bind fun b M2 => if b = true then (f η' M2).calm.bind fun y M3 => (xLcL g t f ds η M3).bind fun r M4 => .ok (y :: r) M4 else xLcL g t f ds η M2
/-- what is made, and whether it may change -/
def frozenL (ds : List D) (M : Mem) : R D := .ok (.lst ds) M
def xLc (fin : List D → Mem → R D) (i : XI) (g : XG) (t : XT) (f : XE) (vs : List Nat) : XE := fun η M => (i η M).bind fun ds M1 => if ds.length ≤ 100000 then (xLcL g t f ds (wipeD η vs) M1).bind fin else .no
def xYes : XT := fun _ M => .ok true M
theorem dts_nil : DTs X W [] xYes := PTs.imp pts_nil fun σ H Q z => by
  obtain ⟨η, F, B, ρ, M, er, m, w⟩ := z
  exact Wp.ret (P := fun b _ _ H' => Q b H') w m
theorem dts_one (h : DT X W c p) : DTs X W [c] p := PTs.imp (pts_one h) fun σ H Q z => z
/-- what follows a new list -/
def FinOk (fin : List D → Mem → R D) : Prop := ∀ (K : PySem.W.Frag) (mg : Str → Option Value) (W : XK) (F B H : Hp) (ρ : List Addr) (M : Mem) (ds : List D) (vs : List V) (Q : VK), MR K F B ρ M H → Rps K B ρ ds vs → Wp K mg F B ρ W (fun d B' ρ' H' => ∀ v, Rp K B' ρ' d v → Q v H') (fin ds M) →
  ∀ p, H p = none → Q (.ref p) (upd H p (.lst vs))
theorem fin_frozen : FinOk frozenL := fun K mg W F B H ρ M ds vs Q m r w => (done_of w).newL m r
theorem drop_frame {K : PySem.W.Frag} {F B H : Hp} {ρ : List Addr} {M : Mem} {p : Addr} {u : HO} (m : MR K (upd F p u) B ρ M H) (hF : F p = none) (o : HO) (hu : isFrz u = false := by rfl) : MR K F B ρ M (upd H p o) ∧ B p = none ∧ p ∉ ρ := by
  obtain ⟨hB, hρ⟩ := m.dj' upd_same hu
  refine ⟨⟨fun a v e => ?_, fun a v e => ?_, fun a v e => ?_, m.len, m.nd, fun n ob h => ?_, fun a ys e => ?_⟩, hB, hρ⟩
  · rw [upd_ne (ne_of_none e hB)]
    exact m.ex a v e
  · have na : a ≠ p := ne_of_none e hF
    rw [upd_ne na]
    exact m.fr a v (by rw [upd_ne na]; exact e)
  · have na : a ≠ p := ne_of_none e hF
    exact m.dj a v (by rw [upd_ne na]; exact e)
  · obtain ⟨a, ha, hb, r⟩ := m.ob n ob h
    have na : a ≠ p := fun z => hρ (z ▸ List.mem_of_getElem? ha)
    exact ⟨a, ha, hb, r.mono (Le.refl _ _) fun w q => by rw [upd_ne na]; exact q⟩
  · have na : a ≠ p := ne_of_none e hF
    exact m.nt a ys (by rw [upd_ne na]; exact e)
theorem add_frame {K : PySem.W.Frag} {F B H : Hp} {ρ : List Addr} {M : Mem} {p : Addr} {u : HO} (m : MR K F B ρ M H) (hp : H p = some u) (hB : B p = none) (hρ : p ∉ ρ) (hu : ∀ ys, u ≠ .tup ys := by intro ys z; cases z) : MR K (upd F p u) B ρ M H := by
  refine ⟨m.ex, fun a v e => ?_, fun a v e => ?_, m.len, m.nd, m.ob, fun a ys e => ?_⟩
  · by_cases q : a = p
    · subst q
      rw [upd_same] at e
      cases e
      exact hp
    · rw [upd_ne q] at e
      exact m.fr a v e
  · by_cases q : a = p
    · subst q
      exact ⟨hB, fun n hn => absurd (List.mem_of_getElem? hn) hρ⟩
    · rw [upd_ne q] at e
      exact m.dj a v e
  · by_cases q : a = p
    · subst q
      rw [upd_same] at e
      exact hu ys (Option.some.inj e)
    · rw [upd_ne q] at e
      exact m.nt a ys e
theorem MR.less {K : PySem.W.Frag} {F B H : Hp} {ρ : List Addr} {M : Mem} {p : Addr} {u : HO} (mm : MR K (upd F p u) B ρ M H) (hF : F p = none) : MR K F B ρ M H := by
  refine ⟨mm.ex, fun a o e => mm.fr a o ?_, fun a o e => mm.dj a o ?_, mm.len, mm.nd, mm.ob, fun a ys e => mm.nt a ys ?_⟩
  · rw [upd_ne (ne_of_none e hF)]; exact e
  · rw [upd_ne (ne_of_none e hF)]; exact e
  · rw [upd_ne (ne_of_none e hF)]; exact e
theorem de_lc {elt : Expr} {ifs : List Expr} {scope : Scope} {own : List (Str × Nat)} {fi : XI} {ts : List Nat} {gt : XG} {t : XT} {W' : WX} {fin : List D → Mem → R D} (hf : FinOk fin) (hc : X.calm = true) (hN : X.N.Nodup) (hi : DI X W tg it fi) (ok : BlkOk X.N X.env.scope scope own)
    (hg : ∀ (s : Shared) (H : Hp) (C : Addr) (cl : List (Str × Addr)) (fp : List Addr), DG (X.blk s H scope (compEnvC scope cl C X.env) fp) W' tg ts gt) (ht : ∀ (s : Shared) (H : Hp) (C : Addr) (cl : List (Str × Addr)) (fp : List Addr), DTs (X.blk s H scope (compEnvC scope cl C X.env) fp) W' ifs t)
    (he : ∀ (s : Shared) (H : Hp) (C : Addr) (cl : List (Str × Addr)) (fp : List Addr), DE (X.blk s H scope (compEnvC scope cl C X.env) fp) W' elt f) (hts : ∀ i ∈ ts, i ∈ own.map (·.2)) (hs : ∀ x, foldedSetIterable it X.env x = pure x := by intro _; rfl) :
    DE X W (.ListComp elt [⟨tg, it, ifs, 0⟩] scope pos) (xLc fin fi gt t f (own.map (·.2))) := PE.imp (pe_lc (g := tG X.K X.mg W' ts gt) (tt := tT X.K X.mg W' t) (te := tE X.K X.mg W' f) hc hN hi ok hg ht he hs) fun σ H Q z => lcGo hf hts σ H Q z
where
  lcGo {own : List (Str × Nat)} {fi : XI} {ts : List Nat} {gt : XG} {t : XT} {W' : WX} {fin : List D → Mem → R D} {f : XE} (hf : FinOk fin) (hts : ∀ i ∈ ts, i ∈ own.map (·.2)) (σ : L2.St) (H : Hp) (Q : VK) (z : tE X.K X.mg W (xLc fin fi gt t f (own.map (·.2))) σ H Q) :
      tLc (tI X.K X.mg W fi) (tG X.K X.mg W' ts gt) (tT X.K X.mg W' t) (tE X.K X.mg W' f) (own.map (·.2)) σ H Q := by
    obtain ⟨η, F, B, ρ, M, er, m, w⟩ := z
    refine ⟨η, F, B, ρ, M, er, m, w.bind fun ds M1 B1 ρ1 H1 l1 m1 w1 J wd => fun p hp => ?_⟩
    split at w1
    · next hlen =>
      obtain ⟨G, Y, wk, hG, hY⟩ := wd.w
      have hFp : F p = none := fresh_back m1.fr hp
      refine lc_it wk (fun i H' => ∃ B' ρ' M' acc dacc, MR X.K F B' ρ' M' H' ∧ Le B1 ρ1 B' ρ' ∧ H' p = some (.lst acc) ∧ B' p = none ∧ p ∉ ρ' ∧ Rps X.K B' ρ' dacc acc ∧ dacc.length ≤ i ∧
          Wp X.K X.mg F B' ρ' (wAt W σ) (fun d B' ρ' H' => ∀ v, Rp X.K B' ρ' d v → Q v H') ((xLcL gt t f (ds.drop i) (wipeD η (own.map (·.2))) M').bind fun r M2 => fin (dacc ++ r) M2))
        ⟨B1, ρ1, M1, [], [], m1.more (Ex.new hp), Le.refl _ _, upd_same, fresh_back m1.ex hp, m1.notin hp, .nil, Nat.le_refl _, by simpa using w1⟩
        (fun i H' _ ⟨B', ρ', M', _, _, m', l', _⟩ => hG H' (l'.1.trans m'.ex)) (fun i x H' H2 hi ⟨B', ρ', M', acc, dacc, m', l', hp', hB', hρ', ra, hla, w'⟩ y => ?_) (fun H' ⟨B', ρ', M', acc, dacc, m', l', hp', hB', hρ', ra, hla, w'⟩ => ?_)
      · have hd : ds[i]? = some ds[i] := List.getElem?_eq_getElem hi
        rw [List.drop_eq_getElem_cons hi] at w'
        have m'' : MR X.K (upd F p (.lst acc)) B' ρ' M' H' := add_frame m' hp' hB' hρ'
        obtain ⟨B2, l2, m2, r2, _⟩ := hY i ds[i] hd _ B' ρ' M' H' x H2 l' m'' y
        unfold xLcL at w'
        have e' : ER X.K B2 ρ' (wipeD η (own.map (·.2))) (L2.wipe σ (own.map (·.2))) := (er.mono ((l1.trans l'))).mono l2 |>.wipe _
        cases h1 : gt ds[i] (wipeD η (own.map (·.2))) M' with
        | ex e0 M0 => rw [h1] at w'; exact w'.elim
        | no => rw [h1] at w'; exact w'.elim
        | ok η3 M3 =>
        simp only [h1, R.calm_ok, R.bind_ok] at w'
        refine ⟨ds[i], _, _, B2, ρ', M', r2, e', m2, ?_⟩
        rw [h1]
        intro B3 ρ3 H3 l3 m3 σ3 e3 off3
        refine ⟨wipe_off off3 hts ▸ ?_, ?_⟩
        · have idem : ∀ (vs : List Nat) (τ : L2.St), L2.wipe (L2.wipe τ vs) vs = L2.wipe τ vs := fun vs τ => by
            apply wipe_off (ts := vs) (σ := τ) (σ' := L2.wipe τ vs)
            · refine ⟨L2.wipe_length _ _, fun j hj => ?_⟩
              exact L2.wipe_out hj
            · intro t ht; exact ht
          exact idem _ _
        · cases h2 : t η3 M3 with
          | ex e0 M0 => rw [h2] at w'; exact w'.elim
          | no => rw [h2] at w'; exact w'.elim
          | ok bb M4 =>
          simp only [h2, R.calm_ok, R.bind_ok] at w'
          refine ⟨η3, _, B3, ρ3, M3, e3, m3, ?_⟩
          rw [h2]
          intro B4 ρ4 H4 l4 m4
          have lz : Le B' ρ' B4 ρ4 := (l2.trans l3).trans l4
          cases bb with
          | false =>
            simp only [Bool.false_eq_true, if_false] at w' ⊢
            have hp4 : H4 p = some (.lst acc) := m4.fr p _ upd_same
            obtain ⟨hB4, hρ4⟩ := m4.dj' upd_same rfl
            have m5 := (drop_frame m4 hFp (.lst acc)).1
            have same : upd H4 p (.lst acc) = H4 := by
              funext q
              by_cases hq : q = p
              · subst hq; rw [upd_same, hp4]
              · rw [upd_ne hq]
            rw [same] at m5
            exact ⟨B4, ρ4, M4, acc, dacc, m5, l'.trans lz, hp4, hB4, hρ4, ra.mono lz, by omega, w'.mono lz⟩
          | true =>
            simp only [if_true] at w' ⊢
            cases h3 : f η3 M4 with
            | ex e0 M0 => rw [h3] at w'; exact w'.elim
            | no => rw [h3] at w'; exact w'.elim
            | ok yy M5 =>
            simp only [h3, R.calm_ok, R.bind_ok] at w'
            refine ⟨η3, _, B4, ρ4, M4, e3.mono l4, m4, ?_⟩
            rw [h3]
            intro B5 ρ5 H5 l5 m5 v5 r5
            have lz5 : Le B' ρ' B5 ρ5 := lz.trans l5
            have hp5 : H5 p = some (.lst acc) := m5.fr p _ upd_same
            obtain ⟨m6, hB6, hρ6⟩ := drop_frame m5 hFp (.lst (acc ++ [v5]))
            have hl := ra.len
            have hi' : i < 100000 := by omega
            refine ⟨acc, hp5, by rw [← hl]; exact sz_lt (by omega), B5, ρ5, M5, acc ++ [v5], dacc ++ [yy], m6, l'.trans lz5, upd_same, hB6, hρ6, (ra.mono lz5).snoc r5, by simp; omega, ?_⟩
            have w5 := w'.mono lz5
            cases h4 : xLcL gt t f (ds.drop (i + 1)) (wipeD η (own.map (·.2))) M5 with
            | ex e0 M0 => rw [h4] at w5; exact w5
            | no => rw [h4] at w5; exact w5.elim
            | ok r6 M6 =>
              simp only [h4, R.bind_ok] at w5
              show Wp X.K X.mg F B5 ρ5 (wAt W σ) _ (fin (dacc ++ [yy] ++ r6) M6)
              rw [List.append_assoc]
              exact w5
      · rw [List.drop_length] at w'
        have w2 : Wp X.K X.mg F B' ρ' (wAt W σ) (fun d B' ρ' H' => ∀ v, Rp X.K B' ρ' d v → Q v H') (fin (dacc ++ []) M') := w'
        rw [List.append_nil] at w2
        -- the heap without the new list
        have m0 : MR X.K F B' ρ' M' (fun q => if q = p then none else H' q) := by
          refine ⟨fun a v e => ?_, fun a v e => ?_, m'.dj, m'.len, m'.nd, fun n ob h => ?_, m'.nt⟩
          · rw [if_neg (ne_of_none e hB')]; exact m'.ex a v e
          · rw [if_neg (ne_of_none e hFp)]; exact m'.fr a v e
          · obtain ⟨a, ha, hb, r⟩ := m'.ob n ob h
            have na : a ≠ p := fun z => hρ' (z ▸ List.mem_of_getElem? ha)
            exact ⟨a, ha, hb, r.mono (Le.refl _ _) fun w q => by rw [if_neg na]; exact q⟩
        have hq := hf X.K X.mg (wAt W σ) F B' _ ρ' M' dacc acc Q m0 ra w2 p (if_pos rfl)
        have same : upd (fun q => if q = p then none else H' q) p (.lst acc) = H' := by
          funext q
          by_cases hq : q = p
          · subst hq; rw [upd_same, hp']
          · rw [upd_ne hq, if_neg hq]
        rw [same] at hq
        exact hq
    · exact w1.elim
end
end Dn

/-! x[::-1] of lists, tuples, texts -/
namespace Dn
open PySem PySem.Spec PyProof.Rows L2 Evl
section
variable {prog : Program} {w : World} {A : Around} {E : Value → Shared → Prop} {s : Shared}
theorem sliceApplied_rev {sl : Addr} {vl vu vs : Value} {n : Nat} {Q : Int × Int × Nat → Shared → Prop} (hs : s.heap.IsSliceOf sl vl vu vs) (pl : IsPart vl none) (pu : IsPart vu none) (ps : IsPart vs (some (-1)))
    (h : Q ((n : Int) - 1, -1, n) s) : wpAny (model prog w) A (Builtin.Slice.sliceApplied (.ref sl) (pure (n : Int))) Q E s := by
  obtain ⟨os, hos, hcs, hds⟩ := id hs
  unfold Builtin.Slice.sliceApplied Builtin.Slice.sliceFields
  refine wpAny_bind (wpAny_bind (wpAny_field hos hds (x := vl) rfl (wpAny_bind (wpAny_field hos hds (x := vu) rfl (wpAny_bind (wpAny_field hos hds (x := vs) rfl (wpAny_pure ?_)))))))
  refine wpAny_bind (HT.slicePart_ ps ?_)
  show wpAny _ _ (if ((-1 : Int) == 0) = true then _ else _) _ _ s
  rw [if_neg (by decide)]
  refine wpAny_bind (HT.slicePart_ pl (wpAny_bind (HT.slicePart_ pu (wpAny_bind (wpAny_pure ?_)))))
  have e1 : Builtin.Slice.sliceAdjust none none (-1) (n : Int) = ((n : Int) - 1, -1) := by
    unfold Builtin.Slice.sliceAdjust
    simp
  have e2 : Builtin.Slice.slicePlaces ((n : Int) - 1) (-1) (-1) = n := by
    unfold Builtin.Slice.slicePlaces
    have h1 : ¬ ((-1 : Int) > 0) := by omega
    simp only [h1, if_false]
    have e : (- -1 : Int) = 1 := by decide
    rw [e, Int.ediv_one]
    split <;> omega
  show wpAny _ _ (match Builtin.Slice.sliceAdjust none none (-1) (n : Int) with | (lo, hi) => pure (lo, (-1 : Int), Builtin.Slice.slicePlaces lo hi (-1))) _ _ s
  rw [e1]
  show wpAny _ _ (pure ((n : Int) - 1, (-1 : Int), Builtin.Slice.slicePlaces ((n : Int) - 1) (-1) (-1))) _ _ s
  rw [e2]
  exact wpAny_pure h
theorem pick_rev (xs : Array Value) : ((List.range xs.size).filterMap fun (k : Nat) => xs[((xs.size : Int) - 1 + (k : Int) * -1).toNat]?).toArray = xs.toList.reverse.toArray := by
  apply congrArg List.toArray
  have e : (List.range xs.size).filterMap (fun (k : Nat) => xs[((xs.size : Int) - 1 + (k : Int) * -1).toNat]?) = (List.range xs.size).filterMap (fun (k : Nat) => xs[xs.size - 1 - k]?) := by
    have gen : ∀ (l : List Nat) (f g : Nat → Option Value), (∀ k ∈ l, f k = g k) → l.filterMap f = l.filterMap g := by
      intro l f g
      induction l with
      | nil => intro _; rfl
      | cons a l ih =>
        intro h
        rw [List.filterMap_cons, List.filterMap_cons, h a (List.mem_cons_self ..), ih fun k hk => h k (List.mem_cons_of_mem _ hk)]
    refine gen _ _ _ fun k hk => ?_
    have hk' : k < xs.size := List.mem_range.mp hk
    have : ((xs.size : Int) - 1 + (k : Int) * -1).toNat = xs.size - 1 - k := by omega
    rw [this]
  rw [e]
  have e2 : (fun (k : Nat) => xs[xs.size - 1 - k]?) = (fun i => xs[i]?) ∘ (fun k => xs.size - 1 - k) := rfl
  rw [e2, ← List.filterMap_map, PySem.W.krv_range, List.filterMap_reverse, PySem.W.krv_all]
theorem getItem_tuple_rev {t sl : Addr} {items : Array Value} {vl vu vs : Value} {Q : Value → Shared → Prop} (ht : IsTup s.heap t items) (hs : s.heap.IsSliceOf sl vl vu vs) (pl : IsPart vl none) (pu : IsPart vu none) (ps : IsPart vs (some (-1)))
    (h : Q (.ref s.heap.objs.size) { s with heap := s.heap.push { cls := .type "tuple", data := .seq items.toList.reverse.toArray } })
    (hsz : items.size ≤ sizeLine) : wpAny (model prog w) A (getItem (.ref t) (.ref sl)) Q E s := by
  have htake : sizeOk (.seq items.toList.reverse.toArray) := by
    show items.toList.reverse.toArray.size ≤ sizeLine
    rw [List.size_toArray, List.length_reverse, Array.length_toList]
    exact hsz
  obtain ⟨os, hos, hcs, hds⟩ := id hs
  have hTs : s.TypeIs (.ref sl) "slice" := ⟨os, hos, hcs⟩
  unfold getItem
  try with_reducible refine wpAny_holding ?_
  first | refine wpAny_bind (wpAny_pure ?_) | skip
  refine wpAny_bind (wpAny_sequenceKey ht.typeIs (by decide) ?_)
  refine wpAny_bind (wpAny_callSpecial?_slot (name := Str.ofString "__getitem__") ht.typeIs PyProof.Rows.slot_tuple_getitem
    (wpAny_call_entry PyProof.Rows.slot_tuple_getitem ht.typeIs PyProof.Rows.entry_tuple_getitem ?_ (PyProof.Rows.args_tuple_getitem _ _)))
  show wpAny _ _ (Builtin.Tuple.tupleItemsOf (.ref t) >>= _) _ _ s
  refine wpAny_bind (PyProof.Rows.tupleItemsOf_ ht ?_)
  refine wpAny_bind (wpAny_typeOf hTs ?_)
  rw [if_pos (by decide)]
  refine wpAny_bind (sliceApplied_rev hs pl pu ps ?_)
  have hno : ¬ ((((items.size : Int) - 1) == 0 && (-1 : Int) == 1 && items.size == items.size) = true) := by
    intro q
    rw [Bool.and_eq_true, Bool.and_eq_true] at q
    exact absurd q.1.2 (by decide)
  show wpAny _ _ (if (((items.size : Int) - 1) == 0 && (-1 : Int) == 1 && items.size == items.size) = true then _ else _) _ _ s
  rw [if_neg hno, pick_rev]
  first
    | exact wpAny_bind (m := Builtin.Tuple.tupleExact _) (wpAny_newObj_type (wpAny_pure ⟨_, rfl, wpAny_pure h⟩) htake)
    | exact wpAny_bind (m := Builtin.Tuple.tupleExact _) (wpAny_newObj_type (wpAny_bind (wpAny_pure (wpAny_pure ⟨_, rfl, wpAny_pure h⟩))) htake)
    | exact wpAny_bind (wpAny_bind (m := Builtin.Tuple.tupleExact _) (wpAny_newObj_type (wpAny_pure (wpAny_pure ⟨_, rfl, wpAny_pure h⟩)) htake))
    | exact wpAny_bind (wpAny_bind (m := Builtin.Tuple.tupleExact _) (wpAny_newObj_type (wpAny_pure ⟨_, rfl, wpAny_pure h⟩) htake))
end
section
variable {X : Cx} {W : WX}
def revS (z : Str) : Str := ⟨z.cps.toList.reverse.toArray⟩
def tRevA (K : PySem.W.Frag) (te : TE) : TE := fun σ H Q => te σ H fun x H1 => (∃ a xs, x = .ref a ∧ SqL K H1 a xs ∧ ∀ p, H1 p = none → Q (.ref p) (upd H1 p (.lst xs.reverse))) ∨
  (∃ a xs, x = .ref a ∧ SqT K H1 a xs ∧ ∀ p, H1 p = none → Q (.ref p) (upd H1 p (.tup xs.reverse))) ∨ (∃ z, x = .str z ∧ z.length ≤ sizeLine ∧ Q (.str (revS z)) H1)
theorem pe_revA {e : Expr} {te : TE} {k : Nat} {p1 p2 p3 pos : Pos} (he : PE X e te) : PE X (.Subscript e (.Slice none none (some (.UnaryOp .USub (.Constant (.int 1) k p1) p2)) p3) pos) (tRevA X.K te) := by
  refine ⟨fun pins s σ H Q I h => ?_⟩
  refine PyProof.Rows.Subscript_ (thn (he.run pins s σ H _ I h) fun v s1 ⟨x, H1, I1, r1, q1⟩ => ?_)
  have hst : PO X (some (.UnaryOp .USub (.Constant (.int 1) k p1) p2)) (tPart (tUn (rU fun i => .int (-i)) (tC (.int 1)))) := po_some (pe_un un_neg pe_int)
  refine wpAny_Slice (thn (po_none.run pins s1 σ H1 (fun o H2 => o = none ∧ H2 = H1) I1 ⟨rfl, rfl⟩) fun vl s2 ⟨l, H2, I2, pl, el, e2⟩ => ?_)
  subst el e2
  refine thn (po_none.run pins s2 σ H2 (fun o H3 => o = none ∧ H3 = H2) I2 ⟨rfl, rfl⟩) fun vu s3 ⟨u, H3, I3, pu, eu, e3⟩ => ?_
  subst eu e3
  refine thn (hst.run pins s3 σ H3 (fun o H4 => o = some (-1) ∧ H4 = H3) I3 ⟨1, rfl, -1, rfl, rfl, rfl⟩) fun vs s4 ⟨o, H4, I4, ps, eo, e4⟩ => ?_
  subst eo e4
  have I5 : Inv X pins σ H4 { s4 with heap := s4.heap.push { cls := .type "slice", data := .fields #[vl, vu, vs] } } := I4.kept (t' := s4.toks) fun b ob q => Heap.get?_push_of_some _ q
  rcases q1 with ⟨a, xs, ex, hx, q⟩ | ⟨a, xs, ex, hx, q⟩ | ⟨z, ex, hz, q⟩
  · subst ex
    cases r1
    obtain ⟨its, r, ht, hz⟩ := I5.list hx
    have hlen := r.length
    show wpAny (model X.prog X.w) X.A (subscriptTail e (.Slice none none (some (.UnaryOp .USub (.Constant (.int 1) k p1) p2)) p3) (.ref a) (.ref s4.heap.objs.size)) (EP X pins σ Q) X.xe { s4 with heap := s4.heap.push { cls := .type "slice", data := .fields #[vl, vu, vs] } }
    refine PyProof.Rows.tail_any (ops := [.ref a, .ref s4.heap.objs.size]) ht.isList.typeIs (PySem.slot_list_getitem.lookup) ?_ (by with_unfolding_all rfl)
    refine wpAny_getItem_list_slice ht.isList (Heap.IsSliceOf.new _ vl vu vs) pl pu ps (by decide) ?_ (by rw [List.size_toArray]; omega)
    rw [PySem.W.krv_pick]
    refine ⟨.ref _, _, I5.laid (t' := s4.toks) (o := .lst xs.reverse) (fun b ob q => Heap.get?_push_of_some _ q) (Nat.le_refl _) ?_, rfl, q _ (I5.hok.fresh (Nat.le_refl _))⟩
    exact ⟨by rw [List.length_reverse]; exact hz, _, 0, r.reverse, Heap.get?_push_size _ rfl⟩
  · subst ex
    cases r1
    obtain ⟨its, r, ht, hz⟩ := I5.tuple hx
    have hlen := r.length
    show wpAny (model X.prog X.w) X.A (subscriptTail e (.Slice none none (some (.UnaryOp .USub (.Constant (.int 1) k p1) p2)) p3) (.ref a) (.ref s4.heap.objs.size)) (EP X pins σ Q) X.xe { s4 with heap := s4.heap.push { cls := .type "slice", data := .fields #[vl, vu, vs] } }
    refine PyProof.Rows.tail_any (ops := [.ref a, .ref s4.heap.objs.size]) ht.typeIs (PyProof.Rows.slot_tuple_getitem.lookup) ?_ (by with_unfolding_all rfl)
    refine getItem_tuple_rev ht (Heap.IsSliceOf.new _ vl vu vs) pl pu ps ?_ (by rw [List.size_toArray]; omega)
    refine ⟨.ref _, _, I5.laid (t' := s4.toks) (o := .tup xs.reverse) (fun b ob q => Heap.get?_push_of_some _ q) (Nat.le_refl _) ?_, rfl, q _ (I5.hok.fresh (Nat.le_refl _))⟩
    exact ⟨by rw [List.length_reverse]; exact hz, _, r.reverse, IsTup.new _ _⟩
  · subst ex
    obtain ⟨t, rfl⟩ := r1
    obtain ⟨l, rfl, hl⟩ := IsPart.raw pl
    obtain ⟨u, rfl, hu⟩ := IsPart.raw pu
    obtain ⟨st, rfl, hst⟩ := IsPart.raw ps
    show wpAny (model X.prog X.w) X.A (subscriptTail e (.Slice none none (some (.UnaryOp .USub (.Constant (.int 1) k p1) p2)) p3) (.str z t) (.ref s4.heap.objs.size)) (EP X pins σ Q) X.xe { s4 with heap := s4.heap.push { cls := .type "slice", data := .fields #[_, _, _] } }
    refine PyProof.Rows.tail_any (ops := [.str z t, .ref s4.heap.objs.size]) (typeIs_str _ _ _) (PySem.F.slot_str_getitem.lookup) ?_ (by with_unfolding_all rfl)
    have hl' : l = none := by cases l <;> simp at hl <;> rfl
    have hu' : u = none := by cases u <;> simp at hu <;> rfl
    subst hl' hu'
    cases st with
    | none => simp at hst
    | some stv =>
      obtain ⟨si, sk⟩ := stv
      simp at hst
      subst hst
      refine wpAny_getItem_str_slice (l := none) (u := none) (st := some (-1, sk)) ⟨_, Heap.get?_push_size _ rfl, rfl, rfl⟩ rfl ?_
      have e1 : Builtin.Str.strSliceIndices none none (-1) z.length = (List.range z.length).map fun k => z.length - 1 - k := PyProof.Rows.picked_rev z.length
      have e2 : ((List.range z.length).map fun k => z.length - 1 - k).filterMap (fun i => z.cps[i]?) = z.cps.toList.reverse := by
        have ez : z.length = z.cps.size := rfl
        rw [ez, PySem.W.krv_range, List.filterMap_reverse, PySem.W.krv_all]
      show Made.post (if ((-1 : Int) == 1 && (Builtin.Str.strSliceIndices none none (-1) z.length).length == z.length) = true then Made.val (.str z t)
        else Made.str ⟨((Builtin.Str.strSliceIndices none none (-1) z.length).filterMap (z.cps[·]?)).toArray⟩) (EP X pins σ Q) _
      rw [if_neg (by intro q; rw [Bool.and_eq_true] at q; exact absurd q.1 (by decide)), e1, e2]
      refine ⟨?_, .str _, H4, I5.tok _, ⟨_, rfl⟩, q⟩
      show z.cps.toList.reverse.toArray.size ≤ sizeLine
      rw [List.size_toArray, List.length_reverse, Array.length_toList]
      exact hz
variable {e : Expr} {f : XE}
/-- turned about -/
def revD (M : Mem) (d : D) : Option D := match asL M d with
  | some ds => some (.lst ds.reverse)
  | none => match asT d with
    | some ds => some (.tup ds.reverse)
    | none => (asS d).bind fun s => if s.length ≤ sizeLine then some (.str (revS s)) else none
def xRev (f : XE) : XE := fun η M => (f η M).bind fun d M1 => R.of (revD M1 d) M1
theorem de_rev {k : Nat} {p1 p2 p3 pos : Pos} (he : DE X W e f) : DE X W (.Subscript e (.Slice none none (some (.UnaryOp .USub (.Constant (.int 1) k p1) p2)) p3) pos) (xRev f) := PE.imp (pe_revA he) fun σ H Q z => by
  obtain ⟨η, F, B, ρ, M, er, m, w⟩ := z
  refine ⟨η, F, B, ρ, M, er, m, w.bind fun d M1 B1 ρ1 H1 l1 m1 w1 v rv => ?_⟩
  obtain ⟨dz, hz, w2⟩ := w1.of
  unfold revD at hz
  split at hz
  · next ds hd =>
    obtain rfl := Option.some.inj hz
    obtain ⟨a, vs, rfl, hs, rs⟩ := asL_snd m1 rv hd
    exact .inl ⟨a, vs, rfl, hs, (done_of w2).newL m1 rs.rev⟩
  · split at hz
    · next ds hd =>
      obtain rfl := Option.some.inj hz
      obtain ⟨a, vs, rfl, hs, rs⟩ := asT_snd m1 rv hd
      exact .inr (.inl ⟨a, vs, rfl, hs, (done_of w2).newT m1 rs.rev⟩)
    · cases hs : asS d with
      | none => simp [hs] at hz
      | some s =>
        simp only [hs, Option.bind_some] at hz
        split at hz
        · next hl =>
          obtain rfl := Option.some.inj hz
          exact .inr (.inr ⟨s, asS_snd rv hs, hl, (done_of w2).same m1 (.str _)⟩)
        · cases hz
end
end Dn

namespace Dn
open PySem PyProof.Rows L2 Evl
/-! ### a def -/
abbrev Fn := List D → Mem → R D
def toVal : Fl → Mem → R D := fun fl M => match fl with
  | .rt d => .ok d M
  | .nx _ => .ok .non M
  | _ => .no
/-- n parameters, N slots -/
def callB (n N : Nat) (body : XS) : Fn := fun ds M => if ds.length = n then (body (ds.map some ++ List.replicate (N - n) none) M).bind toVal else .no
/-- the promise: it does what f says -/
def spF (K : PySem.W.Frag) (mg : Str → Option Value) (n : Nat) (f : Fn) : Sp := fun vs H Q _ => ∃ (U : XK) (ds : List D) (F B : Hp) (ρ : List Addr) (M : Mem), ds.length = n ∧ Rps K B ρ ds vs ∧ MR K F B ρ M H ∧ Wp K mg F B ρ U (fun d B' ρ' H' => ∀ v, Rp K B' ρ' d v → Q v H') (f ds M)
theorem er_start {K : PySem.W.Frag} {B : Hp} {ρ : List Addr} {N : List Str} {ds : List D} {vs : List V} (r : Rps K B ρ ds vs) : ER K B ρ (ds.map some ++ List.replicate (N.length - ds.length) none) (L2.start N vs) := by
  have hl := r.len
  refine ⟨by simp [L2.start, hl], fun i d h => ?_⟩
  by_cases hi : i < ds.length
  · rw [List.getElem?_append_left (by simpa using hi), List.getElem?_map] at h
    cases hd : ds[i]? with
    | none => rw [hd] at h; cases h
    | some d' =>
      rw [hd] at h
      simp at h
      subst h
      obtain ⟨v, h1, h2⟩ := r.get hd
      refine ⟨v, ?_, h2⟩
      unfold L2.start
      rw [List.getElem?_append_left (by simp; omega), List.getElem?_map, h1]
      rfl
  · rw [List.getElem?_append_right (by simpa using hi)] at h
    rw [List.getElem?_replicate] at h
    split at h <;> cases h
section
variable {P : Program} {w : World} {K : PySem.W.Frag} {mg : Str → Option Value} {base : Heap}
theorem fn_ok {x qual : Str} {st : Stmt} {f : Addr} {fd : FuncData} {N ps : List Str} {k : Nat} {body : XS} (F : Fun K x qual st f fd) (S : FnScope N ps (defScope st))
    (hb : ∀ (cdv : Value) (A : Around) (outer : List Env) (s : Shared) (H : Hp) (E : XK) (W : WX), Room k (A.deeper (envOfC qual (defScope st) s.heap.objs.size f cdv)) → DSs (cxOf CX0 P w K mg base N qual (defScope st) f cdv A outer s H E).nox W (defBody st) body) :
    FnOk P w K mg base CX0 (k + 1) f fd ps (spF K mg ps.length (callB ps.length N.length body)) := by
  refine F.ok S (fun vs H Q E h => ?_) (fun cdv A outer s H vs Q E hr h => ?_)
  · obtain ⟨_, ds, _, _, _, _, hl, r, _⟩ := h
    rw [← r.len]
    exact hl
  · obtain ⟨U, ds, Fr, B, ρ, M, hl, r, m, wp⟩ := h
    refine ⟨_, hb cdv A outer s H E (fun c d _ H => U c d H) hr, ?_⟩
    have e := er_start (N := N) r
    rw [hl] at e
    refine ⟨_, Fr, B, ρ, M, e, m, ?_⟩
    unfold callB at wp
    rw [if_pos hl] at wp
    exact wp.bind fun fl M1 B1 ρ1 H1 l1 m1 w1 => by
      cases fl with
      | nx η' => exact fun σ' _ => Wp.ret w1 m1 _ .non
      | rt d => exact fun v rv => Wp.ret w1 m1 v rv
      | bk η' => exact w1.elim
      | ct η' => exact w1.elim
end
/-- a def of the module, by its name: it keeps its promise -/
structure FnD (P : Program) (w : World) (K : PySem.W.Frag) (mg : Str → Option Value) (base : Heap) (k : Nat) (x : Str) (n : Nat) (f : Fn) : Prop where
  ex : ∃ (a : Addr) (fd : FuncData) (ps : List Str), FnOk P w K mg base CX0 k a fd ps (spF K mg n f) ∧ mg x = some (.ref a) ∧ PySem.W.keepIn K (.ref a) = true ∧ Binds K fd ps []
/-- the same, called with keywords ks behind n values; g puts them in the parameters' order -/
structure FnK (P : Program) (w : World) (K : PySem.W.Frag) (mg : Str → Option Value) (base : Heap) (k : Nat) (x : Str) (n : Nat) (ks : List Str) (g : {α : Type} → List α → List α → List α) (f : Fn) : Prop where
  ex : ∃ (a : Addr) (fd : FuncData) (ps : List Str), FnOk P w K mg base CX0 k a fd ps (spF K mg ps.length f) ∧ mg x = some (.ref a) ∧ PySem.W.keepIn K (.ref a) = true ∧ KBn K fd ps n ks (fun us ws => g us ws) (fun vs zs => g vs zs)
section
variable {X : Cx} {W : WX} {a b c e o : Expr} {es : List Expr} {fa fk : XA} {pos : Pos}
theorem passW {U : XK} : Passes CX0 X U := fun _ _ _ _ _ _ _ h => h.elim
def xFn (n : Nat) (f : Fn) (fa : XA) : XE := fun η M => (fa η M).bind fun ds M1 => if ds.length = n then f ds M1 else .no
theorem de_call {k n : Nat} {x : Str} {f : Fn} {p0 : Pos} (G : FnD X.prog X.w X.K X.mg X.base k x n f) (hr : Room k X.A) (hg : Gl X x) (ha : DA X W (e :: es) fa) (hdb : (x == ("__debug__" : Str)) = false := by decide)
    (he : starEach (e :: es) X.env = (false, eval e X.env) :: starEach es X.env := by rfl) (hpl : (backTo pos (starEach es X.env)).any (·.1) = false := by rfl) : DE X W (.Call (.Name x p0) (e :: es) [] pos) (xFn n f fa) := by
  obtain ⟨ad, fd, ps, F, hm, hk, hb⟩ := G.ex
  refine PE.imp (pe_call (E := E0) F hr hg hm hk hb .nil passW ha hdb he hpl) fun σ H Q z => ?_
  obtain ⟨η, Fr, B, ρ, M, er, m, w⟩ := z
  refine ⟨η, Fr, B, ρ, M, er, m, w.bind fun ds M1 B1 ρ1 H1 l1 m1 w1 vs rv => ?_⟩
  split at w1
  · next hl =>
    rw [List.append_nil]
    exact ⟨_, ds, Fr, B1, ρ1, M1, hl, rv, m1, w1⟩
  · exact w1.elim
/-! keywords -/
structure PKD (X : Cx) (W : WX) (kws : List Keyword) (f : XA) : Prop where
  pk : PK X kws (tA X.K X.mg W f)
theorem PK.imp {kws : List Keyword} {t t' : TA} (h : PK X kws t) (i : ∀ σ H Q, t' σ H Q → t σ H Q) : PK X kws t' := ⟨fun pos pins s σ H Q I q => h.run pos pins s σ H Q I (i σ H Q q)⟩
end
/-! ### sorted of texts -/
def leS (a b : Str) : Bool := !PySem.Spec.ltCps b.cps.toList a.cps.toList
def srt (l : List Str) : List Str := l.mergeSort leS
theorem ltCps_anti : ∀ a b : List Nat, PySem.Spec.ltCps a b = false → PySem.Spec.ltCps b a = false → a = b
  | [], [], _, _ => rfl
  | [], _ :: _, h, _ => by simp [PySem.Spec.ltCps] at h
  | _ :: _, [], _, h => by simp [PySem.Spec.ltCps] at h
  | a :: r, b :: t, h1, h2 => by
    simp [PySem.Spec.ltCps] at h1 h2
    have e : a = b := by omega
    subst e
    rw [ltCps_anti r t (h1.2 rfl) (h2.2 rfl)]
theorem ltCps_asymm : ∀ a b : List Nat, PySem.Spec.ltCps a b = true → PySem.Spec.ltCps b a = false
  | [], [], h => by simp [PySem.Spec.ltCps] at h
  | [], _ :: _, _ => rfl
  | _ :: _, [], h => by simp [PySem.Spec.ltCps] at h
  | a :: r, b :: t, h => by
    simp [PySem.Spec.ltCps] at h ⊢
    rcases h with h | ⟨e, h⟩
    · exact ⟨by omega, fun z => by omega⟩
    · subst e
      exact ⟨by omega, fun _ => ltCps_asymm r t h⟩
theorem ltCps_trans : ∀ a b c : List Nat, PySem.Spec.ltCps b a = false → PySem.Spec.ltCps c b = false → PySem.Spec.ltCps c a = false
  | [], _, [], _, _ => rfl
  | [], [], _ :: _, _, _ => rfl
  | [], _ :: _, _ :: _, _, _ => rfl
  | _ :: _, [], _, h, _ => by simp [PySem.Spec.ltCps] at h
  | _ :: _, _ :: _, [], _, h => by simp [PySem.Spec.ltCps] at h
  | a :: r, b :: t, c :: u, h1, h2 => by
    simp [PySem.Spec.ltCps] at h1 h2 ⊢
    refine ⟨by omega, fun e => ?_⟩
    have e1 : b = a := by omega
    have e2 : c = b := by omega
    exact ltCps_trans r t u (h1.2 e1) (h2.2 e2)
theorem leS_trans (a b c : Str) (h1 : leS a b = true) (h2 : leS b c = true) : leS a c = true := by
  unfold leS at *
  simp at *
  exact ltCps_trans _ _ _ h1 h2
theorem leS_total (a b : Str) : (leS a b || leS b a) = true := by
  unfold leS
  cases h : PySem.Spec.ltCps b.cps.toList a.cps.toList with
  | false => rfl
  | true => rw [ltCps_asymm _ _ h]; rfl
theorem leS_anti (a b : Str) (h1 : leS a b = true) (h2 : leS b a = true) : a = b := by
  unfold leS at *
  simp at *
  have := ltCps_anti _ _ h1 h2
  cases a; cases b
  simp at this
  rw [this]
theorem srt_uniq : ∀ (ys zs : List Str), ys.Perm zs → ys.Pairwise (fun a b => leS a b = true) → zs.Pairwise (fun a b => leS a b = true) → ys = zs
  | [], zs, p, _, _ => (List.nil_perm.mp p).symm
  | y :: ys, [], p, _, _ => by simpa using p.length_eq
  | y :: ys, z :: zs, p, h1, h2 => by
    have a1 := List.pairwise_cons.mp h1
    have a2 := List.pairwise_cons.mp h2
    have e : y = z := by
      have m1 : y ∈ z :: zs := p.subset (List.mem_cons_self ..)
      have m2 : z ∈ y :: ys := p.symm.subset (List.mem_cons_self ..)
      rcases List.mem_cons.mp m1 with e | m1
      · exact e
      · rcases List.mem_cons.mp m2 with e | m2
        · exact e.symm
        · exact leS_anti _ _ (a1.1 z m2) (a2.1 y m1)
    subst e
    rw [srt_uniq ys zs (List.Perm.cons_inv p) a1.2 a2.2]
theorem risingS_pw : ∀ (p : Str) (l : List Str), PyProof.Rows.risingS p l = true → (p :: l).Pairwise (fun a b => leS a b = true)
  | p, [], _ => by simp
  | p, x :: r, h => by
    unfold PyProof.Rows.risingS at h
    rw [Bool.and_eq_true] at h
    have ih := risingS_pw x r h.2
    refine List.pairwise_cons.mpr ⟨fun q hq => ?_, ih⟩
    have hpx : leS p x = true := h.1
    rcases List.mem_cons.mp hq with e | hq
    · rw [e]; exact hpx
    · exact leS_trans _ _ _ hpx ((List.pairwise_cons.mp ih).1 q hq)
theorem sorted_is {ys xs : List Str} (p : ys.Perm xs) (h : PyProof.Rows.sortedS ys = true) : ys = srt xs := by
  refine srt_uniq _ _ (p.trans (List.mergeSort_perm xs leS).symm) ?_ (List.pairwise_mergeSort (le := leS) leS_trans leS_total xs)
  cases ys with
  | nil => simp
  | cons y ys => exact risingS_pw y ys h
section
variable {X : Cx} {W : WX}
def bSorted : OpC := one fun M d => (asL M d).bind fun ds => (asSs ds).bind fun ss => if ss.length < 64 then some (.lst ((srt ss).map D.str)) else none
theorem cd_sorted : CallD X (.builtin "sorted") bSorted := by
  refine ⟨_, cr_sortedS, fun F B ρ M H xs ds dz Q m rx e k => ?_⟩
  obtain ⟨d, rfl, h⟩ := one_some e
  cases rx with
  | cons r rr =>
    cases rr
    cases h1 : asL M d with
    | none => simp [h1] at h
    | some es =>
      cases h2 : asSs es with
      | none => simp [h1, h2] at h
      | some ss =>
        simp only [h1, h2, Option.bind_some] at h
        split at h
        · next hl =>
          obtain rfl := Option.some.inj h
          obtain ⟨a, vs, rfl, hs, rs⟩ := asL_snd m r h1
          have := asSs_snd rs h2
          subst this
          refine ⟨a, ss, rfl, hs, hl, fun ys p pm so hp => ?_⟩
          rw [sorted_is pm so]
          exact k.newL m (rps_strs _) p hp
        · cases h
/-! ### methods of texts -/
variable {o e : Expr} {f g : XE} {apos pos : Pos}
def xJoin (f g : XE) : XE := fun η M => (f η M).bind fun s M1 => (R.of (asS s) M1).bind fun z M2 => (g η M2).bind fun d M3 => R.of ((match asL M3 d with | some ds => some ds | none => asT d).bind fun ds => (asSs ds).bind fun ss =>
  if (ss.map fun (q : Str) => q.length).sum + ss.length * z.length ≤ 16777216 then some (.str (Txt.join z ss)) else none) M3
theorem de_join (ho : DE X W o f) (he : DE X W e g) (hs : starEach [e] X.env = [(false, eval e X.env)] := by rfl) (hbase : attributeBase o "join" X.env (eval o X.env) = eval o X.env := by rfl) (hline : (apos.endLine == pos.line) = true := by rfl) :
    DE X W (.Call (.Attribute o "join" apos) [e] [] pos) (xJoin f g) := PE.imp (pe_join ho he hs hbase hline) fun σ H Q z => by
  obtain ⟨η, F, B, ρ, M, er, m, w⟩ := z
  refine ⟨η, F, B, ρ, M, er, m, w.bind fun d M1 B1 ρ1 H1 l1 m1 w1 v rv => ?_⟩
  cases hz : asS d with
  | none => rw [hz] at w1; exact w1.elim
  | some z =>
    rw [hz] at w1
    have w1 : Wp X.K X.mg F B1 ρ1 (wAt W σ) _ ((g η M1).bind _) := w1
    have ev := asS_snd rv hz
    subst ev
    refine ⟨⟨z, rfl⟩, η, F, B1, ρ1, M1, er.mono l1, m1, w1.bind fun c M2 B2 ρ2 H2 l2 m2 w2 u ru => ?_⟩
    obtain ⟨dz, hd, w3⟩ := w2.of
    cases h1 : (match asL M2 c with | some ds => some ds | none => asT c) with
    | none => simp [h1] at hd
    | some ds =>
      simp only [h1, Option.bind_some] at hd
      cases h2 : asSs ds with
      | none => simp [h2] at hd
      | some ss =>
        simp only [h2, Option.bind_some] at hd
        split at hd
        · next hl =>
          obtain rfl := Option.some.inj hd
          cases h3 : asL M2 c with
          | some es =>
            simp only [h3, Option.some.injEq] at h1
            subst h1
            obtain ⟨a, vs, rfl, hs, rs⟩ := asL_snd m2 ru h3
            have := asSs_snd rs h2
            subst this
            exact ⟨z, a, ss, rfl, rfl, .inl hs, hl, (done_of w3).same m2 (.str _)⟩
          | none =>
            simp only [h3] at h1
            obtain ⟨a, vs, rfl, hs, rs⟩ := asT_snd m2 ru h1
            have := asSs_snd rs h2
            subst this
            exact ⟨z, a, ss, rfl, rfl, .inr hs, hl, (done_of w3).same m2 (.str _)⟩
        · cases hd
def xUpper (f : XE) : XE := fun η M => (f η M).bind fun s M1 => (R.of (asS s) M1).bind fun z M2 => if z.length ≤ 5592405 then .ok (.str (Txt.upper z)) M2 else .no
theorem de_upper (ho : DE X W o f) (hbase : attributeBase o "upper" X.env (eval o X.env) = eval o X.env := by rfl) (hline : (apos.endLine == pos.line) = true := by rfl) :
    DE X W (.Call (.Attribute o "upper" apos) [] [] pos) (xUpper f) := PE.imp (pe_upper ho hbase hline) fun σ H Q z => by
  obtain ⟨η, F, B, ρ, M, er, m, w⟩ := z
  refine ⟨η, F, B, ρ, M, er, m, w.bind fun d M1 B1 ρ1 H1 l1 m1 w1 v rv => ?_⟩
  cases hz : asS d with
  | none => rw [hz] at w1; exact w1.elim
  | some z =>
    rw [hz] at w1
    have w1 : Wp X.K X.mg F B1 ρ1 (wAt W σ) _ (if z.length ≤ 5592405 then R.ok (D.str (Txt.upper z)) M1 else .no) := w1
    split at w1
    · next hl =>
      have ev := asS_snd rv hz
      subst ev
      exact ⟨⟨z, rfl⟩, z, rfl, rfl, hl, (done_of w1).same m1 (.str _)⟩
    · exact w1.elim
/-! ### - of ints; dicts displayed -/
def xNeg (f : XE) : XE := fun η M => (f η M).bind fun d M1 => R.of ((asI d).map fun i => .int (-i)) M1
theorem de_neg (ha : DE X W e f) : DE X W (.UnaryOp .USub e pos) (xNeg f) := PE.imp (pe_un un_neg ha) fun σ H Q z => by
  obtain ⟨η, F, B, ρ, M, er, m, w⟩ := z
  refine ⟨η, F, B, ρ, M, er, m, w.bind fun d M1 B1 ρ1 H1 l1 m1 w1 v rv => ?_⟩
  cases hz : asI d with
  | none => rw [hz] at w1; exact w1.elim
  | some i =>
    rw [hz] at w1
    exact ⟨i, asI_snd rv hz, (done_of w1).same m1 (.int _)⟩
/-- {} that stays -/
def xDict0 : XE := fun _ M => .ok (.dct []) M
theorem de_dict0 : DE X W (.Dict [] [] pos) xDict0 := PE.imp (pe_locks pe_dnewK) fun σ H Q z => by
  obtain ⟨η, F, B, ρ, M, er, m, w⟩ := z
  intro p hp
  refine .lock upd_same trivial fun od => .here ?_
  rw [upd_upd]
  exact (done_of w).new m (fun p hp => .dct upd_same .nil) p hp
def keyD : D → Option Key
  | .int i => some (.inl i)
  | .str s => some (.inr s)
  | _ => none
theorem keyD_snd {K : PySem.W.Frag} {B : Hp} {ρ : List Addr} {d : D} {v : V} {k : Key} (r : Rp K B ρ d v) (h : keyD d = some k) : v = kV k := by
  cases r with
  | int i => cases h; rfl
  | str s => cases h; rfl
  | _ => cases h
/-- {k: v} that stays -/
def xDict1 (f g : XE) : XE := fun η M => (f η M).bind fun x M1 => (g η M1).bind fun y M2 => R.of ((keyD x).map fun k => .dct [(k, y)]) M2
theorem de_dict1 {k v : Expr} (hk : DE X W k f) (hv : DE X W v g) : DE X W (.Dict [some k] [v] pos) (xDict1 f g) := PE.imp (pe_locks (pe_disp (pps_cons hk hv pps_nil) rfl rfl (fun z => by cases z) (by simp))) fun σ H Q z => by
  obtain ⟨η, F, B, ρ, M, er, m, w⟩ := z
  intro p hp
  have hF : F p = none := fresh_back m.fr hp
  have m0 : MR X.K (upd F p (.dK [])) B ρ M (upd H p (.dK [])) := add_frame (m.more (Ex.new hp)) upd_same (fresh_back m.ex hp) (m.notin hp)
  cases h1 : f η M with
  | no => simp only [xDict1, h1, R.bind_no] at w; exact w.elim
  | ex e1 M1 =>
    simp only [xDict1, h1, R.bind_ex] at w
    refine ⟨η, _, B, ρ, M, er, m0, ?_⟩
    rw [h1]
    intro c dx B' ρ' H' l mm xr
    have m2 : MR X.K F B' ρ' M1 H' := by
      exact mm.less hF
    exact w c dx B' ρ' H' l m2 xr.less
  | ok x M1 =>
    simp only [xDict1, h1, R.bind_ok] at w
    refine ⟨η, _, B, ρ, M, er, m0, ?_⟩
    rw [h1]
    intro B1 ρ1 H1 l1 m1 v1 r1
    cases h2 : g η M1 with
    | no => simp only [h2, R.bind_no] at w; exact w.elim
    | ex e1 M2 =>
      simp only [h2, R.bind_ex] at w
      refine ⟨η, _, B1, ρ1, M1, er.mono l1, m1, ?_⟩
      rw [h2]
      intro c dx B' ρ' H' l mm xr
      have m2 : MR X.K F B' ρ' M2 H' := by
        exact mm.less hF
      exact w c dx B' ρ' H' (l1.trans l) m2 xr.less
    | ok y M2 =>
      simp only [h2, R.bind_ok] at w
      obtain ⟨dz, hz, w2⟩ := w.of
      cases hk : keyD x with
      | none => simp [hk] at hz
      | some kk =>
        simp [hk] at hz
        subst hz
        refine ⟨η, _, B1, ρ1, M1, er.mono l1, m1, ?_⟩
        rw [h2]
        intro B2 ρ2 H2 l2 m2 v2 r2
        refine ⟨m2.fr p _ upd_same, [(kk, v2)], ?_, by simp, ?_⟩
        · rw [keyD_snd r1 hk]; rfl
        · have e0 : mergeK [] [(kk, v2)] = [(kk, v2)] := rfl
          rw [e0]
          obtain ⟨hB, hρ⟩ := m2.dj' upd_same rfl
          refine .lock upd_same trivial fun od => .here ?_
          rw [upd_upd]
          obtain ⟨m3, _, _⟩ := drop_frame m2 hF (.frz od (.dK [(kk, v2)]))
          -- the dict is now one that stays
          have l3 : Le B2 ρ2 (upd B2 p (.frz od (.dK [(kk, v2)]))) ρ2 := ⟨Ex.new hB, [], by simp⟩
          have m4 : MR X.K F (upd B2 p (.frz od (.dK [(kk, v2)]))) ρ2 M2 (upd H2 p (.frz od (.dK [(kk, v2)]))) := by
            refine ⟨fun a o e => ?_, m3.fr, fun a o e => ⟨?_, (m3.dj a o e).2⟩, m3.len, m3.nd, fun n ob h => ?_, m3.nt⟩
            · by_cases q : a = p
              · subst q; rw [upd_same] at e ⊢; exact e
              · rw [upd_ne q] at e; exact m3.ex a o e
            · rw [upd_ne (ne_of_none e hF)]; exact (m3.dj a o e).1
            · obtain ⟨a, ha, hb, r⟩ := m3.ob n ob h
              have na : a ≠ p := fun z => hρ (z ▸ List.mem_of_getElem? ha)
              exact ⟨a, ha, fun z => by rw [upd_ne na]; exact hb z, r.mono l3 fun _ q => q⟩
          exact w2 _ _ _ ((l1.trans l2).trans l3) m4 _ (.dct upd_same (.cons (r2.mono l3) .nil))
/-! ### keywords of a call -/
variable {es : List Expr} {fa fk : XA}
end
end Dn
namespace Dn
open PySem PyProof.Rows L2 Evl
/-! ### truth of any thing -/
def truD (M : Mem) (d : D) : Option Bool := match d with
  | .bl b => some b
  | .non => some false
  | .int i => some (i != 0)
  | .str s => if s.length ≤ sizeLine then some ((s.length : Int) != 0) else none
  | _ => match asL M d with
    | some ds => some (!ds.isEmpty)
    | none => (asT d).map fun ds => !ds.isEmpty
theorem emp_rel {K : PySem.W.Frag} {B : Hp} {ρ : List Addr} {ds : List D} {vs : List V} (r : Rps K B ρ ds vs) : (!vs.isEmpty) = !ds.isEmpty := by
  cases r <;> rfl
theorem truD_snd {K : PySem.W.Frag} {F B H : Hp} {ρ : List Addr} {M : Mem} (m : MR K F B ρ M H) {d : D} {v : V} {b : Bool} (r : Rp K B ρ d v) (h : truD M d = some b) : TruV K v H b := by
  have gen : (match asL M d with | some ds => some (!ds.isEmpty) | none => (asT d).map fun ds => !ds.isEmpty) = some b → TruV K v H b := by
    intro h
    split at h
    · next ds hd =>
      obtain ⟨a, vs, rfl, hs, rs⟩ := asL_snd m r hd
      obtain rfl := Option.some.inj h
      exact .inl ⟨vs, hs, (emp_rel rs).symm⟩
    · cases hd : asT d with
      | none => simp [hd] at h
      | some ds =>
        simp only [hd, Option.map_some] at h
        obtain ⟨a, vs, rfl, hs, rs⟩ := asT_snd m r hd
        obtain rfl := Option.some.inj h
        exact .inr (.inl ⟨vs, hs, (emp_rel rs).symm⟩)
  cases d with
  | bl c => cases r; obtain rfl := Option.some.inj h; exact rfl
  | non => cases r; obtain rfl := Option.some.inj h; exact rfl
  | int i => cases r; obtain rfl := Option.some.inj h; exact rfl
  | str s =>
    cases r
    have h : (if s.length ≤ sizeLine then some ((s.length : Int) != 0) else none) = some b := h
    split at h
    · next hz => obtain rfl := Option.some.inj h; exact ⟨hz, rfl⟩
    · cases h
  | lst ds => exact gen h
  | tup ds => exact gen h
  | dct ds => exact gen h
  | dcT ds => exact gen h
  | ins x ds => exact gen h
  | fn x => exact gen h
  | scr ds => exact gen h
  | ptr n => exact gen h
  | raw u => exact gen h
section
variable {X : Cx} {W : WX} {a : Expr} {f : XE}
def xTru (f : XE) : XT := fun η M => (f η M).bind fun d M1 => R.of (truD M1 d) M1
theorem dt_tru (ha : DE X W a f) (he : ∀ whole, isTrue a X.env whole = (do let v ← whole; standAt a.pos; holding [v] (truthy v)) := by intro _; rfl) : DT X W a (xTru f) :=
  PT.imp (pt_truth ha he) fun σ H Q z => by
    obtain ⟨η, F, B, ρ, M, er, m, w⟩ := z
    refine ⟨η, F, B, ρ, M, er, m, w.bind fun d M1 B1 ρ1 H1 l1 m1 w1 v rv => ?_⟩
    obtain ⟨b, hb, w2⟩ := w1.of
    exact ⟨b, truD_snd m1 rv hb, Wp.ret (P := fun b _ _ H' => Q b H') w2 m1⟩
theorem de_gl {x : Str} {v : V} {pos : Pos} (h : ∃ u, X.mg x = some u ∧ RelV v u) (hg : Gl X x) (hd : (x == ("__debug__" : Str)) = false := by decide) : DE X W (.Name x pos) (xC (dOf v)) := by
  obtain ⟨u, hm, r⟩ := h
  exact de_glob hg hm r hd
end
/-! ### == of data -/
mutual
def toP : D → Option PyData
  | .non => some .none
  | .bl b => some (.bool b)
  | .int i => some (.int i)
  | .str s => some (.str s)
  | .lst ds => (toPs ds).map PyData.list
  | .tup ds => (toPs ds).map PyData.tuple
  | _ => none
def toPs : List D → Option (List PyData)
  | [] => some []
  | d :: ds => (toP d).bind fun p => (toPs ds).map (p :: ·)
end
section
variable {K : PySem.W.Frag} {B H : Hp} {ρ : List Addr}
mutual
theorem toP_snd (ex : Ex B H) : ∀ {d : D} {v : V} {p : PyData}, Rp K B ρ d v → toP d = some p → Dp K H v p
  | _, _, _, .non, h => by unfold toP at h; cases h; exact .non
  | _, _, _, .bl b, h => by unfold toP at h; cases h; exact .bl b
  | _, _, _, .int i, h => by unfold toP at h; cases h; exact .int i
  | _, _, _, .str s, h => by unfold toP at h; cases h; exact .str s
  | _, _, _, .lst (ds := ds) e r, h => by
    unfold toP at h
    cases hp : toPs ds with
    | none => simp [hp] at h
    | some ps =>
      simp [hp] at h
      subst h
      exact .lst (sq_of (ex _ _ e)) (toPs_snd ex r hp)
  | _, _, _, .tup (ds := ds) e r _, h => by
    unfold toP at h
    cases hp : toPs ds with
    | none => simp [hp] at h
    | some ps =>
      simp [hp] at h
      subst h
      exact .tup (ex_t ex e) (toPs_snd ex r hp)
  | _, _, _, .dct _ _, h => by unfold toP at h; cases h
  | _, _, _, .dcT _ _, h => by unfold toP at h; cases h
  | _, _, _, .ins _ _ _, h => by unfold toP at h; cases h
  | _, _, _, .fn _, h => by unfold toP at h; cases h
  | _, _, _, .scr _, h => by unfold toP at h; cases h
  | _, _, _, .ptr _, h => by unfold toP at h; cases h
  | _, _, _, .raw _, h => by unfold toP at h; cases h
theorem toPs_snd (ex : Ex B H) : ∀ {ds : List D} {vs : List V} {ps : List PyData}, Rps K B ρ ds vs → toPs ds = some ps → DpAll K H vs ps
  | _, _, _, .nil, h => by unfold toPs at h; cases h; exact .nil
  | _, _, _, .cons (d := d) (ds := ds) r rs, h => by
    unfold toPs at h
    cases hp : toP d with
    | none => simp [hp] at h
    | some p =>
      cases hq : toPs ds with
      | none => simp [hp, hq] at h
      | some ps =>
        simp [hp, hq] at h
        subst h
        exact .cons (toP_snd ex r hp) (toPs_snd ex rs hq)
end
end
theorem bt_len : bootBuiltins "len" = some (.builtin "len") := by decide +kernel
theorem bt_abs : bootBuiltins "abs" = some (.builtin "abs") := by decide +kernel
theorem bt_max : bootBuiltins "max" = some (.builtin "max") := by decide +kernel
theorem bt_min : bootBuiltins "min" = some (.builtin "min") := by decide +kernel
theorem bt_all : bootBuiltins "all" = some (.builtin "all") := by decide +kernel
theorem bt_isinstance : bootBuiltins "isinstance" = some (.builtin "isinstance") := by decide +kernel
theorem bt_sorted : bootBuiltins "sorted" = some (.builtin "sorted") := by decide +kernel
theorem bt_int : bootBuiltins "int" = some (.type "int") := by decide +kernel
theorem bt_str : bootBuiltins "str" = some (.type "str") := by decide +kernel
theorem bt_bool : bootBuiltins "bool" = some (.type "bool") := by decide +kernel
theorem bt_list : bootBuiltins "list" = some (.type "list") := by decide +kernel
theorem bt_tuple : bootBuiltins "tuple" = some (.type "tuple") := by decide +kernel
end Dn
namespace Dn
open PySem PyProof.Rows L2 Evl
/-- a def called with keywords behind n values, in the parameters' order -/
structure FnKD (P : Program) (w : World) (K : PySem.W.Frag) (mg : Str → Option Value) (base : Heap) (k : Nat) (x : Str) (n : Nat) (ks : List Str) (f : Fn) : Prop where
  ex : ∃ (a : Addr) (fd : FuncData) (ps : List Str), FnOk P w K mg base CX0 k a fd ps (spF K mg (n + ks.length) f) ∧ mg x = some (.ref a) ∧ PySem.W.keepIn K (.ref a) = true ∧ KBn K fd ps n ks (fun us ws => us ++ ws) (fun vs zs => vs ++ zs)
section
variable {X : Cx} {W : WX} {e : Expr} {es : List Expr} {fa fk : XA} {pos : Pos}
def xFnK' (n k : Nat) (f : Fn) (fa fk : XA) : XE := fun η M => (fa η M).bind fun ds M1 => (fk η M1).bind fun cs M2 => if ds.length = n ∧ cs.length = k then f (ds ++ cs) M2 else .no
end
end Dn
namespace Dn
open PySem PyProof.Rows L2 Evl
theorem fn_okE {P : Program} {w : World} {K : PySem.W.Frag} {mg : Str → Option Value} {base : Heap} {x qual : Str} {st : Stmt} {f : Addr} {fd : FuncData} {N ps : List Str} {k n m lv : Nat} {body : XS} {fF : Fn} (F : Fun K x qual st f fd) (S : FnScope N ps (defScope st))
    (hf : fF = callB n m body) (hn : ps.length = n) (hm : N.length = m) (hlv : lv = k + 1)
    (hb : ∀ (cdv : Value) (A : Around) (outer : List Env) (s : Shared) (H : Hp) (E : XK) (W : WX), Room k (A.deeper (envOfC qual (defScope st) s.heap.objs.size f cdv)) → DSs (cxOf CX0 P w K mg base N qual (defScope st) f cdv A outer s H E).nox W (defBody st) body) :
    FnOk P w K mg base CX0 lv f fd ps (spF K mg n fF) := by
  subst hf hn hm hlv
  exact fn_ok F S hb
end Dn
namespace Dn
open PySem PyProof.Rows L2 Evl
/-! ### the end of a law -/
end Dn

/-! DnSort: sorted of any data, sorted by key=f, < of any data -/
namespace Dn
open PySem PyProof.Rows L2 Evl
open PySem.W (alike dataLt dataLe AllAlike Sortable EachIs)
def pD (d : D) : PyData := (toP d).getD .none
def isT1 : PyData → Bool
  | .tuple (_ :: _) => true
  | _ => false
def notT : PyData → Bool
  | .none => false
  | .tuple _ => false
  | _ => true
def sortOk (ps : List PyData) : Bool := (ps.all fun a => ps.all fun b => alike a b) && (ps.all isT1 || ps.all notT) && ps.all fun p => decide (p.depth ≤ 60)
theorem sortOk_snd {ps : List PyData} (h : sortOk ps = true) : AllAlike ps ∧ Sortable ps ∧ ∀ p ∈ ps, p.depth ≤ 60 := by
  unfold sortOk at h
  simp only [Bool.and_eq_true, Bool.or_eq_true, List.all_eq_true, decide_eq_true_eq] at h
  refine ⟨fun d hd d' hd' => h.1.1 d hd d' hd', ?_, h.2⟩
  rcases h.1.2 with q | q
  · refine .inl fun d hd => ?_
    have := q d hd
    unfold isT1 at this
    split at this
    · exact ⟨_, _, rfl⟩
    · cases this
  · refine .inr fun d hd => ?_
    have := q d hd
    unfold notT at this
    split at this
    · cases this
    · cases this
    · next h1 h2 => exact ⟨fun e => h1 e, fun xs e => h2 xs e⟩
theorem pD_map : ∀ {ds : List D} {ps : List PyData}, toPs ds = some ps → ds.map pD = ps
  | [], _, h => by unfold toPs at h; cases h; rfl
  | d :: ds, _, h => by
    unfold toPs at h
    cases h1 : toP d with
    | none => simp [h1] at h
    | some p =>
      cases h2 : toPs ds with
      | none => simp [h1, h2] at h
      | some ps =>
        simp [h1, h2] at h
        subst h
        rw [List.map_cons, pD_map h2]
        simp [pD, h1]
section
variable {X : Cx} {W : WX} {pins : List (Addr × Obj)} {σ : L2.St} {H B : Hp} {ρ : List Addr} {s : Shared}
/-- u stands for d -/
def StD (K : PySem.W.Frag) (B : Hp) (ρ : List Addr) (u : Value) (d : D) : Prop := ∃ v, RelV v u ∧ Rp K B ρ d v
theorem each_std {K : PySem.W.Frag} : ∀ {ds : List D} {vs : List V} {us : List Value}, Rps K B ρ ds vs → Vals vs us → EachIs (StD K B ρ) us ds
  | _, _, _, .nil, r => by cases r; exact .nil
  | _, _, _, .cons h t, r => by
    cases r with
    | cons r1 r2 => exact .cons ⟨_, r1, h⟩ (each_std t r2)
theorem std_each {K : PySem.W.Frag} : ∀ {ds : List D} {us : List Value}, EachIs (StD K B ρ) us ds → ∃ vs, Vals vs us ∧ Rps K B ρ ds vs
  | _, _, .nil => ⟨[], .nil, .nil⟩
  | _, _, .cons ⟨v, r, h⟩ t => by
    obtain ⟨vs, r2, h2⟩ := std_each t
    exact ⟨v :: vs, .cons r r2, .cons h h2⟩
theorem each_reads (I : Inv X pins σ H s) (ex : Ex B H) : ∀ {ds : List D} {vs : List V} {us : List Value} {ps : List PyData}, Rps X.K B ρ ds vs → Vals vs us → toPs ds = some ps → EachIs (fun u d => ∃ as, Reads s.heap u (pD d) as) us ds
  | _, _, _, _, .nil, r, _ => by cases r; exact .nil
  | _, _, _, _, .cons (d := d) (ds := ds) h t, r, hp => by
    cases r with
    | cons r1 r2 =>
      unfold toPs at hp
      cases h1 : toP d with
      | none => simp [h1] at hp
      | some p =>
        cases h2 : toPs ds with
        | none => simp [h1, h2] at hp
        | some ps =>
          refine .cons ?_ (each_reads I ex t r2 h2)
          have e : pD d = p := by simp [pD, h1]
          rw [e]
          exact Dp.reads I p _ _ (toP_snd ex h h1) r1
end
/-! ### sorted(xs) -/
noncomputable def sortD (ds : List D) : List D := ds.mergeSort (dataLe false pD)
noncomputable def bSortD : OpC := one fun M d => (asL M d).bind fun ds => (toPs ds).bind fun ps => if sortOk ps = true then some (.lst (sortD ds)) else none
def rSortD (K : PySem.W.Frag) : List V → Hp → VK → Prop := fun vs H Q => ∃ F B ρ M a xs ds ps, vs = [V.ref a] ∧ SqL K H a xs ∧ MR K F B ρ M H ∧ Rps K B ρ ds xs ∧ toPs ds = some ps ∧ sortOk ps = true ∧ Done K F B ρ M (.lst (sortD ds)) Q
section
variable {X : Cx} {W : WX}
theorem cr_sortD {k : Nat} (hr : Room k X.A) : CallR X (.builtin "sorted") (rSortD X.K) := by
  intro pins s σ H vs us Q I r h
  obtain ⟨F, B, ρ, M, a, xs, ds, ps, rfl, hs, m, rs, hp, ok, q⟩ := h
  obtain ⟨its, rv, hl, hz⟩ := I.list hs
  obtain ⟨u, rfl, ru⟩ := vals1 r
  obtain rfl : u = Value.ref a := ru
  obtain ⟨o1, o2, o3⟩ := sortOk_snd ok
  have em := pD_map hp
  have hun := hr.un
  refine PySem.W.sorted_data (R := StD X.K B ρ) (enc := pD) (bs := ds) hl.isList (each_std rs rv) (each_reads I m.ex rs rv hp) (by rw [em]; exact o1) (by rw [em]; exact o2) (by rw [rs.len]; exact hz) (fun b hb => ?_) fun out ho eo => ?_
  · have : pD b ∈ ps := by rw [← em]; exact List.mem_map.mpr ⟨b, hb, rfl⟩
    have := o3 _ this
    omega
  · obtain ⟨ys, ry, rd⟩ := std_each eo
    have hl2 := rs.len
    refine ⟨.ref (s.heap.objs.size + 1), upd H (s.heap.objs.size + 1) (.lst ys), I.laid (t' := s.toks) (fun b o e => sortedAll_old e) (Nat.le_succ _) ⟨?_, out, ?_⟩, rfl, q.newL m rd _ (I.hok.fresh (Nat.le_succ _))⟩
    · have := ry.length
      omega
    · obtain ⟨n, hn⟩ := sortedAll_at s.heap its out.toArray
      exact ⟨n, ry, hn⟩
theorem cd_sortD {k : Nat} (hr : Room k X.A) : CallD X (.builtin "sorted") bSortD := by
  refine ⟨_, cr_sortD hr, fun F B ρ M H xs ds dz Q m rx e k => ?_⟩
  obtain ⟨d, rfl, h⟩ := one_some e
  cases rx with
  | cons r rr =>
    cases rr
    cases h1 : asL M d with
    | none => simp [h1] at h
    | some es =>
      cases h2 : toPs es with
      | none => simp [h1, h2] at h
      | some ps =>
        simp only [h1, h2, Option.bind_some] at h
        split at h
        · next hl =>
          obtain rfl := Option.some.inj h
          obtain ⟨a, vs, rfl, hs, rs⟩ := asL_snd m r h1
          exact ⟨F, B, ρ, M, a, vs, es, ps, rfl, hs, m, rs, h2, hl, k⟩
        · cases h
end
end Dn
namespace Dn
open PySem PyProof.Rows L2 Evl
open PySem.W (alike dataLt dataLe AllAlike Sortable EachIs)
/-! ### sorted(xs, key=f) -/
theorem R.bind_assoc {α β γ : Type} (r : R α) (f : α → Mem → R β) (g : β → Mem → R γ) : (r.bind f).bind g = r.bind fun a m => (f a m).bind g := by
  cases r <;> rfl
def keysR (f : Fn) : List D → Mem → R (List D)
  | [], M => .ok [] M
  | d :: ds, M => (f [d] M).bind fun k M1 => (keysR f ds M1).bind fun ks M2 => .ok (k :: ks) M2
noncomputable def sortBy (ks es : List D) : List D := ((es.zip ks).mergeSort (dataLe false fun p => pD p.2)).map Prod.fst
noncomputable def sortK (es ks : List D) : Option (List D) := if ks.length = es.length then (toPs ks).bind fun ps => if sortOk ps = true then some (sortBy ks es) else none else none
/-- amid sorted -/
def inX (X : Cx) : Cx := { X with A := X.A.in1.in1, xe := fun _ _ => False }
section
variable {X : Cx} {pins : List (Addr × Obj)} {σ : L2.St} {H : Hp} {s : Shared}
end
section
variable {X : Cx} {W : WX}
/-- amid the keys -/
structure AtKey (fin : List D → Mem → R D) (X : Cx) (W : XK) (f : Fn) (pins : List (Addr × Obj)) (σ : L2.St) (Q : VK) (F B : Hp) (ρ : List Addr) (es : List D) (kS a : Addr) (e1 i : Nat) (s' : Shared) : Prop where
  ex : ∃ H B1 ρ1 M kA e dks vks, Inv (inX X) ([(kS, seqObj "list" kA e), (a, seqObj "list" #[] e1)] ++ pins) σ H s' ∧ Le B ρ B1 ρ1 ∧ MR X.K F B1 ρ1 M H ∧ Rps X.K B1 ρ1 dks vks ∧ Vals vks kA.toList ∧ dks.length = i ∧
    Wp X.K X.mg F B1 ρ1 W (fun d B' ρ' H' => ∀ v, Rp X.K B' ρ' d v → Q v H') ((keysR f (es.drop i) M).bind fun ks M3 => (R.of (sortK es (dks ++ ks)) M3).bind fin)
/-- a thing of ours, whatever the heap -/
structure Ours (X : Cx) (pins : List (Addr × Obj)) (b : Addr) : Prop where
  u : (b ∈ X.ex ∨ X.s_0.heap.objs.size ≤ b) ∧ (∀ x c, X.env.cells.lookup x = some c → c ≠ b) ∧ ∀ p ∈ X.pn ++ pins, p.1 ≠ b
theorem Ours.fp {pins : List (Addr × Obj)} {H : Hp} {b : Addr} (o : Ours X pins b) (h1 : H b = none) (h2 : b ≠ X.env.locals) (h3 : b ∉ X.fs) : FpOk (inX X) pins H b := ⟨h1, h2, h3, o.u⟩
end
end Dn

/-! DnMore: range(a, b), sum, any, in, == with things that may change, append and reverse, name = [..] -/
namespace Dn
open PySem PyProof.Rows L2 Evl
section
variable {X : Cx} {W : WX} {a b c e o tg it : Expr} {es : List Expr} {f g k : XE} {fa : XA} {p : XT} {pos apos : Pos}
/-! ### range(a, b) -/
def xRng2 (g : XA) : XI := fun η M => (g η M).bind fun ds M1 => match ds with
  | [.int i, .int j] => if -(2 ^ 62) ≤ i ∧ i < 2 ^ 62 ∧ -(2 ^ 62) ≤ j ∧ j < 2 ^ 62 then .ok ((List.range (j - i).toNat).map fun q => .int (i + (q : Nat))) M1 else .no
  | _ => .no
theorem walk_rng2 {K : PySem.W.Frag} {B : Hp} {ρ : List Addr} {lo : Int} {n : Nat} : WalkD K (Itr lo n) B ρ ((List.range n).map fun q => .int (lo + (q : Nat))) := by
  refine ⟨⟨fun _ => True, _, by simpa using walk_range, fun _ _ => trivial, fun i d h F B1 ρ1 M H x H2 l m y => ?_⟩⟩
  obtain ⟨rfl, rfl⟩ := y
  refine ⟨B1, Le.refl _ _, m, ?_, Ex.refl _⟩
  rw [List.getElem?_map] at h
  cases hr : (List.range n)[i]? with
  | none => rw [hr] at h; cases h
  | some q =>
    rw [hr] at h
    simp at h
    have : q = i := by
      have := (List.getElem?_eq_some_iff.mp hr).2
      simpa using this.symm
    subst this
    rw [← h]
    exact Rp.int (K := K) (B := B1) (ρ := ρ1) (lo + ((q : Nat) : Int))
theorem di_range2 {p0 pos : Pos} (hg : Gl X "range") (hm : X.mg "range" = none) (ha : DA X W [a, b] fa) (hs : starEach [a, b] X.env = [(false, eval a X.env), (false, eval b X.env)] := by rfl) (hs2 : starEach [b] X.env = [(false, eval b X.env)] := by rfl) :
    DI X W tg (.Call (.Name "range" p0) [a, b] [] pos) (xRng2 fa) :=
  PI.imp (pi_range2 hg hm ha hs hs2) fun σ H Q z => by
    obtain ⟨η, F, B, ρ, M, er, m, w⟩ := z
    refine ⟨η, F, B, ρ, M, er, m, w.bind fun ds M1 B1 ρ1 H1 l1 m1 w1 vs rv => ?_⟩
    split at w1
    · next i j =>
      split at w1
      · next hj =>
        cases rv with
        | cons r rr =>
          cases rr with
          | cons r' rr =>
            cases rr
            cases r
            cases r'
            exact ⟨i, j, rfl, hj, Wp.ret w1 m1 _ walk_rng2⟩
      · exact w1.elim
    · exact w1.elim
/-! ### sum, any -/
def asIs : List D → Option (List Int)
  | [] => some []
  | d :: ds => (asI d).bind fun b => (asIs ds).map (b :: ·)
theorem asIs_snd {K : PySem.W.Frag} {B : Hp} {ρ : List Addr} : ∀ {ds : List D} {vs : List V} {bs : List Int}, Rps K B ρ ds vs → asIs ds = some bs → vs = bs.map V.int
  | _, _, _, .nil, h => by cases h; rfl
  | _, _, bs, .cons (d := d) (ds := ds) r t, h => by
    unfold asIs at h
    cases h1 : asI d with
    | none => simp [h1] at h
    | some b =>
      cases h2 : asIs ds with
      | none => simp [h1, h2] at h
      | some cs =>
        simp [h1, h2] at h
        subst h
        rw [asIs_snd t h2, asI_snd r h1]
        rfl
def bSum : OpC := one fun M d => (asL M d).bind fun ds => (asIs ds).map fun ns => .int ns.sum
theorem cd_sum (hc : X.calm = true) : CallD X (.builtin "sum") bSum := by
  refine ⟨_, cr_sum hc, fun F B ρ M H xs ds dz Q m rx e k => ?_⟩
  obtain ⟨d, rfl, h⟩ := one_some e
  cases rx with
  | cons r rr =>
    cases rr
    cases h1 : asL M d with
    | none => simp [h1] at h
    | some es =>
      cases h2 : asIs es with
      | none => simp [h1, h2] at h
      | some bs =>
        simp only [h1, h2, Option.bind_some, Option.map_some] at h
        obtain rfl := Option.some.inj h
        obtain ⟨a, vs, rfl, hs, rs⟩ := asL_snd m r h1
        have := asIs_snd rs h2
        subst this
        exact ⟨a, bs, rfl, hs, k.same m (.int _)⟩
def bAny : OpC := one fun M d => (asL M d).bind fun ds => (asBs ds).map fun bs => .bl (bs.any id)
theorem cd_any (hc : X.calm = true) : CallD X (.builtin "any") bAny := by
  refine ⟨_, cr_any hc, fun F B ρ M H xs ds dz Q m rx e k => ?_⟩
  obtain ⟨d, rfl, h⟩ := one_some e
  cases rx with
  | cons r rr =>
    cases rr
    cases h1 : asL M d with
    | none => simp [h1] at h
    | some es =>
      cases h2 : asBs es with
      | none => simp [h1, h2] at h
      | some bs =>
        simp only [h1, h2, Option.bind_some, Option.map_some] at h
        obtain rfl := Option.some.inj h
        obtain ⟨a, vs, rfl, hs, rs⟩ := asL_snd m r h1
        have := asBs_snd rs h2
        subst this
        exact ⟨a, bs, rfl, hs, k.same m (.bl _)⟩
theorem bt_sum : bootBuiltins "sum" = some (.builtin "sum") := by decide +kernel
theorem bt_any : bootBuiltins "any" = some (.builtin "any") := by decide +kernel
/-! ### == with things that may change -/
def toPM (M : Mem) : D → Option PyData
  | .ptr n => match M[n]? with
    | some (.lst ds) => (toPs ds).map PyData.list
    | _ => none
  | d => toP d
theorem toPM_snd {K : PySem.W.Frag} {F B H : Hp} {ρ : List Addr} {M : Mem} (m : MR K F B ρ M H) {d : D} {v : V} {p : PyData} (r : Rp K B ρ d v) (h : toPM M d = some p) : Dp K H v p := by
  cases r with
  | @ptr n a ha =>
    have h' : (match M[n]? with | some (.lst ds) => (toPs ds).map PyData.list | _ => none) = some p := h
    split at h'
    · next ds hm =>
      obtain ⟨vs, hH, rs, hB⟩ := m.list ha hm
      cases hp : toPs ds with
      | none => simp [hp] at h'
      | some ps =>
        simp [hp] at h'
        subst h'
        exact .lst (sq_of hH) (toPs_snd m.ex rs hp)
    · cases h'
  | non => exact toP_snd (ρ := ρ) m.ex .non h
  | bl b => exact toP_snd (ρ := ρ) m.ex (.bl b) h
  | int b => exact toP_snd (ρ := ρ) m.ex (.int b) h
  | str b => exact toP_snd (ρ := ρ) m.ex (.str b) h
  | lst e q => exact toP_snd m.ex (.lst e q) h
  | tup e q z => exact toP_snd m.ex (.tup e q z) h
  | dct e q => exact toP_snd m.ex (.dct e q) h
  | dcT e q => exact toP_snd m.ex (.dcT e q) h
  | ins c e q => exact toP_snd m.ex (.ins c e q) h
  | fn c => exact toP_snd (ρ := ρ) m.ex (.fn c) h
  | scr e => exact toP_snd (ρ := ρ) m.ex (.scr e) h
  | raw v => exact toP_snd (ρ := ρ) m.ex (.raw v) h
mutual
theorem toP_plain : ∀ {d : D} {p : PyData}, toP d = some p → p.plain = true
  | .non, _, h => by unfold toP at h; cases h; rfl
  | .bl _, _, h => by unfold toP at h; cases h; rfl
  | .int _, _, h => by unfold toP at h; cases h; rfl
  | .str _, _, h => by unfold toP at h; cases h; rfl
  | .lst ds, _, h => by
    unfold toP at h
    cases hp : toPs ds with
    | none => simp [hp] at h
    | some ps => simp [hp] at h; subst h; simp only [PyData.plain]; exact toPs_plain hp
  | .tup ds, _, h => by
    unfold toP at h
    cases hp : toPs ds with
    | none => simp [hp] at h
    | some ps => simp [hp] at h; subst h; simp only [PyData.plain]; exact toPs_plain hp
  | .dct _, _, h => by unfold toP at h; cases h
  | .dcT _, _, h => by unfold toP at h; cases h
  | .ins _ _, _, h => by unfold toP at h; cases h
  | .fn _, _, h => by unfold toP at h; cases h
  | .scr _, _, h => by unfold toP at h; cases h
  | .ptr _, _, h => by unfold toP at h; cases h
  | .raw _, _, h => by unfold toP at h; cases h
theorem toPs_plain : ∀ {ds : List D} {ps : List PyData}, toPs ds = some ps → PyData.plainAll ps = true
  | [], _, h => by unfold toPs at h; cases h; rfl
  | d :: ds, _, h => by
    unfold toPs at h
    cases h1 : toP d with
    | none => simp [h1] at h
    | some p =>
      cases h2 : toPs ds with
      | none => simp [h1, h2] at h
      | some ps =>
        simp [h1, h2] at h
        subst h
        simp only [PyData.plainAll, toP_plain h1, toPs_plain h2, Bool.and_self]
end
theorem toPM_plain {M : Mem} {d : D} {p : PyData} (h : toPM M d = some p) : p.plain = true := by
  unfold toPM at h
  split at h
  · split at h
    · next ds _ =>
      cases hp : toPs ds with
      | none => simp [hp] at h
      | some ps => simp [hp] at h; subst h; simp only [PyData.plain]; exact toPs_plain hp
    · cases h
  · exact toP_plain h
def eqM (neg : Bool) : Op2 := fun M x y => (toPM M x).bind fun p => (toPM M y).bind fun q => if p.depth ≤ 60 then some (.bl (if neg then !PyData.eqv p q else PyData.eqv p q)) else none
theorem eqM_some {neg : Bool} {M : Mem} {x y z : D} (h : eqM neg M x y = some z) : ∃ p q, toPM M x = some p ∧ toPM M y = some q ∧ p.depth ≤ 60 ∧ z = .bl (if neg then !PyData.eqv p q else PyData.eqv p q) := by
  unfold eqM at h
  cases h1 : toPM M x with
  | none => simp [h1] at h
  | some p =>
    cases h2 : toPM M y with
    | none => simp [h1, h2] at h
    | some q =>
      simp only [h1, h2, Option.bind_some] at h
      split at h
      · next hs => exact ⟨p, q, rfl, rfl, hs, (Option.some.inj h).symm⟩
      · cases h
def rEqP (K : PySem.W.Frag) (neg : Bool) : R2 := fun x y H Q => ∃ p q, Dp K H x p ∧ Dp K H y q ∧ p.plain = true ∧ q.plain = true ∧ p.depth ≤ 60 ∧ Q (.bl (if neg then !PyData.eqv p q else PyData.eqv p q)) H
theorem op_eqP {k : Nat} (hr : Room k X.A) : OpR X (compareOp .Eq) (rEqP X.K false) := by
  intro pins s σ H x y v u Q I rx ry h
  obtain ⟨p, q, hp, hq, pp, pq, hd, z⟩ := h
  obtain ⟨as, r1⟩ := Dp.reads I p x v hp rx
  obtain ⟨bs, r2⟩ := Dp.reads I q y u hq ry
  have hu := hr.un
  exact PySem.SeqAt.eq_plain r1 r2 pp pq (by omega) ⟨.bl _, H, I, rfl, z⟩
theorem op_neP {k : Nat} (hr : Room k X.A) : OpR X (compareOp .NotEq) (rEqP X.K true) := by
  intro pins s σ H x y v u Q I rx ry h
  obtain ⟨p, q, hp, hq, pp, pq, hd, z⟩ := h
  obtain ⟨as, r1⟩ := Dp.reads I p x v hp rx
  obtain ⟨bs, r2⟩ := Dp.reads I q y u hq ry
  have hu := hr.un
  exact PySem.SeqAt.ne_plain r1 r2 pp pq (by omega) ⟨.bl _, H, I, rfl, z⟩
theorem od_eqM {k : Nat} (hr : Room k X.A) : OpD X (compareOp .Eq) (eqM false) := by
  refine ⟨_, op_eqP hr, fun F B ρ M H x y dx dy dz Q m rx ry e k => ?_⟩
  obtain ⟨p, q, h1, h2, h3, rfl⟩ := eqM_some e
  exact ⟨p, q, toPM_snd m rx h1, toPM_snd m ry h2, toPM_plain h1, toPM_plain h2, h3, k.same m (.bl _)⟩
theorem od_neM {k : Nat} (hr : Room k X.A) : OpD X (compareOp .NotEq) (eqM true) := by
  refine ⟨_, op_neP hr, fun F B ρ M H x y dx dy dz Q m rx ry e k => ?_⟩
  obtain ⟨p, q, h1, h2, h3, rfl⟩ := eqM_some e
  exact ⟨p, q, toPM_snd m rx h1, toPM_snd m ry h2, toPM_plain h1, toPM_plain h2, h3, k.same m (.bl _)⟩
/-- a tuple == () -/
def rEqT0 (K : PySem.W.Frag) : R2 := fun x y H Q => ∃ (a b : Addr) (xs : List V), x = .ref a ∧ y = .ref b ∧ SqT K H a xs ∧ SqT K H b [] ∧ Q (.bl (decide (xs.length = 0))) H
def eqT0 : Op2 := fun _ x y => match x, y with
  | .tup ds, .tup [] => some (.bl (decide (ds.length = 0)))
  | _, _ => none
theorem op_eqT0 {k : Nat} (hr : Room k X.A) : OpR X (compareOp .Eq) (rEqT0 X.K) := by
  intro pins s σ H x y v u Q I rx ry h
  obtain ⟨a, b, xs, rfl, rfl, hs, ht, q⟩ := h
  cases rx
  cases ry
  obtain ⟨its, r, pl, hz⟩ := I.tuple hs
  obtain ⟨it2, r2, pl2, hz2⟩ := I.tuple ht
  cases r2
  have hu := hr.un
  have hl : xs.length = its.length := r.length
  refine SeqAt.eq_tupleAt (e := fun _ => true) pl pl2 (by omega) (fun j h1 h2 => absurd h2 (by simp)) ⟨.bl (decide (xs.length = 0)), H, I, ?_, q⟩
  show _ = Value.bool _
  congr 1
  rw [hl]
  cases its <;> simp
theorem od_eqT0 {k : Nat} (hr : Room k X.A) : OpD X (compareOp .Eq) eqT0 := by
  refine ⟨_, op_eqT0 hr, fun F B ρ M H x y dx dy dz Q m rx ry e k => ?_⟩
  unfold eqT0 at e
  split at e
  · next ds =>
    obtain rfl := Option.some.inj e
    obtain ⟨a, vs, rfl, hs, rs⟩ := asT_snd m rx (ds := ds) rfl
    obtain ⟨b, us, rfl, ht, rt⟩ := asT_snd m ry (ds := []) rfl
    cases rt
    refine ⟨a, b, vs, rfl, rfl, hs, ht, ?_⟩
    rw [← rs.len]
    exact k.same m (.bl _)
  · cases e
def dEq : Op2 := oOr (eqM false) eqT0
theorem od_eq2 {k : Nat} (hr : Room k X.A) : OpD X (compareOp .Eq) dEq := (od_eqM hr).or (od_eqT0 hr)
/-! ### in -/
def flatD : D → Option V
  | .non => some .non
  | .bl b => some (.bl b)
  | .int i => some (.int i)
  | .str s => some (.str s)
  | _ => none
theorem flatD_snd {K : PySem.W.Frag} {B : Hp} {ρ : List Addr} {d : D} {v u : V} (r : Rp K B ρ d v) (h : flatD d = some u) : v = u ∧ flatV u = true := by
  cases r <;> simp [flatD] at h <;> subst h <;> exact ⟨rfl, rfl⟩
def flatDs : List D → Option (List V)
  | [] => some []
  | d :: ds => (flatD d).bind fun b => (flatDs ds).map (b :: ·)
theorem flatDs_snd {K : PySem.W.Frag} {B : Hp} {ρ : List Addr} : ∀ {ds : List D} {vs us : List V}, Rps K B ρ ds vs → flatDs ds = some us → vs = us ∧ us.all flatV = true
  | _, _, _, .nil, h => by cases h; exact ⟨rfl, rfl⟩
  | _, _, _, .cons (d := d) (ds := ds) r t, h => by
    unfold flatDs at h
    cases h1 : flatD d with
    | none => simp [h1] at h
    | some b =>
      cases h2 : flatDs ds with
      | none => simp [h1, h2] at h
      | some cs =>
        simp [h1, h2] at h
        subst h
        obtain ⟨rfl, q⟩ := flatDs_snd t h2
        obtain ⟨rfl, q2⟩ := flatD_snd r h1
        exact ⟨rfl, by rw [List.all_cons, q2, q]; rfl⟩
def seqD (M : Mem) (d : D) : Option (List D) := match asL M d with
  | some ds => some ds
  | none => asT d
def inF (neg : Bool) : Op2 := fun M x y => (flatD x).bind fun v => (seqD M y).bind fun ds => (flatDs ds).map fun us => .bl (if neg then !inV v us else inV v us)
theorem inF_snd {neg : Bool} {K : PySem.W.Frag} : OSnd K (rIn K neg) (inF neg) := fun F B ρ M H x y dx dy dz Q m rx ry e k => by
  unfold inF at e
  cases h1 : flatD dx with
  | none => simp [h1] at e
  | some v =>
    cases h2 : seqD M dy with
    | none => simp [h1, h2] at e
    | some ds =>
      cases h3 : flatDs ds with
      | none => simp [h1, h2, h3] at e
      | some us =>
        simp only [h1, h2, h3, Option.bind_some, Option.map_some] at e
        obtain rfl := Option.some.inj e
        obtain ⟨rfl, fx⟩ := flatD_snd rx h1
        unfold seqD at h2
        split at h2
        · next es he =>
          cases h2
          obtain ⟨a, vs, rfl, hs, rs⟩ := asL_snd m ry he
          obtain ⟨rfl, fs⟩ := flatDs_snd rs h3
          exact ⟨a, _, rfl, .inl hs, fx, fs, k.same m (.bl _)⟩
        · obtain ⟨a, vs, rfl, hs, rs⟩ := asT_snd m ry h2
          obtain ⟨rfl, fs⟩ := flatDs_snd rs h3
          exact ⟨a, _, rfl, .inr hs, fx, fs, k.same m (.bl _)⟩
def inD (neg : Bool) : Op2 := fun M x y => (toP x).bind fun p => (toPM M y).bind fun q => match q with
  | .list ps => if p.depth ≤ 60 then some (.bl (if neg then !ps.any fun z => PyData.eqv z p else ps.any fun z => PyData.eqv z p)) else none
  | .tuple ps => if p.depth ≤ 60 then some (.bl (if neg then !ps.any fun z => PyData.eqv z p else ps.any fun z => PyData.eqv z p)) else none
  | _ => none
theorem inD_some {neg : Bool} {M : Mem} {x y z : D} (h : inD neg M x y = some z) : ∃ p q ps, toP x = some p ∧ toPM M y = some q ∧ (q = .list ps ∨ q = .tuple ps) ∧ p.depth ≤ 60 ∧ z = .bl (if neg then !ps.any fun z => PyData.eqv z p else ps.any fun z => PyData.eqv z p) := by
  unfold inD at h
  cases h1 : toP x with
  | none => simp [h1] at h
  | some p =>
    cases h2 : toPM M y with
    | none => simp [h1, h2] at h
    | some q =>
      simp only [h1, h2, Option.bind_some] at h
      split at h
      · next ps =>
        split at h
        · next hs => exact ⟨p, _, ps, rfl, rfl, .inl rfl, hs, (Option.some.inj h).symm⟩
        · cases h
      · next ps =>
        split at h
        · next hs => exact ⟨p, _, ps, rfl, rfl, .inr rfl, hs, (Option.some.inj h).symm⟩
        · cases h
      · cases h
def rInP (K : PySem.W.Frag) (neg : Bool) : R2 := fun x y H Q => ∃ p q ps, Dp K H x p ∧ Dp K H y q ∧ (q = .list ps ∨ q = .tuple ps) ∧ p.plain = true ∧ PyData.plainAll ps = true ∧ p.depth ≤ 60 ∧ Q (.bl (if neg then !ps.any fun z => PyData.eqv z p else ps.any fun z => PyData.eqv z p)) H
theorem op_inP {k : Nat} (hr : Room k X.A) : OpR X (compareOp .In) (rInP X.K false) := by
  intro pins s σ H x y v u Q I rx ry h
  obtain ⟨p, q, ps, hp, hq, hl, pp, pq, hd, z⟩ := h
  obtain ⟨as, r1⟩ := Dp.reads I p x v hp rx
  obtain ⟨bs, r2⟩ := Dp.reads I q y u hq ry
  have hu := hr.un
  rcases hl with rfl | rfl
  · exact PySem.SeqAt.in_list_data r2 r1 pq pp (by omega) ⟨.bl _, H, I, rfl, z⟩
  · exact PySem.SeqAt.in_tuple_data r2 r1 pq pp (by omega) ⟨.bl _, H, I, rfl, z⟩
theorem inD_snd {K : PySem.W.Frag} {neg : Bool} : OSnd K (rInP K neg) (inD neg) := fun F B ρ M H x y dx dy dz Q m rx ry e k => by
  obtain ⟨p, q, ps, h1, h2, hl, h3, rfl⟩ := inD_some e
  refine ⟨p, q, ps, toP_snd m.ex rx h1, toPM_snd m ry h2, hl, toP_plain h1, ?_, h3, k.same m (.bl _)⟩
  have := toPM_plain h2
  rcases hl with rfl | rfl <;> (simp only [PyData.plain] at this; exact this)
theorem od_inD {k : Nat} (hr : Room k X.A) : OpD X (compareOp .In) (inD false) := ⟨_, op_inP hr, inD_snd⟩
def dIn : Op2 := oOr dInS (oOr (inF false) (inD false))
theorem od_in {k : Nat} (hr : Room k X.A) : OpD X (compareOp .In) dIn := od_inS.or (OpD.or ⟨_, op_in_seq, inF_snd⟩ (od_inD hr))
/-! ### lists that change -/
def xAppend (f g : XE) : XE := fun η M => (f η M).bind fun d M1 => match d with
  | .ptr n => match M1[n]? with
    | some (.lst _) => (g η M1).bind fun x M2 => match M2[n]? with
      | some (.lst ds) => if ds.length < 1000000 then .ok .non (M2.set n (.lst (ds ++ [x]))) else .no
      | _ => .no
    | _ => .no
  | _ => .no
theorem de_append (ho : DE X W o f) (he : DE X W e g) (hbase : attributeBase o "append" X.env (eval o X.env) = eval o X.env := by rfl)
    (hfew : ((backTo pos (starEach [e] X.env)).all (fun x => !x.1) && (backToKw pos (keywordEach [] X.env)).all (fun x => x.1.isSome)
      && decide ([e].length + ([] : List Keyword).length + (if ([] : List Keyword).isEmpty then 0 else 1) < 30)) = true := by rfl)
    (hline : (apos.endLine == pos.line) = true := by rfl) (hs : starEach [e] X.env = (false, eval e X.env) :: starEach [] X.env := by rfl) (hplain : (backTo pos (starEach [] X.env)).any (·.1) = false := by rfl) :
    DE X W (.Call (.Attribute o "append" apos) [e] [] pos) (xAppend f g) :=
  PE.imp (pe_bm PySem.F.plainAttrs_list PySem.F.slot_list_append PySem.F.type_list_append mt_append ho (da_cons he da_nil hs) hbase hfew hline hs hplain) fun σ H Q z => by
    obtain ⟨η, F, B, ρ, M, er, m, w⟩ := z
    refine ⟨η, F, B, ρ, M, er, m, w.bind fun d M1 B1 ρ1 H1 l1 m1 w1 x rx => ?_⟩
    cases rx with
    | @ptr n a ha =>
      dsimp only at w1
      split at w1
      · next ds0 hm0 =>
        obtain ⟨us0, hH0, rs0, hB0⟩ := m1.list ha hm0
        refine ⟨.inl ⟨rfl, us0, sq_of hH0⟩, η, F, B1, ρ1, M1, er.mono l1, m1, ?_⟩
        have w1' : Wp X.K X.mg F B1 ρ1 (wAt W σ) (fun d B' ρ' H' => ∀ v, Rp X.K B' ρ' d v → Q v H') (((g η M1).bind fun d M1 => R.ok [d] M1).bind fun ds M2 => match ds with
          | [x] => (match M2[n]? with
            | some (.lst ds) => if ds.length < 1000000 then R.ok D.non (M2.set n (.lst (ds ++ [x]))) else .no
            | _ => .no)
          | _ => .no) := by
          rw [R.bind_assoc]
          exact w1
        refine w1'.bind fun ds M2 B2 ρ2 H2 l2 m2 w2 vs rv => ?_
        cases rv with
        | nil => exact w2.elim
        | @cons dx vx _ _ rx rr =>
          cases rr with
          | cons _ _ => exact w2.elim
          | nil =>
            dsimp only at w2
            split at w2
            · next ds hm =>
              split at w2
              · next hlt =>
                obtain ⟨us, hH, rs, hB⟩ := m2.list (l2.at ha) hm
                have hl := rs.len
                refine ⟨a, us, vx, rfl, rfl, hH, by rw [sizeLine_eq]; omega, ?_⟩
                exact w2 _ _ _ (Le.refl _ _) (m2.put (o := .lst (us ++ [vx])) (ob := .lst (ds ++ [dx])) (l2.at ha) hm (by intro z; cases z) ⟨_, upd_same, rs.snoc rx⟩) _ .non
              · exact w2.elim
            · exact w2.elim
      · exact w1.elim
    | _ => exact w1.elim
/-! ### name = [.. for ..] -/
theorem ds_setLc {i : Nat} {y : Str} {py spos : Pos} {elt : Expr} {ifs : List Expr} {scope : Scope} {own : List (Str × Nat)} {fi : XI} {ts : List Nat} {gt : XG} {t : XT} {W' : WX} {fin : List D → Mem → R D} (hf : FinOk fin) (hc : X.calm = true) (hN : X.N.Nodup) (hi : DI X W tg it fi) (ok : BlkOk X.N X.env.scope scope own)
    (hg : ∀ (s : Shared) (H : Hp) (C : Addr) (cl : List (Str × Addr)) (fp : List Addr), DG (X.blk s H scope (compEnvC scope cl C X.env) fp) W' tg ts gt) (ht : ∀ (s : Shared) (H : Hp) (C : Addr) (cl : List (Str × Addr)) (fp : List Addr), DTs (X.blk s H scope (compEnvC scope cl C X.env) fp) W' ifs t)
    (he : ∀ (s : Shared) (H : Hp) (C : Addr) (cl : List (Str × Addr)) (fp : List Addr), DE (X.blk s H scope (compEnvC scope cl C X.env) fp) W' elt f) (hts : ∀ i ∈ ts, i ∈ own.map (·.2)) (hy : X.N[i]? = some y := by rfl) (hyl : X.env.scope.names.lookup y = some .local := by rfl)
    (hsw : swapsWith (.ListComp elt [⟨tg, it, ifs, 0⟩] scope pos) (some (.Name y py)) spos.line X.env = pure true := by rfl) (hs : ∀ x, foldedSetIterable it X.env x = pure x := by intro _; rfl) :
    DS X W (.Assign [.Name y py] (.ListComp elt [⟨tg, it, ifs, 0⟩] scope pos) spos) (xAsg (xLc fin fi gt t f (own.map (·.2))) (xgName i)) :=
  PS.imp (ps_setLc (g := tG X.K X.mg W' ts gt) (tt := tT X.K X.mg W' t) (te := tE X.K X.mg W' f) hc hN hy hyl hsw hi ok hg ht he hs) fun E σ H z => de_lc.lcGo hf hts σ H _ (set_snd E σ H z)
end
end Dn

/-! DnPtr: walks over lists that may change (but do not while they are walked) -/
namespace Dn
open PySem L2 Evl
abbrev XP := Dv → Mem → R (Option Nat × List D)
/-- the list at n is still ds (or it is one that stays) -/
def Ck (n : Option Nat) (ds : List D) (M : Mem) : Prop := match n with
  | none => True
  | some n => M[n]? = some (.lst ds)
structure WalkP (K : PySem.W.Frag) (J : It) (B : Hp) (ρ : List Addr) (n : Option Nat) (ds : List D) : Prop where
  w : ∃ (G : Hp → Prop) (Y : Nat → Hp → V → Hp → Prop), Walk J ds.length G Y ∧ (∀ F B1 ρ1 M H, Le B ρ B1 ρ1 → MR K F B1 ρ1 M H → Ck n ds M → G H) ∧
    ∀ (i : Nat) (d : D), ds[i]? = some d → ∀ F B1 ρ1 M H x H2, Le B ρ B1 ρ1 → MR K F B1 ρ1 M H → Ck n ds M → Y i H x H2 → ∃ B2, Le B1 ρ1 B2 ρ1 ∧ MR K F B2 ρ1 M H2 ∧ Rp K B2 ρ1 d x ∧ Ex H H2
section
variable {X : Cx} {W : WX} {a b c e o tg it : Expr} {es : List Expr} {f g k : XE} {fa : XA} {p : XT} {pos : Pos}
end
end Dn

/-! DnZip: zip of two things, each a list or a tuple -/
namespace Dn
open PySem PySem.Spec PyProof.Rows L2 Evl
/-- what stands behind one of zip's iterators: T it at a place, L the thing walked -/
structure Nx (it l : Addr) (xs : Array Value) (T : Heap → Nat → Prop) (L : Heap → Prop) : Prop where
  item : ∀ {prog : Program} {w : World} {A : Around} {E : Value → Shared → Prop} {s : Shared} {k : Nat} {x : Value} {Q : Value → Shared → Prop}, T s.heap k → L s.heap → xs[k]? = some x → (∀ h', T h' (k + 1) → Heap.SameBut it s.heap h' → Q x { s with heap := h' }) →
    wpAny (model prog w) A (Builtin.SmallTypes.nextOf (.ref it)) Q E s
  fin : ∀ {prog : Program} {w : World} {A : Around} {E : Value → Shared → Prop} {s : Shared} {k : Nat} {Q : Value → Shared → Prop}, A.handled = none → T s.heap k → L s.heap → xs[k]? = none →
    (∀ h' e, Heap.ExtBut it s.heap h' → (∃ o, h'.get? e = some o ∧ o.cls = .type "StopIteration") → E (.ref e) { s with heap := h' }) → wpAny (model prog w) A (Builtin.SmallTypes.nextOf (.ref it)) Q E s
  kT : ∀ {h h' : Heap} {k : Nat}, T h k → (∀ o, h.get? it = some o → h'.get? it = some o) → T h' k
  kL : ∀ {h h' : Heap}, L h → (∀ o, h.get? l = some o → h'.get? l = some o) → L h'
  obj : ∀ {h : Heap} {k : Nat}, T h k → ∃ o, h.get? it = some o ∧ ∀ v, o.data ≠ .cell v
theorem nx_list {it l : Addr} {xs : Array Value} : Nx it l xs (fun h k => h.IsListIter it l k) (fun h => h.IsList l xs) :=
  ⟨fun h1 h2 h3 h4 => wpAny_nextOf_list_item h1 h2 h3 h4, fun hh h1 h2 h3 h4 => wpAny_nextOf_list_end hh h1 h2 h3 h4, fun h e => h.at e, fun ⟨o, ho, r⟩ e => ⟨o, e o ho, r⟩,
    fun ⟨o, e, _, d⟩ => ⟨o, e, fun v q => by rw [d] at q; cases q⟩⟩
theorem nx_tup {it l : Addr} {xs : Array Value} : Nx it l xs (fun h k => h.IsTupleIter it l k) (fun h => h.IsTuple l xs) :=
  ⟨fun h1 h2 h3 h4 => RZ.nextOf_tuple_item h1 h2 h3 h4, fun hh h1 h2 h3 h4 => RZ.nextOf_tuple_end hh h1 h2 h3 h4, fun h e => h.at e, fun ⟨o, ho, r⟩ e => ⟨o, e o ho, r⟩,
    fun ⟨o, e, _, d⟩ => ⟨o, e, fun v q => by rw [d] at q; cases q⟩⟩
section
variable {prog : Program} {w : World} {A : Around} {E : Value → Shared → Prop} {s : Shared} {z TI TO i1 i2 l1 l2 : Addr} {k1 k2 : Nat} {xs ys : Array Value} {T1 T2 : Heap → Nat → Prop} {L1 L2 : Heap → Prop} {a b : Value}
theorem zipG_item {x y : Value} {Q : Value → Shared → Prop} (N1 : Nx i1 l1 xs T1 L1) (N2 : Nx i2 l2 ys T2 L2) (D : ZipApart z TI TO i1 i2 l1 l2)
    (hz : IsZip s.heap z TI TO .none) (hTI : IsPair s.heap TI (.ref i1) (.ref i2)) (hTO : IsPair s.heap TO a b) (h1 : T1 s.heap k1) (h2 : T2 s.heap k2) (hl1 : L1 s.heap) (hl2 : L2 s.heap) (hx : xs[k1]? = some x) (hy : ys[k2]? = some y)
    (hQ : ∀ h', IsZip h' z TI TO (rawInt s.heap.objs.size) → IsPair h' TO x y → T1 h' (k1 + 1) → T2 h' (k2 + 1) → IsPair h' s.heap.objs.size x y → h'.objs.size = s.heap.objs.size + 1 →
      (∀ c o, c ≠ z → c ≠ TO → c ≠ i1 → c ≠ i2 → s.heap.get? c = some o → h'.get? c = some o) → Q (.ref s.heap.objs.size) { s with heap := h' }) :
    wpAny (model prog w) A (Builtin.«zip.__next__» ⟨[.ref z], []⟩) (fun fin s' => ∃ v, fin = .done (.ret v) ∧ Q v s') E s := by
  show wpAny _ _ (field (.ref z) 2 >>= _) _ _ _
  refine wpAny_bind (wpAny_field hz rfl (x := .bool false) rfl ?_)
  show wpAny _ _ (field (.ref z) 3 >>= _) _ _ _
  refine wpAny_bind (wpAny_field hz rfl (x := .ref TI) rfl ?_)
  refine wpAny_bind (wpAny_seqItems hTI rfl ?_)
  show wpAny _ _ (Builtin.SmallTypes.ownedTupleIsFree (.ref z) >>= _) _ _ _
  refine wpAny_bind ?_
  unfold Builtin.SmallTypes.ownedTupleIsFree
  refine wpAny_bind (wpAny_field hz rfl (x := .none) rfl (wpAny_pure ?_))
  simp only [if_true]
  refine wpAny_bind (wpAny_rule ?_)
  refine wpAny_bind (wpAny_field hz rfl (x := .ref TO) rfl ?_)
  refine wpAny_bind (wpAny_setField_rec hz (by simp) fun g1 zg1 sg1 => ?_)
  replace zg1 : IsZip g1 z TI TO .ellipsis := zg1
  refine wpAny_bind ?_
  simp only [List.zipIdx_cons, List.zipIdx_nil, List.forIn_cons, List.forIn_nil]
  refine wpAny_bind (wpAny_bind (wpAny_onRaise ?_))
  show wpAny _ _ (Builtin.SmallTypes.nextOf (.ref i1) >>= _) _ _ _
  refine wpAny_bind (N1.item (N1.kT h1 fun o e => sg1.extBut _ _ D.i1z e) (N1.kL hl1 fun o e => sg1.extBut _ _ D.l1z e) hx fun g2 t1 sg2 => wpAny_pure ?_)
  have p2 : IsPair g2 TO a b := sg2.extBut _ _ D.TOi1 (sg1.extBut _ _ D.TOz hTO)
  refine wpAny_bind (wpAny_seqItems p2 rfl ?_)
  refine wpAny_bind (wpAny_updateSeq_pair p2 fun g3 p3 sg3 => ?_)
  replace p3 : IsPair g3 TO x b := p3
  refine wpAny_bind (wpAny_letGo (wpAny_pure ?_))
  refine wpAny_bind (wpAny_bind (wpAny_onRaise ?_))
  show wpAny _ _ (Builtin.SmallTypes.nextOf (.ref i2) >>= _) _ _ _
  refine wpAny_bind (N2.item (N2.kT h2 fun o e => sg3.extBut _ _ D.TOi2.symm (sg2.extBut _ _ D.i12.symm (sg1.extBut _ _ D.i2z e))) (N2.kL hl2 fun o e => sg3.extBut _ _ D.l2TO (sg2.extBut _ _ D.l2i1 (sg1.extBut _ _ D.l2z e))) hy fun g4 t2 sg4 => wpAny_pure ?_)
  have p4 : IsPair g4 TO x b := sg4.extBut _ _ D.TOi2 p3
  refine wpAny_bind (wpAny_seqItems p4 rfl ?_)
  refine wpAny_bind (wpAny_updateSeq_pair p4 fun g5 p5 sg5 => ?_)
  replace p5 : IsPair g5 TO x y := p5
  refine wpAny_bind (wpAny_letGo (wpAny_pure (wpAny_pure ?_)))
  refine wpAny_bind (wpAny_seqItems p5 rfl ?_)
  refine wpAny_bind (wpAny_newTuple ?_)
  have hsz : g5.objs.size = s.heap.objs.size := by rw [sg5.1, sg4.1, sg3.1, sg2.1, sg1.1]
  have z5 : IsZip g5 z TI TO .ellipsis := sg5.extBut _ _ D.TOz.symm (sg4.extBut _ _ D.i2z.symm (sg3.extBut _ _ D.TOz.symm (sg2.extBut _ _ D.i1z.symm zg1)))
  have kp : ∀ c o, c ≠ z → c ≠ TO → c ≠ i1 → c ≠ i2 → s.heap.get? c = some o → g5.get? c = some o := fun c o c1 c2 c3 c4 e =>
    sg5.extBut _ _ c2 (sg4.extBut _ _ c4 (sg3.extBut _ _ c2 (sg2.extBut _ _ c3 (sg1.extBut _ _ c1 e))))
  have u1 : T1 g5 (k1 + 1) := N1.kT t1 fun o e => sg5.extBut _ _ D.TOi1.symm (sg4.extBut _ _ D.i12 (sg3.extBut _ _ D.TOi1.symm e))
  have u2 : T2 g5 (k2 + 1) := N2.kT t2 fun o e => sg5.extBut _ _ D.TOi2.symm e
  have hzlt : z < g5.objs.size := Heap.lt_size z5
  show wpAny _ _ (Builtin.SmallTypes.ownedTupleHandOut (.ref z) (.ref g5.objs.size) >>= _) _ _ _
  refine wpAny_bind ?_
  unfold Builtin.SmallTypes.ownedTupleHandOut
  have z6 : IsZip (g5.push { cls := .type "tuple", data := .seq #[x, y] }) z TI TO .ellipsis := Heap.get?_push_of_some _ z5
  refine wpAny_bind (wpAny_setField_rec z6 (by simp) fun g7 z7 sg7 => ?_)
  replace z7 : IsZip g7 z TI TO (rawInt g5.objs.size) := z7
  refine wpAny_setField_rec z7 (by simp) fun g8 z8 sg8 => ?_
  replace z8 : IsZip g8 z TI TO (rawInt g5.objs.size) := z8
  have up : ∀ c o, c ≠ z → g5.get? c = some o → g8.get? c = some o := fun c o c1 e => sg8.extBut _ _ c1 (sg7.extBut _ _ c1 (Heap.get?_push_of_some _ e))
  have pT : IsPair g8 g5.objs.size x y := sg8.extBut _ _ (Nat.ne_of_gt hzlt) (sg7.extBut _ _ (Nat.ne_of_gt hzlt) (Heap.get?_push_size _ rfl))
  have sz8 : g8.objs.size = g5.objs.size + 1 := by rw [sg8.1, sg7.1, Heap.size_push]
  rw [hsz] at z8 pT sz8
  refine wpAny_pure ⟨_, rfl, ?_⟩
  show Q (.ref g5.objs.size) _
  rw [hsz]
  exact hQ g8 z8 (up _ _ D.TOz p5) (N1.kT u1 fun o e => up _ o D.i1z e) (N2.kT u2 fun o e => up _ o D.i2z e) pT sz8 fun c o c1 c2 c3 c4 e => up c o c1 (kp c o c1 c2 c3 c4 e)
theorem zipG_end {Q : PySem.Fin → Shared → Prop} (N1 : Nx i1 l1 xs T1 L1) (N2 : Nx i2 l2 ys T2 L2) (hh : A.handled = none) (D : ZipApart z TI TO i1 i2 l1 l2)
    (hz : IsZip s.heap z TI TO .none) (hTI : IsPair s.heap TI (.ref i1) (.ref i2)) (hTO : IsPair s.heap TO a b) (h1 : T1 s.heap k1) (h2 : T2 s.heap k2) (hl1 : L1 s.heap) (hl2 : L2 s.heap) (hend : xs[k1]? = none ∨ ys[k2]? = none)
    (hE : ∀ h' e, (∀ c o, c ≠ z → c ≠ TO → c ≠ i1 → c ≠ i2 → s.heap.get? c = some o → h'.get? c = some o) → (∃ o, h'.get? e = some o ∧ o.cls = .type "StopIteration") → E (.ref e) { s with heap := h' }) :
    wpAny (model prog w) A (Builtin.«zip.__next__» ⟨[.ref z], []⟩) Q E s := by
  show wpAny _ _ (field (.ref z) 2 >>= _) _ _ _
  refine wpAny_bind (wpAny_field hz rfl (x := .bool false) rfl ?_)
  show wpAny _ _ (field (.ref z) 3 >>= _) _ _ _
  refine wpAny_bind (wpAny_field hz rfl (x := .ref TI) rfl ?_)
  refine wpAny_bind (wpAny_seqItems hTI rfl ?_)
  show wpAny _ _ (Builtin.SmallTypes.ownedTupleIsFree (.ref z) >>= _) _ _ _
  refine wpAny_bind ?_
  unfold Builtin.SmallTypes.ownedTupleIsFree
  refine wpAny_bind (wpAny_field hz rfl (x := .none) rfl (wpAny_pure ?_))
  simp only [if_true]
  refine wpAny_bind (wpAny_rule ?_)
  refine wpAny_bind (wpAny_field hz rfl (x := .ref TO) rfl ?_)
  refine wpAny_bind (wpAny_setField_rec hz (by simp) fun g1 zg1 sg1 => ?_)
  replace zg1 : IsZip g1 z TI TO .ellipsis := zg1
  refine wpAny_bind ?_
  simp only [List.zipIdx_cons, List.zipIdx_nil, List.forIn_cons, List.forIn_nil]
  refine wpAny_bind (wpAny_bind (wpAny_onRaise ?_))
  show wpAny _ _ (Builtin.SmallTypes.nextOf (.ref i1) >>= _) _ _ _
  have j1 : T1 g1 k1 := N1.kT h1 fun o e => sg1.extBut _ _ D.i1z e
  have j2 : L1 g1 := N1.kL hl1 fun o e => sg1.extBut _ _ D.l1z e
  cases hx : xs[k1]? with
  | none =>
    refine wpAny_bind (N1.fin hh j1 j2 hx fun g2 e sg2 he => ?_)
    obtain ⟨oe, hoe, hce⟩ := he
    have z2 : IsZip g2 z TI TO .ellipsis := sg2 _ _ D.i1z.symm zg1
    have hez : e ≠ z := fun q => by subst q; rw [z2] at hoe; cases hoe; simp at hce
    exact wpAny_setField_rec z2 (by simp) fun g3 _ sg3 => hE g3 e (fun c o c1 _ c3 _ q => sg3.extBut _ _ c1 (sg2 _ _ c3 (sg1.extBut _ _ c1 q))) ⟨oe, sg3.extBut _ _ hez hoe, hce⟩
  | some x =>
    have hy : ys[k2]? = none := by rcases hend with h | h; rw [hx] at h; cases h; exact h
    refine wpAny_bind (N1.item j1 j2 hx fun g2 t1 sg2 => wpAny_pure ?_)
    have p2 : IsPair g2 TO a b := sg2.extBut _ _ D.TOi1 (sg1.extBut _ _ D.TOz hTO)
    refine wpAny_bind (wpAny_seqItems p2 rfl ?_)
    refine wpAny_bind (wpAny_updateSeq_pair p2 fun g3 p3 sg3 => ?_)
    refine wpAny_bind (wpAny_letGo (wpAny_pure ?_))
    refine wpAny_bind (wpAny_bind (wpAny_onRaise ?_))
    show wpAny _ _ (Builtin.SmallTypes.nextOf (.ref i2) >>= _) _ _ _
    refine wpAny_bind (N2.fin hh (N2.kT h2 fun o e => sg3.extBut _ _ D.TOi2.symm (sg2.extBut _ _ D.i12.symm (sg1.extBut _ _ D.i2z e))) (N2.kL hl2 fun o e => sg3.extBut _ _ D.l2TO (sg2.extBut _ _ D.l2i1 (sg1.extBut _ _ D.l2z e))) hy fun g4 e sg4 he => ?_)
    obtain ⟨oe, hoe, hce⟩ := he
    have z4 : IsZip g4 z TI TO .ellipsis := sg4 _ _ D.i2z.symm (sg3.extBut _ _ D.TOz.symm (sg2.extBut _ _ D.i1z.symm zg1))
    have hez : e ≠ z := fun q => by subst q; rw [z4] at hoe; cases hoe; simp at hce
    exact wpAny_setField_rec z4 (by simp) fun g5 _ sg5 => hE g5 e (fun c o c1 c2 c3 c4 q => sg5.extBut _ _ c1 (sg4 _ _ c4 (sg3.extBut _ _ c2 (sg2.extBut _ _ c3 (sg1.extBut _ _ c1 q))))) ⟨oe, sg5.extBut _ _ hez hoe, hce⟩
theorem nextG_item {x y : Value} {Q : Option Value → Shared → Prop} (N1 : Nx i1 l1 xs T1 L1) (N2 : Nx i2 l2 ys T2 L2) (D : ZipApart z TI TO i1 i2 l1 l2)
    (hz : IsZip s.heap z TI TO .none) (hTI : IsPair s.heap TI (.ref i1) (.ref i2)) (hTO : IsPair s.heap TO a b) (h1 : T1 s.heap k1) (h2 : T2 s.heap k2) (hl1 : L1 s.heap) (hl2 : L2 s.heap) (hx : xs[k1]? = some x) (hy : ys[k2]? = some y)
    (hQ : ∀ h', IsZip h' z TI TO (rawInt s.heap.objs.size) → IsPair h' TO x y → T1 h' (k1 + 1) → T2 h' (k2 + 1) → IsPair h' s.heap.objs.size x y → h'.objs.size = s.heap.objs.size + 1 →
      (∀ c o, c ≠ z → c ≠ TO → c ≠ i1 → c ≠ i2 → s.heap.get? c = some o → h'.get? c = some o) → Q (some (.ref s.heap.objs.size)) { s with heap := h' }) :
    wpAny (model prog w) A (pyNext (.ref z)) Q E s := by
  have hT : s.TypeIs (.ref z) "zip" := ⟨_, hz, rfl⟩
  unfold pyNext
  exact wpAny_bind (wpAny_attempt (wpAny_callSpecial?_slot (name := Str.ofString "__next__") hT F.slot_zip_next
    (wpAny_call_entry F.slot_zip_next hT F.entry_zip_next
      (zipG_item N1 N2 D hz hTI hTO h1 h2 hl1 hl2 hx hy fun h' a1 a2 a3 a4 a5 a6 a7 => wpAny_pure (hQ h' a1 a2 a3 a4 a5 a6 a7)) (F.args_zip_next_1 _))))
theorem nextG_end {Q : Option Value → Shared → Prop} (N1 : Nx i1 l1 xs T1 L1) (N2 : Nx i2 l2 ys T2 L2) (hh : A.handled = none) (D : ZipApart z TI TO i1 i2 l1 l2)
    (hz : IsZip s.heap z TI TO .none) (hTI : IsPair s.heap TI (.ref i1) (.ref i2)) (hTO : IsPair s.heap TO a b) (h1 : T1 s.heap k1) (h2 : T2 s.heap k2) (hl1 : L1 s.heap) (hl2 : L2 s.heap) (hend : xs[k1]? = none ∨ ys[k2]? = none)
    (hQ : ∀ h', (∀ c o, c ≠ z → c ≠ TO → c ≠ i1 → c ≠ i2 → s.heap.get? c = some o → h'.get? c = some o) → Q none { s with heap := h' }) : wpAny (model prog w) A (pyNext (.ref z)) Q E s := by
  have hT : s.TypeIs (.ref z) "zip" := ⟨_, hz, rfl⟩
  unfold pyNext
  refine wpAny_bind (wpAny_attempt (wpAny_callSpecial?_slot (name := Str.ofString "__next__") hT F.slot_zip_next
    (wpAny_call_entry F.slot_zip_next hT F.entry_zip_next (zipG_end N1 N2 hh D hz hTI hTO h1 h2 hl1 hl2 hend fun h' e hk he => ?_) (F.args_zip_next_1 _))))
  obtain ⟨o, ho, hc⟩ := he
  refine wpAny_bind (wpAny_isInstance (T := "StopIteration") (b := true) ⟨o, ho, hc⟩ isSubtype_stop ?_)
  exact wpAny_pure (hQ _ hk)
end
end Dn
namespace Dn
open PySem PySem.Spec PyProof.Rows L2 Evl
abbrev zm1 (h : Heap) (l1 : Addr) : Heap := h.push { cls := .type "tuple_iterator", data := .fields #[.ref l1, .int 0 0] }
abbrev zm2 (h : Heap) (l1 l2 : Addr) : Heap := (zm1 h l1).push { cls := .type "list_iterator", data := .fields #[.ref l2, .int 0 0] }
abbrev zm3 (h : Heap) (l1 l2 : Addr) : Heap := (zm2 h l1 l2).push { cls := .type "tuple", data := .seq #[.ref h.objs.size, .ref (zm1 h l1).objs.size] }
abbrev zm4 (h : Heap) (l1 l2 : Addr) : Heap := (zm3 h l1 l2).push { cls := .type "tuple", data := .seq #[.none, .none] }
abbrev zm5 (h : Heap) (l1 l2 : Addr) : Heap := (zm4 h l1 l2).push { cls := .type "zip", data := .fields #[.none, .bool false, .bool false, .ref (zm2 h l1 l2).objs.size, .ref (zm3 h l1 l2).objs.size] }
theorem meets_zm_new (l1 l2 : Addr) (xs ys : Array Value) :
    Meets (Builtin.«zip.__new__» ⟨[.type "zip", .ref l1, .ref l2], []⟩) (fun _ R s => s.heap.IsTuple l1 xs ∧ s.heap.IsList l2 ys ∧
      R (.ok (.ret (.ref (zm4 s.heap l1 l2).objs.size))) { s with heap := zm5 s.heap l1 l2 }) :=
  .of_wp fun prog w A R s h => by
    obtain ⟨hp, g, d, tk, os⟩ := s; obtain ⟨hl1, hl2, h⟩ := h
    have hsub := sub_zip
    have hL1 : Heap.IsTuple (Shared.heap ⟨hp, g, d, tk, os⟩) l1 xs := hl1
    have hL2 : Heap.IsList (Shared.heap ⟨hp.push { cls := .type "tuple_iterator", data := .fields #[.ref l1, .int 0 0] }, g, d, tk, os⟩) l2 ys := Heap.IsList.push hl2 _
    wp_walk using wpAny_pyIter_tuple hL1, wpAny_pyIter_list hL2
    exact ⟨_, rfl, h⟩
section
variable {prog : Program} {w : World} {A : Around} {E : Value → Shared → Prop} {s : Shared}
theorem call_zm {l1 l2 : Addr} {xs ys : Array Value} {Q : Value → Shared → Prop} (hl1 : s.heap.IsTuple l1 xs) (hl2 : s.heap.IsList l2 ys)
    (h : ∀ h', IsZip h' (s.heap.objs.size + 4) (s.heap.objs.size + 2) (s.heap.objs.size + 3) .none → IsPair h' (s.heap.objs.size + 2) (.ref s.heap.objs.size) (.ref (s.heap.objs.size + 1)) →
      IsPair h' (s.heap.objs.size + 3) .none .none → h'.IsTupleIter s.heap.objs.size l1 0 → h'.IsListIter (s.heap.objs.size + 1) l2 0 → (∀ c o, s.heap.get? c = some o → h'.get? c = some o) → Q (.ref (s.heap.objs.size + 4)) { s with heap := h' }) :
    wpAny (model prog w) A (call (.type "zip") [.ref l1, .ref l2]) Q E s := by
  refine callType_new F.called_zip (by decide) (F.typeCall_zip_2 _ _) (F.newCall_zip_2 _ _) (fun obj => F.args_object_init_3 obj _ _) F.entry_zip_new (meets_zm_new l1 l2 xs ys) ⟨hl1, hl2, ?_⟩
  have z1 : (zm1 s.heap l1).objs.size = s.heap.objs.size + 1 := Heap.size_push ..
  have z2 : (zm2 s.heap l1 l2).objs.size = s.heap.objs.size + 2 := by rw [Heap.size_push, z1]
  have z3 : (zm3 s.heap l1 l2).objs.size = s.heap.objs.size + 3 := by rw [Heap.size_push, z2]
  have z4 : (zm4 s.heap l1 l2).objs.size = s.heap.objs.size + 4 := by rw [Heap.size_push, z3]
  have up : ∀ {h : Heap} {c : Addr} {o o' : Obj}, h.get? c = some o → (h.push o').get? c = some o := fun e => Heap.get?_push_of_some _ e
  have g5 : (zm5 s.heap l1 l2).get? (zm4 s.heap l1 l2).objs.size = some _ := Heap.get?_push_size _ rfl
  have g4 : (zm5 s.heap l1 l2).get? (zm3 s.heap l1 l2).objs.size = some _ := up (Heap.get?_push_size _ rfl)
  have g3 : (zm5 s.heap l1 l2).get? (zm2 s.heap l1 l2).objs.size = some _ := up (up (Heap.get?_push_size _ rfl))
  have g2 : (zm5 s.heap l1 l2).get? (zm1 s.heap l1).objs.size = some _ := up (up (up (Heap.get?_push_size _ rfl)))
  have g1 : (zm5 s.heap l1 l2).get? s.heap.objs.size = some _ := up (up (up (up (Heap.get?_push_size _ rfl))))
  show _ ∧ _
  rw [z2, z3, z4] at g5
  rw [z1, z2] at g3
  rw [z3] at g4
  rw [z1] at g2
  rw [z4]
  exact ⟨⟨_, g5, rfl⟩, h _ g5 g3 g4 ⟨_, g1, rfl, rfl⟩ ⟨_, g2, rfl, rfl⟩ fun c o x => up (up (up (up (up x))))⟩
end
/-- the tuple at a and the list at b as they stand at each turn -/
def ItzM (K : PySem.W.Frag) (a b : Addr) : It :=
  ⟨fun i H => ∃ (xs ys : List V) (x y : V), SqT K H a xs ∧ SqL K H b ys ∧ xs[i]? = some x ∧ ys[i]? = some y,
    fun i H v H' => ∃ T x y, v = .ref T ∧ H T = none ∧ H' = upd H T (.tup [x, y]) ∧ (∀ xs, SqT K H a xs → xs[i]? = some x) ∧ ∀ ys, SqL K H b ys → ys[i]? = some y,
    fun i H => ∃ xs ys : List V, SqT K H a xs ∧ SqL K H b ys ∧ (xs.length ≤ i ∨ ys.length ≤ i)⟩
theorem turn_zm {P : Program} {w : World} {K : PySem.W.Frag} {elts : List Expr} {kk : Nat} {tpos : Pos} {a b z TI TO i1 i2 : Addr} (D : ZipApart z TI TO i1 i2 a b) :
    Turn P w K (.Tuple elts kk tpos) (ItzM K a b) [z, TI, TO, i1, i2] z (fun i h => IsZip h z TI TO .none ∧ IsPair h TI (.ref i1) (.ref i2) ∧ (∃ x y, IsPair h TO x y) ∧ h.IsTupleIter i1 a i ∧ h.IsListIter i2 b i) where
  mem := by simp
  obj := fun i h st c hc => by
    obtain ⟨hz, hTI, ⟨x, y, hTO⟩, ⟨o1, e1, _, d1⟩, ⟨o2, e2, _, d2⟩⟩ := st
    have e' : c = z ∨ c = TI ∨ c = TO ∨ c = i1 ∨ c = i2 := by simpa using hc
    rcases e' with q | q | q | q | q
    · rw [q]; exact ⟨_, hz, fun v q => nomatch q⟩
    · rw [q]; exact ⟨_, hTI, fun v q => nomatch q⟩
    · rw [q]; exact ⟨_, hTO, fun v q => nomatch q⟩
    · rw [q]; exact ⟨o1, e1, fun v q => by rw [d1] at q; cases q⟩
    · rw [q]; exact ⟨o2, e2, fun v q => by rw [d2] at q; cases q⟩
  keep := fun i h h' st k => by
    obtain ⟨hz, hTI, ⟨x, y, hTO⟩, h1, h2⟩ := st
    exact ⟨k z (by simp) _ hz, k TI (by simp) _ hTI, ⟨x, y, k TO (by simp) _ hTO⟩, h1.at fun o q => k i1 (by simp) o q, h2.at fun o q => k i2 (by simp) o q⟩
  item := by
    intro X hP hw hK hc i pins s σ H E I hf st hg
    subst hP hw hK
    obtain ⟨hz, hTI, ⟨x0, y0, hTO⟩, h1, h2⟩ := st
    obtain ⟨xs, ys, x, y, hqx, hqy, hx, hy⟩ := hg
    obtain ⟨its, rv, p, _⟩ := I.tuple hqx
    obtain ⟨its2, rv2, p2, _⟩ := I.list hqy
    obtain ⟨u, hu, ru⟩ := rv.get hx
    obtain ⟨u2, hu2, ru2⟩ := rv2.get hy
    have hzl : z < s.heap.objs.size := Heap.lt_size hz
    refine nextG_item nx_tup nx_list D hz hTI hTO h1 h2 p p2.isList (x := u) (y := u2) (by simpa using hu) (by simpa using hu2) fun h' z' TO' h1' h2' hT hsz hk => ?_
    refine ⟨_, rfl, wpAny_letOwnedTupleGo_zip (s := { s with heap := h' }) z' fun h'' z'' sb => ?_⟩
    have hT2 : h''.get? s.heap.objs.size = some { cls := .type "tuple", data := .seq #[u, u2] } := (sb.2 _ (Nat.ne_of_gt hzl)).trans hT
    have new : ObjOk X.prog X.w (upd H s.heap.objs.size (.tup [x, y])) h'' s.heap.objs.size (.tup [x, y]) :=
      ⟨by show 2 ≤ sizeLine; decide, [u, u2], .cons ru (.cons ru2 .nil), ⟨_, hT2, rfl, _, rfl⟩⟩
    have I1 : Inv X pins σ (upd H s.heap.objs.size (.tup [x, y])) { s with heap := h'' } :=
      I.turnedNew (t' := s.toks) (ch := [z, TI, TO, i1, i2]) (fun c o hb q => (sb.2 c (fun q' => hb (by simp [q']))).trans (hk c o (fun q' => hb (by simp [q'])) (fun q' => hb (by simp [q'])) (fun q' => hb (by simp [q'])) (fun q' => hb (by simp [q'])) q)) hf (Nat.le_refl _) new
    refine ⟨.ref s.heap.objs.size, _, I1, rfl, ⟨_, x, y, rfl, I.hok.fresh (Nat.le_refl _), rfl, fun l hl => by rw [I.tuple_inj hl hqx]; exact hx, fun l hl => by rw [I.list_inj hl hqy]; exact hy⟩, ⟨z'', ?_, ⟨u, u2, ?_⟩, ?_, ?_⟩, fun c hcm => ?_⟩
    · exact (sb.2 _ D.TIz).trans (hk _ _ D.TIz D.TITO D.TIi1 D.TIi2 hTI)
    · exact (sb.2 _ D.TOz).trans TO'
    · exact h1'.at fun o q => (sb.2 _ D.i1z).trans q
    · exact h2'.at fun o q => (sb.2 _ D.i2z).trans q
    · have hlt : c < s.heap.objs.size := by
        have e' : c = z ∨ c = TI ∨ c = TO ∨ c = i1 ∨ c = i2 := by simpa using hcm
        rcases e' with q | q | q | q | q
        · rw [q]; exact hzl
        · rw [q]; exact Heap.lt_size hTI
        · rw [q]; exact Heap.lt_size hTO
        · rw [q]; obtain ⟨_, e1, _⟩ := h1; exact Heap.lt_size e1
        · rw [q]; obtain ⟨_, e2, _⟩ := h2; exact Heap.lt_size e2
      rw [upd_ne (Nat.ne_of_lt hlt)]
      exact (hf c hcm).1
  done := by
    intro X hP hw hK hc i pins s σ H E I hf st hg
    subst hP hw hK
    obtain ⟨hz, hTI, ⟨x0, y0, hTO⟩, h1, h2⟩ := st
    obtain ⟨xs, ys, hqx, hqy, hend⟩ := hg
    obtain ⟨its, rv, p, _⟩ := I.tuple hqx
    obtain ⟨its2, rv2, p2, _⟩ := I.list hqy
    have l1 := rv.length
    have l2 := rv2.length
    have he : its.toArray[i]? = none ∨ its2.toArray[i]? = none := by
      rcases hend with q | q
      · exact .inl (by simp; omega)
      · exact .inr (by simp; omega)
    exact nextG_end nx_tup nx_list (I.ok.hd hc) D hz hTI hTO h1 h2 p p2.isList he fun h' hk => ⟨rfl, I.turnedL (t' := s.toks) (ch := [z, TI, TO, i1, i2]) (fun c o hb q =>
      hk c o (fun q' => hb (by simp [q'])) (fun q' => hb (by simp [q'])) (fun q' => hb (by simp [q'])) (fun q' => hb (by simp [q'])) q) hf⟩
  self := fun A i s Q E st h => wpAny_pyIter_zip st.1 h
def iZipM (K : PySem.W.Frag) (ta : TA) : TI := fun σ H R => ta σ H fun vs H1 => ∃ a b xs ys, vs = [.ref a, .ref b] ∧ SqT K H1 a xs ∧ SqL K H1 b ys ∧ R (ItzM K a b) H1
theorem pi_zipM {X : Cx} {e e2 : Expr} {ta : TA} {p pos tpos : Pos} {elts : List Expr} {kk : Nat} (hg : Gl X "zip") (hm : X.mg "zip" = none) (ha : PA X [e, e2] ta)
    (hs : starEach [e, e2] X.env = (false, eval e X.env) :: starEach [e2] X.env := by rfl) (hpl : (backTo pos (starEach [e2] X.env)).any (·.1) = false := by rfl) :
    PI X (.Tuple elts kk tpos) (.Call (.Name "zip" p) [e, e2] [] pos) (iZipM X.K ta) := by
  refine ⟨fun pins s σ H R I h => ?_⟩
  refine Call_ (ld_blt I hg hm PyProof.Rows.boot_zip (PyProof.Rows.callWith_type1 (thn (ha.run pos pins s σ H _ I h) fun us s1 ⟨vs, H1, I1, r1, q1⟩ => ?_) hs hpl))
  obtain ⟨a, b, xs, ys, ex, hqx, hqy, q⟩ := q1
  subst ex
  cases r1 with
  | cons r rr =>
    cases rr with
    | cons r' rr =>
      cases rr
      cases r
      cases r'
      obtain ⟨its, rv, p1, _⟩ := I1.tuple hqx
      obtain ⟨its2, rv2, p2, _⟩ := I1.list hqy
      obtain ⟨o1, ho1, _⟩ := id p1
      refine call_zm (show s1.heap.IsTuple a its.toArray from p1) p2.isList fun h' hz hTI hTO h1 h2 hk => wpAny_pyIter_zip hz ?_
      have I2 : Inv X pins σ H1 { s1 with heap := h' } := I1.kept (t' := s1.toks) hk
      refine ⟨s1.heap.objs.size + 4, [s1.heap.objs.size + 4, s1.heap.objs.size + 2, s1.heap.objs.size + 3, s1.heap.objs.size, s1.heap.objs.size + 1], _, _, H1, rfl, I2, turn_zm (PySem.W.ktu_apart s1.heap.objs.size a b (Heap.lt_size ho1) p2.lt), ⟨hz, hTI, ⟨_, _, hTO⟩, h1, h2⟩, fun c hcm => ?_, q⟩
      have hle : s1.heap.objs.size ≤ c := by
        have e' : c = s1.heap.objs.size + 4 ∨ c = s1.heap.objs.size + 2 ∨ c = s1.heap.objs.size + 3 ∨ c = s1.heap.objs.size ∨ c = s1.heap.objs.size + 1 := by simpa using hcm
        rcases e' with q | q | q | q | q <;> rw [q] <;> first | exact Nat.le_add_right _ _ | exact Nat.le_refl _
      exact I1.fpOk hle (I1.hok.fresh hle)
theorem walk_zm {K : PySem.W.Frag} {a b : Addr} {xs ys : List V} : Walk (ItzM K a b) (min xs.length ys.length) (fun H => SqT K H a xs ∧ SqL K H b ys) (YPair (fun i => xs[i]?) (fun i => ys[i]?)) := by
  refine ⟨fun i _ hi q => ?_, fun _ q => ⟨xs, ys, q.1, q.2, by omega⟩, fun i H v H' _ q y => ?_⟩
  · have h1 : i < xs.length := by omega
    have h2 : i < ys.length := by omega
    exact ⟨xs, ys, xs[i], ys[i], q.1, q.2, by simp [h1], by simp [h2]⟩
  · obtain ⟨T, x, z, h1, h2, h3, h4, h5⟩ := y
    exact ⟨T, x, z, h1, h2, h3, h4 xs q.1, h5 ys q.2⟩
section
variable {X : Cx} {W : WX} {e e2 : Expr} {fa : XA}
/-- zip of a tuple and a list that stays -/
def xZipM (g : XA) : XI := fun η M => (g η M).bind fun ds M1 => match ds with
  | [.tup xs, .lst ys] => .ok (xs.zip ys |>.map fun q => .tup [q.1, q.2]) M1
  | _ => .no
theorem di_zipM {p0 pos tpos : Pos} {elts : List Expr} {kk : Nat} (hg : Gl X "zip") (hm : X.mg "zip" = none) (ha : DA X W [e, e2] fa)
    (hs : starEach [e, e2] X.env = (false, eval e X.env) :: starEach [e2] X.env := by rfl) (hpl : (backTo pos (starEach [e2] X.env)).any (·.1) = false := by rfl) : DI X W (.Tuple elts kk tpos) (.Call (.Name "zip" p0) [e, e2] [] pos) (xZipM fa) :=
  PI.imp (pi_zipM hg hm ha hs hpl) fun σ H Q z => by
    obtain ⟨η, F, B, ρ, M, er, m, w⟩ := z
    refine ⟨η, F, B, ρ, M, er, m, w.bind fun ds M1 B1 ρ1 H1 l1 m1 w1 vs rv => ?_⟩
    split at w1
    · next xs ys =>
      cases rv with
      | cons r rr =>
        cases rr with
        | cons r' rr =>
          cases rr
          cases r with
          | tup e1 q1 =>
            cases r' with
            | lst e2 q2 =>
              exact ⟨_, _, _, _, rfl, ex_t m1.ex e1, sq_of (m1.ex _ _ e2), Wp.ret w1 m1 _ (walk_pair walk_zm (fun H hH => ⟨ex_t hH e1, sq_of (hH _ _ e2)⟩) q1 q2)⟩
    · exact w1.elim
end
end Dn

/-! DnDict: dicts by tuples of texts and ints -/
namespace Dn
open PySem PyProof.Rows L2 Evl
section
variable {K : PySem.W.Frag} {F B H : Hp} {ρ : List Addr} {M : Mem}
end
section
variable {κ : Type} [DecidableEq κ]
variable {K : PySem.W.Frag} {B : Hp} {ρ : List Addr}
end
section
variable {X : Cx} {W : WX} {o i e value : Expr} {pos pos' apos : Pos} {f g h : XE}
end
end Dn

/-! DnCls: instances: fields, methods, making, freezing -/
namespace Dn
open PySem PyProof.Rows L2 Evl
/-- a class by its name, with fields that no class of it has -/
structure ClsD (K : PySem.W.Frag) (x : Str) (fls : List Str) : Prop where
  ex : ∃ C : Addr, PySem.W.nsIn K mainGlobals x = some (some (.ref C)) ∧ Cls K C ∧ ∀ f ∈ fls, NoAttr K C f
section
variable {X : Cx} {W : WX} {o e value : Expr} {es : List Expr} {pos pos' apos : Pos} {f g fo : XE} {fa : XA} {x fl m : Str} {fls : List Str}
/-! ### methods, making -/
/-- a method of the class x: n parameters, self among them -/
structure MtD (P : Program) (w : World) (K : PySem.W.Frag) (mg : Str → Option Value) (base : Heap) (k : Nat) (x m : Str) (n : Nat) (f : Fn) : Prop where
  ex : ∃ (C a : Addr) (fd : FuncData) (ps : List Str), PySem.W.nsIn K mainGlobals x = some (some (.ref C)) ∧ Cls K C ∧ Meth K C m a ∧ FnOk P w K mg base CX0 k a fd ps (spF K mg n f) ∧ Binds K fd ps []
/-- how the class x is made: by n values; dfl fill up -/
structure MkD (P : Program) (w : World) (K : PySem.W.Frag) (mg : Str → Option Value) (base : Heap) (k : Nat) (x : Str) (n : Nat) (dfl : List D) (f : Fn) : Prop where
  ex : ∃ (C a : Addr) (fd : FuncData) (ps : List Str) (ds : List Value) (dvs : List V), PySem.W.nsIn K mainGlobals x = some (some (.ref C)) ∧ mg x = some (.ref C) ∧ Mk K C a ∧ FnOk P w K mg base CX0 k a fd ps (spF K mg (1 + n + dfl.length) f) ∧ Binds K fd ps ds ∧ Vals dvs ds ∧ ∀ B ρ, Rps K B ρ dfl dvs
/-! ### freezing -/
end
end Dn

/-! DnDic: dicts read -/
namespace Dn
open PySem PyProof.Rows L2 Evl
section
variable {K : PySem.W.Frag} {F B H : Hp} {ρ : List Addr} {M : Mem}
def OptR (K : PySem.W.Frag) (B : Hp) (ρ : List Addr) : Option D → Option V → Prop
  | some d, some v => Rp K B ρ d v
  | none, none => True
  | _, _ => False
theorem OptR.some {d : D} {o : Option V} (h : OptR K B ρ (some d) o) : ∃ v, o = some v ∧ Rp K B ρ d v := by
  cases o with
  | none => exact h.elim
  | some v => exact ⟨v, rfl, h⟩
theorem OptR.isSome {r : Option D} {o : Option V} (h : OptR K B ρ r o) : o.isSome = r.isSome := by
  cases r <;> cases o <;> first | rfl | exact h.elim
theorem OptR.getD {r : Option D} {o : Option V} {d : D} {v : V} (h : OptR K B ρ r o) (q : Rp K B ρ d v) : Rp K B ρ (r.getD d) (o.getD v) := by
  cases r <;> cases o <;> first | exact q | exact h | exact h.elim
end
theorem PE.or {X : Cx} {e : Expr} {t t' : TE} (h : PE X e t) (h' : PE X e t') : PE X e (fun σ H Q => t σ H Q ∨ t' σ H Q) := ⟨fun pins s σ H Q I q => q.elim (h.run pins s σ H Q I) (h'.run pins s σ H Q I)⟩
section
variable {X : Cx} {W : WX} {o i e value a b : Expr} {pos pos' apos cpos : Pos} {f g h : XE}
end
end Dn

/-! DnIt: walks over dicts; dicts made by comprehensions, and of pairs -/
namespace Dn
open PySem PyProof.Rows L2 Evl PySem.Spec
/-! ### the pairs of a locked dict by tuples -/
section
variable {X : Cx} {W : WX} {e tg it : Expr} {f : XE} {apos cpos : Pos}
end
end Dn

/-! DnDc: dicts by tuples made by a comprehension -/
namespace Dn
open PySem PyProof.Rows L2 Evl PySem.Spec
section
variable {X : Cx} {kx vx tg iter : Expr} {ifs : List Expr} {scope : Scope} {own : List (Str × Nat)} {pos pos' : Pos} {wi : TI} {g : TG} {tt : TT} {tk tv : TE}
end
section
variable {X : Cx} {W : WX}
end
end Dn

/-! DnPairs: dict(xs) of a list of pairs -/
namespace Dn
open PySem PyProof.Rows L2 Evl PySem.Spec PySem.Calls
section
variable {prog : Program} {w : World} {A : Around} {E : Value → Shared → Prop}
end
section
variable {X : Cx} {W : WX}
end
end Dn

/-! DnOwn: list methods in general; len by an own __len__ -/
namespace Dn
open PySem PyProof.Rows L2 Evl PySem.Spec
/-! ### methods of a list that may change -/
abbrev OpL := Mem → List D → List D → Option (D × List D)
section
variable {X : Cx} {W : WX} {o e : Expr} {es : List Expr} {f : XE} {fa : XA} {apos pos : Pos} {id : String} {name : Str} {h : OpL}
/-! ### len by an own __len__ -/
/-- an own special method of the class x -/
structure SpD (P : Program) (w : World) (K : PySem.W.Frag) (mg : Str → Option Value) (base : Heap) (k : Nat) (x m : Str) (n : Nat) (f : Fn) : Prop where
  ex : ∃ (C a : Addr) (fd : FuncData) (ps : List Str), PySem.W.nsIn K mainGlobals x = some (some (.ref C)) ∧ PySem.W.findIn K (.ref C) m = some (some (.ref a)) ∧ PySem.W.isFn K (.ref a) = true ∧ FnOk P w K mg base CX0 k a fd ps (spF K mg n f) ∧ Binds K fd ps []
end
end Dn
namespace Dn
open PySem PyProof.Rows L2 Evl PySem.Spec
/-! ### list(xs) that may change -/
section
variable {X : Cx} {W : WX} {e : Expr} {es : List Expr} {fa : XA} {pos : Pos}
end
/-! ### a def whose parameters have defaults -/
end Dn

/-! DnZipS: zip(a, b, strict=True) of two tuples of one length; zip of three tuples of one length -/
namespace Dn
open PySem PySem.Spec PyProof.Rows L2 Evl
section
variable {prog : Program} {w : World} {A : Around} {E : Value → Shared → Prop} {s : Shared} {z TI TO i1 i2 l1 l2 : Addr} {k1 k2 : Nat} {xs ys : Array Value} {T1 T2 : Heap → Nat → Prop} {L1 L2 : Heap → Prop} {a b : Value}
end
section
variable {prog : Program} {w : World} {A : Around} {E : Value → Shared → Prop} {s : Shared}
end
section
variable {M : Model} {A : Around} {E : Value → Shared → Prop} {s : Shared} {env : Env}
end
section
variable {X : Cx} {W : WX} {e e2 : Expr} {fa : XA}
end
end Dn

/-! DnDEq: == of two dicts whose keys are tuples and whose values are ints -/
namespace Dn
open PySem PySem.Spec PyProof.Rows L2 Evl
section
variable {prog : Program} {w : World} {K : Type} [DecidableEq K] {knd : HeapKind prog w K} {A : Around} {E : Value → Shared → Prop} {s : Shared}
/-- the rows of the one looked up in the other -/
inductive Met (A : Around) (s : Shared) (ys : List (K × Addr × Value)) : List (K × Addr × Value) → Bool → Prop
  | nil : Met A s ys [] true
  | out {x : K × Addr × Value} {r : List (K × Addr × Value)} : atKey ys x.1 = none → Met A s ys (x :: r) false
  | row {x : K × Addr × Value} {p : Addr × Value} {r : List (K × Addr × Value)} {e b : Bool} : atKey ys x.1 = some p → SeqAt.EqAt A s x.2.2 p.2 e → Met A s ys r b → Met A s ys (x :: r) (e && b)
end
section
variable {X : Cx}
end
end Dn

/-! DnNe: == and != by an own __eq__; isinstance with an own class -/
namespace Dn
open PySem PySem.Spec PyProof.Rows L2 Evl
section
variable {prog : Program} {w : World} {A : Around} {E : Value → Shared → Prop} {s : Shared} {K : PySem.W.Frag} {x C f L : Addr} {ox : Obj} {od : Option Obj} {h₀ : Heap} {m : Str → Option Value} {b tb : Value}
end
section
variable {X : Cx}
variable {W : WX} {e1 e2 : Expr} {f g : XE} {pos : Pos}
/-! ### isinstance(e, C) -/
end
end Dn

/-! DnWhile: while; name op= e; o[i] op= e at a list's item -/
namespace Dn
open PySem PySem.Spec PyProof.Rows L2 Evl
theorem bind_no {α β : Type} {r : R α} {k : α → Mem → R β} (h : r.bind k ≠ .no) : (∃ a M, r = .ok a M ∧ k a M ≠ .no) ∨ ∃ e M, r = .ex e M := by
  cases r with
  | ok a M => exact .inl ⟨a, M, rfl, h⟩
  | ex e M => exact .inr ⟨e, M, rfl⟩
  | no => exact (h rfl).elim
section
variable {X : Cx} {W : WX} {c e o ti : Expr} {t : XT} {f g k : XE} {pos pos' : Pos}
end
end Dn

/-! DnEnum: enumerate of a tuple or a list; zip of three tuples -/
namespace Dn
open PySem PySem.Spec PyProof.Rows L2 Evl
section
variable {X : Cx} {W : WX} {e : Expr} {fa : XA}
end
end Dn

/-! DnStar: first, *rest = a list or a tuple -/
namespace Dn
open PySem PySem.Spec PyProof.Rows L2 Evl
section
variable {prog : Program} {w : World} {A : Around} {E : Value → Shared → Prop} {s : Shared} {I : Addr} {fp wr : List Addr} {G : Array GenState → Array GenState → Prop} {n : Nat} {P : Nat → Value → Prop} {St : Nat → Shared → Prop}
end
section
variable {prog : Program} {w : World} {A : Around} {E : Value → Shared → Prop} {s : Shared}
end
section
variable {X : Cx} {W : WX} {t1 t2 : Expr} {pos p2 : Pos} {kk : Nat}
end
end Dn

/-! DnLc2: a comprehension with two generators -/
namespace Dn
open PySem PySem.Spec PyProof.Rows L2 Evl
section
variable {X : Cx} {W : WX} {tg it tg1 it1 elt : Expr} {pos : Pos} {f : XE}
end
end Dn

/-! DnSeat: dicts by ints and texts that change, list * int, min of a list, extend; zip of three tuples -/
namespace Dn
open PySem PySem.Spec PyProof.Rows L2 Evl
section
variable {X : Cx} {W : WX} {o i e value a b : Expr} {pos pos' apos : Pos} {f g h : XE}
end
/-! ### zip of three tuples of one length -/
end Dn

/-! a tuple times 0 or 1 -/
namespace Dn
open PySem PySem.Spec PyProof.Rows L2
section
variable {X : Cx}
end
end Dn

/-! DnKeys: is of truths; list(d) of a dict with tuple keys -/
namespace Dn
open PySem PySem.Spec PyProof.Rows L2 Evl
section
variable {X : Cx}
end
/-! a def called with fewer values than it has parameters: what stands behind = -/
structure FnDf (P : Program) (w : World) (K : PySem.W.Frag) (mg : Str → Option Value) (base : Heap) (k : Nat) (x : Str) (n : Nat) (dfl : List D) (f : Fn) : Prop where
  ex : ∃ (a : Addr) (fd : FuncData) (ps : List Str) (ds : List Value) (dvs : List V), FnOk P w K mg base CX0 k a fd ps (spF K mg (n + dfl.length) f) ∧ mg x = some (.ref a) ∧ PySem.W.keepIn K (.ref a) = true ∧ Binds K fd ps ds ∧ Vals dvs ds ∧ ∀ B ρ, Rps K B ρ dfl dvs
end Dn

/-! DnRec: nothing promised; a, b, c = x, y, z -/
namespace Dn
open PySem PySem.Spec PyProof.Rows L2 Evl
section
variable {X : Cx} {W : WX} {a b c : Expr} {f g h : XE} {pos : Pos}
end
end Dn

/-! DnExc: defs that may raise; raise of an own class over ValueError; try: e / except C as n -/
namespace Dn
open PySem PySem.Spec PyProof.Rows L2 Evl
/-- the promise of a def that may raise -/
def spX (K : PySem.W.Frag) (mg : Str → Option Value) (n : Nat) (f : Fn) : Sp := fun vs H Q E => ∃ (ds : List D) (F B : Hp) (ρ : List Addr) (M : Mem), ds.length = n ∧ Rps K B ρ ds vs ∧ MR K F B ρ M H ∧ Wp K mg F B ρ E (fun d B' ρ' H' => ∀ v, Rp K B' ρ' d v → Q v H') (f ds M)
structure FnDX (P : Program) (w : World) (K : PySem.W.Frag) (mg : Str → Option Value) (base : Heap) (k : Nat) (x : Str) (n : Nat) (f : Fn) : Prop where
  ex : ∃ (a : Addr) (fd : FuncData) (ps : List Str), FnOk P w K mg base (L2.CX P w) k a fd ps (spX K mg n f) ∧ mg x = some (.ref a) ∧ PySem.W.keepIn K (.ref a) = true ∧ Binds K fd ps []
section
variable {X : Cx} {W : WX} {e : Expr} {es : List Expr} {fa : XA} {g : XE} {pos : Pos}
/-- what an own class's __init__ does: a field, and its name -/
def spI (K : PySem.W.Frag) (C : Addr) (f nm : Str) : Sp := fun vs H Q _ => ∃ (a : Addr) (y : V), vs = [.ref a, y] ∧ H a = some (exo a C none) ∧ ∀ dx, H dx = none → dx ≠ a → Q .non (upd (upd (upd H dx (exd dx [(f, y)])) a (exo a C (some dx))) dx (exd dx [("called", .str nm), (f, y)]))
structure XcD (P : Program) (w : World) (K : PySem.W.Frag) (mg : Str → Option Value) (base : Heap) (k : Nat) (x f : Str) : Prop where
  ex : ∃ (C fI : Addr) (fd : FuncData) (ps : List Str), mg x = some (.ref C) ∧ OexC K C ∧ PySem.W.findIn K (.ref C) "__init__" = some (some (.ref fI)) ∧ PySem.W.typeIn K (.ref fI) = some (.type "function") ∧ FnOk P w K mg base CX0 k fI fd ps (spI K C f x) ∧ Binds K fd ps []
def xRaise (x f : Str) (g : XE) : XS := fun η M => (g η M).bind fun d M1 => .ex ⟨x, [("called", .str x), (f, d)]⟩ M1
end
end Dn

/-! DnExc2: isinstance of a caught error with fields -/
namespace Dn
open PySem PySem.Spec PySem.Calls PySem.W PyProof.Rows
section
variable {prog : Program} {w : World} {A : Around} {E : Value → Shared → Prop} {s : Shared} {K : Frag} {x D : Addr} {ox : Obj} {od : Option Obj}
theorem obj_data {C : Addr} {nm : Str} {dv gv : Value} (h1 : (clsIn K C).isSome = true) (h2 : findIn K (.ref C) nm = some (some dv)) (h3 : specialIn K dv "__get__" = some (some gv)) (h4 : takesIn K dv = some true) : findObj K C od nm = some (.bind gv dv) := by
  obtain ⟨cd, h1⟩ := Option.isSome_iff_exists.mp h1
  unfold findObj
  rw [h1, Option.bind_some, h2, Option.bind_some]
  simp [h3, h4]
theorem exc_class {Q : Option Value → Shared → Prop} (c : L2.ExcC K D) (KI : K.In s.heap) (J : InstAt s.heap x ox D od) (q : Q (some (.ref D)) { s with toks := s.toks + 1 }) : wpAny (model prog w) A (getAttr? (.ref x) "__class__") Q E s := by
  have fo : findObj K D od "__class__" = some (.bind (.builtin "getset_descriptor.__get__") (.builtin "object.__class__")) := obj_data (by obtain ⟨cd, hc, _⟩ := any_some c.hd; rw [hc]; rfl) c.ha c.hn c.ht
  obtain ⟨hp, gs, dr, tk, osx⟩ := s
  have a0 := J.type (M := model prog w)
  have a1 := looks_findIn (M := model prog w) KI c.hg
  have a2 := looks_findIn (M := model prog w) KI c.hk
  have a3 := looks_find (M := model prog w) KI J fo
  have sb : Looks (model prog w) hp (isInstance (.ref x) (.type "BaseException")) true := a0.andThen (looks_subIn KI c.hs)
  have n2 : (Value.builtin "BaseException.__getattribute__" == Value.builtin "object.__getattribute__") = false := by decide +kernel
  have n1 : (onTheHeap (Value.ref D) && Value.builtin "BaseException.__getattribute__" == Value.builtin "object.__getattribute__") = false := by rw [n2, Bool.and_false]
  have n0 : (false && onTheHeap (Value.builtin "BaseException.__getattribute__")) = false := rfl
  unfold getAttr? getAttrBy? getAttrBy
  refine wpAny_bind (wpAny_mkText (wpAny_bind (wpAny_attempt (wpAny_holding (wpAny_bind (a0.at (wpAny_bind (a1.at ?_))))))))
  show wpAny _ _ (if (onTheHeap (Value.ref D) && Value.builtin "BaseException.__getattribute__" == Value.builtin "object.__getattribute__") = true then _ else _) _ _ (Shared.mk _ _ _ _ _)
  rw [n1, if_neg Bool.false_ne_true]
  unfold getAttrByItsOwn hookBefore
  refine wpAny_bind ?_
  have n3 : onTheHeap (Value.ref D) = true := rfl
  rw [if_pos n3]
  refine a2.at (wpAny_bind (wpAny_attempt (wpAny_holding ?_)))
  unfold callGetattribute
  rw [n0, if_neg Bool.false_ne_true]
  unfold boundAndCalled
  rw [PySem.F.excAttr_ValueError.ga.bind (Value.ref x)]
  refine wpAny_bind (wpAny_pure ?_)
  show wpAny _ _ (call (.builtin "BaseException.__getattribute__") [.ref x, .str "__class__" tk]) _ _ _
  refine wpAny_call (codeAny_call_builtin PySem.F.excAttr_ValueError.ga.plain PySem.F.entry_bexc_ga (@check_slot (model prog w) _ _ ⟨hp, gs, dr, tk + 1, osx⟩ "BaseException.__getattribute__" "BaseException" "__getattribute__" (.ref x) [.str "__class__" tk] [] _ (by decide +kernel) (by decide +kernel) sb (PySem.F.args_bexc_ga (.ref x) (.str "__class__" tk)) ?_))
  unfold Builtin.«object.__getattribute__»
  refine wpAny_bind (wpAny_of_eq (a := ((Value.ref x : Value), [Value.str "__class__" tk])) (by first | rfl | (simp only [slotArgs]; rfl)) ?_)
  refine wpAny_bind (wpAny_pure (wpAny_bind (a0.at (wpAny_bind (a3.at ?_)))))
  show wpAny _ _ (holding [Value.builtin "object.__class__"] (call (.builtin "getset_descriptor.__get__") [.builtin "object.__class__", .ref x, .ref D]) >>= ret) _ _ (Shared.mk _ _ _ _ _)
  refine wpAny_bind (wpAny_holding (wpAny_call (class_get (s := ⟨hp, gs, dr, tk + 1, osx⟩) (ox := ox) (od := od) KI J c.hm (wpAny_pure ?_))))
  show wpAny _ _ (handedOut (.ref D)) _ _ _
  rw [handedOut_of (v := .ref D) rfl]
  first
    | exact wpAny_pure (wpAny_pure q)
    | exact wpAny_pure q
    | exact wpAny_pure (wpAny_bind (wpAny_pure (wpAny_pure q)))
theorem kitX_exc (c : L2.ExcC K D) : KitX K (.ref x) (.ref D) (fun h => InstAt h x ox D od) where
  ty := fun _ _ _ J => J.type
  it := fun _ _ KI _ => by
    obtain ⟨cd, hc, _⟩ := any_some c.hd
    unfold clsIn at hc
    split at hc
    · rename_i c1 d1 cd1 sl1 h1
      intro A1 Q1 E1 s1 k q
      unfold isType loadHead
      exact wpAny_bind (wpAny_loadPart (k _ _ (KI _ _ h1)) (wpAny_pure q))
    · cases hc
  ne := fun h tp dd its n sl KI htp => by
    obtain ⟨cd, hc, _⟩ := any_some c.hd
    refine Bool.eq_false_iff.mpr fun q => ?_
    have e : D = tp := Value.ref.inj (beq_iff_eq.mp q)
    subst e
    unfold clsIn at hc
    split at hc
    · rename_i c1 d1 cd1 sl1 h1
      cases (KI _ _ h1).symm.trans htp
    · cases hc
  ca := fun KI J k => exc_class c KI J k
end
end Dn
namespace Dn
open PySem PySem.Spec PyProof.Rows L2 Evl
section
variable {X : Cx} {a C dd : Addr} {oe : Obj} {pn : List (Addr × Obj)}
end
end Dn

/-! DnExc3: the __init__ of an own class over ValueError; try .. except X as e, refused at a number -/
namespace Dn
open PySem PySem.Spec PyProof.Rows L2 Evl
/-- what must stand of a class that is caught, with six others that it is none of -/
structure XsD (K : PySem.W.Frag) (mg : Str → Option Value) (x f : Str) (ns : List Str) : Prop where
  ex : ∃ (C : Addr) (Cs : List Addr), mg x = some (.ref C) ∧ Paired (fun n c => mg n = some (.ref c)) ns Cs ∧ ExcC K C ∧ XfC K C ∧ PySem.W.findIn K (.ref C) f = some none ∧ PySem.W.exmOne K (.ref C) (.ref C) = some true ∧ PySem.W.kitAny K (.ref C) (Cs.map Value.ref) = some false ∧ PySem.W.kitOne K (.ref C) (.type "ValueError") = some true
theorem look_rel {K : PySem.W.Frag} {B : Hp} {ρ : List Addr} {f : Str} {d : D} : ∀ {fs : List (Str × D)} {gs : List (Str × V)}, Paired (fun (p : Str × D) (q : Str × V) => p.1 = q.1 ∧ Rp K B ρ p.2 q.2) fs gs → fs.lookup f = some d → ∃ v, gs.lookup f = some v ∧ Rp K B ρ d v
  | [], _, _, h => by cases h
  | (k, d') :: fs, (k', v') :: gs, .cons ⟨e1, r1⟩ t, h => by
    cases e1
    rw [List.lookup_cons] at h ⊢
    split at h
    · cases h
      exact ⟨v', rfl, r1⟩
    · exact look_rel t h
section
variable {X : Cx} {W : WX} {cl : Expr} {g : XE}
end
end Dn

/-! DnDcK: dicts by texts or ints made by a comprehension (printed by mkdck.py) -/
namespace Dn
open PySem PyProof.Rows L2 Evl PySem.Spec
section
variable {X : Cx} {W : WX}
end
end Dn


/-! DnBook: lists unpacked, dict(pairs) by texts, d[k] op= e, dicts of the module, defs held by a name -/
namespace Dn
open PySem PySem.Spec PyProof.Rows L2 Evl
section
variable {X : Cx} {W : WX} {o ti e : Expr} {es : List Expr} {f g k : XE} {pos tpos : Pos}
/-! dict(pairs), the keys texts or ints -/
/-! d[k] op= e -/
end
end Dn

/-! DnBook2: dicts of the module with text keys; a def that a name holds; keywords of a def with defaults -/
namespace Dn
open PySem PySem.Spec PyProof.Rows L2 Evl
/-- a dict of the module: what is asked of it -/
structure KtD (K : PySem.W.Frag) (w : World) (mg : Str → Option Value) (x : Str) (tin : List (Str × Bool)) (tget : List (Str × D)) : Prop where
  ex : ∃ (d : Addr) (es : Array DictEntry) (n : Nat), mg x = some (.ref d) ∧ PySem.W.nsIn K mainGlobals x = some (some (.ref d)) ∧ KDict K w d es n ∧ (∀ s b, tin.lookup s = some b → ∃ r, PySem.W.nsIn K d s = some r ∧ r.isSome = b) ∧
    ∀ s c, tget.lookup s = some c → ∃ u v, PySem.W.nsIn K d s = some (some u) ∧ RelV v u ∧ ∀ B ρ, Rp K B ρ c v
section
variable {X : Cx} {W : WX} {a b e : Expr} {es : List Expr} {f g : XE} {fa : XA} {pos : Pos} {x : Str} {tin : List (Str × Bool)} {tget : List (Str × D)}
/-! a def that a name holds -/
structure FnG (P : Program) (w : World) (K : PySem.W.Frag) (mg : Str → Option Value) (base : Heap) (k : Nat) (y : Str) (n : Nat) (f : Fn) : Prop where
  ex : ∃ (ad : Addr) (fd : FuncData) (ps : List Str), FnOk P w K mg base CX0 k ad fd ps (spF K mg n f) ∧ PySem.W.nsIn K mainGlobals y = some (some (.ref ad)) ∧ PySem.W.keepIn K (.ref ad) = true ∧ Binds K fd ps []
end
end Dn

/-! DnBook3: name = [.. for .. in a list that may change]; a def that may raise, called where it does not -/
namespace Dn
open PySem PySem.Spec PyProof.Rows L2 Evl
section
variable {X : Cx} {W : WX} {tg it e : Expr} {es : List Expr} {f : XE} {fa : XA} {pos : Pos}
end
theorem FnG.up {P : Program} {w : World} {K : PySem.W.Frag} {mg : Str → Option Value} {base : Heap} {j k : Nat} {y : Str} {n : Nat} {f : Fn} (G : FnG P w K mg base j y n f) (h : j ≤ k) : FnG P w K mg base k y n f := by
  obtain ⟨ad, fd, ps, F, h1, h2, h3⟩ := G.ex
  exact ⟨ad, fd, ps, F.mono h, h1, h2, h3⟩
theorem look_mem {α : Type} {y : Str} {a : α} : ∀ {l : List (Str × α)}, l.lookup y = some a → (y, a) ∈ l
  | [], h => by cases h
  | (z, b) :: l, h => by
    rw [List.lookup_cons] at h
    split at h
    · next e =>
      cases h
      have := beq_iff_eq.mp e
      subst this
      exact List.mem_cons_self ..
    · exact List.mem_cons_of_mem _ (look_mem h)
theorem tab_ok {P : Program} {w : World} {K : PySem.W.Frag} {mg : Str → Option Value} {base : Heap} {k n : Nat} {tab : List (Str × Fn)} (h : ∀ p ∈ tab, FnG P w K mg base k p.1 n p.2) (y : Str) (f : Fn) (hl : tab.lookup y = some f) : FnG P w K mg base k y n f := h _ (look_mem hl)
end Dn

/-! DnSet: sets of unlike texts; sorted(set(xs)), len(set(xs)) -/
namespace Dn
open PySem PySem.Spec PyProof.Rows L2 Evl PySem.Froz
/-- the set of texts at a: its texts, its table rises and can be gone through -/
structure TxS (P : Program) (w : World) (h : Heap) (a : Addr) (l : List Str) : Prop where
  ex : ∃ D : SD, h.get? a = some (sObj "set" D) ∧ TxOk P w D l ∧ L2.Ris D.2.2.place.toList ∧ (w.params.followText "set-order" = true ∨ D.2.2.led = true)
theorem TxS.at {P : Program} {w : World} {h h' : Heap} {a : Addr} {l : List Str} (T : TxS P w h a l) (k : ∀ o, h.get? a = some o → h'.get? a = some o) : TxS P w h' a l :=
  let ⟨D, h1, r⟩ := T.ex
  ⟨D, k _ h1, r⟩
section
variable {P : Program} {w : World} {A : Around} {E : Value → Shared → Prop} {s : Shared} {a : Addr} {l : List Str}
end
end Dn

/-! DnSet2: sorted(set(xs)) of unlike texts -/
namespace Dn
open PySem PySem.Spec PyProof.Rows L2 Evl PySem.Froz
section
variable {P : Program} {w : World} {A : Around} {E : Value → Shared → Prop} {s : Shared} {a : Addr} {l : List Str}
end
section
variable {X : Cx}
end
section
variable {X : Cx} {W : WX} {e : Expr} {fa : XA} {pos pos2 : Pos}
end
end Dn

/-! DnUpd: displays of dicts, d.pop(k), d.update(d2) -/
namespace Dn
open PySem PySem.Spec PyProof.Rows L2 Evl
/-! ### {k: v, ..} -/
section
variable {X : Cx} {W : WX} {pos : Pos}
end
end Dn

/-! DnUpd2: d.pop(k), d.update(d2) -/
namespace Dn
open PySem PySem.Spec PyProof.Rows L2 Evl
section
variable {X : Cx} {W : WX} {o e : Expr} {f g : XE} {apos cpos : Pos}
end
/-! ### d.update(d2) -/
section
variable {X : Cx} {pins : List (Addr × Obj)} {σ : L2.St} {H : Hp} {s : Shared} {a b : Addr} {A : Around} {E : Value → Shared → Prop}
end
section
variable {X : Cx} {o e : Expr} {apos cpos : Pos} {td ty : TE}
end
section
variable {X : Cx} {W : WX} {o e : Expr} {f g : XE} {apos cpos : Pos}
end
end Dn

/-! DnLet: try: f(..) / except C: return a truth; o.f += e -/
namespace Dn
open PySem PySem.Spec PyProof.Rows L2 Evl
structure XoD (K : PySem.W.Frag) (mg : Str → Option Value) (x : Str) : Prop where
  ex : ∃ C : Addr, mg x = some (.ref C) ∧ PySem.W.exmOne K (.ref C) (.ref C) = some true
section
variable {X : Cx} {W : WX} {cl : Expr} {g : XE}
end
end Dn

/-! DnVal: list(d.values()), max of a list, xs.count(text), o.f += e -/
namespace Dn
open PySem PySem.Spec PyProof.Rows L2 Evl
section
variable {X : Cx} {W : WX} {o e : Expr} {es : List Expr} {f g : XE} {fa : XA} {apos cpos pos tpos : Pos}
/-! max of a list of ints -/
/-! xs.count(s), texts -/
/-! list(d.values()) -/
end
end Dn

/-! DnVal2: list(d.values()), o.f += e, len(set(xs)) -/
namespace Dn
open PySem PySem.Spec PyProof.Rows L2 Evl
section
variable {X : Cx} {W : WX} {o e : Expr} {es : List Expr} {f g : XE} {fa : XA} {apos cpos pos tpos : Pos}
end
section
variable {X : Cx} {W : WX} {o value : Expr} {f g : XE} {pos tpos : Pos} {x fl : Str} {fls : List Str}
end
section
variable {X : Cx} {W : WX} {e : Expr} {fa : XA} {pos pos2 : Pos}
end
end Dn

/-! DnIfs: a comprehension with two tests -/
namespace Dn
open PySem PySem.Spec PyProof.Rows L2 Evl
section
variable {X : Cx} {W : WX} {a b : Expr} {p q : XT}
end
end Dn
namespace Dn
open PySem PySem.Spec PyProof.Rows L2 Evl
/-- a def called with some of its keyword-only parameters written (the last ones), those ahead of them left out -/
structure FnKM (P : Program) (w : World) (K : PySem.W.Frag) (mg : Str → Option Value) (base : Heap) (k : Nat) (x : Str) (n : Nat) (ks : List Str) (dfl : List D) (f : Fn) : Prop where
  ex : ∃ (a : Addr) (fd : FuncData) (ps : List Str) (g : List Value → List Value → List Value) (gV : List V → List V → List V), FnOk P w K mg base CX0 k a fd ps (spF K mg (n + dfl.length + ks.length) f) ∧ mg x = some (.ref a) ∧ PySem.W.keepIn K (.ref a) = true ∧ KBn K fd ps n ks g gV ∧
    ∀ (B : Hp) (ρ : List Addr) (ds es : List D) (vs us : List V), Rps K B ρ ds vs → Rps K B ρ es us → Rps K B ρ (ds ++ dfl ++ es) (gV vs us)
section
variable {X : Cx} {W : WX} {e : Expr} {es : List Expr} {fa fk : XA} {pos : Pos}
end
end Dn

/-! DnVals: for v in d.values() (a frozen dict), list(d) by texts, max of a tuple -/
namespace Dn
open PySem PySem.Spec PyProof.Rows L2 Evl
section
variable {X : Cx} {W : WX} {e tg : Expr} {f : XE} {apos cpos : Pos}
end
section
variable {X : Cx}
end
section
variable {prog : Program} {w : World} {A : Around} {E : Value → Shared → Prop} {s : Shared} {t : Addr}
end
section
variable {X : Cx}
end
end Dn

namespace Dn
open PySem PyProof.Rows L2 Evl
/-! ### how the plain functions reckon -/
section
variable {M : Mem} {i j : Int} {s t : Str} {xs ys ds : List D} {n : Nat} {η : Dv} {d e : D}
theorem ix_nat {α : Type} {l : List α} {k : Nat} : atI l (k : Int) = l[k]? := by
  unfold atI ixN
  by_cases h : k < l.length
  · rw [if_pos (by omega), if_pos (by omega)]
    simp
  · rw [if_pos (by omega), if_neg (by omega)]
    simp at h
    simp [h]
theorem ix_0 {α : Type} {l : List α} : atI l (0 : Int) = l[0]? := ix_nat (k := 0)
theorem ix_1 {α : Type} {l : List α} : atI l (1 : Int) = l[1]? := ix_nat (k := 1)
theorem ix_2 {α : Type} {l : List α} : atI l (2 : Int) = l[2]? := ix_nat (k := 2)
theorem ix_in {α : Type} {l : List α} {i : Int} (h0 : 0 ≤ i) (h1 : i < l.length) : ∃ a, atI l i = some a ∧ a ∈ l := by
  obtain ⟨k, rfl⟩ := Int.eq_ofNat_of_zero_le h0
  rw [ix_nat]
  have hk : k < l.length := by omega
  exact ⟨l[k], List.getElem?_eq_getElem hk, List.getElem_mem hk⟩
theorem add_ii : dAdd M (.int i) (.int j) = some (.int (i + j)) := rfl
theorem add_ss (h : s.length + t.length ≤ sizeLine) : dAdd M (.str s) (.str t) = some (.str (s ++ t)) := by
  simp [dAdd, oOr, oI0, asI, sAdd, oS2, asS, h]
theorem add_tt (h : xs.length + ys.length ≤ sizeLine) : dAdd M (.tup xs) (.tup ys) = some (.tup (xs ++ ys)) := by
  simp [dAdd, oOr, oI0, asI, sAdd, oS2, asS, tAdd', asT, h]
theorem add_ll (h : xs.length + ys.length ≤ sizeLine) : dAdd M (.lst xs) (.lst ys) = some (.lst (xs ++ ys)) := by
  simp [dAdd, oOr, oI0, asI, sAdd, oS2, asS, tAdd', asT, lAdd, asP, h]
theorem sub_ii : dSub M (.int i) (.int j) = some (.int (i - j)) := rfl
theorem mul_l (h0 : -(2 ^ 64) < i) (h1 : i < 2 ^ 64) : dMul M (.int i) (.int j) = some (.int (i * j)) := by
  have : CMul i j := .inl ⟨h0, h1⟩
  simp [dMul, oI, asI, this]
theorem mul_r (h0 : -(2 ^ 64) < j) (h1 : j < 2 ^ 64) : dMul M (.int i) (.int j) = some (.int (i * j)) := by
  have : CMul i j := .inr ⟨h0, h1⟩
  simp [dMul, oI, asI, this]
theorem mod_ii (h : 0 < j) : dMod M (.int i) (.int j) = some (.int (i % j)) := by simp [dMod, oI, asI, h]
theorem div_ii (h : 0 < j) (h1 : j < 1073741824) : dDiv M (.int i) (.int j) = some (.int (i / j)) := by
  have : CDiv i j := ⟨h, h1⟩
  simp [dDiv, oI, asI, this]
theorem pow_ii (h : CPw i j) : dPow M (.int i) (.int j) = some (.int (i ^ j.toNat)) := by simp [dPow, oI, asI, h]
theorem lt_ii : dLt M (.int i) (.int j) = some (.bl (decide (i < j))) := rfl
theorem lt_ss : dLt M (.str s) (.str t) = some (.bl (decide (s.cps.toList < t.cps.toList))) := rfl
theorem le_ii : dLe M (.int i) (.int j) = some (.bl (decide (i ≤ j))) := rfl
theorem gt_ii : dGt M (.int i) (.int j) = some (.bl (decide (j < i))) := rfl
theorem ge_ii : dGe M (.int i) (.int j) = some (.bl (decide (j ≤ i))) := rfl
theorem ix_l : dIx M (.lst xs) (.int i) = atI xs i := by
  simp only [dIx, oOr, lIx, tIx, sIx, asL, asI, asT, asS, Option.bind_some, Option.bind_none]
  split <;> simp_all
theorem ix_t : dIx M (.tup xs) (.int i) = atI xs i := by
  simp only [dIx, oOr, lIx, tIx, sIx, asL, asI, asT, asS, Option.bind_some, Option.bind_none]
  split <;> simp_all
theorem ix_p (h : M[n]? = some (.lst xs)) : dIx M (.ptr n) (.int i) = atI xs i := by
  simp only [dIx, oOr, lIx, tIx, sIx, asL, asI, asT, asS, Option.bind_some, Option.bind_none, h]
  split <;> simp_all
theorem ix_sc {ns : List Int} : dIx M (.scr ns) (.int i) = (atI ns i).map D.int := by
  have : atI (ns.map D.int) i = (atI ns i).map D.int := by
    unfold atI
    rw [List.length_map]
    cases ixN ns.length i with
    | none => rfl
    | some j => simp
  simp only [dIx, oOr, lIx, tIx, sIx, asL, asI, asT, asS, Option.bind_some, Option.bind_none, this]
  cases atI ns i <;> rfl
theorem ix_s (h : s.length ≤ sizeLine) : dIx M (.str s) (.int i) = (atI s.cps.toList i).map fun c => .str ⟨#[c]⟩ := by
  simp [dIx, oOr, lIx, tIx, sIx, asL, asI, asT, asS, h]
theorem sl_s {lo hi : Option Int} (h : s.length ≤ sizeLine) : dSl M (.str s) lo hi = some (.str (cutS s lo hi)) := by
  simp [dSl, sOr, lSl, tSl', sSl, asL, asT, asS, h]
theorem sl_t {lo hi : Option Int} : dSl M (.tup xs) lo hi = some (.tup (cutD xs lo hi)) := by
  simp [dSl, sOr, lSl, tSl', sSl, asL, asT, asS]
theorem sl_l {lo hi : Option Int} : dSl M (.lst xs) lo hi = some (.lst (cutD xs lo hi)) := by
  simp [dSl, sOr, lSl, tSl', sSl, asL, asT, asS]
theorem len_sc {ns : List Int} : lenD M (.scr ns) = some ns.length := by simp [lenD, asL]
theorem len_s (h : s.length ≤ sizeLine) : lenD M (.str s) = some s.length := by simp [lenD, asL, asT, asS, h]
theorem rev_t : revD M (.tup xs) = some (.tup xs.reverse) := rfl
theorem rev_s (h : s.length ≤ sizeLine) : revD M (.str s) = some (.str (revS s)) := by simp [revD, asL, asT, asS, h]
theorem tru_b {b : Bool} : truD M (.bl b) = some b := rfl
theorem blen_l : bLen M [.lst xs] = some (.int xs.length) := rfl
theorem blen_t : bLen M [.tup xs] = some (.int xs.length) := rfl
theorem blen_sc {ns : List Int} : bLen M [.scr ns] = some (.int ns.length) := by simp [bLen, one, len_sc]
theorem blen_s (h : s.length ≤ sizeLine) : bLen M [.str s] = some (.int s.length) := by simp [bLen, one, len_s h]
theorem babs : bAbs M [.int i] = some (.int (if i < 0 then -i else i)) := rfl
theorem bint_b {b : Bool} : bInt M [.bl b] = some (.int (if b then 1 else 0)) := rfl
theorem bmax : bMax M [.int i, .int j] = some (.int (if j > i then j else i)) := rfl
theorem bmin : bMin M [.int i, .int j] = some (.int (if j < i then j else i)) := rfl
theorem blist_t : bList M [.tup xs] = some (.lst xs) := rfl
theorem btuple_l : bTuple M [.lst xs] = some (.tup xs) := rfl
theorem srt_perm (l : List Str) : (srt l).Perm l := List.mergeSort_perm l leS
theorem bsorted {ss : List Str} (h : ss.length < 64) : bSorted M [.lst (ss.map D.str)] = some (.lst ((srt ss).map D.str)) := by
  have : ∀ ss : List Str, asSs (ss.map D.str) = some ss := by
    intro ss
    induction ss with
    | nil => rfl
    | cons a l ih => simp [asSs, asS, ih]
  simp [bSorted, one, asL, this, h]
theorem small_line {n : Nat} (h : n ≤ 100000) : n ≤ sizeLine := Nat.le_trans h (by decide)
end
theorem asSs_map : ∀ ss : List Str, asSs (ss.map D.str) = some ss
  | [] => rfl
  | a :: l => by simp [asSs, asS, asSs_map l]
/-- it comes to something of which P holds -/
def Gv {α : Type} (r : R α) (P : α → Mem → Prop) : Prop := ∃ a M', r = .ok a M' ∧ P a M'
theorem gv_ok {α : Type} {a : α} {M : Mem} {P : α → Mem → Prop} (h : P a M) : Gv (.ok a M) P := ⟨a, M, rfl, h⟩
theorem gv_bind {α β : Type} {r : R α} {k : α → Mem → R β} {P : β → Mem → Prop} (h : Gv r fun a M => Gv (k a M) P) : Gv (r.bind k) P := by
  obtain ⟨a, M, e, h⟩ := h
  rw [e]
  exact h
theorem Gv.imp {α : Type} {r : R α} {P Q : α → Mem → Prop} (h : Gv r P) (i : ∀ a M, P a M → Q a M) : Gv r Q := let ⟨a, M, e, p⟩ := h; ⟨a, M, e, i a M p⟩
theorem gv_of {α : Type} {o : Option α} {M : Mem} {P : α → Mem → Prop} {a : α} (e : o = some a) (h : P a M) : Gv (R.of o M) P := by
  rw [e]
  exact gv_ok h
/-! one rule a word -/
section
variable {M : Mem} {η : Dv} {P : D → Mem → Prop} {PF : Fl → Mem → Prop} {PA : List D → Mem → Prop} {PB : Bool → Mem → Prop} {f g k : XE} {fa ga : XA} {p q : XT} {s u : XS} {i j : Nat} {d : D}
theorem v_var (h : η[i]? = some (some d)) (hp : P d M) : Gv (xVar i η M) P := by
  unfold xVar
  rw [h]
  exact gv_ok hp
theorem v_c (hp : P d M) : Gv (xC d η M) P := gv_ok hp
theorem v_op {h : Op2} (hp : Gv (f η M) fun x M1 => Gv (g η M1) fun y M2 => ∃ z, h M2 x y = some z ∧ P z M2) : Gv (xOp h f g η M) P :=
  gv_bind (hp.imp fun x M1 h1 => gv_bind (h1.imp fun y M2 ⟨z, e, h2⟩ => gv_of e h2))
theorem v_nil (h : PA [] M) : Gv (xNil η M) PA := gv_ok h
theorem v_cons (h : Gv (f η M) fun x M1 => Gv (fa η M1) fun xs M2 => PA (x :: xs) M2) : Gv (xCons f fa η M) PA :=
  gv_bind (h.imp fun x M1 h1 => gv_bind (h1.imp fun y M2 h2 => gv_ok h2))
theorem v_call {h : OpC} (hp : Gv (fa η M) fun ds M1 => ∃ z, h M1 ds = some z ∧ P z M1) : Gv (xCall h fa η M) P := gv_bind (hp.imp fun ds M1 ⟨z, e, h2⟩ => gv_of e h2)
theorem v_fn {n : Nat} {fn : Fn} (hp : Gv (fa η M) fun ds M1 => ds.length = n ∧ Gv (fn ds M1) P) : Gv (xFn n fn fa η M) P := gv_bind (hp.imp fun ds M1 ⟨e, h2⟩ => by
  rw [if_pos e]
  exact h2)
theorem v_fnK {n kk : Nat} {fn : Fn} {fk : XA} (hp : Gv (fa η M) fun ds M1 => Gv (fk η M1) fun cs M2 => (ds.length = n ∧ cs.length = kk) ∧ Gv (fn (ds ++ cs) M2) P) : Gv (xFnK' n kk fn fa fk η M) P := gv_bind (hp.imp fun ds M1 h1 => gv_bind (h1.imp fun cs M2 ⟨e, h2⟩ => by
  rw [if_pos e]
  exact h2))
theorem v_tup (hp : Gv (fa η M) fun ds M1 => ds.length ≤ 100000 ∧ P (.tup ds) M1) : Gv (xTup fa η M) P := gv_bind (hp.imp fun ds M1 ⟨e, h2⟩ => by
  rw [if_pos e]
  exact gv_ok h2)
theorem v_lst (hp : Gv (fa η M) fun ds M1 => ds.length ≤ 100000 ∧ P (.lst ds) M1) : Gv (xLst fa η M) P := gv_bind (hp.imp fun ds M1 ⟨e, h2⟩ => by
  rw [if_pos e]
  exact gv_ok h2)
theorem v_lstM (hp : Gv (fa η M) fun ds M1 => ds.length ≤ 100000 ∧ P (.ptr M1.length) (M1 ++ [.lst ds])) : Gv (xLstM fa η M) P := gv_bind (hp.imp fun ds M1 ⟨e, h2⟩ => by
  rw [if_pos e]
  exact gv_ok h2)
theorem v_neg (hp : Gv (f η M) fun x M1 => ∃ i, x = .int i ∧ P (.int (-i)) M1) : Gv (xNeg f η M) P := gv_bind (hp.imp fun x M1 ⟨i, e, h2⟩ => by
  subst e
  exact gv_ok h2)
theorem v_rev (hp : Gv (f η M) fun x M1 => ∃ z, revD M1 x = some z ∧ P z M1) : Gv (xRev f η M) P := gv_bind (hp.imp fun x M1 ⟨z, e, h2⟩ => gv_of e h2)
theorem v_none {PO : Option Int → Mem → Prop} (h : PO none M) : Gv (xNone η M) PO := gv_ok h
theorem v_some {PO : Option Int → Mem → Prop} (hp : Gv (f η M) fun x M1 => ∃ i, x = .int i ∧ PO (some i) M1) : Gv (xSome f η M) PO := gv_bind (hp.imp fun x M1 ⟨i, e, h2⟩ => by
  subst e
  exact gv_ok h2)
theorem v_sl {h : OpS} {l r : XO} (hp : Gv (f η M) fun x M1 => Gv (l η M1) fun lo M2 => Gv (r η M2) fun hi M3 => ∃ z, h M3 x lo hi = some z ∧ P z M3) : Gv (xSl h f l r η M) P :=
  gv_bind (hp.imp fun x M1 h1 => gv_bind (h1.imp fun lo M2 h2 => gv_bind (h2.imp fun hi M3 ⟨z, e, h3⟩ => gv_of e h3)))
theorem v_tst (hp : Gv (f η M) fun x M1 => ∃ b, x = .bl b ∧ PB b M1) : Gv (xTst f η M) PB := gv_bind (hp.imp fun x M1 ⟨b, e, h2⟩ => by
  subst e
  exact gv_ok h2)
theorem v_tru (hp : Gv (f η M) fun x M1 => ∃ b, truD M1 x = some b ∧ PB b M1) : Gv (xTru f η M) PB := gv_bind (hp.imp fun x M1 ⟨b, e, h2⟩ => gv_of e h2)
theorem v_and (hp : Gv (p η M) fun b M1 => if b = true then Gv (q η M1) PB else PB false M1) : Gv (xAnd p q η M) PB := gv_bind (hp.imp fun b M1 h => by
  cases b with
  | true => exact h
  | false => exact gv_ok h)
theorem v_or (hp : Gv (p η M) fun b M1 => if b = true then PB true M1 else Gv (q η M1) PB) : Gv (xOr p q η M) PB := gv_bind (hp.imp fun b M1 h => by
  cases b with
  | true => exact gv_ok h
  | false => exact h)
theorem v_not (hp : Gv (p η M) fun b M1 => PB (!b) M1) : Gv (xNot p η M) PB := gv_bind (hp.imp fun b M1 h => gv_ok h)
theorem v_andV (hp : Gv (f η M) fun x M1 => ∃ b, x = .bl b ∧ if b = true then Gv (g η M1) P else P (.bl false) M1) : Gv (xAndV f g η M) P := gv_bind (hp.imp fun x M1 ⟨b, e, h⟩ => by
  subst e
  cases b with
  | true => exact h
  | false => exact gv_ok h)
theorem v_if (hp : Gv (p η M) fun b M1 => if b = true then Gv (f η M1) P else Gv (g η M1) P) : Gv (xIf p f g η M) P := gv_bind (hp.imp fun b M1 h => by
  cases b with
  | true => exact h
  | false => exact h)
theorem v_chain {h h' : Op2} (hp : Gv (f η M) fun x M1 => Gv (g η M1) fun y M2 => ∃ b, h M2 x y = some (.bl b) ∧ if b = true then Gv (k η M2) fun z M3 => ∃ w, h' M3 y z = some w ∧ P w M3 else P (.bl false) M2) : Gv (xChain h h' f g k η M) P :=
  gv_bind (hp.imp fun x M1 h1 => gv_bind (h1.imp fun y M2 ⟨b, e, h2⟩ => by
    rw [e]
    show Gv (if b = true then _ else _) P
    cases b with
    | true => exact gv_bind (Gv.imp h2 fun z M3 ⟨w, e3, h3⟩ => gv_of e3 h3)
    | false => exact gv_ok h2))
theorem v_join (hp : Gv (f η M) fun x M1 => ∃ z, x = .str z ∧ Gv (g η M1) fun y M2 => ∃ ss : List Str, y = .lst (ss.map D.str) ∧ (ss.map fun (q : Str) => q.length).sum + ss.length * z.length ≤ 16777216 ∧ P (.str (Txt.join z ss)) M2) : Gv (xJoin f g η M) P :=
  gv_bind (hp.imp fun x M1 ⟨z, e, h1⟩ => by
    subst e
    refine gv_bind (gv_ok (gv_bind (h1.imp fun y M2 ⟨ss, e2, h2, h3⟩ => ?_)))
    subst e2
    exact gv_of (by simp only [asL, Option.bind_some, asSs_map, if_pos h2]) h3)
theorem v_upper (hp : Gv (f η M) fun x M1 => ∃ z : Str, x = .str z ∧ z.length ≤ 5592405 ∧ P (.str (Txt.upper z)) M1) : Gv (xUpper f η M) P := gv_bind (hp.imp fun x M1 ⟨z, e, h, h2⟩ => by
  subst e
  refine gv_bind (gv_ok ?_)
  rw [if_pos h]
  exact gv_ok h2)
theorem v_dict0 (hp : P (.dct []) M) : Gv (xDict0 η M) P := gv_ok hp
theorem v_dict1 (hp : Gv (f η M) fun x M1 => Gv (g η M1) fun y M2 => ∃ k, keyD x = some k ∧ P (.dct [(k, y)]) M2) : Gv (xDict1 f g η M) P := gv_bind (hp.imp fun x M1 h1 => gv_bind (h1.imp fun y M2 ⟨k, e, h2⟩ => gv_of (by rw [e]; rfl) h2))
/-! statements -/
theorem v_seq (h : Gv (s η M) fun fl M1 => Gv (thenS u fl M1) PF) : Gv (xSeq s u η M) PF := gv_bind h
theorem v_nx (h : PF (.nx η) M) : Gv (xNx η M) PF := gv_ok h
theorem v_thn {η' : Dv} (h : Gv (u η' M) PF) : Gv (thenS u (.nx η') M) PF := h
theorem v_thr (h : PF (.rt d) M) : Gv (thenS u (.rt d) M) PF := gv_ok h
theorem v_asg (h : Gv (f η M) fun d M1 => PF (.nx (η.set i (some d))) M1) : Gv (xAsg f (xgName i) η M) PF := gv_bind (h.imp fun d M1 h1 => gv_bind (gv_ok (gv_ok h1)))
theorem v_ret (h : Gv (f η M) fun d M1 => PF (.rt d) M1) : Gv (xRet f η M) PF := gv_bind (h.imp fun d M1 h1 => gv_ok h1)
theorem v_ifS (h : Gv (p η M) fun b M1 => if b = true then Gv (s η M1) PF else Gv (u η M1) PF) : Gv (xIfS p s u η M) PF := gv_bind (h.imp fun b M1 h => by
  cases b with
  | true => exact h
  | false => exact h)
theorem v_par (h : Gv (f η M) fun d M1 => Gv (g η M1) fun c M2 => PF (.nx ((η.set i (some d)).set j (some c))) M2) : Gv (xPar i j f g η M) PF := gv_bind (h.imp fun d M1 h1 => gv_bind (h1.imp fun c M2 h2 => gv_ok h2))
theorem v_setL (h : Gv (f η M) fun d M1 => Gv (g η M1) fun l M2 => Gv (k η M2) fun z M3 => ∃ n ds j q, l = .ptr n ∧ z = .int j ∧ M3[n]? = some (.lst ds) ∧ ixN ds.length j = some q ∧ PF (.nx η) (M3.set n (.lst (ds.set q d)))) : Gv (xSetL f g k η M) PF :=
  gv_bind (h.imp fun d M1 h1 => gv_bind (h1.imp fun l M2 h2 => gv_bind (h2.imp fun z M3 ⟨n, ds, j, q, e1, e2, e3, e4, h3⟩ => by
    subst e1 e2
    simp only [e3, e4]
    exact gv_ok h3)))
theorem v_for {fi : XI} {gt : XG} {PI : List D → Mem → Prop} (h : Gv (fi η M) fun ds M1 => Gv (xForL gt s ds η M1) PF) : Gv (xFor fi gt s η M) PF := gv_bind h
theorem v_rng (h : Gv (fa η M) fun ds M1 => ∃ n : Nat, ds = [.int (n : Int)] ∧ n < 2 ^ 62 ∧ PA ((List.range n).map fun i => .int (i : Nat)) M1) : Gv (xRng fa η M) PA := gv_bind (h.imp fun ds M1 ⟨n, e, hn, h1⟩ => by
  subst e
  show Gv (if _ then _ else _) PA
  rw [if_pos ⟨by omega, by omega⟩]
  exact gv_ok (by simpa using h1))
theorem v_sq (h : Gv (f η M) fun x M1 => ∃ ds, itemsD x = some ds ∧ PA ds M1) : Gv (xSq f η M) PA := gv_bind (h.imp fun x M1 ⟨ds, e, h1⟩ => gv_of e h1)
theorem v_zipT (h : Gv (fa η M) fun ds M1 => ∃ xs ys, ds = [.tup xs, .tup ys] ∧ PA (xs.zip ys |>.map fun q => .tup [q.1, q.2]) M1) : Gv (xZip fa η M) PA := gv_bind (h.imp fun ds M1 ⟨xs, ys, e, h1⟩ => by
  subst e
  exact gv_ok h1)
/-- a for by a word about what is left, the slots and the memory -/
theorem v_forL {gt : XG} (I : List D → Dv → Mem → Prop) (ds : List D) (h0 : I ds η M) (hs : ∀ d r η M, I (d :: r) η M → Gv (gt d η M) fun η1 M1 => Gv (s η1 M1) fun fl M2 => match fl with
    | .nx η2 => I r η2 M2
    | .ct η2 => I r η2 M2
    | .bk η2 => PF (.nx η2) M2
    | .rt v => PF (.rt v) M2) (hd : ∀ η M, I [] η M → PF (.nx η) M) : Gv (xForL gt s ds η M) PF := by
  induction ds generalizing η M with
  | nil => exact gv_ok (hd _ _ h0)
  | cons d r ih =>
    refine gv_bind ((hs d r η M h0).imp fun η1 M1 h1 => gv_bind (Gv.imp h1 fun fl M2 h2 => ?_))
    cases fl with
    | nx η2 => exact ih h2
    | ct η2 => exact ih h2
    | bk η2 => exact gv_ok h2
    | rt v => exact gv_ok h2
theorem calm_gv {α : Type} {r : R α} {P : α → Mem → Prop} (h : Gv r P) : Gv r.calm P := by
  obtain ⟨a, M, e, h⟩ := h
  rw [e]
  exact gv_ok h
/-- a comprehension by a word about what is left, what is made, the memory -/
theorem v_lcL {gt : XG} {t : XT} (I : List D → List D → Mem → Prop) (ds : List D) (hs : ∀ d r acc M, I (d :: r) acc M → Gv (gt d η M) fun η1 M1 => Gv (t η1 M1) fun b M2 => if b = true then Gv (f η1 M2) fun y M3 => I r (acc ++ [y]) M3 else I r acc M2)
    : ∀ acc, (h0 : I ds acc M) → Gv (xLcL gt t f ds η M) fun r M1 => I [] (acc ++ r) M1 := by
  induction ds generalizing M with
  | nil => intro acc h0; exact gv_ok (by simpa using h0)
  | cons d r ih =>
    intro acc h0
    unfold xLcL
    refine gv_bind (calm_gv ((hs d r acc M h0).imp fun η1 M1 h1 => gv_bind (calm_gv (Gv.imp h1 fun b M2 h2 => ?_))))
    cases b with
    | true =>
      simp only [if_true] at h2 ⊢
      refine gv_bind (calm_gv (Gv.imp h2 fun y M3 h3 => gv_bind ((ih _ h3).imp fun q M4 h4 => gv_ok ?_)))
      rw [List.append_assoc] at h4
      exact h4
    | false =>
      simp only [Bool.false_eq_true, if_false] at h2 ⊢
      exact ih _ h2
theorem v_lc {fi : XI} {gt : XG} {t : XT} {vs : List Nat} (h : Gv (fi η M) fun ds M1 => ds.length ≤ 100000 ∧ Gv (xLcL gt t f ds (wipeD η vs) M1) fun r M2 => P (.lst r) M2) : Gv (xLc frozenL fi gt t f vs η M) P := gv_bind (h.imp fun ds M1 ⟨e, h1⟩ => by
  rw [if_pos e]
  exact gv_bind (h1.imp fun r M2 h2 => gv_ok h2))
theorem v_gn {PD : Dv → Mem → Prop} (hp : PD (η.set i (some d)) M) : Gv (xgName i d η M) PD := gv_ok hp
theorem v_yes (h : PB true M) : Gv (xYes η M) PB := gv_ok h
/-- a def: its body -/
theorem v_body {n N : Nat} {b : XS} {ds : List D} (hl : ds.length = n) (h : Gv (b (ds.map some ++ List.replicate (N - n) none) M) fun fl M1 => match fl with
    | .rt d => P d M1
    | .nx _ => P .non M1
    | _ => False) : Gv (callB n N b ds M) P := by
  unfold callB
  rw [if_pos hl]
  refine gv_bind (h.imp fun fl M1 h1 => ?_)
  cases fl with
  | rt d => exact gv_ok h1
  | nx η' => exact gv_ok h1
  | bk _ => exact h1.elim
  | ct _ => exact h1.elim
end
end Dn
namespace Dn
open PySem PyProof.Rows L2 Evl
theorem v_lc_map {gt : XG} {t : XT} {f : XE} {η : Dv} {M : Mem} (h : D → D) : ∀ (ds : List D), (∀ d ∈ ds, Gv (gt d η M) fun η1 M1 => Gv (t η1 M1) fun b M2 => b = true ∧ Gv (f η1 M2) fun y M3 => y = h d ∧ M3 = M) → Gv (xLcL gt t f ds η M) fun r M1 => r = ds.map h ∧ M1 = M
  | [], _ => gv_ok ⟨rfl, rfl⟩
  | d :: ds, hs => by
    unfold xLcL
    refine gv_bind (calm_gv ((hs d (List.mem_cons_self ..)).imp fun η1 M1 h1 => gv_bind (calm_gv (Gv.imp h1 fun b M2 h2 => ?_))))
    obtain ⟨rfl, h2⟩ := h2
    rw [if_pos rfl]
    refine gv_bind (calm_gv (Gv.imp h2 fun y M3 ⟨e1, e2⟩ => ?_))
    subst e1 e2
    exact gv_bind ((v_lc_map h ds fun c hc => hs c (List.mem_cons_of_mem _ hc)).imp fun r M4 ⟨e3, e4⟩ => gv_ok ⟨by rw [e3]; rfl, e4⟩)
theorem asBs_map {α : Type} (p : α → Bool) : ∀ l : List α, asBs (l.map fun d => D.bl (p d)) = some (l.map p)
  | [] => rfl
  | a :: l => by simp [asBs, asB, asBs_map p l]
theorem ball_map {M : Mem} {α : Type} {p : α → Bool} {l : List α} : bAll M [.lst (l.map fun d => .bl (p d))] = some (.bl (l.all p)) := by
  have e : (l.map p).all id = l.all p := by
    induction l with
    | nil => rfl
    | cons a l ih => simp only [List.map_cons, List.all_cons, id, ih]
  simp only [bAll, one, asL, Option.bind_some, asBs_map, Option.map_some, e]
end Dn

namespace Dn
open PySem PyProof.Rows L2 Evl
section
variable {M : Mem} {η : Dv} {P : D → Mem → Prop} {PF : Fl → Mem → Prop} {PA : List D → Mem → Prop} {PB : Bool → Mem → Prop} {f g k : XE} {fa ga : XA} {p q : XT} {s u : XS} {i j : Nat} {d : D}
theorem v_rng2 (h : Gv (fa η M) fun ds M1 => ∃ lo hi : Nat, ds = [.int (lo : Int), .int (hi : Int)] ∧ lo < 2 ^ 62 ∧ hi < 2 ^ 62 ∧ PA ((List.range (hi - lo)).map fun q => .int ((lo : Int) + (q : Nat))) M1) : Gv (xRng2 fa η M) PA := gv_bind (h.imp fun ds M1 ⟨lo, hi, e, h1, h2, h3⟩ => by
  subst e
  show Gv (if _ then _ else _) PA
  rw [if_pos ⟨by omega, by omega, by omega, by omega⟩]
  have e : ((hi : Int) - (lo : Int)).toNat = hi - lo := by omega
  exact gv_ok (by rw [e]; exact h3))
theorem v_zipM (h : Gv (fa η M) fun ds M1 => ∃ xs ys, ds = [.tup xs, .lst ys] ∧ PA (xs.zip ys |>.map fun q => .tup [q.1, q.2]) M1) : Gv (xZipM fa η M) PA := gv_bind (h.imp fun ds M1 ⟨xs, ys, e, h1⟩ => by
  subst e
  exact gv_ok h1)
theorem v_drop (h : Gv (f η M) fun _ M1 => PF (.nx η) M1) : Gv (xDrop f η M) PF := gv_bind (h.imp fun d M1 h1 => gv_ok h1)
theorem v_append (h : Gv (f η M) fun d M1 => ∃ n ds0, d = .ptr n ∧ M1[n]? = some (.lst ds0) ∧ Gv (g η M1) fun x M2 => ∃ ds, M2[n]? = some (.lst ds) ∧ ds.length < 1000000 ∧ P .non (M2.set n (.lst (ds ++ [x])))) : Gv (xAppend f g η M) P :=
  gv_bind (h.imp fun d M1 ⟨n, ds0, e1, e2, h1⟩ => by
    subst e1
    simp only [e2]
    exact gv_bind (h1.imp fun x M2 ⟨ds, e3, hl, h2⟩ => by
      simp only [e3, if_pos hl]
      exact gv_ok h2))
theorem v_lc_fm {gt : XG} {t : XT} (p : D → Bool) (h : D → D) : ∀ (ds : List D), (∀ d ∈ ds, Gv (gt d η M) fun η1 M1 => Gv (t η1 M1) fun b M2 => b = p d ∧ M2 = M ∧ (p d = true → Gv (f η1 M2) fun y M3 => y = h d ∧ M3 = M)) → Gv (xLcL gt t f ds η M) fun r M1 => r = (ds.filter p).map h ∧ M1 = M
  | [], _ => gv_ok ⟨rfl, rfl⟩
  | d :: ds, hs => by
    unfold xLcL
    refine gv_bind (calm_gv ((hs d (List.mem_cons_self ..)).imp fun η1 M1 h1 => gv_bind (calm_gv (Gv.imp h1 fun b M2 h2 => ?_))))
    obtain ⟨e0, e1, h2⟩ := h2
    rw [e1] at h2 ⊢
    rw [e0]
    have ih := v_lc_fm p h ds fun c hc => hs c (List.mem_cons_of_mem _ hc)
    cases hp : p d with
    | true =>
      rw [if_pos rfl, List.filter_cons_of_pos hp]
      refine gv_bind (calm_gv (Gv.imp (h2 hp) fun y M3 ⟨e1, e2⟩ => ?_))
      rw [e1, e2]
      exact gv_bind (ih.imp fun r M4 ⟨e3, e4⟩ => gv_ok ⟨by rw [e3]; rfl, e4⟩)
    | false =>
      rw [if_neg (by decide), List.filter_cons_of_neg (by rw [hp]; decide)]
      exact ih
end
/-! ### sets: all sublists by numbers -/
def ofN : List Str → Nat → List Str
  | [], _ => []
  | s :: r, m => if m % 2 = 1 then s :: ofN r (m / 2) else ofN r (m / 2)
theorem ofN_sub : ∀ (ss : List Str) (m : Nat), (ofN ss m).Sublist ss
  | [], _ => .slnil
  | s :: r, m => by
    unfold ofN
    split
    · exact (ofN_sub r _).cons₂ s
    · exact (ofN_sub r _).cons s
theorem sub_ofN : ∀ {ts ss : List Str}, ts.Sublist ss → ∃ m, m < 2 ^ ss.length ∧ ofN ss m = ts
  | _, _, .slnil => ⟨0, by simp, rfl⟩
  | _, _, .cons (l₂ := r) s h => by
    obtain ⟨m, h1, h2⟩ := sub_ofN h
    refine ⟨2 * m, by rw [List.length_cons, Nat.pow_succ]; omega, ?_⟩
    rw [ofN, if_neg (by omega), show 2 * m / 2 = m by omega, h2]
  | _, _, .cons₂ s h => by
    obtain ⟨m, h1, h2⟩ := sub_ofN h
    refine ⟨2 * m + 1, by rw [List.length_cons, Nat.pow_succ]; omega, ?_⟩
    rw [ofN, if_pos (by omega), show (2 * m + 1) / 2 = m by omega, h2]
theorem ofN_zero : ∀ (ss : List Str), ofN ss 0 = []
  | [] => rfl
  | s :: r => by rw [ofN, if_neg (by omega)]; exact ofN_zero r
theorem ofN_pos : ∀ (ss : List Str) (m : Nat), 0 < m → m < 2 ^ ss.length → ofN ss m ≠ []
  | [], m, h1, h2 => by simp at h2; omega
  | s :: r, m, h1, h2 => by
    unfold ofN
    rw [List.length_cons, Nat.pow_succ] at h2
    split
    · exact List.cons_ne_nil _ _
    · exact ofN_pos r (m / 2) (by omega) (by omega)
/-- the sets that are not empty, as made -/
def sets1 (ss : List Str) : List (List Str) := ((List.range (2 ^ ss.length - 1)).map fun m => ofN ss (m + 1))
theorem mem_sets1 {ss ts : List Str} : ts ∈ sets1 ss ↔ ts ≠ [] ∧ ts.Sublist ss := by
  unfold sets1
  constructor
  · intro h
    obtain ⟨m, hm, rfl⟩ := List.mem_map.mp h
    have := List.mem_range.mp hm
    exact ⟨ofN_pos ss (m + 1) (by omega) (by omega), ofN_sub ss _⟩
  · rintro ⟨h1, h2⟩
    obtain ⟨m, hm, rfl⟩ := sub_ofN h2
    have h0 : m ≠ 0 := fun e => h1 (by rw [e, ofN_zero])
    exact List.mem_map.mpr ⟨m - 1, List.mem_range.mpr (by omega), by rw [show m - 1 + 1 = m by omega]⟩
/-! ### sorted by size, then as tuples go -/
open PySem.W (alike alikeAll dataLt dataLe)
def tupD (o : List Str) : D := .tup (o.map D.str)
def keyDD (o : List Str) : D := .tup [.int o.length, tupD o]
def tupP (o : List Str) : PyData := .tuple (o.map PyData.str)
def keyP (o : List Str) : PyData := .tuple [.int o.length, tupP o]
theorem toPs_strs : ∀ o : List Str, toPs (o.map D.str) = some (o.map PyData.str)
  | [] => by simp [toPs]
  | a :: l => by simp [toPs, toP, toPs_strs l]
theorem toP_tup (o : List Str) : toP (tupD o) = some (tupP o) := by simp [tupD, tupP, toP, toPs_strs]
theorem toP_key (o : List Str) : toP (keyDD o) = some (keyP o) := by simp [keyDD, keyP, toP, toPs, toP_tup]
theorem toPs_map {α : Type} {f : α → D} {g : α → PyData} (h : ∀ a, toP (f a) = some (g a)) : ∀ l : List α, toPs (l.map f) = some (l.map g)
  | [] => by simp [toPs]
  | a :: l => by simp [toPs, h, toPs_map h l]
theorem alike_strs : ∀ o u : List Str, alikeAll (o.map PyData.str) (u.map PyData.str) = true
  | [], _ => by rw [List.map_nil, alikeAll]
  | _ :: _, [] => by rw [List.map_nil, List.map_cons, alikeAll]
  | a :: o, b :: u => by rw [List.map_cons, List.map_cons, alikeAll, alike_strs o u, alike]; rfl
theorem alike_key (o u : List Str) : alike (keyP o) (keyP u) = true := by
  simp [keyP, tupP, alike, alikeAll, alike_strs]
theorem depth_strs : ∀ o : List Str, PyData.depthAll (o.map PyData.str) = 0
  | [] => by simp [PyData.depthAll]
  | a :: l => by simp [PyData.depthAll, PyData.depth, depth_strs l]
theorem depth_key (o : List Str) : (keyP o).depth ≤ 60 := by
  simp [keyP, tupP, PyData.depth, PyData.depthAll, depth_strs]
theorem sortOk_keys (l : List (List Str)) : sortOk (l.map keyP) = true := by
  unfold sortOk
  simp only [Bool.and_eq_true, Bool.or_eq_true, List.all_eq_true, decide_eq_true_eq]
  refine ⟨⟨fun a ha b hb => ?_, .inl fun a ha => ?_⟩, fun a ha => ?_⟩
  · obtain ⟨o, _, rfl⟩ := List.mem_map.mp ha
    obtain ⟨u, _, rfl⟩ := List.mem_map.mp hb
    exact alike_key o u
  · obtain ⟨o, _, rfl⟩ := List.mem_map.mp ha
    rfl
  · obtain ⟨o, _, rfl⟩ := List.mem_map.mp ha
    exact depth_key o
noncomputable def setSort (l : List (List Str)) : List (List Str) := l.mergeSort (dataLe false keyP)
theorem pD_key (o : List Str) : pD (keyDD o) = keyP o := by simp [pD, toP_key]
theorem dataLe_map {β γ : Type} {k : β → PyData} {k' : γ → PyData} {f : β → γ} (h : ∀ b, k' (f b) = k b) (a b : β) : dataLe false k a b = dataLe false k' (f a) (f b) := by
  show PySem.W.sortLe _ _ _ a b = PySem.W.sortLe _ _ _ (f a) (f b)
  simp only [PySem.W.sortLe, h]
theorem sortD_keys (l : List (List Str)) : sortD (l.map keyDD) = (setSort l).map keyDD := by
  unfold sortD setSort
  exact (List.map_mergeSort (fun a _ b _ => dataLe_map pD_key a b)).symm
theorem bsort_sets {M : Mem} {n : Nat} (l : List (List Str)) (h : M[n]? = some (.lst (l.map keyDD))) : bSortD M [.ptr n] = some (.lst ((setSort l).map keyDD)) := by
  simp only [bSortD, one, asL, h, Option.bind_some, toPs_map toP_key, sortOk_keys, if_true, sortD_keys]
theorem setSort_perm (l : List (List Str)) : (setSort l).Perm l := List.mergeSort_perm _ _
end Dn

namespace Dn
open PySem PyProof.Rows L2 Evl
section
variable {M : Mem} {η : Dv} {P : D → Mem → Prop} {PF : Fl → Mem → Prop} {PA : List D → Mem → Prop} {PB : Bool → Mem → Prop} {f g k fo : XE} {fa ga : XA} {p q : XT} {s u : XS} {i j : Nat} {d : D} {x fl m : Str} {fls : List Str}
end
end Dn

/-! DnEval4: what the plain functions give, further forms -/
namespace Dn
open PySem PyProof.Rows L2 Evl
section
variable {M : Mem} {η : Dv} {P : D → Mem → Prop} {PA : List D → Mem → Prop} {PB : Bool → Mem → Prop} {PF : Fl → Mem → Prop} {f g k : XE} {fa : XA} {p q : XT} {s u : XS} {x : Str}
/-- a comprehension that leaves the memory, over the told things e a -/
theorem v_lc_fa {α : Type} {gt : XG} {t : XT} (e : α → D) (p : α → Bool) (h : α → D) : ∀ (l : List α), (∀ a ∈ l, Gv (gt (e a) η M) fun η1 M1 => Gv (t η1 M1) fun b M2 => b = p a ∧ M2 = M ∧ (p a = true → Gv (f η1 M2) fun y M3 => y = h a ∧ M3 = M)) → Gv (xLcL gt t f (l.map e) η M) fun r M1 => r = (l.filter p).map h ∧ M1 = M := by
  intro l hl
  have key : ∀ (l2 : List α), (∀ a ∈ l2, a ∈ l) → Gv (xLcL gt t f (l2.map e) η M) fun r M1 => r = (l2.filter p).map h ∧ M1 = M := by
    intro l2
    induction l2 with
    | nil => exact fun _ => gv_ok ⟨rfl, rfl⟩
    | cons a l2 ih =>
      intro hm
      rw [List.map_cons]
      unfold xLcL
      refine gv_bind (calm_gv ((hl a (hm a (List.mem_cons_self ..))).imp fun η1 M1 h1 => gv_bind (calm_gv (Gv.imp h1 fun b M2 ⟨hb, hM, h2⟩ => ?_))))
      subst hb hM
      have ih' := ih fun c hc => hm c (List.mem_cons_of_mem _ hc)
      cases hp : p a with
      | true =>
        rw [List.filter_cons_of_pos hp]
        simp only [if_true]
        exact gv_bind (calm_gv <| (h2 hp).imp fun y M3 ⟨hy, hM3⟩ => by
          subst hy hM3
          exact gv_bind (ih'.imp fun r M4 ⟨hr, hM4⟩ => gv_ok ⟨by rw [hr]; rfl, hM4⟩))
      | false =>
        rw [List.filter_cons_of_neg (by rw [hp]; decide)]
        simp only [Bool.false_eq_true, if_false]
        exact ih'
  exact key l fun a ha => ha
theorem v_lc_ma {α : Type} {gt : XG} (e : α → D) (h : α → D) (l : List α) (hl : ∀ a ∈ l, Gv (gt (e a) η M) fun η1 M1 => Gv (f η1 M1) fun y M3 => y = h a ∧ M3 = M ∧ M1 = M) : Gv (xLcL gt xYes f (l.map e) η M) fun r M1 => r = l.map h ∧ M1 = M := by
  have := v_lc_fa (gt := gt) (t := xYes) (f := f) (η := η) (M := M) e (fun _ => true) h l fun a ha => (hl a ha).imp fun η1 M1 h1 => by
    obtain ⟨y, M3, e1, rfl, rfl, rfl⟩ := h1
    exact v_yes ⟨rfl, rfl, fun _ => ⟨_, _, e1, rfl, rfl⟩⟩
  rw [List.filter_eq_self.mpr fun _ _ => rfl] at this
  exact this
end
end Dn

/-! DnEval5: what the plain functions give: while, op=, enumerate, stars, two generators -/
namespace Dn
open PySem PyProof.Rows L2 Evl
section
variable {M : Mem} {η : Dv} {P : D → Mem → Prop} {PA : List D → Mem → Prop} {PB : Bool → Mem → Prop} {PF : Fl → Mem → Prop} {PD : Dv → Mem → Prop} {f g k : XE} {fa : XA} {t : XT} {s : XS}
end
end Dn

/-! DnEval6: what the plain functions give: errors, dicts by texts, op= of dicts, defs held by a name -/
namespace Dn
open PySem PyProof.Rows L2 Evl
/-- it comes to a value of which P holds, or to an error of which PX holds -/
def Go {α : Type} (r : R α) (P : α → Mem → Prop) (PX : Exc → Mem → Prop) : Prop := match r with
  | .ok a M => P a M
  | .ex e M => PX e M
  | .no => False
section
variable {M : Mem} {η : Dv} {P : D → Mem → Prop} {PA : List D → Mem → Prop} {PB : Bool → Mem → Prop} {PF : Fl → Mem → Prop} {PX : Exc → Mem → Prop} {f g k : XE} {fa : XA} {s u : XS}
theorem Go.imp {α : Type} {r : R α} {P Q : α → Mem → Prop} {PX PY : Exc → Mem → Prop} (h : Go r P PX) (h1 : ∀ a M, P a M → Q a M) (h2 : ∀ e M, PX e M → PY e M) : Go r Q PY := by
  cases r with
  | ok a M => exact h1 _ _ h
  | ex e M => exact h2 _ _ h
  | no => exact h
end
end Dn

/-! DnEval7: what the plain functions give: sets of texts, displays, updates, walks over lists of lists -/
namespace Dn
open PySem PyProof.Rows L2 Evl
section
variable {M : Mem} {η : Dv} {P : D → Mem → Prop} {PA : List D → Mem → Prop} {PB : Bool → Mem → Prop} {PF : Fl → Mem → Prop} {PX : Exc → Mem → Prop} {f g k : XE} {fa fk : XA} {s u : XS}
end
end Dn

namespace Dn
open PySem PyProof.Rows L2 Evl
/-! ### repr of data -/
mutual
/-- what a datum is to the shower -/
def pyD (M : Mem) : D → Option PyData
  | .non => some .none
  | .bl b => some (.bool b)
  | .int i => some (.int i)
  | .str s => some (.str s)
  | .tup ds => (pyDs M ds).map .tuple
  | .lst ds => (pyDs M ds).map .list
  | _ => none
def pyDs (M : Mem) : List D → Option (List PyData)
  | [] => some []
  | d :: ds => (pyD M d).bind fun x => (pyDs M ds).map (x :: ·)
end
/-- a list that may change, too -/
def pyM (M : Mem) : D → Option PyData
  | .ptr n => match M[n]? with
    | some (.lst ds) => (pyDs M ds).map .list
    | _ => none
  | d => pyD M d
mutual
inductive PyV (K : PySem.W.Frag) (H : Hp) : V → PyData → Prop
  | non : PyV K H .non .none
  | bl (b : Bool) : PyV K H (.bl b) (.bool b)
  | int (i : Int) : PyV K H (.int i) (.int i)
  | str (s : Str) : PyV K H (.str s) (.str s)
  | lst {a : Addr} {vs : List V} {ds : List PyData} : SqL K H a vs → PyVs K H vs ds → PyV K H (.ref a) (.list ds)
  | tup {a : Addr} {vs : List V} {ds : List PyData} : SqT K H a vs → PyVs K H vs ds → PyV K H (.ref a) (.tuple ds)
inductive PyVs (K : PySem.W.Frag) (H : Hp) : List V → List PyData → Prop
  | nil : PyVs K H [] []
  | cons {v : V} {d : PyData} {vs : List V} {ds : List PyData} : PyV K H v d → PyVs K H vs ds → PyVs K H (v :: vs) (d :: ds)
end
section
variable {K : PySem.W.Frag} {F B H : Hp} {ρ : List Addr} {M : Mem}
mutual
theorem pyD_snd (m : MR K F B ρ M H) : ∀ {d : D} {v : V} {p : PyData}, Rp K B ρ d v → pyD M d = some p → PyV K H v p
  | .non, _, _, r, h => by simp only [pyD] at h; cases h; cases r; exact .non
  | .bl b, _, _, r, h => by simp only [pyD] at h; cases h; cases r; exact .bl b
  | .int i, _, _, r, h => by simp only [pyD] at h; cases h; cases r; exact .int i
  | .str s, _, _, r, h => by simp only [pyD] at h; cases h; cases r; exact .str s
  | .tup ds, _, _, r, h => by
    simp only [pyD, Option.map_eq_some_iff] at h
    obtain ⟨ps, h1, rfl⟩ := h
    cases r with
    | tup e q => exact .tup (ex_t m.ex e) (pyDs_snd m q h1)
  | .lst ds, _, _, r, h => by
    simp only [pyD, Option.map_eq_some_iff] at h
    obtain ⟨ps, h1, rfl⟩ := h
    cases r with
    | lst e q => exact .lst (sq_of (m.ex _ _ e)) (pyDs_snd m q h1)
  | .dct _, _, _, _, h => by simp [pyD] at h
  | .dcT _, _, _, _, h => by simp [pyD] at h
  | .ins _ _, _, _, _, h => by simp [pyD] at h
  | .fn _, _, _, _, h => by simp [pyD] at h
  | .scr _, _, _, _, h => by simp [pyD] at h
  | .ptr _, _, _, _, h => by simp [pyD] at h
  | .raw _, _, _, _, h => by simp [pyD] at h
theorem pyDs_snd (m : MR K F B ρ M H) : ∀ {ds : List D} {vs : List V} {ps : List PyData}, Rps K B ρ ds vs → pyDs M ds = some ps → PyVs K H vs ps
  | [], _, _, r, h => by simp only [pyDs] at h; cases h; cases r; exact .nil
  | d :: ds, _, _, r, h => by
    simp only [pyDs, Option.bind_eq_some_iff, Option.map_eq_some_iff] at h
    obtain ⟨p, h1, ps, h2, rfl⟩ := h
    cases r with
    | cons r1 r2 => exact .cons (pyD_snd m r1 h1) (pyDs_snd m r2 h2)
end
theorem pyM_snd (m : MR K F B ρ M H) {d : D} {v : V} {p : PyData} (r : Rp K B ρ d v) (h : pyM M d = some p) : PyV K H v p := by
  cases d with
  | ptr n =>
    simp only [pyM] at h
    split at h
    · next ds hm =>
      simp only [Option.map_eq_some_iff] at h
      obtain ⟨ps, h1, rfl⟩ := h
      cases r with
      | ptr ha =>
        obtain ⟨vs, e, q, _⟩ := m.list ha hm
        exact .lst (sq_of e) (pyDs_snd m q h1)
    · cases h
  | _ => exact pyD_snd m r (by simpa only [pyM] using h)
end
section
variable {X : Cx} {pins : List (Addr × Obj)} {σ : L2.St} {H : Hp} {s : Shared}
mutual
theorem reads_of (I : Inv X pins σ H s) : ∀ {p : PyData} {v : V} {u : Value}, PyV X.K H v p → RelV v u → ∃ as, Reads s.heap u p as
  | .none, _, _, .non, r => by cases r; exact ⟨_, .none⟩
  | .bool b, _, _, .bl _, r => by cases r; exact ⟨_, .bool b⟩
  | .int i, _, _, .int _, r => by
    obtain ⟨t, rfl⟩ := r
    exact ⟨_, .int i t⟩
  | .str x, _, _, .str _, r => by
    obtain ⟨t, rfl⟩ := r
    exact ⟨_, .str x t⟩
  | .list ps, _, _, .lst hq hv, r => by
    cases r
    obtain ⟨its, rv, ⟨o, n, e, c, _, d⟩, _⟩ := I.list hq
    obtain ⟨as, h⟩ := readsAll_of I hv rv
    exact ⟨_, .list e c d (by simpa using h)⟩
  | .tuple ps, _, _, .tup hq hv, r => by
    cases r
    obtain ⟨its, rv, ⟨o, e, c, n, d⟩, _⟩ := I.tuple hq
    obtain ⟨as, h⟩ := readsAll_of I hv rv
    exact ⟨_, .tuple e c d (by simpa using h)⟩
theorem readsAll_of (I : Inv X pins σ H s) : ∀ {ps : List PyData} {vs : List V} {us : List Value}, PyVs X.K H vs ps → Vals vs us → ∃ as, ReadsAll s.heap us ps as
  | [], _, _, .nil, r => by cases r; exact ⟨_, .nil⟩
  | p :: ps, _, _, .cons h1 h2, r => by
    cases r with
    | cons r1 r2 =>
      obtain ⟨as, e1⟩ := reads_of I h1 r1
      obtain ⟨bs, e2⟩ := readsAll_of I h2 r2
      exact ⟨_, .cons e1 e2⟩
end
end
/-- a list or a tuple -/
def holds : PyData → Bool
  | .list _ => true
  | .tuple _ => true
  | _ => false
def reprFits (p : PyData) : Prop := holds p = true ∧ p.showable = true ∧ p.hasDict = false ∧ p.depth ≤ 100 ∧ p.shown.length ≤ sizeLine
section
variable {X : Cx}
theorem PyV.ref {K : PySem.W.Frag} {H : Hp} {v : V} {p : PyData} (h : PyV K H v p) (hp : holds p = true) : ∃ a, v = .ref a := by
  cases h with
  | lst _ _ => exact ⟨_, rfl⟩
  | tup _ _ => exact ⟨_, rfl⟩
  | _ => simp [holds] at hp
theorem call_reprD {k : Nat} (hg : X.A.guards = some []) (hr : Room k X.A) : CallR X (.builtin "repr") (fun xs H Q => ∃ a p, xs = [.ref a] ∧ PyV X.K H (.ref a) p ∧ reprFits p ∧ Q (.str p.shown) H) := by
  intro pins s σ H xs us Q I r h
  obtain ⟨a, p, rfl, hv, ⟨_, h1, h2, h3, h4⟩, q⟩ := h
  obtain ⟨u, rfl, rx⟩ := vals1 r
  cases rx
  obtain ⟨as, hr0⟩ := reads_of I hv rfl
  have hu := hr.un
  exact repr_of_reads' hr0 h1 (fun z => by rw [h2] at z; cases z) hg (by omega) (fun _ _ e => e) (fun h' u tk hk => ⟨.str p.shown, H, I.kept hk, ⟨_, rfl⟩, q⟩) h4
open Classical in
noncomputable def bRepr : OpC := one fun M d => (pyM M d).bind fun p => if reprFits p then some (.str p.shown) else none
theorem cd_repr {k : Nat} (hg : X.A.guards = some []) (hr : Room k X.A) : CallD X (.builtin "repr") bRepr := by
  refine ⟨_, call_reprD hg hr, fun F B ρ M H xs ds dz Q m rx e kk => ?_⟩
  obtain ⟨d, rfl, h⟩ := one_some e
  cases rx with
  | cons r rr =>
    cases rr
    simp only [Option.bind_eq_some_iff] at h
    obtain ⟨p, hp, h⟩ := h
    split at h
    · next hf =>
      cases h
      have hv := pyM_snd m r hp
      obtain ⟨a, rfl⟩ := hv.ref hf.1
      exact ⟨a, p, rfl, hv, hf, kk.same m (.str _)⟩
    · cases h
end
end Dn

namespace Dn
open PySem PyProof.Rows L2 Evl
/-- a def's promise where no repr is under way -/
structure FnOkG (P : Program) (w : World) (K : PySem.W.Frag) (mg : Str → Option Value) (base : Heap) (CX : CXT) (k : Nat) (f : Addr) (fd : FuncData) (ps : List Str) (sp : Sp) : Prop where
  lenG : ∀ xs H Q E, sp xs H Q E → xs.length = ps.length
  runG : ∀ (A : Around) (out : List Env) (t : Shared) (H : Hp) (as : Args) (us : List Value) (xs : List V) (Q : VK) (E : XK), A.guards = some [] → Room k A →
    Env0 P w K mg base A out t H → BindsTo t fd as (ps.zip us) → Vals xs us → sp xs H Q E →
    codeAny (model P w) A (.call (.ref f) as) (CR CX out P w H t Q E) t
section
variable {P : Program} {w : World} {K : PySem.W.Frag} {mg : Str → Option Value} {base : Heap}
theorem FnOkG.imp {CX : CXT} {k : Nat} {f : Addr} {fd : FuncData} {ps : List Str} {sp sp' : Sp} (F : FnOkG P w K mg base CX k f fd ps sp) (h : ∀ xs H Q E, sp' xs H Q E → sp xs H Q E) : FnOkG P w K mg base CX k f fd ps sp' :=
  ⟨fun xs H Q E q => F.lenG xs H Q E (h _ _ _ _ q), fun A out t H as us xs Q E g r e b v q => F.runG A out t H as us xs Q E g r e b v (h _ _ _ _ q)⟩
end
section
variable {P : Program} {w : World} {K : PySem.W.Frag} {mg mb : Str → Option Value} {CX : CXT} {k : Nat} {fa a : Addr} {fd : FuncData} {x : Str} {sp : Sp} {t : Shared} {vs : List Value} {ns : List Int}
end
end Dn

/-! DnText: split, partition, f-strings, str(..), int(text), get of a dict of the module -/
namespace Dn
open PySem PySem.Spec PyProof.Rows L2 Evl
section
variable {X : Cx} {W : WX} {o e e2 : Expr} {es : List Expr} {f g k : XE} {apos pos : Pos}
theorem bt_repr : bootBuiltins "repr" = some (.builtin "repr") := by decide +kernel
/-! f-strings -/
inductive DJs (X : Cx) (W : WX) : List Expr → List XE → Prop where
  | nil : DJs X W [] []
  | cons {e : Expr} {f : XE} {es : List Expr} {fs : List XE} (h : DE X W e f) (r : DJs X W es fs) : DJs X W (e :: es) (f :: fs)
/-! str(..), int(text) -/
/-! a list + a list, that may change -/
/-! get of a dict of the module -/
end
/-- a dict of the module: all of it -/
structure KtF (K : PySem.W.Frag) (w : World) (mg : Str → Option Value) (x : Str) (tget : List (Str × D)) : Prop where
  ex : ∃ (d : Addr) (es : Array DictEntry) (n : Nat), mg x = some (.ref d) ∧ PySem.W.nsIn K mainGlobals x = some (some (.ref d)) ∧ KDict K w d es n ∧
    (∀ s c, tget.lookup s = some c → ∃ u v, PySem.W.nsIn K d s = some (some u) ∧ RelV v u ∧ ∀ B ρ, Rp K B ρ c v) ∧ ∀ s, tget.lookup s = none → PySem.W.nsIn K d s = some none
section
variable {X : Cx} {o e e2 : Expr} {to te tk : TE} {apos cpos : Pos} {d : Addr} {es : Array DictEntry} {n : Nat}
end
section
variable {X : Cx} {W : WX} {o e e2 : Expr} {f g k : XE} {apos pos : Pos} {x : Str} {tget : List (Str × D)}
end
end Dn

/-! DnEval8: what the plain functions give: texts -/
namespace Dn
open PySem PyProof.Rows L2 Evl
section
variable {M : Mem} {η : Dv} {P : D → Mem → Prop} {PA : List D → Mem → Prop} {PB : Bool → Mem → Prop} {PF : Fl → Mem → Prop} {PX : Exc → Mem → Prop} {f g k : XE} {fa fk : XA} {s u : XS}
end
end Dn

/-! DnHouse: making and methods with keywords; methods with a default left out; del d[k]; xs.remove(text) -/
namespace Dn
open PySem PySem.Spec PyProof.Rows L2 Evl
/-- how the class x is made: by n values and the keywords ks, in the parameters' order -/
structure MkK (P : Program) (w : World) (K : PySem.W.Frag) (mg : Str → Option Value) (base : Heap) (k : Nat) (x : Str) (n : Nat) (ks : List Str) (f : Fn) : Prop where
  ex : ∃ (C a : Addr) (fd : FuncData) (ps : List Str), PySem.W.nsIn K mainGlobals x = some (some (.ref C)) ∧ mg x = some (.ref C) ∧ Mk K C a ∧ FnOk P w K mg base CX0 k a fd ps (spF K mg (1 + n + ks.length) f) ∧ KBn K fd ps (n + 1) ks (fun us ws => us ++ ws) (fun vs zs => vs ++ zs)
section
variable {X : Cx} {W : WX} {o e : Expr} {es : List Expr} {kws : List Keyword} {pos apos : Pos} {f g fo : XE} {fa fk : XA} {x m : Str}
/-! ### methods with keywords, or with defaults left out -/
/-- a method called with n values (self among them) and the keywords ks, in the parameters' order -/
structure MtK (P : Program) (w : World) (K : PySem.W.Frag) (mg : Str → Option Value) (base : Heap) (k : Nat) (x m : Str) (n : Nat) (ks : List Str) (f : Fn) : Prop where
  ex : ∃ (C a : Addr) (fd : FuncData) (ps : List Str), PySem.W.nsIn K mainGlobals x = some (some (.ref C)) ∧ Cls K C ∧ Meth K C m a ∧ FnOk P w K mg base CX0 k a fd ps (spF K mg (n + ks.length) f) ∧ KBn K fd ps n ks (fun us ws => us ++ ws) (fun vs zs => vs ++ zs)
/-- a method called with n values (self among them); dfl fill up -/
structure MtDf (P : Program) (w : World) (K : PySem.W.Frag) (mg : Str → Option Value) (base : Heap) (k : Nat) (x m : Str) (n : Nat) (dfl : List D) (f : Fn) : Prop where
  ex : ∃ (C a : Addr) (fd : FuncData) (ps : List Str) (ds : List Value) (dvs : List V), PySem.W.nsIn K mainGlobals x = some (some (.ref C)) ∧ Cls K C ∧ Meth K C m a ∧ FnOk P w K mg base CX0 k a fd ps (spF K mg (n + dfl.length) f) ∧ Binds K fd ps ds ∧ Vals dvs ds ∧ ∀ B ρ, Rps K B ρ dfl dvs
end

/-! ### del d[k] -/
section
variable {X : Cx} {W : WX} {o i : Expr} {f g : XE} {tpos pos apos cpos : Pos}
end

/-! ### xs.remove(text) -/
section
variable {X : Cx}
end

/-! ### a.f = b.g = c.h = e -/
section
variable {X : Cx} {W : WX} {o value : Expr} {f g : XE} {pos tpos : Pos} {x fl : Str} {fls : List Str}
end

/-! ### <, >, <= of data; min of a list of data -/
section
open PySem.W (alike dataLt AllAlike)
variable {X : Cx}
/-! min of a list of data -/
mutual
theorem toP_inj : ∀ {d e : D} {p : PyData}, toP d = some p → toP e = some p → d = e
  | .non, e, p, h, q => by
    simp only [toP] at h
    cases h
    cases e <;> simp [toP] at q <;> rfl
  | .bl b, e, p, h, q => by
    simp only [toP] at h
    cases h
    cases e <;> simp [toP] at q
    rw [q]
  | .int b, e, p, h, q => by
    simp only [toP] at h
    cases h
    cases e <;> simp [toP] at q
    rw [q]
  | .str b, e, p, h, q => by
    simp only [toP] at h
    cases h
    cases e <;> simp [toP] at q
    rw [q]
  | .lst ds, e, p, h, q => by
    simp only [toP, Option.map_eq_some_iff] at h
    obtain ⟨ps, h1, rfl⟩ := h
    cases e <;> simp [toP] at q
    rw [toPs_inj h1 q]
  | .tup ds, e, p, h, q => by
    simp only [toP, Option.map_eq_some_iff] at h
    obtain ⟨ps, h1, rfl⟩ := h
    cases e <;> simp [toP] at q
    rw [toPs_inj h1 q]
  | .dct _, _, _, h, _ => by simp [toP] at h
  | .dcT _, _, _, h, _ => by simp [toP] at h
  | .ins _ _, _, _, h, _ => by simp [toP] at h
  | .fn _, _, _, h, _ => by simp [toP] at h
  | .scr _, _, _, h, _ => by simp [toP] at h
  | .ptr _, _, _, h, _ => by simp [toP] at h
  | .raw _, _, _, h, _ => by simp [toP] at h
theorem toPs_inj : ∀ {ds es : List D} {ps : List PyData}, toPs ds = some ps → toPs es = some ps → ds = es
  | [], es, ps, h, q => by
    simp only [toPs] at h
    cases h
    cases es with
    | nil => rfl
    | cons e es =>
      simp only [toPs, Option.bind_eq_some_iff, Option.map_eq_some_iff] at q
      obtain ⟨_, _, _, _, z⟩ := q
      cases z
  | d :: ds, es, ps, h, q => by
    simp only [toPs, Option.bind_eq_some_iff, Option.map_eq_some_iff] at h
    obtain ⟨p, h1, ps', h2, rfl⟩ := h
    cases es with
    | nil => simp [toPs] at q
    | cons e es =>
      simp only [toPs, Option.bind_eq_some_iff, Option.map_eq_some_iff] at q
      obtain ⟨p2, q1, ps2, q2, z⟩ := q
      cases z
      rw [toP_inj h1 q1, toPs_inj h2 q2]
end
end

/-! len of a dict -/
section
variable {X : Cx}
end
end Dn

/-! DnLock: walks over dicts that may change (locked while they are walked) -/
namespace Dn
open PySem PySem.Spec PyProof.Rows L2 Evl
section
variable {K : PySem.W.Frag} {F B H : Hp} {ρ : List Addr} {M : Mem}
end
/-- a walk that gives just these, as long as u stands at a in the frame -/
structure WalkL (K : PySem.W.Frag) (J : It) (a : Addr) (u : HO) (B : Hp) (ρ : List Addr) (ds : List D) : Prop where
  w : ∃ (G : Hp → Prop) (Y : Nat → Hp → V → Hp → Prop), Walk J ds.length G Y ∧ (∀ H, H a = some u → G H) ∧
    ∀ (i : Nat) (d : D), ds[i]? = some d → ∀ F B1 ρ1 M H x H2, Le B ρ B1 ρ1 → MR K F B1 ρ1 M H → Y i H x H2 → ∃ B2, Le B1 ρ1 B2 ρ1 ∧ MR K F B2 ρ1 M H2 ∧ Rp K B2 ρ1 d x ∧ Ex H H2
/-- how a locked dict is walked: ex, what comes -/
structure DLk (X : Cx) (tg it e : Expr) (ex : List (L2.Key × D) → List D) : Prop where
  ex : ∃ mk : Addr → Obj → List (L2.Key × V) → It, (∀ td, PE X e td → PI X tg it (fun σ H R => td σ H fun x H1 => ∃ d o kvs, x = .ref d ∧ H1 d = some (.frz o (.dK kvs)) ∧ R (mk d o kvs) H1)) ∧
    ∀ (B : Hp) (ρ : List Addr) (d : Addr) (o : Obj) (kvs : List (L2.Key × V)) (kds : List (L2.Key × D)), Paired (PrD X.K B ρ) kds kvs → WalkL X.K (mk d o kvs) d (.frz o (.dK kvs)) B ρ (ex kds)
section
variable {X : Cx} {W : WX} {tg it e : Expr} {f : XE} {pos : Pos} {exf : List (L2.Key × D) → List D}
end

/-! sorted of a dict by ints -/
/-! name = [.. for .. for ..] -/
section
variable {X : Cx} {W : WX} {tg it tg1 it1 elt : Expr} {f : XE} {pos : Pos}
end
end Dn

/-! DnEval9: plain rules for houses -/
namespace Dn
open PySem L2 Evl
section
variable {η : Dv} {M : Mem} {P : D → Mem → Prop} {PF : Fl → Mem → Prop} {PD : Dv → Mem → Prop} {f g fo el : XE} {fa fk : XA} {s : XS} {x m fl : Str}
end
end Dn

/-! DnItems: list(d.items()) of a dict with tuple keys -/
namespace Dn
open PySem PySem.Spec PyProof.Rows L2 Evl
section
variable {X : Cx} {e : Expr} {te : TE} {p apos cpos pos : Pos}
end
/-! the same on data -/
section
variable {X : Cx} {W : WX} {e : Expr} {f : XE} {p apos cpos pos : Pos}
end
end Dn

/-! DnCount: xs.count(s), xs of texts and None -/
namespace Dn
open PySem PySem.Spec PyProof.Rows L2 Evl
section
variable {X : Cx} {W : WX} {o e : Expr} {f : XE} {fa : XA} {apos cpos : Pos}
variable {η : Dv} {M : Mem} {P : D → Mem → Prop}
end
end Dn

/-! DnLc2P: a comprehension with two generators, the second one over a list that may change -/
namespace Dn
open PySem PySem.Spec PyProof.Rows L2 Evl
section
variable {X : Cx} {W : WX} {tg it tg1 it1 elt : Expr} {pos : Pos} {f : XE}
variable {η : Dv} {M : Mem} {P : D → Mem → Prop}
end
end Dn

/-! DnIndex: xs.index(s), s in xs, a list of texts -/
namespace Dn
open PySem PySem.Spec PyProof.Rows L2 Evl
section
variable {X : Cx} {W : WX} {o e : Expr} {f : XE} {fa : XA} {apos cpos : Pos}
variable {η : Dv} {M : Mem} {P : D → Mem → Prop}
end
end Dn

/-! DnZipQ: zip of a tuple and a list that may change -/
namespace Dn
open PySem PySem.Spec PyProof.Rows L2 Evl
def Cq (q : Nat × List D) (M : Mem) : Prop := M[q.1]? = some (.lst q.2)
structure WalkQ (K : PySem.W.Frag) (J : It) (B : Hp) (ρ : List Addr) (n : Nat × List D) (ds : List D) : Prop where
  w : ∃ (G : Hp → Prop) (Y : Nat → Hp → V → Hp → Prop), Walk J ds.length G Y ∧ (∀ F B1 ρ1 M H, Le B ρ B1 ρ1 → MR K F B1 ρ1 M H → Cq n M → G H) ∧
    ∀ (i : Nat) (d : D), ds[i]? = some d → ∀ F B1 ρ1 M H x H2, Le B ρ B1 ρ1 → MR K F B1 ρ1 M H → Cq n M → Y i H x H2 → ∃ B2, Le B1 ρ1 B2 ρ1 ∧ MR K F B2 ρ1 M H2 ∧ Rp K B2 ρ1 d x ∧ Ex H H2
section
variable {X : Cx} {W : WX} {a b c e e2 o tg it : Expr} {es : List Expr} {f g k : XE} {fa : XA} {p : XT} {pos : Pos}
variable {η : Dv} {M : Mem} {P : D → Mem → Prop}
end
end Dn

/-! DnSetDc: name = {k: v for ..} on one line, the name a local (printed by mksdc.py) -/
namespace Dn
open PySem PyProof.Rows L2 Evl PySem.Spec
section
variable {X : Cx}
end
section
variable {X : Cx} {W : WX} {tg it : Expr}
end
end Dn

/-! DnDc2: name = {k: v for .. in .. if .. for .. in .. if ..} on one line, the keys tuples -/
namespace Dn
open PySem PyProof.Rows L2 Evl PySem.Spec
section
variable {pr : Program} {wo : World} {A : Around} {R : Result → Shared → Prop} {s : Shared} {kx vx u0 j0 u1 j1 : Expr} {c0 c1 : List Expr} {sc : Scope} {pz : Pos} {it acc : Value} {z : Addr} {env : Env}
end
section
variable {X : Cx} {kx vx u0 j0 u1 j1 : Expr} {c0 c1 : List Expr} {sc : Scope} {own : List (Str × Nat)} {vs1 : List Nat} {pz pz' : Pos} {wi wi1 : TI} {g g1 : TG} {tt tt1 : TT} {tk tv : TE}
end
section
variable {X : Cx} {W : WX} {kx vx u0 j0 u1 j1 : Expr} {c0 c1 : List Expr} {sc : Scope} {pz : Pos} {fk fv : XE}
end
section
variable {η : Dv} {M : Mem} {P : D → Mem → Prop}
end
end Dn

/-! DnPop: xs.pop() -/
namespace Dn
open PySem PyProof.Rows L2 Evl PySem.Spec
section
variable {X : Cx} {W : WX} {o : Expr} {f : XE} {apos pos : Pos}
end
section
variable {η : Dv} {M : Mem} {P : D → Mem → Prop}
end
end Dn

/-! DnEnumQ: enumerate of a list that may change -/
namespace Dn
open PySem PySem.Spec PyProof.Rows L2 Evl
section
variable {X : Cx} {W : WX} {e : Expr} {fa : XA}
end
section
variable {η : Dv} {M : Mem} {P : D → Mem → Prop} {fa : XA} {f : XE} {t : XT}
end
end Dn

/-! DnLone: d[k] -= i -/
namespace Dn
open PySem PySem.Spec PyProof.Rows L2 Evl
section
variable {X : Cx}
end
end Dn

/-! KSortN: sorted(xs), xs tuples whose first items are different texts, whatever stands behind -/
namespace Dn
open PySem PySem.Spec PyProof.Rows SrtO
section
variable {prog : Program} {w : World} {A : Around} {E : Value → Shared → Prop} {s : Shared}
/-- a tuple whose first item is the text x -/
def Named (h : Heap) (v : Value) (x : Str) : Prop := ∃ (a : Addr) (o : Obj) (xs : Array Value) (n : Nat) (t : Tok), v = .ref a ∧ h.get? a = some o ∧ o.cls = .type "tuple" ∧ o.data = .seq xs n ∧ xs[0]? = some (.str x t)
theorem Named.keeps {h h' : Heap} {v : Value} {x : Str} (p : Named h v x) (k : ∀ b o, h.get? b = some o → o.cls = .type "tuple" → h'.get? b = some o) : Named h' v x := by
  obtain ⟨a, o, xs, n, t, e, ho, hc, hd, hx⟩ := p
  exact ⟨a, o, xs, n, t, e, k _ _ ho hc, hc, hd, hx⟩
end
end Dn

/-! DnRows: sorted(xs) of tuples with different first texts; for over a zip with a list that may change -/
namespace Dn
open PySem PySem.Spec PyProof.Rows L2 Evl
open PySem.W (EachIs)
section
variable {R : Value → D → Prop}
end
section
variable {X : Cx} {W : WX}
end
/-! for over a zip with a list that may change -/
section
variable {X : Cx} {W : WX} {tg it : Expr} {pos : Pos}
end
section
variable {η : Dv} {M : Mem} {PF : Fl → Mem → Prop} {s : XS} {fa : XA}
end
end Dn

/-! DnSeal: an expression that reads one dict that may change, and nothing else of what may change: the dict is locked meanwhile -/
namespace Dn
open PySem PySem.Spec PyProof.Rows L2 Evl
mutual
def plainD : D → Bool
  | .non => true
  | .bl _ => true
  | .int _ => true
  | .str _ => true
  | .tup ds => plainDs ds
  | .lst ds => plainDs ds
  | _ => false
def plainDs : List D → Bool
  | [] => true
  | d :: ds => plainD d && plainDs ds
end
def notD : HO → Bool
  | .frz _ (.dK _) => false
  | _ => true
section
variable {K : PySem.W.Frag} {B B' : Hp} {ρ ρ' : List Addr}
theorem sqT_tr (h : ∀ a o, B a = some o → notD o = true → B' a = some o) {a : Addr} {vs : List V} (q : SqT K B a vs) : SqT K B' a vs := by
  rcases q with q | q
  · rcases q with q | ⟨o, q⟩
    · exact .inl (.inl (h _ _ q rfl))
    · exact .inl (.inr ⟨o, h _ _ q rfl⟩)
  · exact .inr q
mutual
theorem Rp.plain (h : ∀ a o, B a = some o → notD o = true → B' a = some o) : ∀ {d : D} {v : V}, plainD d = true → Rp K B ρ d v → Rp K B' ρ' d v
  | _, _, _, .non => .non
  | _, _, _, .bl b => .bl b
  | _, _, _, .int i => .int i
  | _, _, _, .str s => .str s
  | _, _, p, .lst e r => .lst (h _ _ e rfl) (Rps.plain h (by unfold plainD at p; exact p) r)
  | _, _, p, .tup q r z => .tup (sqT_tr h q) (Rps.plain h (by unfold plainD at p; exact p) r) (z.imp id fun e => h _ _ e rfl)
  | _, _, p, .dct _ _ => by unfold plainD at p; cases p
  | _, _, p, .dcT _ _ => by unfold plainD at p; cases p
  | _, _, p, .ins _ _ _ => by unfold plainD at p; cases p
  | _, _, p, .fn _ => by unfold plainD at p; cases p
  | _, _, p, .scr _ => by unfold plainD at p; cases p
  | _, _, p, .ptr _ => by unfold plainD at p; cases p
  | _, _, p, .raw _ => by unfold plainD at p; cases p
theorem Rps.plain (h : ∀ a o, B a = some o → notD o = true → B' a = some o) : ∀ {ds : List D} {vs : List V}, plainDs ds = true → Rps K B ρ ds vs → Rps K B' ρ' ds vs
  | _, _, _, .nil => .nil
  | _, _, p, .cons r t => by
    unfold plainDs at p
    rw [Bool.and_eq_true] at p
    exact .cons (Rp.plain h p.1 r) (Rps.plain h p.2 t)
end
end
section
open Classical
variable {K : PySem.W.Frag} {F B H : Hp} {ρ : List Addr} {M : Mem} {a : Addr} {o : HO}
end
section
variable {X : Cx} {W : WX} {e : Expr} {f : XE}
end
/-! for k in d, d frozen -/
section
variable {X : Cx} {W : WX} {e tg : Expr} {f : XE}
end
section
variable {η : Dv} {M : Mem} {P : D → Mem → Prop} {PA : List D → Mem → Prop}
end
/-! d == {}, d != {} -/
section
variable {X : Cx} {pins : List (Addr × Obj)} {σ : L2.St} {H : Hp} {s : Shared}
end
end Dn

/-! KHot: walks over a list, unpacking of a tuple, list comprehensions, while an exception is being handled -/
namespace Kh
open PySem PySem.Spec PyProof.Rows HotX L2 L2H
section
variable {prog : Program} {w : World} {A : Around} {E : Value → Shared → Prop} {s : Shared} {z1 : Addr}
theorem hot_but {h h' : Heap} {b : Addr} (t : HotAt A z1 h) (hb : z1 ≠ b) (k : Heap.SameBut b h h') : HotAt A z1 h' := by
  obtain ⟨e1, u, us, e2, e3, e4⟩ := t
  exact ⟨e1, u, us, (k.2 z1 hb).trans e2, e3, e4⟩
theorem hot_keep {h h' : Heap} (t : HotAt A z1 h) (k : ∀ b o, h.get? b = some o → h'.get? b = some o) : HotAt A z1 h' := by
  obtain ⟨e1, u, us, e2, e3, e4⟩ := t
  exact ⟨e1, u, us, k _ _ e2, e3, e4⟩
theorem nextL_hot {jt ls : Addr} {n : Nat} {vs : Array Value} {Q : Option Value → Shared → Prop} (t : HotAt A z1 s.heap) (hz : z1 ≠ jt) (hi : s.heap.IsListIter jt ls n) (hl : s.heap.IsList ls vs) (hn : vs[n]? = none)
    (hQ : ∀ h2, Heap.ExtBut jt s.heap h2 → Q none { s with heap := h2 }) : wpAny (model prog w) A (pyNext (.ref jt)) Q E s := by
  obtain ⟨oj, e1, e2, e3⟩ := id hi
  obtain ⟨ol, l1, _, _, l2⟩ := hl
  unfold pyNext
  refine wpAny_bind (wpAny_attempt (wpAny_callSpecial?_slot (name := Str.ofString "__next__") hi.typeIs slot_listiter_next (wpAny_call_entry slot_listiter_next hi.typeIs entry_listiter_next ?_ (args_listiter_next _)))); show wpAny _ _ (field (.ref jt) 0 >>= _) _ _ s
  refine wpAny_bind (wpAny_field e1 e3 (x := .ref ls) rfl ?_); show wpAny _ _ (if (Value.ref ls == Value.none) = true then _ else _) _ _ s
  rw [if_neg (show ¬ ((Value.ref ls == Value.none) = true) from Bool.false_ne_true)]; show wpAny _ _ (field (.ref jt) 1 >>= _) _ _ s
  refine wpAny_bind (wpAny_field e1 e3 (x := .int n 0) rfl ?_); show wpAny _ _ (seqItems? (.ref ls) >>= _) _ _ s
  refine wpAny_bind (wpAny_seqItems l1 l2 ?_); simp only [Int.toNat_natCast, hn]
  refine wpAny_bind (wpAny_rule (wpAny_bind (wpAny_setField e1 e3 (by simp) ?_))); show wpAny _ _ (newExc (.type "StopIteration") [] >>= _) _ _ _
  have t1 := fun g => hot_but t hz (Heap.SameBut.update s.heap jt g)
  refine wpAny_bind ?_; simp only [newExc, newTuple]
  refine wpAny_bind (wpAny_newObj_type ?_ (by size_fits)); refine wpAny_bind (m := firstArgMember _ _) (wpAny_of_eq (a := Value.none) (by first | rfl | (simp only [firstArgMember]; rfl)) ?_)
  refine wpAny_newObj_type ?_ (by size_fits); refine raiseNew_hot (x1 := z1) (hot_keep (t1 _) fun b o e => Heap.get?_push_of_some _ (Heap.get?_push_of_some _ e)) ?_ (Heap.get?_push_size _ rfl) rfl (by simp; omega) ?_
  · obtain ⟨_, u, _, e4, _, _⟩ := hot_keep (t1 _) fun b o e => Heap.get?_push_of_some _ e
    exact Nat.ne_of_lt (Heap.lt_size e4)
  refine wpAny_bind (wpAny_isInstance (T := "StopIteration") (b := true) ⟨_, Heap.get?_update_self _ (Heap.get?_push_size _ rfl) rfl, rfl⟩ isSubtype_stop ?_); refine wpAny_pure (hQ _ fun b o hb e => ?_)
  have e5 : ∀ g, (s.heap.update jt g).get? b = some o := fun g => ((Heap.SameBut.update s.heap jt g).2 b hb).trans e
  exact (Heap.get?_update_other _ _ (Nat.ne_of_gt (Heap.lt_size (Heap.get?_push_of_some _ (e5 _))))).trans (Heap.get?_push_of_some _ (Heap.get?_push_of_some _ (e5 _)))
theorem nextT_hot {jt ls : Addr} {n : Nat} {vs : Array Value} {Q : Option Value → Shared → Prop} (t : HotAt A z1 s.heap) (hz : z1 ≠ jt) (hi : IsTupIter s.heap jt ls n) (hl : IsTup s.heap ls vs) (hn : vs[n]? = none)
    (hQ : ∀ h2, Heap.ExtBut jt s.heap h2 → Q none { s with heap := h2 }) : wpAny (model prog w) A (pyNext (.ref jt)) Q E s := by
  obtain ⟨oj, e1, e2, e3⟩ := id hi
  obtain ⟨ol, l1, _, _, l2⟩ := hl
  unfold pyNext
  refine wpAny_bind (wpAny_attempt (wpAny_callSpecial?_slot (name := Str.ofString "__next__") hi.typeIs slot_tupleiter_next (wpAny_call_entry slot_tupleiter_next hi.typeIs entry_tupleiter_next ?_ (args_tupleiter_next _)))); show wpAny _ _ (field (.ref jt) 0 >>= _) _ _ s
  refine wpAny_bind (wpAny_field e1 e3 (x := .ref ls) rfl ?_); show wpAny _ _ (if (Value.ref ls == Value.none) = true then _ else _) _ _ s
  rw [if_neg (show ¬ ((Value.ref ls == Value.none) = true) from Bool.false_ne_true)]; show wpAny _ _ (field (.ref jt) 1 >>= _) _ _ s
  refine wpAny_bind (wpAny_field e1 e3 (x := .int n 0) rfl ?_); show wpAny _ _ (seqItems? (.ref ls) >>= _) _ _ s
  refine wpAny_bind (wpAny_seqItems l1 l2 ?_); simp only [Int.toNat_natCast, hn]
  refine wpAny_bind (wpAny_rule (wpAny_bind (wpAny_setField e1 e3 (by simp) ?_))); show wpAny _ _ (newExc (.type "StopIteration") [] >>= _) _ _ _
  have t1 := fun g => hot_but t hz (Heap.SameBut.update s.heap jt g)
  refine wpAny_bind ?_; simp only [newExc, newTuple]
  refine wpAny_bind (wpAny_newObj_type ?_ (by size_fits)); refine wpAny_bind (m := firstArgMember _ _) (wpAny_of_eq (a := Value.none) (by first | rfl | (simp only [firstArgMember]; rfl)) ?_)
  refine wpAny_newObj_type ?_ (by size_fits); refine raiseNew_hot (x1 := z1) (hot_keep (t1 _) fun b o e => Heap.get?_push_of_some _ (Heap.get?_push_of_some _ e)) ?_ (Heap.get?_push_size _ rfl) rfl (by simp; omega) ?_
  · obtain ⟨_, u, _, e4, _, _⟩ := hot_keep (t1 _) fun b o e => Heap.get?_push_of_some _ e
    exact Nat.ne_of_lt (Heap.lt_size e4)
  refine wpAny_bind (wpAny_isInstance (T := "StopIteration") (b := true) ⟨_, Heap.get?_update_self _ (Heap.get?_push_size _ rfl) rfl, rfl⟩ isSubtype_stop ?_); refine wpAny_pure (hQ _ fun b o hb e => ?_)
  have e5 : ∀ g, (s.heap.update jt g).get? b = some o := fun g => ((Heap.SameBut.update s.heap jt g).2 b hb).trans e
  exact (Heap.get?_update_other _ _ (Nat.ne_of_gt (Heap.lt_size (Heap.get?_push_of_some _ (e5 _))))).trans (Heap.get?_push_of_some _ (Heap.get?_push_of_some _ (e5 _)))
theorem hot_lt {h : Heap} (t : HotAt A z1 h) : z1 < h.objs.size := let ⟨_, _, _, e, _, _⟩ := t; Heap.lt_size e
/-- a, b, .. = a tuple of that length -/
theorem unpackT_hot {ls : Addr} {vs : Array Value} {tg : List (Bool × (Value → Sem Unit))} {Q : Unit → Shared → Prop} (t : HotAt A z1 s.heap) (hl : IsTup s.heap ls vs) (hn : tg.length = vs.size) (hs : tg.findIdx? (·.1) = none)
    (h : ∀ h2, Heap.ExtBut s.heap.objs.size s.heap h2 → wpAny (model prog w) A (assignInOrder (tg.map (·.2)) vs.toList) Q E { s with heap := h2 }) : wpAny (model prog w) A (unpack (.ref ls) tg) Q E s := by
  have hne : ls ≠ s.heap.objs.size := by
    obtain ⟨oo, e0, _⟩ := hl; exact Nat.ne_of_lt (Heap.lt_size e0)
  have t1 := hot_keep t fun b o e => Heap.get?_push_of_some { cls := .type "tuple_iterator", data := .fields #[.ref ls, rawInt 0] } e
  unfold unpack; rw [hn, hs]
  refine wpAny_bind (wpAny_holding ?_); unfold unpackItems
  refine wpAny_bind ?_; unfold notIterableAtAll
  refine wpAny_bind (wpAny_specialOf hl.typeIs slot_tuple_iter.lookup (wpAny_pure ?_)); simp only [Bool.false_eq_true, if_false]
  refine wpAny_bind (wpAny_holding (iter_tuple hl ?_)); refine wpAny_bind (wpAny_holding (draw_tuple hne vs.size 0 _ _ ⟨_, Heap.get?_push_size _ rfl, rfl, rfl⟩ (hl.push _) (by omega) fun h3 i3 b3 => ?_))
  rw [show List.take vs.size (List.drop 0 vs.toList) = vs.toList from by rw [List.drop_zero]; exact List.take_of_length_le (by simp)]; rw [if_neg (by simp)]
  have l3 : IsTup h3 ls vs := (hl.push _).extBut b3.extBut hne
  have nz : z1 ≠ s.heap.objs.size := Nat.ne_of_lt (hot_lt t)
  refine wpAny_bind (wpAny_holding (nextT_hot (z1 := z1) (hot_but t1 nz b3) nz i3 l3 (by simp) fun h4 b4 => ?_)); simp only [Option.isSome_none, Bool.false_eq_true, if_false]
  exact wpAny_pure (h h4 fun b o hb e => b4 b o hb (b3.extBut b o hb (Heap.get?_push_of_some _ e)))
end
section
variable {X : Cx} {tg : Expr}
theorem pg_tupH {es : List Expr} {k : Nat} {t : TGs} {n : Nat} {pos : Pos} (hc : HotC X) (h : PGs X es t) (hn : (assignEach es X.env).length = n := by rfl) (hst : (assignEach es X.env).findIdx? (·.1) = none := by rfl) : PG X (.Tuple es k pos) (gTup X.K n t) := by
  refine ⟨fun pins s σ H v u Q I r ⟨a, xs, e1, hq, hl, hw⟩ => ?_⟩; subst e1; cases r
  obtain ⟨its, rv, ht, hz⟩ := I.tuple hq; obtain ⟨z1, t1⟩ := hc.at I
  rw [PyProof.Rows.assign_Tuple]; refine wpAny_bind (wpAny_standAt (unpackT_hot t1 ht (by simp [hn, ← hl, rv.length]) hst fun h2 b2 => ?_))
  exact h.run pins _ σ H xs _ Q (I.kept (t' := s.toks) fun b o e => b2 b o (Nat.ne_of_lt (Heap.lt_size e)) e) (by simpa using rv) hw
end
/-! ### iterators of lists -/
theorem hotAt_pin {X : Cx} {pins : List (Addr × Obj)} {σ : L2.St} {H : Hp} {s : Shared} {p : Addr × Obj} (h1 : Hot1 X.A p) (hp : p ∈ X.pn) (I : Inv X pins σ H s) : HotAt X.A p.1 s.heap := by
  obtain ⟨hh, v, e, c⟩ := h1
  exact ⟨hh, p.2, v, (I.pin p (List.mem_append_left _ hp)).1, e, c⟩
theorem turnL_hot {P : Program} {w : World} {K : PySem.W.Frag} {tg : Expr} (a jt : Addr) : TurnH P w K tg (Itl K a) [jt] jt (fun i h => h.IsListIter jt a i) where
  mem := List.mem_singleton.mpr rfl
  obj := fun i h st b hb => by
    rw [List.mem_singleton.mp hb]
    obtain ⟨oo, e0, _, d0⟩ := st; exact ⟨oo, e0, fun v z => by rw [d0] at z; cases z⟩
  keep := fun i h h' st k => st.at fun o e => k jt (List.mem_singleton.mpr rfl) o e
  item := fun X hP hw hK hc i pins s σ H E I hf st hg => by
    subst hP hw hK
    obtain ⟨xs, x, hq, hx⟩ := hg; obtain ⟨its, rv, pl, hz⟩ := I.list hq; obtain ⟨u, hu, ru⟩ := rv.get hx
    obtain ⟨f0, f1, f2, f3, f4, f5⟩ := hf jt (List.mem_singleton.mpr rfl)
    refine wpAny_pyNext_list_item st pl.isList (x := u) (by simpa using hu) fun h2 st2 sb => ?_
    have I1 : Inv X pins σ H { s with heap := h2 } := I.turned (t' := s.toks) (fun b o hb e => (sb.2 b hb).trans e) f0 f1 f3 f4 f5
    obtain ⟨o, e, c, d⟩ := id st2
    exact ⟨u, rfl, go_of (s := { s with heap := h2 }) e c d (by decide) ⟨x, H, I1, ru, ⟨rfl, fun ys hy => by rw [I.list_inj hy hq]; exact hx⟩, st2, fun b hb => (hf b hb).1⟩⟩
  done := fun X hP hw hK hc i pins s σ H E I hf st hg => by
    subst hP hw hK
    obtain ⟨xs, hq, hx⟩ := hg; obtain ⟨its, rv, pl, hz⟩ := I.list hq; obtain ⟨p, h1, hp⟩ := hc
    obtain ⟨f0, f1, f2, f3, f4, f5⟩ := hf jt (List.mem_singleton.mpr rfl)
    have hl := rv.length
    exact nextL_hot (hotAt_pin h1 hp I) (f5 p (List.mem_append_left _ hp)) st pl.isList (by simp; omega) fun h2 eb => ⟨rfl, I.turned (t' := s.toks) (fun b o hb e => eb b o hb e) f0 f1 f3 f4 f5⟩
  self := fun _ _ _ _ _ st hq => wpAny_pyIter_listiter st hq
theorem piL_hot {X : Cx} {tg l : Expr} {tl : TE} (hl : PE X l tl) : PIH X tg l (iList X.K tl) := ⟨fun pins s σ H R I h => thn (hl.run pins s σ H _ I h) fun v s1 ⟨x, H1, I1, r1, q1⟩ => by
  obtain ⟨a, e, ⟨xs, hq⟩, q⟩ := q1; subst e; cases r1
  obtain ⟨its, rv, pl, hz⟩ := I1.list hq
  refine wpAny_pyIter_list pl.isList ⟨s1.heap.objs.size, [s1.heap.objs.size], _, _, H1, rfl, I1.kept (t' := s1.toks) fun b o e => Heap.get?_push_of_some _ e, turnL_hot a _, ⟨_, Heap.get?_push_size _ rfl, rfl, rfl⟩, fun b hb => ?_, q⟩
  rw [List.mem_singleton.mp hb]
  exact I1.fpOk (Nat.le_refl _) (I1.hok.fresh (Nat.le_refl _))⟩
/-! ### a comprehension over a list -/
/-- the block's context; it bears the pin of the handled exception -/
abbrev blkH (X : Cx) (p : Addr × Obj) (s : Shared) (H : Hp) (scope : Scope) (cenv : Env) (fp : List Addr) : Cx := { X.blk s H scope cenv fp with pn := [p] }
section
variable {X : Cx}
theorem inv_blkH {pins : List (Addr × Obj)} {σ σ' : L2.St} {H : Hp} {s s2 s3 : Shared} {p : Addr × Obj} {scope : Scope} {cenv : Env} {fp : List Addr} (hp : p ∈ X.pn) (I0 : Inv X pins σ H s2) (I : Inv (X.blk s H scope cenv fp) [] σ' H s3) (hk : ∀ b o, s2.heap.get? b = some o → s3.heap.get? b = some o) (hlo : p.1 ≠ cenv.locals) (hst : p.1 ∉ frs X.stack) : Inv (blkH X p s H scope cenv fp) [] σ' H s3 := by
  obtain ⟨⟨a1, a2, a3, a4, a5, a6, a7, a8, a9, a10, a11, a12, a13, a14, a15, a16, a17, a18⟩, b2, b3, b4, b5, b6, b7, b8, b9, b10, b11⟩ := I
  have q := I0.pin p (List.mem_append_left _ hp)
  exact ⟨⟨a1, a2, a3, a4, a5, a6, a7, a8, a9, a10, a11, a12, a13, a14, a15, a16, a17, a18⟩, b2, b3, b4, b5, b6, b7, b8, fun r hr => by
    have : r = p := by simpa using (show r ∈ [p] ++ ([] : List (Addr × Obj)) from hr)
    rw [this]
    exact ⟨hk _ _ q.1, q.2.1, hlo, hst, q.2.2.2.2⟩, b10, b11⟩
variable {pins : List (Addr × Obj)} {s : Shared} {σ : L2.St} {H : Hp} {Q : VK} {elt tg iter : Expr} {ifs : List Expr} {scope : Scope} {own : List (Str × Nat)} {pos pos2 : Pos} {wi : TI} {g : TG} {tt : TT} {te : TE} {use : Option (Value → Sem Unit)} {Qf : Value → Shared → Prop}
theorem lc_hot {p : Addr × Obj} (h1 : Hot1 X.A p) (hp : p ∈ X.pn) (hN : X.N.Nodup) (I : Inv X pins σ H s) (hi : PIH X tg iter wi) (ok : BlkOk X.N X.env.scope scope own)
    (hg : ∀ (s : Shared) (H : Hp) (C : Addr) (cl : List (Str × Addr)) (fp : List Addr), PG (blkH X p s H scope (compEnvC scope cl C X.env) fp) tg g) (ht : ∀ (s : Shared) (H : Hp) (C : Addr) (cl : List (Str × Addr)) (fp : List Addr), PTs (blkH X p s H scope (compEnvC scope cl C X.env) fp) ifs tt)
    (he : ∀ (s : Shared) (H : Hp) (C : Addr) (cl : List (Str × Addr)) (fp : List Addr), PE (blkH X p s H scope (compEnvC scope cl C X.env) fp) elt te) (hs : ∀ x, foldedSetIterable iter X.env x = pure x) (h : tLc wi g tt te (own.map (·.2)) σ H Q)
    (hR : ∀ Dn0 C s' m H', Inv X pins σ H' s' → Q (.ref Dn0) H' → s'.heap.Ns C m → FpOk X pins H' C → compPost (model X.prog X.w) X.A X.xe use Qf (.ref Dn0) C (.ok .next) s') :
    wpAny (model X.prog X.w) X.A (comprehension (.ListComp elt [⟨tg, iter, ifs, 0⟩] scope pos) scope X.env pos2 (newList []) false (eval iter X.env) use) Qf X.xe s := by
  have fr : ∀ y ∈ scope.names, y.2 = .free → ∃ c, X.env.cells.lookup y.1 = some c := fun y hy e => (ok.free y hy e).elim (fun k => I.ok.has _ (.inl k)) fun k => I.ok.has _ (.inr k)
  refine wpAny_comprehension_free (use := use) rfl hs (closure_ok fr) ok.kind (fun y hy e => by rw [ok.uniq y hy, e]) (thn (hi.run pins s σ H _ I h) fun xv s1 hx => thn hx fun itv sb2 ⟨jt, fp, tn, J, H2, e, Jb, Tn, stb, okb, q⟩ => ?_)
  subst e
  refine wpAny_newObj_type (newEnv_comp ?_) (by show 0 ≤ sizeLine; decide); generalize hD : sb2.heap.objs.size = Dn0; obtain ⟨Wm, ⟨m0, w0⟩, turn⟩ := q Dn0 (Jb.hok.fresh (Nat.le_of_eq hD))
  generalize eqc : ({ sb2 with heap := sb2.heap.push { cls := .type "list", data := .seq ([] : List Value).toArray } } : Shared) = sc
  have e3 : sc.heap = sb2.heap.push { cls := .type "list", data := .seq ([] : List Value).toArray } := by rw [← eqc]
  have Jc : Inv X pins σ (upd H2 Dn0 (.lst [])) sc := by
    rw [← eqc]
    exact Jb.laid (t' := sb2.toks) (fun b o e => Heap.get?_push_of_some _ e) (Nat.le_of_eq hD) ⟨Nat.zero_le _, [], 0, .nil, by rw [← hD]; exact Heap.get?_push_size _ rfl⟩
  have okf : ∀ b ∈ fp, FpOk X pins (upd H2 Dn0 (.lst [])) b ∧ b < sc.heap.objs.size := fun b hb => by
    obtain ⟨o, e, _⟩ := Tn.obj _ _ stb b hb
    have lt := Heap.lt_size e
    exact ⟨⟨by rw [upd_ne (by rw [← hD]; exact Nat.ne_of_lt lt)]; exact (okb b hb).1, (okb b hb).2⟩, by rw [e3, Heap.size_push]; exact Nat.lt_succ_of_lt lt⟩
  have std : tn 0 sc.heap := Tn.keep _ _ _ stb fun b _ o e => by rw [e3]; exact Heap.get?_push_of_some _ e
  have Jd := block_start Jc ok hN okf
  have pin := Jc.pin p (List.mem_append_left _ hp)
  have Je := inv_blkH (p := p) hp Jc Jd (fun b o e => pushCells_keeps _ _ _ _ (Heap.get?_push_of_some _ e)) (Nat.ne_of_lt (Heap.lt_size pin.1)) fun hm => (List.mem_cons.mp (Jc.stkSub p.1 hm)).elim pin.2.2.1 pin.2.2.2.1
  have rg := hg sc (upd H2 Dn0 (.lst [])) sc.heap.objs.size (cellsFrom (sc.heap.objs.size + 1) scope.names (cloFrom X.env.cells scope.names [])) fp
  have rt2 := ht sc (upd H2 Dn0 (.lst [])) sc.heap.objs.size (cellsFrom (sc.heap.objs.size + 1) scope.names (cloFrom X.env.cells scope.names [])) fp
  have re := he sc (upd H2 Dn0 (.lst [])) sc.heap.objs.size (cellsFrom (sc.heap.objs.size + 1) scope.names (cloFrom X.env.cells scope.names [])) fp
  show codeAny _ _ (.compStart (.ListComp elt [⟨tg, iter, ifs, 0⟩] scope pos) 0 (.ref jt) (.ref Dn0) (compEnvC scope (cellsFrom (sc.heap.objs.size + 1) scope.names (cloFrom X.env.cells scope.names [])) sc.heap.objs.size X.env)) (compPost (model X.prog X.w) X.A X.xe use Qf (.ref Dn0) sc.heap.objs.size) { sc with heap := pushCells (sc.heap.push { cls := .type "dict", data := .dict #[] }) scope.names }
  generalize hcv : compEnvC scope (cellsFrom (sc.heap.objs.size + 1) scope.names (cloFrom X.env.cells scope.names [])) sc.heap.objs.size X.env = cv at Je rg rt2 re ⊢
  have cvl : cv.locals = sc.heap.objs.size := by subst hcv; rfl
  have offp : ∀ b ∈ fp, (upd H2 Dn0 (.lst [])) b = none := fun b hb => (okf b hb).1.1
  generalize hH3 : upd H2 Dn0 (.lst []) = H3 at Jc Je rg rt2 re w0 offp okf
  generalize eqd : ({ sc with heap := pushCells (sc.heap.push { cls := .type "dict", data := .dict #[] }) scope.names } : Shared) = sd at Je ⊢
  have ste : tn 0 sd.heap := Tn.keep _ _ _ std fun b _ o e => by rw [← eqd]; exact pushCells_keeps _ _ _ _ (Heap.get?_push_of_some _ e)
  have hcB : HotC (blkH X p sc H3 scope cv fp) := ⟨p, h1, List.mem_singleton.mpr rfl⟩
  have fpo : ∀ {σ' : L2.St} {H' : Hp} {s' : Shared}, Inv (blkH X p sc H3 scope cv fp) [] σ' H' s' → (∀ b ∈ fp, H' b = none) → ∀ b ∈ fp, FpOk (blkH X p sc H3 scope cv fp) [] H' b := fun {σ' H' s'} I' hn b hb => ⟨hn b hb, (I'.ok.exf b hb).1, I'.ok.exfs b hb, .inl hb, fun x c e => (I'.ok.exf b hb).2 x c e, fun r hr => by
    have e : r = p := by simpa using (show r ∈ [p] ++ ([] : List (Addr × Obj)) from hr)
    rw [e]
    exact (okf b hb).1.2.2.2.2.2 p (List.mem_append_left _ hp)⟩
  have lp : codeAny (model X.prog X.w) X.A (.compLoop (.ListComp elt [⟨tg, iter, ifs, 0⟩] scope pos) 0 (.ref jt) (.ref Dn0) cv) (compPost (model X.prog X.w) X.A X.xe use Qf (.ref Dn0) sc.heap.objs.size) sd := by
    refine compLoop_any (fun n s' => ∃ i H', Inv (blkH X p sc H3 scope cv fp) [] (wipe σ (own.map (·.2))) H' s' ∧ tn i s'.heap ∧ (∀ b ∈ fp, H' b = none) ∧ Wm i n H') ?_ m0 ⟨0, H3, Je, ste, offp, w0⟩
    rintro n s6 ⟨i, H6, I6, st6, n6, w6⟩
    rcases turn i n H6 w6 with ⟨stop, qq⟩ | ⟨go, Nx, hnext, step⟩
    · refine thnF (Tn.done (blkH X p sc H3 scope cv fp) rfl rfl rfl hcB i [] s6 _ H6 (fun _ _ => False) I6 (fpo I6 n6) st6 stop) fun r s7 ⟨hr, I7⟩ => ?_
      subst hr
      have I8 : Inv X pins σ H6 s7 := Jc.call' (ch := fp) I7.os I7.base I7.hok I7.bare fun b hb => ⟨(okf b hb).1.2.2.2.1, (okf b hb).1.2.1, (okf b hb).1.2.2.2.2.1, (okf b hb).1.2.2.2.2.2⟩
      have nC : H6 sc.heap.objs.size = none := cvl ▸ I7.free
      obtain ⟨mm, hn, _⟩ := I7.loc
      exact hR Dn0 sc.heap.objs.size s7 mm H6 I8 qq (cvl ▸ hn) (Jc.fpOk (Nat.le_refl _) nC)
    · refine thnF (Tn.item (blkH X p sc H3 scope cv fp) rfl rfl rfl hcB i [] s6 _ H6 (fun _ _ => False) I6 (fpo I6 n6) st6 go) fun r s7 ⟨u, hr, h7⟩ => ?_
      subst hr
      refine thnF h7 fun _ s8 ⟨x, H8, I8, r8, y8, st8, n8⟩ => thnF (rg.run _ s8 _ H8 x u _ (I8.pinned (fpo I8 n8) (Tn.obj _ _ st8)) r8 (step x H8 y8)) fun _ s9 ⟨σ9, H9, I9, hw9, q9⟩ => thnF (rt2.run _ s9 σ9 H9 _ I9 q9) fun b s10 ⟨H10, I10, q10⟩ => ?_
      have fin : ∀ {s' : Shared} {H' : Hp}, Inv (blkH X p sc H3 scope cv fp) ([] ++ pinsAt fp s8.heap) σ9 H' s' → Nx H' → ∃ m, m < n ∧ ∃ i H', Inv (blkH X p sc H3 scope cv fp) [] (wipe σ (own.map (·.2))) H' s' ∧ tn i s'.heap ∧ (∀ b ∈ fp, H' b = none) ∧ Wm i m H' := fun {s' H'} I' nx => by
        obtain ⟨m', hm, w'⟩ := hnext H' nx
        have pn2 : ∀ b ∈ fp, ∀ o, s8.heap.get? b = some o → s'.heap.get? b = some o ∧ H' b = none := fun b hb o e => let z := I'.pin (b, o) (List.mem_append_right _ (List.mem_append_right _ (mem_pinsAt hb e))); ⟨z.1, z.2.1⟩
        refine ⟨m', hm, i + 1, H', (I'.unpinned (pins := [])).weak (by rw [← hw9, wipe_length]) (fun j v e => ?_), Tn.keep _ _ _ st8 fun b hb o e => (pn2 b hb o e).1, fun b hb => ?_, w'⟩
        · exact (wipe_some (hw9 ▸ e)).1
        · obtain ⟨o, e, _⟩ := Tn.obj _ _ st8 b hb
          exact (pn2 b hb o e).2
      cases b with
      | false => exact fin I10 q10
      | true => exact thnF (re.run _ s10 σ9 H10 _ I10 q10) fun z s11 ⟨yv, H11, I11, r11, acc, hD11, hz11, nx⟩ => app_ok (X := blkH X p sc H3 scope cv fp) I11 hD11 hz11 r11 fun s12 I12 => fin I12 nx
  exact codeAny_compStart_list lp (Tn.self X.A 0 _ _ _ ste lp)
/-- the same, put to a local name on one row -/
theorem ps_setLcH {i : Nat} {y : Str} {py spos : Pos} (hc : HotC X) (hN : X.N.Nodup) (hy : X.N[i]? = some y) (hyl : X.env.scope.names.lookup y = some .local) (hsw : swapsWith (.ListComp elt [⟨tg, iter, ifs, 0⟩] scope pos) (some (.Name y py)) spos.line X.env = pure true) (hi : PIH X tg iter wi) (ok : BlkOk X.N X.env.scope scope own)
    (hg : ∀ (p : Addr × Obj) (s : Shared) (H : Hp) (C : Addr) (cl : List (Str × Addr)) (fp : List Addr), Hot1 X.A p → PG (blkH X p s H scope (compEnvC scope cl C X.env) fp) tg g) (ht : ∀ (p : Addr × Obj) (s : Shared) (H : Hp) (C : Addr) (cl : List (Str × Addr)) (fp : List Addr), PTs (blkH X p s H scope (compEnvC scope cl C X.env) fp) ifs tt)
    (he : ∀ (p : Addr × Obj) (s : Shared) (H : Hp) (C : Addr) (cl : List (Str × Addr)) (fp : List Addr), PE (blkH X p s H scope (compEnvC scope cl C X.env) fp) elt te) (hs : ∀ x, foldedSetIterable iter X.env x = pure x := by intro _; rfl) :
    PS X (.Assign [.Name y py] (.ListComp elt [⟨tg, iter, ifs, 0⟩] scope pos) spos) (tAsg (tLc wi g tt te (own.map (·.2))) (gName i)) := ⟨fun pins s σ H D I h => by
  obtain ⟨p, h1, hp⟩ := hc
  rw [exec_Assign_Name_used _ _ _ _ hsw]; refine wpAny_bind (wpAny_standAt (wpAny_bind ?_)); show wpAny _ X.A (do let _ ← comprehension (.ListComp elt [⟨tg, iter, ifs, 0⟩] scope pos) scope X.env (firstIterPos [⟨tg, iter, ifs, 0⟩] pos) (newList []) false (eval iter X.env) (some (assign (.Name y py) X.env))) _ _ s
  have hh : tLc wi g tt te (own.map (·.2)) σ H (fun x H1 => gName i x σ H1 D.nx) := h
  refine wpAny_bind (thn (lc_hot (Qf := fun _ s' => SP X pins D .next s') h1 hp hN I hi ok (fun s H C cl fp => hg p s H C cl fp h1) (fun s H C cl fp => ht p s H C cl fp) (fun s H C cl fp => he p s H C cl fp) hs hh fun L C s' m H' I' q hn ⟨f0, f1, f2, f3, f4, f5⟩ => ?_) fun _ s' hq => wpAny_pure (wpAny_pure hq))
  show wpAny _ _ (assign (.Name y py) X.env (.ref L)) _ _ _; refine wpAny_assign_Name (store_ok2 (v := V.ref L) I' hN hy (.inl hyl) rfl (fun sx Ix ⟨a, sb, ha⟩ => ?_) (.inr hyl))
  have haC : C ≠ a := ha.elim (fun z => z ▸ f1) fun z e => f4 y a z e.symm
  exact ⟨m, hn.sameBut sb haC, fun h3 sb3 => ⟨_, H', Ix.turned (t' := sx.toks) (fun b o hb e => (sb3.2 b hb).trans e) f0 f1 f3 f4 f5, q⟩⟩⟩
end
end Kh

/-! KTry: several clauses `except (A, B, ..) as n` -/
namespace Kh
open PySem PySem.Spec PyProof.Rows L2
theorem fly_up {B : Heap} {l : List Env} {e : Addr} {Z : Obj → Prop} {h h2 : Heap} (f : HandSPX.FlyingZ B l e Z h) (k : ∀ b o, h.get? b = some o → h2.get? b = some o) : HandSPX.FlyingZ B l e Z h2 := by
  obtain ⟨f1, f2, f3, oe, vs, T, oT, ts, a1, a2, a3, a4, a5, a6, a7, a8, a9⟩ := f
  exact ⟨fun b o hb => k b o (f1 b o hb), f2, f3.of_keeps fun b o hb _ => ⟨_, k b o hb, rfl⟩, oe, vs, T, oT, ts, k _ _ a1, a2, a3, a4, a5, a6, k _ _ a7, a8, a9⟩
theorem ups_of {h h2 : Heap} (k : ∀ b o, h.get? b = some o → h2.get? b = some o) : h.UpToSlots h2 := fun b o e _ => ⟨o.slots, k b o e⟩
/-- what a clause's expression comes to: whether a class is matched -/
structure TyOk (X : Cx) (te : Expr) (mt : Value → Option Bool) : Prop where
  run : ∀ {a : Addr} {oe : Obj} {pn : List (Addr × Obj)} {σ : L2.St} {H : Hp} {s : Shared} {cls : Value} {b : Bool} {Q : Value → Shared → Prop} {E : Value → Shared → Prop}, Inv (X.suite a ((a, oe) :: pn)) [] σ H s → PySem.W.Looks (model X.prog X.w) s.heap (typeOf (.ref a)) cls → mt cls = some b →
  (∀ c h2, (∀ b o, s.heap.get? b = some o → h2.get? b = some o) → PySem.W.Looks (model X.prog X.w) h2 (excMatches (.ref a) c) b → Q c { s with heap := h2 }) → wpAny (model X.prog X.w) (X.A.mark (some (.ref a))) (eval te X.env) Q E s
theorem name_at {X : Cx} {a : Addr} {oe : Obj} {pn : List (Addr × Obj)} {σ : L2.St} {H : Hp} {s : Shared} {x : Str} {c : Value} {p : Pos} {Q : Value → Shared → Prop} {E : Value → Shared → Prop} (I : Inv (X.suite a ((a, oe) :: pn)) [] σ H s) (hc : Names X x c) (q : Q c s) : wpAny (model X.prog X.w) (X.A.mark (some (.ref a))) (eval (.Name x p) X.env) Q E s := by
  obtain ⟨hg, hd, hm | ⟨hm, hv, hn⟩⟩ := hc
  · exact ld_glob (X := X.suite a ((a, oe) :: pn)) I hg hm q hd
  · exact ld_blt (X := X.suite a ((a, oe) :: pn)) I hg hm hv q hn hd
theorem ty_one {X : Cx} {x : Str} {c : Value} {p : Pos} (hc : Names X x c) : TyOk X (.Name x p) fun cls => PySem.W.exmOne X.K cls c := ⟨fun I L e q => name_at I hc (q c _ (fun _ _ z => z) (PySem.W.exm_one (M := model X.prog X.w) I.kIn L e))⟩
section
variable {X : Cx} {x1 x2 x3 x4 : Str} {c1 c2 c3 c4 : Value} {p1 p2 p3 p4 tp : Pos} {kk : Nat}
theorem ty_two (h1 : Names X x1 c1) (h2 : Names X x2 c2) : TyOk X (.Tuple [.Name x1 p1, .Name x2 p2] kk tp) fun cls => PySem.W.exmAny X.K cls [c1, c2] := ⟨fun {a oe pn σ H s cls b Q E} I L e q => by
  have k : ∀ b o, s.heap.get? b = some o → (s.heap.push { cls := .type "tuple", dict := none, data := .seq [c1, c2].toArray }).get? b = some o := fun b o z => Heap.get?_push_of_some _ z
  exact Tuple_ (spliced_more (name_at I h1 (spliced_more (name_at I h2 (spliced_none (wpAny_newObj_type (q _ _ k (PySem.W.exm_tup2 (M := model X.prog X.w) (I.kIn.keeps k) (L.keeps k) (Heap.get?_push_size _ rfl) e))))))))⟩
theorem ty_three (h1 : Names X x1 c1) (h2 : Names X x2 c2) (h3 : Names X x3 c3) : TyOk X (.Tuple [.Name x1 p1, .Name x2 p2, .Name x3 p3] kk tp) fun cls => PySem.W.exmAny X.K cls [c1, c2, c3] := ⟨fun {a oe pn σ H s cls b Q E} I L e q => by
  have k : ∀ b o, s.heap.get? b = some o → (s.heap.push { cls := .type "tuple", dict := none, data := .seq [c1, c2, c3].toArray }).get? b = some o := fun b o z => Heap.get?_push_of_some _ z
  exact Tuple_ (spliced_more (name_at I h1 (spliced_more (name_at I h2 (spliced_more (name_at I h3 (spliced_none (wpAny_newObj_type (q _ _ k (PySem.W.exm_tup3 (M := model X.prog X.w) (I.kIn.keeps k) (L.keeps k) (Heap.get?_push_size _ rfl) e))))))))))⟩
theorem ty_four (h1 : Names X x1 c1) (h2 : Names X x2 c2) (h3 : Names X x3 c3) (h4 : Names X x4 c4) : TyOk X (.Tuple [.Name x1 p1, .Name x2 p2, .Name x3 p3, .Name x4 p4] kk tp) fun cls => PySem.W.exmAny X.K cls [c1, c2, c3, c4] := ⟨fun {a oe pn σ H s cls b Q E} I L e q => by
  have k : ∀ b o, s.heap.get? b = some o → (s.heap.push { cls := .type "tuple", dict := none, data := .seq [c1, c2, c3, c4].toArray }).get? b = some o := fun b o z => Heap.get?_push_of_some _ z
  exact Tuple_ (spliced_more (name_at I h1 (spliced_more (name_at I h2 (spliced_more (name_at I h3 (spliced_more (name_at I h4 (spliced_none (wpAny_newObj_type (q _ _ k (PySem.W.exm_tup4 (M := model X.prog X.w) (I.kIn.keeps k) (L.keeps k) (Heap.get?_push_size _ rfl) e))))))))))))⟩
end
abbrev Clause := (Value → Option Bool) × (Addr → Value → Option Addr → TS)
/-- what the clauses wish of an exception of the body; slot i is the name's -/
def wClauses (i : Nat) (Wout : WX) (D : Ends) : List Clause → WX
  | [] => Wout
  | (mt, ts) :: r => fun cls d σ H => ∃ b, mt cls = some b ∧ (b = true → ∀ a, H a = none → ts a cls d { nx := fun σ' H' => D.nx (σ'.set i none) H', rt := D.rt, bk := fun σ' H' => D.bk (σ'.set i none) H', ct := fun σ' H' => D.ct (σ'.set i none) H' } (σ.set i (some (.ref a))) H) ∧ (b = false → wClauses i Wout D r cls d σ H)
inductive ClsOk (X : Cx) (n : Str) : List ExceptHandler → List Clause → Prop
  | nil : ClsOk X n [] []
  | cons {te : Expr} {mt : Value → Option Bool} {ts : Addr → Value → Option Addr → TS} {b0 : Stmt} {suite : List Stmt} {pos : Pos} {hds : List ExceptHandler} {l : List Clause} (ht : TyOk X te mt)
      (hsu : ∀ (a : Addr) (oe : Obj) (cls : Value) (d : Option Addr) (pn : List (Addr × Obj)), L2N.Zn cls d oe → (∃ vs, oe.data = .fields vs) → PSs (X.suite a ((a, oe) :: pn)) (b0 :: suite) (ts a cls d)) (r : ClsOk X n hds l) : ClsOk X n (.ExceptHandler (some te) (some n) (b0 :: suite) pos :: hds) ((mt, ts) :: l)
section
variable {X : Cx} {n : Str} {i : Nat} {body : List Stmt} {h0 : ExceptHandler} {hds : List ExceptHandler} {l : List Clause} {pos : Pos} {tb : WX → TS} {Wout : WX}
theorem ps_try_clauses (hs : X.stack = X.env :: X.outer) (hf : X.env.frame = some X.env.locals) (hN : X.N.Nodup) (hi : X.N[i]? = some n) (hln : X.env.kindOf n = some .local) (tk : L2N.Takes X Wout)
    (hb : ∀ (W : WX) (pn : List (Addr × Obj)) (xe : Value → Shared → Prop), L2N.Takes (X.tr pn xe) W → PassesOwn (model X.prog X.w) X.A X.env xe → PSs (X.tr pn xe) body (tb W))
    (hh : ClsOk X n (h0 :: hds) l) : PS X (.Try body (h0 :: hds) [] [] pos) (fun D σ H => tb (wClauses i Wout D l) D σ H) := by
  refine ⟨fun pins s σ H D I h => wpAny_Try_except ?_⟩
  have ok := I.ok; have hfr : X.A.frames = some (X.env :: X.outer) := by rw [ok.frames, hs]
  refine wpAny_mono ((hb (wClauses i Wout D l) (X.pn ++ pins) (fun e t1 => wpAny (model X.prog X.w) X.A (noteFrame e X.env) (fun _ t2 => wpAny (model X.prog X.w) X.A (setFlight e none) (fun _ t3 => wpAny (model X.prog X.w) X.A (handleBy e X.env (h0 :: hds)) (SP X pins D) X.xe t3) X.xe t2) X.xe t1) (fun u sx xx => ?_) PassesOwn.looking).run [] s σ H D (I.toTry _) h) (fun f s1 hsp => ?_) (fun e s1 he => he)
  · obtain ⟨a, B, sI, pins2, σ2, H2, cls, d, rfl, J0, nb, up, sky, na, os, ag, w⟩ := xx
    have J : Inv X pins σ2 H2 sI := J0.ofTry ok
    rw [hs] at sky
    show wpAny _ X.A (noteFrame (.ref a) X.env) _ _ _
    refine L2N.Sky.land L2N.Zn.steady hfr hf sky fun h3 fl up3 => ?_
    have go : ∀ {hds2 : List ExceptHandler} {l2 : List Clause}, ClsOk X n hds2 l2 → ∀ h3, HandSPX.FlyingZ B (X.env :: X.outer) a (L2N.Zn cls d) h3 → sI.heap.UpToSlots h3 → wClauses i Wout D l2 cls d σ2 H2 → wpAny (model X.prog X.w) X.A (handleBy (.ref a) X.env hds2) (SP X pins D) X.xe { sx with heap := h3 } := by
      intro hds2 l2 hk
      induction hk with
      | nil =>
        intro h3 fl up w
        obtain ⟨_, _, _, oe, vs, T, oT, _, g1, _, g2, g3, _⟩ := id fl
        refine wpAny_handleBy_nil ?_; unfold PySem.passOn
        refine wpAny_bind (wpAny_field g1 g2 g3 ?_); rw [if_neg (show ¬ ((Value.ref T == Value.none) = true) from by simp)]
        have fin : wpAny (model X.prog X.w) X.A (setFlight (.ref a) X.env.frame) (fun _ t4 => wpAny (model X.prog X.w) X.A (throw (.ref a) : Sem Flow) (SP X pins D) X.xe t4) X.xe { sx with heap := h3 } := by
          rw [hf]
          exact HandSPX.setFlight_upZ fl fun h4 hh4 up4 => wpAny_throw (tk _ _ ⟨a, B, sI, pins, σ2, H2, cls, d, rfl, J, nb, up.trans up4, .inr (.inr (by rw [hs]; exact hh4)), na, os, ag, w⟩)
        first | exact wpAny_bind (wpAny_pure (wpAny_bind fin)) | exact wpAny_bind fin
      | @cons te mt ts b0 suite pos' hds3 l3 ht hsu r ih =>
        intro h3 fl up w
        obtain ⟨b, hb1, hyes, hno⟩ := w
        have atH : ∀ h4, HandSPX.FlyingZ B (X.env :: X.outer) a (L2N.Zn cls d) h4 → sI.heap.UpToSlots h4 → ∃ oe, h4.get? a = some oe ∧ L2N.Zn cls d oe ∧ (∃ vs, oe.data = .fields vs) ∧ Inv (X.suite a ((a, oe) :: (X.pn ++ pins))) [] σ2 H2 { sx with heap := h4 } := fun h4 fl4 up4 => by
          obtain ⟨oe, vs, g1, g2, g3⟩ := fl4.there
          have nfr : a ∉ frs (X.env :: X.outer) := fun hm => by
            obtain ⟨_, o2, e2, hnf⟩ := fl4.2.2.1.mem hm
            rw [g1] at e2; cases e2
            exact hnf _ g3
          have J4 : Inv X pins σ2 H2 { sx with heap := h4 } := J.landed nb fl4.1 up4 os ag
          refine ⟨oe, g1, g2, ⟨vs, g3⟩, J4.suite g1 g3 na (fun z => nfr (List.mem_filterMap.mpr ⟨X.env, List.mem_cons_self, by rw [hf, z]⟩)) fun hm => ?_⟩
          obtain ⟨e, he, q⟩ := List.mem_filterMap.mp hm
          exact nfr (List.mem_filterMap.mpr ⟨e, List.mem_cons_of_mem _ he, q⟩)
        obtain ⟨oe3, g1, g2, g3, S3⟩ := atH h3 fl up
        refine wpAny_handleBy_cons (codeAny_handlers_test ?_) (by intro q; cases q)
        have LT : PySem.W.Looks (model X.prog X.w) h3 (typeOf (.ref a)) cls := fun A Q E s k q => wpAny_typeOf_ref (k _ _ g1) (by rw [g2.1]; exact q)
        refine ht.run S3 LT hb1 fun c h4 k4 LM => LM.here ?_
        have fl4 := fly_up fl k4; have up4 := up.trans (ups_of k4)
        cases b with
        | false => exact ih h4 fl4 up4 (hno rfl)
        | true =>
          refine codeAny_handlers_suite_as (HandSPX.lands_againZ fl4 fun h5 fl5 up5 => ?_)
          obtain ⟨oe5, q1, q2, q3, S5⟩ := atH h5 fl5 (up4.trans up5)
          refine store_ok (X := X.suite a ((a, oe5) :: (X.pn ++ pins))) (v := .ref a) S5 hN hi (.inl hln) rfl (fun s6 S6 => wpAny_mono ((hsu a oe5 cls d (X.pn ++ pins) q2 q3).run [] s6 _ H2 _ S6 (hyes rfl a na)) (fun f s7 hsp => ?_) (fun _ _ z => False.elim z)) (.inr hln)
          have out : ∀ {σ6 : L2.St} {H6 : Hp} {Q : Shared → Prop}, Inv (X.suite a ((a, oe5) :: (X.pn ++ pins))) [] σ6 H6 s7 → (∀ s8, Inv X pins (σ6.set i none) H6 s8 → Q s8) → wpAny (model X.prog X.w) X.A (do bindName X.env n .none; unbindBehindTheSuite X.env n pos') (fun _ s8 => Q s8) X.xe s7 := fun {σ6 H6 Q} S8 hq => gone_ok (S8.unsuite ok) hN hi hln hq
          cases f with
          | next => obtain ⟨_, _, S8, q⟩ := hsp; exact out S8 fun _ J8 => ⟨_, _, J8, q⟩
          | brk => obtain ⟨_, _, S8, q⟩ := hsp; exact out S8 fun _ J8 => ⟨_, _, J8, q⟩
          | cont => obtain ⟨_, _, S8, q⟩ := hsp; exact out S8 fun _ J8 => ⟨_, _, J8, q⟩
          | ret u => obtain ⟨_, _, _, S8, r8, q⟩ := hsp; exact out S8 fun _ J8 => ⟨_, _, _, J8, r8, q⟩
    exact go hh h3 fl (up.trans up3) w
  · cases f with
    | next => obtain ⟨_, _, J, q⟩ := hsp; exact wpAny_execs_nil ⟨_, _, J.ofTry ok, q⟩
    | brk => obtain ⟨_, _, J, q⟩ := hsp; exact ⟨_, _, J.ofTry ok, q⟩
    | cont => obtain ⟨_, _, J, q⟩ := hsp; exact ⟨_, _, J.ofTry ok, q⟩
    | ret u => obtain ⟨_, _, _, J, r, q⟩ := hsp; exact ⟨_, _, _, J.ofTry ok, r, q⟩
end
end Kh

/-! DnHot: plain rules while an exception is handled: lists walked, tuples unpacked, comprehensions, ==, isinstance of the caught one -/
namespace Dn
open PySem PySem.Spec PyProof.Rows L2 Evl L2H Kh
section
variable {X : Cx} {W : WX} {a b c e o tg it elt : Expr} {es ifs : List Expr} {f g k : XE} {fa : XA} {p : XT} {pos : Pos}
/-- what is walked -/
def DIH (X : Cx) (W : WX) (tg iter : Expr) (f : XI) : Prop := PIH X tg iter (tI X.K X.mg W f)
theorem PIH.imp {t t' : TI} (h : PIH X tg it t) (i : ∀ σ H Q, t' σ H Q → t σ H Q) : PIH X tg it t' := ⟨fun pins s σ H Q I q => h.run pins s σ H Q I (i σ H Q q)⟩
def xSqL (f : XE) : XI := fun η M => (f η M).bind fun d M1 => match d with
  | .lst ds => .ok ds M1
  | _ => .no
theorem dih_lst (he : DE X W it f) : DIH X W tg it (xSqL f) := PIH.imp (piL_hot he) fun σ H Q z => by
  obtain ⟨η, F, B, ρ, M, er, m, w⟩ := z
  refine ⟨η, F, B, ρ, M, er, m, w.bind fun d M1 B1 ρ1 H1 l1 m1 w1 v rv => ?_⟩
  cases d with
  | lst xs =>
    cases rv with
    | lst e1 r1 => exact ⟨_, rfl, ⟨_, sq_of (m1.ex _ _ e1)⟩, Wp.ret w1 m1 _ (walk_at walk_list (fun H hH => sq_of (hH _ _ e1)) r1)⟩
  | _ => exact w1.elim
theorem dgh_tup {kk : Nat} {ts : List Nat} {n : Nat} {gs : List D → Dv → Mem → R Dv} (hc : HotC X) (h : DGs X W es ts gs) (hn : (assignEach es X.env).length = n := by rfl) (hst : (assignEach es X.env).findIdx? (·.1) = none := by rfl) :
    DG X W (.Tuple es kk pos) ts (xgTup n gs) := PG.imp (pg_tupH hc h hn hst) fun v σ H Q z => by
  obtain ⟨d, η, F, B, ρ, M, r, er, m, w⟩ := z
  unfold xgTup at w
  split at w
  · next ds hd =>
    split at w
    · next hl =>
      obtain ⟨a, vs, rfl, hs, rs⟩ := asT_snd m r hd
      exact ⟨a, vs, rfl, hs, by rw [← rs.len]; exact hl, ds, η, F, B, ρ, M, rs, er, m, w⟩
    · exact w.elim
  · exact w.elim
theorem hot_blk {p : Addr × Obj} {s : Shared} {H : Hp} {scope : Scope} {cenv : Env} {fp : List Addr} (h : Hot1 X.A p) : HotC (blkH X p s H scope cenv fp) := ⟨p, h, List.mem_cons_self⟩
theorem ds_setLcH {scope : Scope} {i : Nat} {y : Str} {py spos : Pos} {own : List (Str × Nat)} {fi : XI} {ts : List Nat} {gt : XG} {t : XT} {W' : WX} {fin : List D → Mem → R D} (hf : FinOk fin) (hc : HotC X) (hN : X.N.Nodup) (hi : DIH X W tg it fi) (ok : BlkOk X.N X.env.scope scope own)
    (hg : ∀ (p : Addr × Obj) (s : Shared) (H : Hp) (C : Addr) (cl : List (Str × Addr)) (fp : List Addr), Hot1 X.A p → DG (blkH X p s H scope (compEnvC scope cl C X.env) fp) W' tg ts gt) (ht : ∀ (p : Addr × Obj) (s : Shared) (H : Hp) (C : Addr) (cl : List (Str × Addr)) (fp : List Addr), DTs (blkH X p s H scope (compEnvC scope cl C X.env) fp) W' ifs t)
    (he : ∀ (p : Addr × Obj) (s : Shared) (H : Hp) (C : Addr) (cl : List (Str × Addr)) (fp : List Addr), DE (blkH X p s H scope (compEnvC scope cl C X.env) fp) W' elt f) (hts : ∀ i ∈ ts, i ∈ own.map (·.2)) (hy : X.N[i]? = some y := by rfl) (hyl : X.env.scope.names.lookup y = some .local := by rfl)
    (hsw : swapsWith (.ListComp elt [⟨tg, it, ifs, 0⟩] scope pos) (some (.Name y py)) spos.line X.env = pure true := by rfl) (hs : ∀ x, foldedSetIterable it X.env x = pure x := by intro _; rfl) :
    DS X W (.Assign [.Name y py] (.ListComp elt [⟨tg, it, ifs, 0⟩] scope pos) spos) (xAsg (xLc fin fi gt t f (own.map (·.2))) (xgName i)) :=
  PS.imp (ps_setLcH (g := tG X.K X.mg W' ts gt) (tt := tT X.K X.mg W' t) (te := tE X.K X.mg W' f) hc hN hy hyl hsw hi ok hg ht he hs) fun E σ H z => de_lc.lcGo hf hts σ H _ (set_snd E σ H z)
/-! ### == -/
theorem op_eqPH {k : Nat} (hr : RoomH k X.A) : OpR X (compareOp .Eq) (rEqP X.K false) := fun pins s σ H x y v u Q I rx ry ⟨p, q, hp, hq, pp, pq, hd, z⟩ => by
  obtain ⟨as, r1⟩ := Dp.reads I p x v hp rx
  obtain ⟨bs, r2⟩ := Dp.reads I q y u hq ry
  have hu := hr.un
  exact PySem.SeqAt.eq_plain r1 r2 pp pq (by omega) ⟨.bl _, H, I, rfl, z⟩
theorem od_eqMH {k : Nat} (hr : RoomH k X.A) : OpD X (compareOp .Eq) (eqM false) := by
  refine ⟨_, op_eqPH hr, fun F B ρ M H x y dx dy dz Q m rx ry e k => ?_⟩
  obtain ⟨p, q, h1, h2, h3, rfl⟩ := eqM_some e
  exact ⟨p, q, toPM_snd m rx h1, toPM_snd m ry h2, toPM_plain h1, toPM_plain h2, h3, k.same m (.bl _)⟩
/-! ### isinstance of the caught one, its dict at place n -/
def xIsE (i : Nat) (a dd : Addr) (n : Nat) (b : Bool) : XE := fun η M => match η[i]?, M[n]? with
  | some (some (.raw (.ref c))), some (.xd d _) => if c = a ∧ d = dd then .ok (.bl b) M else .no
  | _, _ => .no
/-- the caught one, whose class is C, whose dict is dd -/
structure CatC (X : Cx) (C a dd : Addr) : Prop where
  ex : ∃ oe : Obj, (a, oe) ∈ X.pn ∧ Zc (.ref C) (some dd) oe ∧ ∃ vs, oe.data = .fields vs
theorem inst_cat {C a dd : Addr} {oe : Obj} {pins : List (Addr × Obj)} {σ : L2.St} {H : Hp} {s : Shared} {gs : List (Str × V)} (hp : (a, oe) ∈ X.pn) (hz : Zc (.ref C) (some dd) oe) (hf : ∃ vs, oe.data = .fields vs) (I : Inv X pins σ H s) (hd : H dd = some (.xd gs)) : ∃ od, PySem.W.InstAt s.heap a oe C od := by
  obtain ⟨ha, _⟩ := I.pin (a, oe) (List.mem_append_left _ hp)
  obtain ⟨vs, hv⟩ := hf
  have hx : ObjOk X.prog X.w H s.heap dd (.xd gs) := I.hok dd _ hd
  obtain ⟨mA, hns, _⟩ := hx
  obtain ⟨od, ho, _⟩ := lookIn_ns hns
  exact ⟨some od, ha, hz.1, by unfold PySem.W.notCls; rw [hv] <;> rfl, by rw [hz.2]; exact ho⟩
theorem call_isC {C a dd : Addr} (c : ExcC X.K C) (hc : CatC X C a dd) : CallR X (.builtin "isinstance") (fun xs H Q => ∃ (k : V) (u : Value) (b : Bool) (gs : List (Str × V)), xs = [.ref a, k] ∧ ClsV k u ∧ H dd = some (.xd gs) ∧ PySem.W.kitOne X.K (.ref C) u = some b ∧ Q (.bl b) H) := by
  intro pins s σ H xs us Q I r h
  obtain ⟨oe, hp, hz, hf⟩ := hc.ex
  obtain ⟨k, u, b, gs, rfl, hk, hd, e, q⟩ := h
  obtain ⟨u1, u2, rfl, r1, r2⟩ := vals2 r
  cases hk.eq r2
  cases (show u1 = Value.ref a from r1)
  obtain ⟨od, J⟩ := inst_cat hp hz hf I hd
  exact PySem.W.kia_one (kitX_exc c) I.kIn J e (fun z => nomatch z) fun tk => ⟨.bl b, H, I.tok tk, rfl, q⟩
theorem isE_snd {C a' dd : Addr} {i n : Nat} {k : V} {u : Value} {bb : Bool} {tv : TE} {tk : TE} (hk : ClsV k u) (ho : PySem.W.kitOne X.K (.ref C) u = some bb) (σ : L2.St) (H : Hp) (Q : VK) (z : tE X.K X.mg W (xIsE i a' dd n bb) σ H Q) :
    tCB (fun xs H Q => ∃ (k : V) (u : Value) (b : Bool) (gs : List (Str × V)), xs = [.ref a', k] ∧ ClsV k u ∧ H dd = some (.xd gs) ∧ PySem.W.kitOne X.K (.ref C) u = some b ∧ Q (.bl b) H) (tCons (tVar i) (tCons (tC k) tNil)) σ H Q := by
  obtain ⟨η, F, B, ρ, M, er, m, w⟩ := z
  unfold xIsE at w
  split at w
  · next c d gs h1 h2 =>
    split at w
    · next hq =>
      obtain ⟨rfl, rfl⟩ := hq
      obtain ⟨y, hy, ry⟩ := er.at' i _ h1
      cases ry
      obtain ⟨b, _, _, rfl, hb⟩ := m.ob n _ h2
      exact ⟨.ref c, hy, k, u, bb, gs, rfl, hk, hb, ho, Wp.ret w m _ (.bl bb)⟩
    · exact w.elim
  · exact w.elim
/-- .. against an own class -/
theorem de_isX {C D' a' dd : Addr} {i n : Nat} {bb : Bool} {v x : Str} {p1 p2 p3 : Pos} (c : ExcC X.K C) (hc : CatC X C a' dd) (ho : PySem.W.kitOne X.K (.ref C) (.ref D') = some bb) (gi : Gl X "isinstance") (mi : X.mg "isinstance" = none) (hi : X.N[i]? = some v) (hv : Vis X.env.scope v) (hg : Gl X x) (hm : X.mg x = some (.ref D'))
    (hd1 : (v == ("__debug__" : Str)) = false := by decide) (hd2 : (v == ("__classdict__" : Str)) = false := by decide) (hdx : (x == ("__debug__" : Str)) = false := by decide) : DE X W (.Call (.Name "isinstance" p1) [.Name v p2, .Name x p3] [] pos) (xIsE i a' dd n bb) :=
  PE.imp (pe_callB (call_isC c hc) gi mi bt_isinstance (pa_cons (pe_var hi hv hd1 hd2) (pa_cons (pe_glob (v := .ref D') hg hm rfl hdx) pa_nil))) fun σ H Q z => isE_snd (tv := tVar i) (tk := tVar i) (.own D') ho σ H Q z
/-- .. against one of the language's -/
theorem de_isB {C a' dd : Addr} {i n : Nat} {bb : Bool} {v x : Str} {nm : String} {p1 p2 p3 : Pos} (c : ExcC X.K C) (hc : CatC X C a' dd) (ho : PySem.W.kitOne X.K (.ref C) (.type nm) = some bb) (hb : bootBuiltins x = some (.type nm)) (gi : Gl X "isinstance") (mi : X.mg "isinstance" = none) (hi : X.N[i]? = some v) (hv : Vis X.env.scope v) (hg : Gl X x) (hm : X.mg x = none)
    (hd1 : (v == ("__debug__" : Str)) = false := by decide) (hd2 : (v == ("__classdict__" : Str)) = false := by decide) (hdx : (x == ("__debug__" : Str)) = false := by decide) (hn0 : x ≠ "__name__" := by decide) : DE X W (.Call (.Name "isinstance" p1) [.Name v p2, .Name x p3] [] pos) (xIsE i a' dd n bb) :=
  PE.imp (pe_callB (call_isC c hc) gi mi bt_isinstance (pa_cons (pe_var hi hv hd1 hd2) (pa_cons (pe_bltn (v := .ty nm) hg hm hb rfl hn0 hdx) pa_nil))) fun σ H Q z => isE_snd (tv := tVar i) (tk := tVar i) (.ty nm) ho σ H Q z
end
end Dn

/-! KExcG: own exception classes over any base of the language (made, raised, their __init__) -/
namespace Kx
open PySem PySem.W PySem.Calls PyProof.Rows PySem.HandSPX Builtin Builtin.ObjectAttr
/-- what a class's own mro must answer -/
structure MroOk (mro : List Value) : Prop where
  ne : mro.isEmpty = false
  ob : mro.contains (.type "object") = true
  pass : ∀ self, refuseLoop self "__setattr__" mro = pure ()
section
variable {prog : Program} {w : World} {A : Around} {R : Result → Shared → Prop} {hp : Heap} {gs : Array GenState} {dr : Drawn} {tt : Nat} {os : OsState} {K : W.Frag} {f : Str} {tk : Tok} {v : Value} {x C dx : Addr} {fv : Array Value} {cd : ClassData} {m0 : Str → Option Value} {nl : List Str}
abbrev FinR (prog : Program) (w : World) (A : Around) (R : Result → Shared → Prop) : Fin → Shared → Prop := fun fin s' => match fin with
  | .done f => R (.ok f) s'
  | .again c' => c'.quiet = true ∧ codeAny (model prog w) A c' R s'
/-- e.f = v: down to the dict -/
theorem osa_down {ox : Obj} {od : Option Obj} (X : K.In hp) (I : W.InstAt hp x ox C od) (hcd : W.clsIn K C = some cd) (hm : MroOk cd.mro) (ha : W.findIn K (.ref C) f = some none)
    (h : wpAny (model prog w) A.in1 (storeInOwnDict (.ref x) (.ref C) (.str f tk) f v false) (FinR prog w A R) (fun e s' => R (.error e) s') ⟨hp, gs, dr, tt, os⟩) :
    codeAny (model prog w) A (.call (.builtin "object.__setattr__") ⟨[.ref x, .str f tk, v], []⟩) R ⟨hp, gs, dr, tt, os⟩ := by
  have up : W.Looks (model prog w) hp (isInstance (.ref x) (.type "object")) true := I.type.andThen (W.looks_mroIn X (by unfold W.mroIn; rw [hcd, Option.bind_some, if_neg (by rw [hm.ne]; decide), hm.ob]))
  refine codeAny_call_builtin F.store_object.slot.plain F.store_object.entry (@W.check_slot (model prog w) _ _ ⟨hp, gs, dr, tt, os⟩ "object.__setattr__" "object" "__setattr__" (.ref x) [.str f tk, v] [] _ F.store_object.kind F.store_object.split up (F.store_object.args (.ref x) (.str f tk) v) ?_)
  rw [W.osa_eq, refuse_eq]
  refine wpAny_bind (wpAny_bind (I.type.at (wpAny_bind (((W.looks_clsIn (M := model prog w) X hcd).andThen .now : W.Looks (model prog w) hp (mroOf (.ref C)) cd.mro).at ?_))))
  rw [hm.pass]
  exact wpAny_pure (wpAny_bind (I.type.at (wpAny_bind ((W.looks_findIn X ha).at (wpAny_bind ((.now : W.Looks (model prog w) hp (storeTaker? none) none).at h))))))
/-- the first field -/
theorem osa_first (X : K.In hp) (hx : hp.get? x = some { cls := .ref C, data := .fields fv }) (hcd : W.clsIn K C = some cd) (hm : MroOk cd.mro) (hh : cd.hasDict = true) (ha : W.findIn K (.ref C) f = some none)
    (hq : ∀ h' tk' dx, (∀ b o, b ≠ x → hp.get? b = some o → h'.get? b = some o) → hp.objs.size ≤ dx → dx ≠ x → h'.get? x = some { cls := .ref C, dict := some dx, data := .fields fv } → h'.Ns1 dx (fun y => if y = f then some v else none) → R (.ok (.ret .none)) ⟨h', gs, dr, tk', os⟩) :
    codeAny (model prog w) A (.call (.builtin "object.__setattr__") ⟨[.ref x, .str f tk, v], []⟩) R ⟨hp, gs, dr, tt, os⟩ := by
  refine osa_down X (ox := { cls := .ref C, data := .fields fv }) (od := none) ⟨hx, rfl, rfl, trivial⟩ hcd hm ha ?_
  have hs0 : x ≠ hp.objs.size := Nat.ne_of_lt (Heap.lt_size hx)
  have hcl : W.Looks (model prog w) hp (classData C) cd := W.looks_clsIn X hcd
  obtain ⟨_, _, _, _, _, hd, _, _, _, _, _⟩ := cd
  dsimp only at hh; subst hh
  unfold storeInOwnDict ownDictForStores
  repeat (first | with_reducible refine store_in_new ?_ ?_ | with_reducible refine wpAny_loadPart_at hx ?_ | with_reducible refine hcl.at ?_ | wp_step)
  · exact ⟨_, #[], _, (Heap.get?_update_ne _ _ _ _ hs0.symm).trans (Heap.get?_push_at rfl rfl), rfl, fun e he => absurd he (by simp), fun _ => rfl⟩
  · intro h' tk' hn' hs
    exact hq h' tk' hp.objs.size (fun b o hb ho => (hs.2 b (Nat.ne_of_lt (Heap.lt_size ho))).trans ((Heap.get?_update_ne _ _ _ _ hb).trans (Heap.get?_push_of_some _ ho))) (Nat.le_refl _) hs0.symm ((hs.2 x hs0).trans (Heap.get?_update_self _ (Heap.get?_push_of_some _ hx) rfl)) hn'
/-- a further field -/
theorem osa_next (X : K.In hp) (hx : hp.get? x = some { cls := .ref C, dict := some dx, data := .fields fv }) (hns : hp.Ns1 dx m0) (hw : Within m0 nl) (hz : nl.length ≤ 1000) (hcd : W.clsIn K C = some cd) (hm : MroOk cd.mro) (hh : cd.hasDict = true) (ha : W.findIn K (.ref C) f = some none)
    (hq : ∀ h' tk', (∀ b o, b ≠ dx → hp.get? b = some o → h'.get? b = some o) → h'.Ns1 dx (fun y => if y = f then some v else m0 y) → R (.ok (.ret .none)) ⟨h', gs, dr, tk', os⟩) :
    codeAny (model prog w) A (.call (.builtin "object.__setattr__") ⟨[.ref x, .str f tk, v], []⟩) R ⟨hp, gs, dr, tt, os⟩ := by
  obtain ⟨oD, _, _, hoD, _, _⟩ := hns.count hw
  refine osa_down X (ox := { cls := .ref C, dict := some dx, data := .fields fv }) (od := some oD) ⟨hx, rfl, rfl, hoD⟩ hcd hm ha ?_
  have hcl : W.Looks (model prog w) hp (classData C) cd := W.looks_clsIn X hcd
  obtain ⟨_, _, _, _, _, hd, _, _, _, _, _⟩ := cd
  dsimp only at hh; subst hh
  unfold storeInOwnDict ownDictForStores
  repeat (first | with_reducible refine OEX.store_in_old hns hw hz ?_ | with_reducible refine wpAny_loadPart_at hx ?_ | with_reducible refine hcl.at ?_ | wp_step)
  exact fun h' tk' hn' hs => hq h' tk' (fun b o hb ho => (hs.2 b hb).trans ho) hn'
end
end Kx
namespace Kx
open PySem PySem.W PySem.HandSPX Builtin
/-- an own class over a base whose __new__ is its own or one that it has from above -/
structure NewOk (newId : String) (bm : List Value) : Prop where
  ex : ∃ B ini bmB, ExcBaseFacts B newId ini bmB ∧ bm.contains (.type B) = true
  na : bm.contains (.type "AttributeError") = false
  nn : bm.contains (.type "NameError") = false
/-- the base's own __init__ -/
structure InitOk (B initId : String) : Prop where
  plain : plainId initId = true
  entry : entryFor table initId = some Builtin.«BaseException.__init__»
  split : splitId initId = some (B, "__init__")
  kind : builtinKind initId = some .slot
  row : Manifest.signature? initId = some ⟨.positional, "*", B, .self, [⟨"args", .varPos, false⟩]⟩
  star : (B != "*") = true
theorem InitOk.of {B newId ini : String} {bm : List Value} (F : ExcBaseFacts B newId ini bm) : InitOk B ini := ⟨F.init.plain, F.initEntry, F.initSplit, F.initKind, F.initRow, F.noStar⟩
section
variable {M : Model} {A : Around} {E : Value → Shared → Prop} {hp : Heap} {gs : Array GenState} {dr : Drawn} {tt : Nat} {os : OsState}
variable {nm q : Str} {C N : Addr} {bs bm : List Value} {hd : Bool} {sn : List Str} {sub : List Value} {ab : Bool} {col : Option Bool} {dd : Option Addr} {k0 k1 k2 k3 k5 : Option Value} {B newId initId : String}
abbrev ocl (nm q : Str) (C N : Addr) (bs bm : List Value) (hd : Bool) (sn : List Str) (sub : List Value) (ab : Bool) (col : Option Bool) (dd : Option Addr) (k0 k1 k2 k3 k5 : Option Value) (newId : String) : Obj := excClassObj nm q C N bs bm hd sn sub ab col dd k0 k1 k2 k3 k5 newId
theorem mk_checked (O : NewOk newId bm) {us : List Value} {Q : Unit → Shared → Prop} (at_ : hp.get? C = some (ocl nm q C N bs bm hd sn sub ab col dd k0 k1 k2 k3 k5 newId)) (hq : Q () ⟨hp, gs, dr, tt, os⟩) :
    wpAny M A (checkBuiltinCall newId ⟨.ref C :: us, []⟩) Q E ⟨hp, gs, dr, tt, os⟩ := by
  obtain ⟨D, ini, bmD, F, hD⟩ := O.ex
  have own : (Value.ref C :: bm).contains (.type D) = true := by rw [List.contains_cons, hD, Bool.or_true]
  have ns := F.noStar
  simp only [checkBuiltinCall, F.newRow, F.newSplit, F.newKind]
  repeat (first | refine wpAny_loadPart_at at_ ?_ | (refine wpAny_isSubtype_exc at_ ?_; rw [own]) | refine wpAny_staticBase_exc at_ ?_ | refine wpAny_madeBy_exc at_ ?_ | simp only [bne_self_eq_false, Bool.false_eq_true, if_false] | wp_step)
  exact hq
theorem mk_initok (F : InitOk B initId) (hB : bm.contains (.type B) = true) {a : Addr} {oa : Obj} {us : List Value} {Q : Unit → Shared → Prop}
    (at_ : hp.get? C = some (ocl nm q C N bs bm hd sn sub ab col dd k0 k1 k2 k3 k5 newId)) (ha : hp.get? a = some oa) (hc : oa.cls = .ref C) (hq : Q () ⟨hp, gs, dr, tt, os⟩) :
    wpAny M A (checkBuiltinCall initId ⟨.ref a :: us, []⟩) Q E ⟨hp, gs, dr, tt, os⟩ := by
  have own : (Value.ref C :: bm).contains (.type B) = true := by rw [List.contains_cons, hB, Bool.or_true]
  have ns := F.star
  simp only [checkBuiltinCall, F.row, F.split, F.kind]
  repeat (first | (with_reducible refine wpAny_loadPart_at ha ?_; rw [hc]) | with_reducible refine wpAny_loadPart_at at_ ?_ | (with_reducible refine wpAny_isSubtype_exc at_ ?_; rw [own]) | wp_step)
  refine wpAny_onRaise ?_
  have any_ : ∀ (x y : String) (n : Nat), Bind.check ⟨.positional, "*", B, .self, [⟨"args", .varPos, false⟩]⟩ x y n (List.map (fun z => z.fst) ({ pos := Value.ref a :: us } : Args).kw) = pure () := fun x y n => check_star_args _ _ _ _ _ _
  rw [any_]
  exact wpAny_pure hq
end
section
variable {prog : Program} {w : World} {A : Around} {E : Value → Shared → Prop} {R : Result → Shared → Prop} {hp : Heap} {gs : Array GenState} {dr : Drawn} {tt : Nat} {os : OsState}
variable {nm q : Str} {C N : Addr} {bs bm : List Value} {hd : Bool} {sn : List Str} {sub : List Value} {ab : Bool} {col : Option Bool} {dd : Option Addr} {k0 k1 k2 k3 k5 : Option Value} {B newId initId : String}
theorem mk_new (O : NewOk newId bm) {us : List Value} (at_ : hp.get? C = some (ocl nm q C N bs bm hd sn sub ab col dd k0 k1 k2 k3 k5 newId))
    (hq : R (.ok (.ret (.ref (hp.objs.size + 1)))) ⟨(hp.push { cls := .type "tuple", data := .seq us.toArray }).push { cls := .ref C, data := .fields #[.ref hp.objs.size, .none, .none, .none, .bool false, .none] }, gs, dr, tt, os⟩) (hz : us.length ≤ sizeLine) :
    codeAny (model prog w) A (.builtin newId ⟨.ref C :: us, []⟩) R ⟨hp, gs, dr, tt, os⟩ := by
  obtain ⟨D, ini, bmD, F, hD⟩ := O.ex
  have ends := F.ends
  have own : (Value.ref C :: bm).contains (.type D) = true := by rw [List.contains_cons, hD, Bool.or_true]
  have noA : (Value.ref C :: bm).contains (.type "AttributeError") = false := by rw [List.contains_cons, O.na]; rfl
  have noN : (Value.ref C :: bm).contains (.type "NameError") = false := by rw [List.contains_cons, O.nn]; rfl
  refine codeAny_builtinAt F.entry ?_
  unfold Builtin.«BaseException.__new__»
  refine wpAt_bind ?_
  show wpAt _ _ _ (stack >>= _) _ _ _
  refine wpAt_bind (wpAt_stack fun here below => wpAt_of_wpAny ?_)
  wp_walk
  refine wpAt_of_wpAny ?_
  rw [F.owner]
  repeat (first | with_reducible refine wpAny_madeHere_exc F.canon at_ ?_ | with_reducible refine wpAny_loadPart_at at_ ?_ | (with_reducible refine wpAny_isSubtype_exc at_ ?_; first | rw [own] | rw [noA] | rw [noN]) | wp_step)
  show R _ _
  rw [Heap.size_push]
  exact hq
theorem mk_typecall (O : NewOk newId bm) {us : List Value} {fI : Addr} {Q : Fin → Shared → Prop} (at_ : hp.get? C = some (ocl nm q C N bs bm hd sn sub ab col dd k0 k1 k2 k3 k5 newId))
    (hi : W.Looks (model prog w) hp (typeLookup (.ref C) "__init__") (some (.ref fI))) (hb : ∀ self, W.Looks (model prog w) hp (bindSpecial (.ref fI) self) (.ref fI, [self])) (hz : us.length ≤ sizeLine)
    (hq : codeAny (model prog w) A (.call (.ref fI) ⟨.ref (hp.objs.size + 1) :: us, []⟩)
      (fun r s' => match r with | .ok (.ret v) => v = .none ∧ Q (.done (.ret (.ref (hp.objs.size + 1)))) s' | .ok _ => False | .error e => E e s') ⟨(hp.push (W.kdv_tup us)).push (excO C hp.objs.size), gs, dr, tt, os⟩) :
    wpAny (model prog w) A (Builtin.«type.__call__» ⟨.ref C :: us, []⟩) Q E ⟨hp, gs, dr, tt, os⟩ := by
  obtain ⟨D, ini, bmD, F, hD⟩ := O.ex
  have quiet := F.quiet
  repeat (first | with_reducible refine wpAny_loadPart_at at_ ?_ | with_reducible refine wpAny_madeBy_exc at_ ?_ | wp_step)
  refine codeAny_call_builtin_code (Code.quiet_builtin _ quiet) (mk_checked O at_ ?_)
  refine mk_new O at_ ?_ hz
  show wpAny _ _ _ _ _ _
  have kept : ∀ b o, hp.get? b = some o → ((hp.push (W.kdv_tup us)).push (excO C hp.objs.size)).get? b = some o := fun b o e => Heap.get?_push_of_some _ (Heap.get?_push_of_some _ e)
  have at1 := kept _ _ at_
  have got : ((hp.push (W.kdv_tup us)).push (excO C hp.objs.size)).get? (hp.objs.size + 1) = some (excO C hp.objs.size) := by heap_get
  have self_ : (Value.ref C :: bm).contains (.ref C) = true := by simp
  have i1 := hi.keeps kept
  have b1 := (hb (.ref (hp.objs.size + 1))).keeps kept
  unfold isInstance
  repeat (first | with_reducible refine wpAny_loadPart_at got ?_ | (with_reducible refine wpAny_isSubtype_exc at1 ?_; rw [self_]) | wp_step)
  show wpAny _ _ (typeLookup (.ref C) _) _ _ _
  refine i1.at ?_
  refine wpAny_holding (wpAny_bind (b1.at ?_))
  refine wpAny_bind (wpAny_call (codeAny_mono hq fun r s' z => ?_))
  rcases r with e | (v | _ | _ | _) <;> first | exact z | exact z.elim | skip
  obtain ⟨rfl, z⟩ := z
  first
    | exact wpAny_pure (wpAny_pure z)
    | (wp_walk; exact z)
theorem mk_call (O : NewOk newId bm) {us : List Value} {fI : Addr} (at_ : hp.get? C = some (ocl nm q C N bs bm hd sn sub ab col dd k0 k1 k2 k3 k5 newId))
    (hi : W.Looks (model prog w) hp (typeLookup (.ref C) "__init__") (some (.ref fI))) (hb : ∀ self, W.Looks (model prog w) hp (bindSpecial (.ref fI) self) (.ref fI, [self])) (hz : us.length ≤ sizeLine)
    (hq : codeAny (model prog w) (A.under (.builtin "type.__call__" ⟨.ref C :: us, []⟩)) (.call (.ref fI) ⟨.ref (hp.objs.size + 1) :: us, []⟩) (W.InitBack (hp.objs.size + 1) R) ⟨(hp.push (W.kdv_tup us)).push (excO C hp.objs.size), gs, dr, tt, os⟩) :
    codeAny (model prog w) A (.call (.ref C) ⟨us, []⟩) R ⟨hp, gs, dr, tt, os⟩ := by
  have l1 := tc_lookup
  have l2 := tc_bind (.ref C)
  have ty : (⟨hp, gs, dr, tt, os⟩ : Shared).TypeIs (.ref C) "type" := ⟨_, at_, rfl⟩
  refine codeAny_of_tree ?_
  show wpAny _ _ (callAny (.ref C) _) _ _ _
  repeat (any_goals (first | assumption | with_reducible refine wpAny_loadPart_at at_ ?_ | wp_step))
  refine ⟨rfl, ?_⟩
  refine codeAny_call_builtin_at (Code.quiet_builtin _ (by decide +kernel)) entry_typeCall (wpAny_check_type_call_sub at_ (mk_typecall O at_ hi hb hz ?_))
  refine codeAny_mono hq fun r s' z => ?_
  rcases r with e | (v | _ | _ | _) <;> exact z
theorem mk_init (F : InitOk B initId) (hB : bm.contains (.type B) = true) {a t0 : Addr} {us : List Value} (at_ : hp.get? C = some (ocl nm q C N bs bm hd sn sub ab col dd k0 k1 k2 k3 k5 newId)) (ha : hp.get? a = some (excO C t0)) (hz : us.length ≤ sizeLine)
    (hq : ∀ h' t1, (∀ b o, b ≠ a → hp.get? b = some o → h'.get? b = some o) → h'.get? a = some (excO C t1) → R (.ok (.ret .none)) ⟨h', gs, dr, tt, os⟩) :
    codeAny (model prog w) A (.call (.builtin initId) ⟨.ref a :: us, []⟩) R ⟨hp, gs, dr, tt, os⟩ := by
  refine codeAny_call_builtin F.plain F.entry (mk_initok F hB at_ ha rfl ?_)
  wp_walk
  refine hq _ hp.objs.size (fun b o ne ho => ?_) ?_
  · rw [Heap.get?_update_other _ _ (Ne.symm ne)]
    exact Heap.get?_push_of_some _ ho
  · rw [Heap.get?_update_self _ (Heap.get?_push_of_some _ ha) rfl]
    rfl
end
end Kx
namespace Kx
open PySem PySem.Spec PyProof.Rows L2
/-- what the written part says of such a class, whose base's __init__ is initId -/
structure OexG (K : PySem.W.Frag) (C : Addr) (initId : String) : Prop where
  cls : ∃ B newId nm q N bs bm sn sub ab col dd k0 k1 k2 k3 k5, (NewOk newId bm ∧ InitOk B initId ∧ bm.contains (.type B) = true) ∧ K.lookup C = some (excClassObj nm q C N bs bm true sn sub ab col dd k0 k1 k2 k3 k5 newId) ∧ MroOk (.ref C :: bm)
  sa : PySem.W.findIn K (.ref C) "__setattr__" = some (some (.builtin "object.__setattr__"))
  exC : PySem.W.subIn K (.ref C) (.type "BaseException") = some true
  tyC : PySem.W.typeIn K (.ref C) = some (.type "type")
  kC : PySem.W.keepIn K (.ref C) = true
/-- a class straight over the base -/
theorem mro_over {C : Addr} {B : String} {bm : List Value} {si so : String} (h : StoreFacts B bm si so) (hn : bm.contains (.type "object") = true) : MroOk (.ref C :: bm) := ⟨rfl, by rw [List.contains_cons, hn, Bool.or_true], fun self => by rw [refuseLoop_ref]; exact h.passes self⟩
theorem cls_at {K : PySem.W.Frag} {C N : Addr} {nm q : Str} {bs bm sub : List Value} {sn : List Str} {ab : Bool} {col : Option Bool} {dd : Option Addr} {k0 k1 k2 k3 k5 : Option Value} {newId : String} (hC : K.lookup C = some (excClassObj nm q C N bs bm true sn sub ab col dd k0 k1 k2 k3 k5 newId)) :
    PySem.W.clsIn K C = some { name := nm, bases := bs, mro := .ref C :: bm, ns := N, qualname := q, hasDict := true, slotNames := sn, subclasses := sub, abstract := ab, collection := col, hasDel := false } := by unfold PySem.W.clsIn; rw [hC] <;> rfl
section
variable {X : Cx} {pins : List (Addr × Obj)} {σ : L2.St} {H : Hp} {s : Shared} {a C dx : Addr} {f : Str} {y : V} {u : Value} {fs : List (Str × V)} {Q : Unit → Shared → Prop} {E : Value → Shared → Prop} {A : Around} {ini : String}
theorem fld_first (T : OexG X.K C ini) (I : Inv X pins σ H s) (e : H a = some (exo a C none)) (hno : PySem.W.findIn X.K (.ref C) f = some none) (ry : RelV y u)
    (h : ∀ dx s', H dx = none → dx ≠ a → Inv X pins σ (upd (upd H dx (exd dx [(f, y)])) a (exo a C (some dx))) s' → Q () s') : wpAny (model X.prog X.w) A (setAttr (.ref a) f u) Q E s := by
  obtain ⟨_, _, nm, q, N, bs, bm, sn, sub, ab, col, dd, k0, k1, k2, k3, k5, _, hC, hbm⟩ := T.cls
  obtain ⟨t1, ho⟩ := exo_at I.hok e
  obtain ⟨hp, g, d, t, os⟩ := s
  refine PySem.W.set_plain I.kIn (ox := { cls := .ref C, dict := none, data := .fields #[.ref t1, .none, .none, .none, .bool false, .none] }) (od := none) ⟨ho, rfl, rfl, trivial⟩ T.sa (osa_first I.kIn ho (cls_at hC) hbm rfl hno fun h' tk' dx k dn dne hx hn => ?_)
  have n0 : H dx = none := I.hok.fresh dn
  have nd : ∀ {b : Addr} {o : Obj}, hp.get? b = some o → b ≠ dx := fun {b o} q => Nat.ne_of_lt (Nat.lt_of_lt_of_le (Heap.lt_size q) dn)
  have na : ∀ {b : Addr}, H b = none → b ≠ a := fun {b} n z => by rw [z, e] at n; cases n
  have same : ∀ {b : Addr} {o : HO}, H b = some o → exo a C none ≠ o → upd (upd H dx (exd dx [(f, y)])) a (exo a C (some dx)) b = some o := fun {b o} q n => by rw [upd_ne (at_ne e q n), upd_ne (ne_of_none q n0)]; exact q
  refine h dx _ n0 dne (I.un (t' := tk') ⟨fun b o q n _ _ => k b o (na n) q, fun b o q n _ _ => ⟨o.slots, k b o (na n) q⟩, fun b o q n _ => by rw [upd_ne (na n), upd_ne (nd q)]; exact n, fun b o q _ => ?_, fun b xs q => same q exo_tup, fun b o v q => same q exo_frz, fun b ps q => ⟨#[], by rw [same q exo_tbl]; simp⟩⟩ fun b o q => ?_)
  · by_cases hb : b = a
    · exact ⟨_, by rw [hb]; exact hx⟩
    · exact ⟨o, k b o hb q⟩
  · by_cases hb : b = a
    · rw [hb, upd_same] at q; cases q
      rw [hb]; exact exo_ok hx
    · rw [upd_ne hb] at q
      by_cases hd : b = dx
      · rw [hd, upd_same] at q; cases q
        rw [hd]; exact exd_ok hn (relO_put (fs := []) ry fun g => True.intro)
      · rw [upd_ne hd] at q
        exact (I.hok b o q).stay (fun c v hc z => k c v (hc.elim (fun hc => by rw [hc]; exact hb) fun hc => at_ne e hc exo_own) z) (fun c hc => same hc exo_own) fun c xs hc => same hc exo_tup
theorem fld_next (T : OexG X.K C ini) (I : Inv X pins σ H s) (e : H a = some (exo a C (some dx))) (ed : H dx = some (exd dx fs)) (hl : fs.length ≤ 900) (hno : PySem.W.findIn X.K (.ref C) f = some none) (ry : RelV y u)
    (h : ∀ s', Inv X pins σ (upd H dx (exd dx ((f, y) :: fs))) s' → Q () s') : wpAny (model X.prog X.w) A (setAttr (.ref a) f u) Q E s := by
  obtain ⟨_, _, nm, q, N, bs, bm, sn, sub, ab, col, dd, k0, k1, k2, k3, k5, _, hC, hbm⟩ := T.cls
  obtain ⟨t1, ho⟩ := exo_at I.hok e
  obtain ⟨mA, hns, rel⟩ := exd_at I.hok ed
  obtain ⟨hp, g, d, t, os⟩ := s
  obtain ⟨oD, _, _, hoD, _, _⟩ := hns.count (within_of rel)
  refine PySem.W.set_plain I.kIn (ox := { cls := .ref C, dict := some dx, data := .fields #[.ref t1, .none, .none, .none, .bool false, .none] }) (od := some oD) ⟨ho, rfl, rfl, hoD⟩ T.sa (osa_next I.kIn ho hns (within_of rel) (by rw [List.length_map]; omega) (cls_at hC) hbm rfl hno fun h' tk' k hn => ?_)
  obtain ⟨o, es, ep, e', r'⟩ := id hn
  exact h _ (I.write (t' := tk') (x := dx) (e := dx) (o := exd dx ((f, y) :: fs)) (by rw [ed]; exact True.intro) (.inl rfl) k ⟨o, e'⟩ (exd_ok hn (relO_put ry rel)))
theorem base_init {us : List Value} {Q : Value → Shared → Prop} (T : OexG X.K C ini) (I : Inv X pins σ H s) (e : H a = some (exo a C none)) (hl : us.length ≤ sizeLine) (h : ∀ s', Inv X pins σ H s' → Q .none s') :
    wpAny (model X.prog X.w) A (call (.builtin ini) (.ref a :: us)) Q E s := by
  obtain ⟨_, _, nm, q, N, bs, bm, sn, sub, ab, col, dd, k0, k1, k2, k3, k5, ⟨Fn, Fi, hcb⟩, hC, _⟩ := T.cls
  obtain ⟨t1, ho⟩ := exo_at I.hok e
  obtain ⟨hp, g, d, t, os⟩ := s
  refine wpAny_call (mk_init Fi hcb (I.kIn _ _ hC) ho hl fun h' t2 k hx => ?_)
  have J := I.write (t' := t) (x := a) (e := a) (o := exo a C none) (by rw [e]; exact True.intro) (.inl rfl) k ⟨_, hx⟩ (exo_ok hx)
  have eq0 : upd H a (exo a C none) = H := funext fun b => by
    by_cases hb : b = a
    · rw [hb, upd_same, e]
    · rw [upd_ne hb]
  rw [eq0] at J
  exact h _ J
end
/-- B.__init__(self, ..) -/
def tBase (K : PySem.W.Frag) (ini : String) (ta : TA) : TE := fun σ H Q => ta σ H fun vs H1 => ∃ (a C : Addr) (ws : List V), vs = .ref a :: ws ∧ ws.length ≤ 1000 ∧ OexG K C ini ∧ H1 a = some (exo a C none) ∧ Q .non H1
/-- self.f = e -/
def tFld (K : PySem.W.Frag) (ini : String) (f : Str) (to te : TE) : TS := fun D σ H => te σ H fun y H1 => to σ H1 fun x H2 => ∃ a C : Addr, x = .ref a ∧ OexG K C ini ∧ PySem.W.findIn K (.ref C) f = some none ∧
  ((H2 a = some (exo a C none) ∧ ∀ dx, H2 dx = none → dx ≠ a → D.nx σ (upd (upd H2 dx (exd dx [(f, y)])) a (exo a C (some dx)))) ∨ ∃ (dx : Addr) (fs : List (Str × V)), H2 a = some (exo a C (some dx)) ∧ H2 dx = some (exd dx fs) ∧ fs.length ≤ 900 ∧ D.nx σ (upd H2 dx (exd dx ((f, y) :: fs))))
section
variable {X : Cx} {o e : Expr} {es : List Expr} {to te : TE} {ta : TA} {f : Str} {p p' p1 p2 pos : Pos} {B ini : String} {bx : Str}
theorem pe_base {pl : Sem Bool} (hg : Gl X bx) (hm : X.mg bx = none) (hv : bootBuiltins bx = some (.type B)) (ht : typeOf (.type B) = pure (.type "type")) (hst : Manifest.isStub B = false) (vV : PySem.W.findCls X.K (.type B) (.type "type") "__init__" = some (.val (.builtin ini))) (hin : PySem.W.handedIn (.builtin ini) = true) (ha : PA X (e :: es) ta)
    (hn0 : bx ≠ "__name__" := by decide) (hdb : (bx == ("__debug__" : Str)) = false := by decide)
    (hc : eval (.Call (.Attribute (.Name bx p1) "__init__" p2) (e :: es) [] pos) X.env = (do
      let ov ← eval (.Name bx p1) X.env
      standAt p2.atName
      let (f, first) ← holding [ov] (getMethod ov "__init__" pl)
      callWith pos f first (backTo pos (starEach (e :: es) X.env)) (backToKw pos (keywordEach [] X.env))) := by rfl)
    (he : starEach (e :: es) X.env = (false, eval e X.env) :: starEach es X.env := by rfl) (hpl : (backTo pos (starEach es X.env)).any (·.1) = false := by rfl) :
    PE X (.Call (.Attribute (.Name bx p1) "__init__" p2) (e :: es) [] pos) (tBase X.K ini ta) := by
  refine ⟨fun pins s σ H Q I h => PySem.W.methodCall_KW (ld_blt I hg hm hv ?_ hn0 hdb) hc⟩
  obtain ⟨m, fr⟩ := I.fr
  refine PySem.W.method_type fr I.ok.mod.kin ht hst vV hin ?_
  show wpAny _ _ (callWith pos (Value.builtin ini) [] (backTo pos (starEach (e :: es) X.env)) []) _ _ _
  refine PyProof.Rows.callWith_method1 (thn (ha.run pos pins _ σ H _ (I.tok _) h) fun us s1 ⟨vs, H1, I1, r1, a, C, ws, ev, hl, T, ea, q⟩ => ?_) he hpl
  subst ev
  cases r1 with
  | @cons _ u0 _ ur ra rw' =>
    obtain rfl : u0 = Value.ref a := ra
    exact base_init T I1 ea (by rw [← Paired.length rw', sizeLine_eq]; omega) fun s' J => ⟨.non, H1, J, rfl, q⟩
theorem ps_fldG (ho : PE X o to) (he : PE X e te) (hs : swapsWith e (some (.Attribute o f p')) pos.line X.env = pure false := by rfl) : PS X (.Assign [.Attribute o f p'] e pos) (tFld X.K ini f to te) :=
  ⟨fun pins s σ H D I h => plainObj_wpAny_Assign_Attribute (thn (he.run pins s σ H _ I h) fun v s1 ⟨y, H1, I1, r1, q1⟩ => thn (ho.run pins s1 σ H1 _ I1 q1) fun u s2 ⟨x, H2, I2, r2, a, C, ex, T, hno, q⟩ => by
    subst ex
    obtain rfl : u = Value.ref a := r2
    rcases q with ⟨ea, q⟩ | ⟨dx, fs, ea, ed, hl, q⟩
    · exact fld_first T I2 ea hno r1 fun dx s' n ne J => ⟨σ, _, J, q dx n ne⟩
    · exact fld_next T I2 ea ed hl hno r1 fun s' J => ⟨σ, _, J, q⟩) hs⟩
theorem pmk_exG {CX : CXT} {x : Str} {C fI : Addr} {k : Nat} {fd : FuncData} {ps : List Str} {sp : Sp} (T : OexG X.K C ini) (iC : PySem.W.findIn X.K (.ref C) "__init__" = some (some (.ref fI))) (tI : PySem.W.typeIn X.K (.ref fI) = some (.type "function"))
    (F1 : FnOk X.prog X.w X.K X.mg X.base CX k fI fd ps sp) (hr : Room (k + 1) X.A) (hb : Binds X.K fd ps []) (hx : Passes CX X (fun _ _ _ => False)) (hg : Gl X x) (hm : X.mg x = some (.ref C)) (ha : PA X (e :: es) ta)
    (hdb : (x == ("__debug__" : Str)) = false := by decide) (he : starEach (e :: es) X.env = (false, eval e X.env) :: starEach es X.env := by rfl) (hpl : (backTo pos (starEach es X.env)).any (·.1) = false := by rfl) :
    L2N.PMk X (.Call (.Name x p) (e :: es) [] pos) (tMkO C sp [] ta) := fun pins s σ H Q I h => by
  obtain ⟨_, _, nm, q, N, bs, bm, sn, sub, ab, col, dd, k0, k1, k2, k3, k5, ⟨Fn, Fi, hcb⟩, hC, _⟩ := T.cls
  refine wpAny_Call_Name_kw (ld_glob I hg hm (PySem.W.callWith_K (h₀ := X.base) I.ok.mod.kin T.kC (thn (ha.run pos pins s σ H _ I h) fun us s1 ⟨vs, H1, I1, r1, hz, q1⟩ => ⟨I1.kIn, ?_⟩) he hpl) hdb)
  show wpAny _ _ (call (.ref C) us) _ _ _
  obtain ⟨hp, g, dr, tk, os⟩ := s1
  have sz : hp.objs.size ≤ hp.objs.size + 1 := Nat.le_succ _
  have hq := q1 (hp.objs.size + 1) (I1.hok.fresh sz)
  rw [List.append_nil] at hq
  have kk : ∀ b o, hp.get? b = some o → ((hp.push (PySem.W.kdv_tup us)).push (PySem.HandSPX.excO C hp.objs.size)).get? b = some o := fun b o e => Heap.get?_push_of_some _ (Heap.get?_push_of_some _ e)
  have I2 := I1.laid (t' := tk) (a := hp.objs.size + 1) (o := exo (hp.objs.size + 1) C none) (h' := (hp.push (PySem.W.kdv_tup us)).push (PySem.HandSPX.excO C hp.objs.size)) kk sz (exo_ok (show ((hp.push (PySem.W.kdv_tup us)).push (PySem.HandSPX.excO C hp.objs.size)).get? (hp.objs.size + 1) = some (PySem.HandSPX.excO C hp.objs.size) by heap_get))
  have r2 : Vals (V.ref (hp.objs.size + 1) :: vs) (Value.ref (hp.objs.size + 1) :: us) := .cons rfl r1
  have hl : (Value.ref (hp.objs.size + 1) :: us ++ []).length = ps.length := by
    have e := r2.length
    rw [F1.len _ _ _ _ hq] at e
    rw [List.append_nil]
    exact e.symm
  have b0 := hb _ (Value.ref (hp.objs.size + 1) :: us) I2.kIn hl
  rw [List.append_nil] at b0
  refine wpAny_call (mk_call Fn (I1.kIn _ _ hC) (PySem.W.looks_findIn I1.kIn iC) (fun self => PySem.W.bind_fn I1.kIn self tI) (by rw [← Paired.length r1, sizeLine_eq]; omega)
    (codeAny_mono (F1.run _ X.stack _ _ ⟨Value.ref (hp.objs.size + 1) :: us, []⟩ (Value.ref (hp.objs.size + 1) :: us) _ _ (fun _ _ _ => False) (hr.make C us []) (I2.env0.make C us []) b0 r2 hq) fun r s' hq' => ?_))
  cases r with
  | error er => exact hx pins σ _ _ er s' I2 hq'
  | ok fl =>
    cases fl with
    | ret u =>
      obtain ⟨v, H2, os2, bare2, un2, hok2, rv, ev, d, fs, ea, ed, hd1, q2⟩ := hq'
      subst ev
      obtain ⟨h2, g2, d2, t2, os'⟩ := s'
      obtain ⟨t0, G, J, kG, ge, hoe, na⟩ := mk_end0 (d2 := d2) (t2 := t2) I1 sz kk un2 hok2 os2 bare2 ea ed hd1
      exact ⟨rv, hp.objs.size + 1, _, _, ⟨G, g2, d2, t2, os'⟩, _, .ref C, some d, rfl, J, kG, ge, hoe, ⟨rfl, rfl, fun vs hv => by cases hv; rfl⟩, rfl, rfl, na, rfl, bare2, raises_own T.exC T.tyC, q2⟩
    | next => exact False.elim hq'
    | brk => exact False.elim hq'
    | cont => exact False.elim hq'
end
end Kx

/-! KKeyE: own classes over KeyError, which has its __new__ from LookupError -/
namespace Kx
open PySem PySem.F
end Kx

/-! DnRaise: raise of an own class over any base; methods that may raise -/
namespace Dn
open PySem PySem.Spec PyProof.Rows L2 Evl Kx
/-- an own class that is raised: its field, over any base -/
structure XcG (P : Program) (w : World) (K : PySem.W.Frag) (mg : Str → Option Value) (base : Heap) (k : Nat) (x f : Str) : Prop where
  ex : ∃ (C fI : Addr) (fd : FuncData) (ps : List Str) (ini : String), mg x = some (.ref C) ∧ OexG K C ini ∧ PySem.W.findIn K (.ref C) "__init__" = some (some (.ref fI)) ∧ PySem.W.typeIn K (.ref fI) = some (.type "function") ∧ FnOk P w K mg base CX0 k fI fd ps (spI K C f x) ∧ Binds K fd ps []
section
variable {X : Cx} {W : WX} {e o : Expr} {es : List Expr} {kws : List Keyword} {fa fk : XA} {g fo : XE} {pos apos : Pos} {x m : Str}
theorem raise_snd {C : Addr} {x f : Str} {g : XE} (hm : X.mg x = some (.ref C)) (E : Ends) (σ : L2.St) (H : Hp) (z : tS X.K X.mg W (xRaise x f g) E σ H) : tMkO C (spI X.K C f x) [] (tCons (tE X.K X.mg W g) tNil) σ H (fun c d H' => W c d σ H') := by
  obtain ⟨η, F, B, ρ, M, er, mm, w⟩ := z
  refine ⟨η, F, B, ρ, M, er, mm, w.bind fun d M1 B1 ρ1 H1 l1 m1 w1 v rv => ?_⟩
  refine ⟨by simp, fun a na => ⟨a, v, rfl, upd_same, fun dx nd ne => ⟨rfl, dx, [("called", .str x), (f, v)], ?_, upd_same, ?_, ?_⟩⟩⟩
  · rw [upd_ne (Ne.symm ne), upd_same]
  · rw [upd_ne ne] at nd
    exact nd
  · rw [upd_ne ne] at nd
    have e : upd (del (upd (upd (upd (upd H1 a (exo a C none)) dx (exd dx [(f, v)])) a (exo a C (some dx))) dx (exd dx [("called", .str x), (f, v)])) a) dx (.xd [("called", .str x), (f, v)]) = upd H1 dx (.xd [("called", .str x), (f, v)]) := by
      funext b
      by_cases hb1 : b = dx
      · rw [hb1, upd_same, upd_same]
      · rw [upd_ne hb1, upd_ne hb1]
        by_cases hb2 : b = a
        · rw [hb2, del_same, na]
        · rw [del_ne hb2, upd_ne hb1, upd_ne hb2, upd_ne hb1, upd_ne hb2]
    rw [e]
    exact w1 (.ref C) (some dx) B1 ρ1 _ (Le.refl _ _) (m1.more (Ex.new nd)) ⟨hm, dx, _, rfl, upd_same, .cons ⟨rfl, .str _⟩ (.cons ⟨rfl, rv⟩ .nil), fresh_back m1.fr nd, fresh_back m1.ex nd, m1.notin nd⟩ σ
theorem ds_raiseG {k : Nat} {x f : Str} {p p' : Pos} (hc : X.calm = true) (tk : L2N.Takes X W) (G : XcG X.prog X.w X.K X.mg X.base k x f) (hr : Room (k + 1) X.A) (hg : Gl X x) (he : DE X W e g) (hdb : (x == ("__debug__" : Str)) = false := by decide)
    (hs : starEach [e] X.env = (false, eval e X.env) :: starEach [] X.env := by rfl) (hpl : (backTo pos (starEach [] X.env)).any (·.1) = false := by rfl) : DS X W (.Raise (some (.Call (.Name x p) [e] [] pos)) none p') (xRaise x f g) := by
  obtain ⟨C, fI, fd, ps, ini, hm, T, iC, tI, F1, hb⟩ := G.ex
  exact PS.imp (L2N.ps_raise hc tk (pmk_exG T iC tI F1 hr hb passW hg hm (pa_cons he pa_nil hs) hdb hs hpl)) fun E σ H z => raise_snd hm E σ H z
/-! ### the class's __init__ -/
def tInitG (K : PySem.W.Frag) (ini : String) (f nm : Str) : TS := tSeq (tDrop (tBase K ini (tCons (tVar 0) (tCons (tC (.str nm)) tNil)))) (tSeq (tFld K ini f (tVar 0) (tVar 1)) (tFld K ini "called" (tVar 0) (tC (.str nm))))
theorem init_okG {P : Program} {w : World} {K : PySem.W.Frag} {mg : Str → Option Value} {base : Heap} {qual : Str} {st : Stmt} {fI C : Addr} {fd : FuncData} {N ps : List Str} {k : Nat} {f nm : Str} {ini : String} (F : Fun K "__init__" qual st fI fd) (S : FnScope N ps (defScope st)) (hN : N.length = 2) (hp : ps.length = 2)
    (T : OexG K C ini) (h1 : PySem.W.findIn K (.ref C) f = some none) (h2 : PySem.W.findIn K (.ref C) "called" = some none)
    (hb : ∀ (cdv : Value) (A : Around) (outer : List Env) (s : Shared) (H : Hp) (E : XK), PSs (cxOf CX0 P w K mg base N qual (defScope st) fI cdv A outer s H E).nox (defBody st) (tInitG K ini f nm)) : FnOk P w K mg base CX0 (k + 1) fI fd ps (spI K C f nm) := by
  refine F.ok S (fun vs H Q E h => ?_) (fun cdv A outer s H vs Q E hr h => ⟨_, hb cdv A outer s H E, ?_⟩)
  · obtain ⟨a, y, rfl, _⟩ := h
    rw [hp]
    rfl
  · obtain ⟨a, y, rfl, ha, q⟩ := h
    have e0 : L2.start N [V.ref a, y] = [some (.ref a), some y] := by simp [L2.start, hN]
    rw [e0]
    refine ⟨.ref a, rfl, a, C, [.str nm], rfl, by simp, T, ha, ?_⟩
    refine ⟨y, rfl, .ref a, rfl, a, C, rfl, T, h1, .inl ⟨ha, fun dx nd ne => ?_⟩⟩
    exact ⟨.ref a, rfl, a, C, rfl, T, h2, .inr ⟨dx, [(f, y)], upd_same, by rw [upd_ne ne, upd_same], by simp, q dx nd ne⟩⟩
/-! ### defs and methods that may raise -/
structure MtX (P : Program) (w : World) (K : PySem.W.Frag) (mg : Str → Option Value) (base : Heap) (k : Nat) (x m : Str) (n : Nat) (f : Fn) : Prop where
  ex : ∃ (C a : Addr) (fd : FuncData) (ps : List Str), PySem.W.nsIn K mainGlobals x = some (some (.ref C)) ∧ Cls K C ∧ Meth K C m a ∧ FnOk P w K mg base (L2N.CX P w) k a fd ps (spX K mg n f) ∧ Binds K fd ps []
structure MtXK (P : Program) (w : World) (K : PySem.W.Frag) (mg : Str → Option Value) (base : Heap) (k : Nat) (x m : Str) (n : Nat) (ks : List Str) (f : Fn) : Prop where
  ex : ∃ (C a : Addr) (fd : FuncData) (ps : List Str), PySem.W.nsIn K mainGlobals x = some (some (.ref C)) ∧ Cls K C ∧ Meth K C m a ∧ FnOk P w K mg base (L2N.CX P w) k a fd ps (spX K mg (n + ks.length) f) ∧ KBn K fd ps n ks (fun us ws => us ++ ws) (fun vs zs => vs ++ zs)
structure MtXDf (P : Program) (w : World) (K : PySem.W.Frag) (mg : Str → Option Value) (base : Heap) (k : Nat) (x m : Str) (n : Nat) (dfl : List D) (f : Fn) : Prop where
  ex : ∃ (C a : Addr) (fd : FuncData) (ps : List Str) (ds : List Value) (dvs : List V), PySem.W.nsIn K mainGlobals x = some (some (.ref C)) ∧ Cls K C ∧ Meth K C m a ∧ FnOk P w K mg base (L2N.CX P w) k a fd ps (spX K mg (n + dfl.length) f) ∧ Binds K fd ps ds ∧ Vals dvs ds ∧ ∀ B ρ, Rps K B ρ dfl dvs
/-- a wish that looks at no slot -/
abbrev wK (E : XK) : WX := fun c d _ H => E c d H
theorem pass_of {E : XK} (tk : L2N.Takes X (wK E)) : Passes (L2N.CX X.prog X.w) X E := fun pins σ H s e s' I c => tk e s' (L2N.XE.of_call I (fun _ _ _ h => h) c)
/-- where no error may leave -/
def xCalm (f : XE) : XE := fun η M => (f η M).calm
theorem de_calm {e : Expr} {f : XE} (h : DE X (wK fun _ _ _ => False) e f) : DE X W e (xCalm f) := PE.imp h fun σ H Q z => by
  obtain ⟨η, F, B, ρ, M, er, mm, w⟩ := z
  refine ⟨η, F, B, ρ, M, er, mm, ?_⟩
  unfold xCalm at w
  cases hf : f η M with
  | ok d M1 => rw [hf] at w; exact w
  | ex e M1 => rw [hf] at w; exact w.elim
  | no => rw [hf] at w; exact w.elim
theorem takesF : L2N.Takes X (wK fun _ _ _ => False) := fun _ _ x => by
  obtain ⟨_, _, _, _, _, _, _, _, _, _, _, _, _, _, _, _, z⟩ := x
  exact z.elim
end
end Dn

/-! KLam2: a lambda handed to a def: what the making changes, told exactly -/
namespace Kl
open PySem PySem.Spec PyProof.Rows L2 LamX
/-- the table's entries are code objects of the name q -/
def TabC (ps : Array Value) (B : Hp) (q : Str) : Prop := TriplesOk ps.toList ∧ ∀ (pos : Pos) (cv : Value), codeAmong pos ps.toList = some cv → ∃ c, cv = .ref c ∧ B c = some (CodeO c q)
/-- the heap behind the making: as it was, or a new code object, written into the table -/
def Made (P c : Addr) (q : Str) (H H1 : Hp) : Prop := H1 = H ∨ ∃ (ps more : Array Value), H P = some (.tbl ps) ∧ H c = none ∧ P ≠ c ∧ H1 = upd (upd H c (CodeO c q)) P (.tbl (ps ++ more)) ∧ TriplesOk (ps ++ more).toList ∧ ∀ (pos : Pos) (cv : Value), codeAmong pos (ps ++ more).toList = some cv → codeAmong pos ps.toList = some cv ∨ cv = .ref c
section
variable {X : Cx} {pins : List (Addr × Obj)} {σ : L2.St} {H : Hp} {s : Shared}
theorem upd_swap {a b : Addr} {x y : HO} (h : a ≠ b) : upd (upd H a x) b y = upd (upd H b y) a x := by
  funext d
  by_cases h1 : d = a
  · rw [h1, upd_ne h, upd_same, upd_same]
  · by_cases h2 : d = b
    · rw [h2, upd_same, upd_ne (Ne.symm h), upd_same]
    · rw [upd_ne h2, upd_ne h1, upd_ne h1, upd_ne h2]
theorem lam_make3 {c P : Addr} {ps : Array Value} {params : Arguments} {body : Expr} {scope : Scope} {pos : Pos} {E : Value → Shared → Prop} {Q : Value → Shared → Prop} (I : Inv X pins σ H s) (TB : TabB X.base X.mg c P) (hcode : X.env.code = .ref c)
    (hP : H P = some (.tbl ps)) (hT : TabC ps H (X.env.qual ++ "<lambda>")) (hdef : defaultsOf params X.env = ([], [])) (hfree : ∀ y ∈ scope.names, y.2 = .free → ∃ c, X.env.cells.lookup y.1 = some c)
    (h : ∀ (f c' : Addr) (pm ctv : Value) (H1 : Hp) (s' : Shared), Inv X pins σ H1 s' → Made P c' (X.env.qual ++ "<lambda>") H H1 → s'.heap.get? f = some (PySem.W.kla_obj "<lambda>" (X.env.qual ++ "<lambda>") params body scope (cloFrom X.env.cells scope.names []) pm c' ctv) → H1 f = none → f ∉ frs X.stack → H1 c' = some (CodeO c' (X.env.qual ++ "<lambda>")) → Q (.ref f) s') :
    wpAny (model X.prog X.w) X.A (eval (.Lambda params body scope pos) X.env) Q E s := by
  have far : ∀ f, s.heap.objs.size ≤ f → f ∉ frs X.stack := fun f hf z => (List.mem_cons.mp (I.stkSub _ z)).elim (fun e => by
    have q := I.lt
    rw [← e] at q
    exact Nat.lt_irrefl _ (Nat.lt_of_lt_of_le q hf)) fun e => I.nofs hf e
  have gP : s.heap.get? P = some { cls := .none, data := .fields ps } := I.hok P _ hP
  refine PySem.W.kla_eval hdef ?_
  cases hc : codeAmong pos ps.toList with
  | some cv =>
    obtain ⟨c1, rfl, hco⟩ := hT.2 pos cv hc
    exact PySem.W.kla_makeFunctionHit (mg := X.mg) (c := c) (P := P) (ps := ps) (closure_ok hfree) I.ok.glob (I.mod.glob.keeps I.bk) hcode (TB.code.keeps I.bk) gP hT.1 hc (TB.bm.keeps I.bk) fun ctv h' tk hx hsz =>
      h h'.objs.size c1 ((X.mg "__name__").getD .none) ctv H _ (I.kept (t' := tk) fun b o e => Heap.get?_push_of_some _ (hx b o e)) (.inl rfl) (Heap.get?_push_size _ rfl) (I.hok.fresh hsz) (far _ hsz) hco
  | none =>
    refine PySem.W.kla_makeFunction (mg := X.mg) (c := c) (P := P) (ps := ps) (closure_ok hfree) I.ok.glob (I.mod.glob.keeps I.bk) hcode (TB.code.keeps I.bk) gP hT.1 hc TB.gP (TB.bm.keeps I.bk) fun c' ctv h' tk hx hge hlt ⟨c2, oc, vs, t, e2, hoc, hd, hv⟩ htb => ?_
    cases e2
    have n0 : H c' = none := I.hok.fresh hge
    have nP : P ≠ c' := ne_of_none hP n0
    have up : s.heap.objs.size ≤ h'.objs.size := Nat.le_trans hge (Nat.le_of_lt hlt)
    have J := inv_table (t' := tk) (more := #[rawInt pos.line, rawInt pos.col, .ref c']) (h' := h'.push (PySem.W.kla_obj "<lambda>" (X.env.qual ++ "<lambda>") params body scope (cloFrom X.env.cells scope.names []) ((X.mg "__name__").getD .none) c' ctv)) I hP
      (fun b o hb e => Heap.get?_push_of_some _ (hx b o hb e)) (Heap.get?_push_of_some _ htb) hge ⟨oc, vs, t, Heap.get?_push_of_some _ hoc, hd, hv⟩
    have eL : (ps ++ #[rawInt pos.line, rawInt pos.col, .ref c']).toList = ps.toList ++ [rawInt pos.line, rawInt pos.col, .ref c'] := by simp
    refine h h'.objs.size c' ((X.mg "__name__").getD .none) ctv _ _ J (.inr ⟨ps, #[rawInt pos.line, rawInt pos.col, .ref c'], hP, n0, nP, (upd_swap (Ne.symm nP)).symm, by rw [eL]; exact PySem.TriplesOk_snoc _ _ _ _ hT.1, fun p' cv z => ?_⟩) (Heap.get?_push_size _ rfl) ?_ (far _ up) upd_same
    · rw [eL] at z
      exact among_app _ hT.1 z
    · rw [upd_ne (Nat.ne_of_gt hlt), upd_ne (Nat.ne_of_gt (Nat.lt_of_lt_of_le (Heap.lt_size gP) up))]
      exact I.hok.fresh up
end
/-- the context of the lambda's body, entered at s from the frames outer: what it lets out has no context -/
def lamCxN (X : Cx) (A : Around) (outer : List Env) (s : Shared) (H : Hp) (E : XK) (scope : Scope) (f c' : Addr) : Cx := (lamCx X A outer s H E scope f c').tr [] fun e s' => wpAny (model X.prog X.w) (A.deeper (lamEnv X scope s.heap.objs.size f c')) (leaving (lamEnv X scope s.heap.objs.size f c') e) (fun _ s2 => L2N.CX X.prog X.w outer H s E e s2) (fun e2 s2 => L2N.CX X.prog X.w outer H s E e2 s2) s'
section
variable {X : Cx} {pins : List (Addr × Obj)} {σ : L2.St} {H HZ : Hp} {s s1 : Shared}
abbrev gCx (X : Cx) (Ng : List Str) (qg : Str) (sg : Scope) (g : Addr) (cdg : Value) (s : Shared) (H : Hp) (pn : List (Addr × Obj)) (xe : Value → Shared → Prop) : Cx := (cxOf C8.CX0 X.prog X.w X.K X.mg X.base Ng qg sg g cdg X.A X.stack s H C8.E0).tr pn xe
/-- x(), in the def that got the lambda -/
theorem pe_actN {Ng : List Str} {qg : Str} {sg : Scope} {g f c' : Addr} {cdg pm ctv : Value} {params : Arguments} {body : Expr} {scope : Scope} {k i : Nat} {a : Str} {pn : List (Addr × Obj)} {xe : Value → Shared → Prop} {W : WX} {E : XK} {tb : TE} {p1 p2 : Pos}
    (I : Inv X pins σ H s) (L : LamS X.env.scope scope) (hf : s.heap.get? f = some (PySem.W.kla_obj "<lambda>" (X.env.qual ++ "<lambda>") params body scope (cloFrom X.env.cells scope.names []) pm c' ctv)) (hfn : H f = none) (hfr : f ∉ frs X.stack)
    (hbind : bindArgs (PySem.W.kla_fn "<lambda>" (X.env.qual ++ "<lambda>") params body scope (cloFrom X.env.cells scope.names []) pm (.ref c') ctv) ⟨[], []⟩ = pure [])
    (tk : L2N.Takes (gCx X Ng qg sg g cdg s H pn xe) W) (hW : ∀ cls d σ' H', E cls d H' → W cls d σ' H') (hr : Room (k + 1) (X.A.deeper (envOfC qg sg s.heap.objs.size g cdg)))
    (hbody : ∀ (A : Around) (outer : List Env) (s : Shared) (H : Hp), Room k (A.deeper (lamEnv X scope s.heap.objs.size f c')) → PE (lamCxN X A outer s H E scope f c') body tb)
    (hN : Ng[i]? = some a) (hv : Vis sg a) (hd : (a == ("__debug__" : Str)) = false := by decide) (hcd : (a == ("__classdict__" : Str)) = false := by decide) :
    PE (gCx X Ng qg sg g cdg s H pn xe) (.Call (.Name a p1) [] [] p2) (fun σZ HZ Q => σZ[i]? = some (some (.ref f)) ∧ HZ c' = some (CodeO c' (X.env.qual ++ "<lambda>")) ∧ tb σ HZ Q) := ⟨fun pinsZ sZ σZ HZ Q IZ ⟨hs, hc, ht⟩ => by
  refine wpAny_Call_Name_kw (thn ((pe_var (pos := p1) (i := i) hN hv hd hcd).run pinsZ sZ σZ HZ (fun v H1 => v = .ref f ∧ H1 = HZ) IZ ⟨.ref f, hs, rfl, rfl⟩) fun u s1 ⟨v, H1, I1, r1, ev, eH⟩ => ?_)
  subst ev eH
  obtain rfl : u = Value.ref f := r1
  have of1 := I1.base.keep f _ hf hfn hfr (fun z => nomatch (show f ∈ ([] : List Addr) from z))
  refine PySem.W.callWith_F0 ⟨_, _, _, _, of1⟩ (wpAny_call (codeAny_mono (?rc : codeAny (model X.prog X.w) (X.A.deeper (envOfC qg sg s.heap.objs.size g cdg)) (.call (.ref f) ⟨[], []⟩) (CR (L2N.CX X.prog X.w) (envOfC qg sg s.heap.objs.size g cdg :: X.stack) X.prog X.w H1 s1 Q E) s1) fun r s' hq => ?_))
  case rc =>
    obtain ⟨⟨oc, vs, t, hoc, hdc, hvc⟩, _, _⟩ := I1.hok c' _ hc
    refine PySem.W.kla_callFunE hr.depth of1 rfl L.co L.gen rfl ⟨c', oc, vs, t, rfl, hoc, hdc, hvc⟩ ?_
    rw [hbind]
    refine wpAny_pure (wpAny_newFunctionEnv (fun y hy => (L.own y hy).2) (fun y hy => absurd hy (by simp)) (fun h₁ hns hsb => ⟨I1.nolimit.fresh _ hsb, ?_⟩) L.kind)
    show codeAny _ _ (.expr body (lamEnv X scope s1.heap.objs.size f c')) _ _
    have J0 := lam_start2 (E := E) (f := f) (c' := c') (tk := s1.toks + ([] : List (Str × Value)).length) I L I1.env0 hr.hd I1.base hns fun b o e => hsb.extBut b o (Nat.ne_of_lt (Heap.lt_size e)) (Heap.get?_push_of_some _ e)
    have J : Inv (lamCxN X (X.A.deeper (envOfC qg sg s.heap.objs.size g cdg)) (envOfC qg sg s.heap.objs.size g cdg :: X.stack) s1 H1 E scope f c') [] σ H1 { s1 with heap := h₁, toks := s1.toks + ([] : List (Str × Value)).length } := J0.toTry _
    refine PySem.W.kla_codeExpr (wpAny_mono ((hbody _ _ s1 H1 (hr.deeper _)).run [] _ _ H1 Q J ht) (fun v s' ⟨w', H', J', rv, q⟩ => ⟨w', H', J'.os, J'.bare, J'.base, J'.hok, rv, q⟩) fun e s' hq => hq)
  have hx : Passes (L2N.CX X.prog X.w) (gCx X Ng qg sg g cdg s H pn xe) E := L2N.passes_call tk hW
  cases r with
  | error e => exact hx pinsZ σZ H1 s1 e s' I1 hq
  | ok fl =>
    cases fl with
    | ret u => exact I1.after hq
    | next => exact False.elim hq
    | brk => exact False.elim hq
    | cont => exact False.elim hq⟩
end
/-- the def that calls what it got: a calls it; TT: what it makes of the lambda's reading -/
def Gives (X : Cx) (Ng : List Str) (x : Str) (sg : Scope) (g : Addr) (cdg : Value) (bg : List Stmt) (a : Str) (q : Str) (k : Nat) (TT : (XK → Hp → VK → Prop) → Hp → VK → Prop) : Prop :=
  ∀ (f c' : Addr) (s : Shared) (H : Hp) (Q : VK) (tl : XK → Hp → VK → Prop), Room k (X.A.deeper (envOfC x sg s.heap.objs.size g cdg)) →
    (∀ (W : WX) (pn : List (Addr × Obj)) (xe : Value → Shared → Prop) (E : XK) (p1 p2 : Pos), L2N.Takes (gCx X Ng x sg g cdg s H pn xe) W → (∀ cls d σ' H', E cls d H' → W cls d σ' H') → PE (gCx X Ng x sg g cdg s H pn xe) (.Call (.Name a p1) [] [] p2) (fun σZ HZ Q => σZ[0]? = some (some (.ref f)) ∧ HZ c' = some (CodeO c' q) ∧ tl E HZ Q)) →
    H c' = some (CodeO c' q) → TT tl H Q → ∃ t, PSs (cxOf C8.CX0 X.prog X.w X.K X.mg X.base Ng x sg g cdg X.A X.stack s H C8.E0).nox bg t ∧ t { nx := fun _ H' => Q .non H', rt := Q } (L2.start Ng [.ref f]) H
/-- x(lambda: ..): the reading -/
def tLam3 (P : Addr) (q : Str) (TT : (XK → Hp → VK → Prop) → Hp → VK → Prop) (t : XK → TE) : TE := fun σ H Q => ∃ ps : Array Value, H P = some (.tbl ps) ∧ TabC ps H q ∧ ∀ c' H1, Made P c' q H H1 → H1 c' = some (CodeO c' q) → TT (fun E H' Q' => t E σ H' Q') H1 Q
section
variable {X : Cx}
theorem pe_lamcall3 {TT : (XK → Hp → VK → Prop) → Hp → VK → Prop} {x a : Str} {g c P : Addr} {k : Nat} {pg : Arguments} {bg : List Stmt} {sg : Scope} {dV kV doc pm cdv ct oc : Value} {an od : Option Addr} {osl : Array (Option Value)} {Ng : List Str}
    {params : Arguments} {body : Expr} {scope : Scope} {t : XK → TE} {p lpos pos : Pos} (hg : Gl X x) (hm : X.mg x = some (.ref g)) (hk : PySem.W.keepIn X.K (.ref g) = true)
    (lk : X.K.lookup g = some ⟨oc, od, .func (PySem.W.fnOf x x pg bg sg dV kV doc pm an cdv ct), osl⟩) (hcg : PySem.W.codeIn X.K cdv x = true) (hb : L2.Binds X.K (PySem.W.fnOf x x pg bg sg dV kV doc pm an cdv ct) [a] []) (Sg : FnScope Ng [a] sg) (hNg : Ng[0]? = some a) (hva : Vis sg a)
    (hG : Gives X Ng x sg g cdv bg a (X.env.qual ++ "<lambda>") (k + 1) TT) (TB : TabB X.base X.mg c P) (hcode : X.env.code = .ref c) (hr : Room (k + 2) X.A) (L : LamS X.env.scope scope) (hdef : defaultsOf params X.env = ([], []))
    (hbind : ∀ (q : Str) (cl : List (Str × Addr)) (pm cv ctv : Value), bindArgs (PySem.W.kla_fn "<lambda>" q params body scope cl pm cv ctv) ⟨[], []⟩ = pure [])
    (hbody : ∀ (A : Around) (outer : List Env) (s : Shared) (H : Hp) (E : XK) (f c' : Addr), Room k (A.deeper (lamEnv X scope s.heap.objs.size f c')) → PE (lamCxN X A outer s H E scope f c') body (t E))
    (hdb : (x == ("__debug__" : Str)) = false := by decide) (hd : (a == ("__debug__" : Str)) = false := by decide) (hcd : (a == ("__classdict__" : Str)) = false := by decide) :
    PE X (.Call (.Name x p) [.Lambda params body scope lpos] [] pos) (tLam3 P (X.env.qual ++ "<lambda>") TT t) := ⟨fun pins s σ H Q I ⟨ps, hP, hT, h⟩ => by
  refine wpAny_Call_Name_kw (ld_glob I hg hm (PySem.W.callWith_K (h₀ := X.base) I.ok.mod.kin hk ?_ (by rfl) (by rfl)) hdb)
  show wpAny _ _ (spliced ((false, eval (.Lambda params body scope lpos) X.env) :: backTo pos (starEach [] X.env))) _ _ s
  refine Calls.spliced_cons (lam_make3 I TB hcode hP hT hdef (L.has I.ok) fun f c' pm' ctv H1 s' I1 eM hf hfn hfr hco => Calls.spliced_nil ⟨I1.kIn, wpAny_call (codeAny_mono (?rc : codeAny (model X.prog X.w) X.A (.call (.ref g) ⟨[.ref f], []⟩) (CR C8.CX0 X.stack X.prog X.w H1 s' Q C8.E0) s') fun r s2 hq => ?_)⟩)
  case rc =>
    refine run_ofS (N := Ng) (ps := [a]) (us := [.ref f]) (vs := [.ref f]) lk hcg Sg hr I1.env0 (hb s' [.ref f] I1.kIn rfl) (.cons rfl .nil) rfl fun hr' => ?_
    obtain ⟨t', ht', hq'⟩ := hG f c' s' H1 Q (fun E H' Q' => t E σ H' Q') hr' (fun W pn xe E p1 p2 tk hW => pe_actN (i := 0) I1 L hf hfn hfr (hbind _ _ _ _ _) tk hW hr' (fun A outer s H hr2 => hbody A outer s H E f c' hr2) hNg hva hd hcd) hco (h c' H1 eM hco)
    exact ⟨t', ht'.nox, hq'⟩
  cases r with
  | error e => exact (show False from hq).elim
  | ok fl =>
    cases fl with
    | ret u => exact I1.after hq
    | next => exact False.elim hq
    | brk => exact False.elim hq
    | cont => exact False.elim hq⟩
end
end Kl

/-! DnWhich: _law_which, called with the handled exception; _law_refusal(lambda: ..) -/
namespace Dn
open PySem PySem.Spec PyProof.Rows L2 Evl L2H Kh
/-- whether the class x, whose bases of the language are bs, is one of the class c -/
def whRows (tb : Str → Bool) (a dd : Addr) (n : Nat) : XE := (xLst (xCons (xTup (xCons (xC (.str "NoSet")) (xCons (xIsE 0 a dd n (tb "NoSet")) (xCons (xIsE 0 a dd n (tb "KeyError")) xNil)))) (xCons (xTup (xCons (xC (.str "NoBook")) (xCons (xIsE 0 a dd n (tb "NoBook")) (xCons (xIsE 0 a dd n (tb "ValueError")) xNil)))) (xCons (xTup (xCons (xC (.str "NoHouse")) (xCons (xIsE 0 a dd n (tb "NoHouse")) (xCons (xIsE 0 a dd n (tb "ValueError")) xNil)))) (xCons (xTup (xCons (xC (.str "NoDesk")) (xCons (xIsE 0 a dd n (tb "NoDesk")) (xCons (xIsE 0 a dd n (tb "KeyError")) xNil)))) (xCons (xTup (xCons (xC (.str "Down")) (xCons (xIsE 0 a dd n (tb "Down")) (xCons (xIsE 0 a dd n (tb "RuntimeError")) xNil)))) (xCons (xTup (xCons (xC (.str "Up")) (xCons (xIsE 0 a dd n (tb "Up")) (xCons (xIsE 0 a dd n (tb "RuntimeError")) xNil)))) (xCons (xTup (xCons (xC (.str "NoName")) (xCons (xIsE 0 a dd n (tb "NoName")) (xCons (xIsE 0 a dd n (tb "ValueError")) xNil)))) (xCons (xTup (xCons (xC (.str "NoCount")) (xCons (xIsE 0 a dd n (tb "NoCount")) (xCons (xIsE 0 a dd n (tb "ValueError")) xNil)))) (xCons (xTup (xCons (xC (.str "NoRoom")) (xCons (xIsE 0 a dd n (tb "NoRoom")) (xCons (xIsE 0 a dd n (tb "LookupError")) xNil)))) (xCons (xTup (xCons (xC (.str "NoKind")) (xCons (xIsE 0 a dd n (tb "NoKind")) (xCons (xIsE 0 a dd n (tb "LookupError")) xNil)))) (xCons (xTup (xCons (xC (.str "TooMany")) (xCons (xIsE 0 a dd n (tb "TooMany")) (xCons (xIsE 0 a dd n (tb "OverflowError")) xNil)))) (xCons (xTup (xCons (xC (.str "Taken")) (xCons (xIsE 0 a dd n (tb "Taken")) (xCons (xIsE 0 a dd n (tb "ValueError")) xNil)))) (xCons (xTup (xCons (xC (.str "NoGuest")) (xCons (xIsE 0 a dd n (tb "NoGuest")) (xCons (xIsE 0 a dd n (tb "KeyError")) xNil)))) (xCons (xTup (xCons (xC (.str "Waits")) (xCons (xIsE 0 a dd n (tb "Waits")) (xCons (xIsE 0 a dd n (tb "RuntimeError")) xNil)))) (xCons (xTup (xCons (xC (.str "Bound")) (xCons (xIsE 0 a dd n (tb "Bound")) (xCons (xIsE 0 a dd n (tb "RuntimeError")) xNil)))) (xCons (xTup (xCons (xC (.str "NoKey")) (xCons (xIsE 0 a dd n (tb "NoKey")) (xCons (xIsE 0 a dd n (tb "IndexError")) xNil)))) (xCons (xTup (xCons (xC (.str "Needed")) (xCons (xIsE 0 a dd n (tb "Needed")) (xCons (xIsE 0 a dd n (tb "ArithmeticError")) xNil)))) (xCons (xTup (xCons (xC (.str "NoLetter")) (xCons (xIsE 0 a dd n (tb "NoLetter")) (xCons (xIsE 0 a dd n (tb "IndexError")) xNil)))) (xCons (xTup (xCons (xC (.str "NoDeed")) (xCons (xIsE 0 a dd n (tb "NoDeed")) (xCons (xIsE 0 a dd n (tb "TypeError")) xNil)))) (xCons (xTup (xCons (xC (.str "NoText")) (xCons (xIsE 0 a dd n (tb "NoText")) (xCons (xIsE 0 a dd n (tb "ValueError")) xNil)))) (xCons (xTup (xCons (xC (.str "NoRow")) (xCons (xIsE 0 a dd n (tb "NoRow")) (xCons (xIsE 0 a dd n (tb "ValueError")) xNil)))) xNil))))))))))))))))))))))
def b_which (tb : Str → Bool) (a dd : Addr) (n : Nat) : XS := (xSeq (xAsg (whRows tb a dd n) (xgName 1)) (xSeq (xAsg (xLc frozenL (xSqL (xVar 1)) (xgTup 3 (xgsCons (xgName 4) (xgsCons (xgName 5) (xgsCons (xgName 6) xgsNil)))) (xTru (xVar 5)) (xVar 4) [4, 5, 6]) (xgName 2)) (xSeq (xAsg (xLc frozenL (xSqL (xVar 1)) (xgTup 3 (xgsCons (xgName 4) (xgsCons (xgName 5) (xgsCons (xgName 6) xgsNil)))) (xAnd (xTru (xVar 5)) (xTru (xVar 6))) (xVar 4) [4, 5, 6]) (xgName 3)) (xRet (xIf (xAnd (xTst (xOp (eqM false) (xCall bLen (xCons (xVar 2) xNil)) (xC (.int 1)))) (xTst (xOp (eqM false) (xVar 3) (xVar 2)))) (xOp dIx (xVar 2) (xC (.int 0))) (xC (.str "several")))))))
theorem isE_at {η : Dv} {M : Mem} {i n : Nat} {a dd : Addr} {b : Bool} {gs : List (Str × V)} (h1 : η[i]? = some (some (.raw (.ref a)))) (h2 : M[n]? = some (.xd dd gs)) : xIsE i a dd n b η M = .ok (.bl b) M := by
  unfold xIsE
  rw [h1, h2]
  exact if_pos ⟨rfl, rfl⟩
theorem cons_at {f : XE} {g : XA} {η : Dv} {M : Mem} {d : D} {ds : List D} (h1 : f η M = .ok d M) (h2 : g η M = .ok ds M) : xCons f g η M = .ok (d :: ds) M := by
  unfold xCons
  rw [h1, R.bind_ok, h2, R.bind_ok]
theorem nil_at {η : Dv} {M : Mem} : xNil η M = .ok [] M := rfl
theorem lst_at {g : XA} {η : Dv} {M : Mem} {ds : List D} (h : g η M = .ok ds M) (hl : ds.length ≤ 100000) : xLst g η M = .ok (.lst ds) M := by
  unfold xLst
  rw [h, R.bind_ok]
  exact if_pos hl
theorem row_at {η : Dv} {M : Mem} {n : Nat} {a dd : Addr} {b1 b2 : Bool} {z : Str} {gs : List (Str × V)} (h1 : η[0]? = some (some (.raw (.ref a)))) (h2 : M[n]? = some (.xd dd gs)) : xTup (xCons (xC (.str z)) (xCons (xIsE 0 a dd n b1) (xCons (xIsE 0 a dd n b2) xNil))) η M = .ok (.tup [.str z, .bl b1, .bl b2]) M := by
  unfold xTup
  rw [cons_at rfl (cons_at (isE_at h1 h2) (cons_at (isE_at h1 h2) nil_at)), R.bind_ok]
  rfl
theorem rows_at {η : Dv} {M : Mem} {n : Nat} {a dd : Addr} {tb : Str → Bool} {gs : List (Str × V)} (h1 : η[0]? = some (some (.raw (.ref a)))) (h2 : M[n]? = some (.xd dd gs)) : whRows tb a dd n η M = .ok (.lst [.tup [.str "NoSet", .bl (tb "NoSet"), .bl (tb "KeyError")], .tup [.str "NoBook", .bl (tb "NoBook"), .bl (tb "ValueError")], .tup [.str "NoHouse", .bl (tb "NoHouse"), .bl (tb "ValueError")], .tup [.str "NoDesk", .bl (tb "NoDesk"), .bl (tb "KeyError")], .tup [.str "Down", .bl (tb "Down"), .bl (tb "RuntimeError")], .tup [.str "Up", .bl (tb "Up"), .bl (tb "RuntimeError")], .tup [.str "NoName", .bl (tb "NoName"), .bl (tb "ValueError")], .tup [.str "NoCount", .bl (tb "NoCount"), .bl (tb "ValueError")], .tup [.str "NoRoom", .bl (tb "NoRoom"), .bl (tb "LookupError")], .tup [.str "NoKind", .bl (tb "NoKind"), .bl (tb "LookupError")], .tup [.str "TooMany", .bl (tb "TooMany"), .bl (tb "OverflowError")], .tup [.str "Taken", .bl (tb "Taken"), .bl (tb "ValueError")], .tup [.str "NoGuest", .bl (tb "NoGuest"), .bl (tb "KeyError")], .tup [.str "Waits", .bl (tb "Waits"), .bl (tb "RuntimeError")], .tup [.str "Bound", .bl (tb "Bound"), .bl (tb "RuntimeError")], .tup [.str "NoKey", .bl (tb "NoKey"), .bl (tb "IndexError")], .tup [.str "Needed", .bl (tb "Needed"), .bl (tb "ArithmeticError")], .tup [.str "NoLetter", .bl (tb "NoLetter"), .bl (tb "IndexError")], .tup [.str "NoDeed", .bl (tb "NoDeed"), .bl (tb "TypeError")], .tup [.str "NoText", .bl (tb "NoText"), .bl (tb "ValueError")], .tup [.str "NoRow", .bl (tb "NoRow"), .bl (tb "ValueError")]]) M := by
  exact lst_at (by repeat (first | exact nil_at | exact row_at h1 h2 | refine cons_at (row_at h1 h2) ?_)) (Nat.le_of_ble_eq_true rfl)
abbrev StartW (a : Addr) : Dv := some (.raw (.ref a)) :: List.replicate 6 none
def WhV (x : Str) (bs : List Str) : Prop := ∀ (M : Mem) (n : Nat) (a dd : Addr) (gs : List (Str × V)), M[n]? = some (.xd dd gs) → b_which (tbW x bs) a dd n (StartW a) M = .ok (.rt (.str x)) M
theorem which_NoRoom : WhV "NoRoom" ["LookupError"] := by
  intro M n a dd gs h2
  unfold b_which xSeq xAsg
  rw [rows_at rfl h2]
  rfl
/-! ### the promise of `_law_which` -/
structure FnW (P : Program) (w : World) (K : PySem.W.Frag) (mg : Str → Option Value) (base : Heap) (k : Nat) (f : Addr) (fd : FuncData) (ps : List Str) (x : Str) : Prop where
  len : ps.length = 1
  run : ∀ (A : Around) (outer : List Env) (s : Shared) (H : Hp) (args : Args) (p : Addr × Obj) (C dd : Addr) (gs : List (Str × V)) (F B : Hp) (ρ : List Addr) (M : Mem) (n : Nat) (Q : VK) (E : XK), RoomH k A → Hot1 A p → PinOk outer H s p → Env0 P w K mg base A outer s H → BindsTo s fd args (ps.zip [.ref p.1]) →
    mg x = some (.ref C) → Zc (.ref C) (some dd) p.2 → (∃ vs, p.2.data = .fields vs) → MR K F B ρ M H → M[n]? = some (.xd dd gs) → (∀ B' ρ' H', Le B ρ B' ρ' → MR K F B' ρ' M H' → Q (.str x) H') → codeAny (model P w) A (.call (.ref f) args) (CR CX0 outer P w H s Q E) s
theorem fnW_of {P : Program} {w : World} {K : PySem.W.Frag} {mg : Str → Option Value} {base : Heap} {x0 qual : Str} {st : Stmt} {f : Addr} {fd : FuncData} {N ps : List Str} {k : Nat} {x : Str} {body : Addr → Addr → Nat → XS} (F : Fun K x0 qual st f fd) (S : FnScope N ps (defScope st)) (hp : ps.length = 1)
    (hb : ∀ (cdv : Value) (A : Around) (outer : List Env) (s : Shared) (H : Hp) (E : XK) (p : Addr × Obj) (C dd : Addr) (n : Nat), Hot1 A p → RoomH k (A.deeper (envOfC qual (defScope st) s.heap.objs.size f cdv)) → mg x = some (.ref C) → Zc (.ref C) (some dd) p.2 → (∃ vs, p.2.data = .fields vs) →
      DSs (cxH CX0 P w K mg base N qual (defScope st) f cdv A outer s H E p) (fun _ _ _ _ => False) (defBody st) (body p.1 dd n))
    (hv : ∀ (M : Mem) (n : Nat) (a dd : Addr) (gs : List (Str × V)), M[n]? = some (.xd dd gs) → body a dd n (some (.raw (.ref a)) :: List.replicate (N.length - 1) none) M = .ok (.rt (.str x)) M) : FnW P w K mg base (k + 1) f fd ps x := by
  obtain ⟨oc, od, kV, doc, pm, an, cdv, ct, osl, rfl, lk, hcd⟩ := F.ex
  refine ⟨hp, fun A outer s H args p C dd gs Fr B ρ M n Q E hr hot hpin e0 hbd hm hz hf mr hM hq => ?_⟩
  have keep : ∀ {b o}, base.get? b = some o → s.heap.get? b = some o := fun {b o} e => (e0.bs b o e).1
  have hkind : ∀ y ∈ ps.zip [Value.ref p.1], (defScope st).names.lookup y.1 = some .local ∨ ((defScope st).names.lookup y.1 = some .cell ∧ ((cellsFrom (s.heap.objs.size + 1) (defScope st).names []).lookup y.1).isSome = true) := fun ⟨_, _⟩ hy =>
    (S.par _ (List.of_mem_zip hy).1).imp id fun q => ⟨q, PySem.W.cellsFrom_some _ _ _ (.inl q)⟩
  refine codeAny_call_function hr.depth (e0.mod.kin.keeps (fun _ _ => keep) _ _ lk) rfl S.co S.gen rfl (PySem.W.codeRec_of (e0.mod.kin.keeps fun _ _ => keep) hcd) (hbd _ _ _ _ (wpAny_newFunctionEnv_cells S.kind hkind fun env he s1 xx => ?_))
  subst he
  refine ⟨(e0.mod.nolimit.keeps fun _ _ => keep).keeps xx.toInCall.keep, codeAny_func ?_⟩
  have I := inv_startH (CX := CX0) (E := E) (us := [.ref p.1]) (vs := [.ref p.1]) S hpin e0 (by rw [hp]; rfl) (.cons rfl .nil) xx
  have er := er_start (K := K) (B := B) (ρ := ρ) (N := N) (.cons (.raw (.ref p.1)) .nil : Rps K B ρ [.raw (.ref p.1)] [.ref p.1])
  refine wpAny_mono ((hb cdv A outer s H E p C dd n hot (hr.deeper _) hm hz hf).run [] s1 (L2.start N [.ref p.1]) H { nx := fun _ _ => False, rt := Q } I ⟨_, Fr, B, ρ, M, er, mr, ?_⟩) (fun fl s2 hs => ?_) fun _ _ h => h
  · rw [show ([D.raw (.ref p.1)].map some ++ List.replicate (N.length - [D.raw (.ref p.1)].length) none : Dv) = some (.raw (.ref p.1)) :: List.replicate (N.length - 1) none from rfl, hv M n p.1 dd gs hM]
    exact fun B' ρ' H' l m v rv => by
      cases rv
      exact hq B' ρ' H' l m
  · cases fl with
    | ret u =>
      obtain ⟨v, _, H2, J, rv, q⟩ := hs
      exact ⟨v, H2, J.os, J.bare, J.base, J.hok, rv, q⟩
    | next => obtain ⟨_, _, _, q⟩ := hs; exact False.elim q
    | brk => obtain ⟨_, _, _, q⟩ := hs; exact False.elim q
    | cont => obtain ⟨_, _, _, q⟩ := hs; exact False.elim q
end Dn

/-! DnRef: _law_refusal(lambda: ..) -/
namespace Dn
open PySem PySem.Spec PyProof.Rows L2 Evl L2H Kh LamX Kl
section
variable {X : Cx} {a : Addr} {oe : Obj} {pn : List (Addr × Obj)} {cls : Value} {d : Option Addr} {f : Addr} {fd : FuncData} {ps : List Str} {k i : Nat} {x0 e fl : Str} {q1 q2 q3 q4 : Pos}
/-- `_law_which(e)`: its answer -/
def tWho (P : Program) (w : World) (K : PySem.W.Frag) (mg : Str → Option Value) (base : Heap) (k : Nat) (f : Addr) (fd : FuncData) (ps : List Str) (i : Nat) (a : Addr) (cls : Value) (d : Option Addr) : TE := fun σ H Q => σ[i]? = some (some (.ref a)) ∧ ∃ (x : Str) (C dd : Addr) (gs : List (Str × V)) (F B : Hp) (ρ : List Addr) (M : Mem) (n : Nat),
  FnW P w K mg base k f fd ps x ∧ mg x = some (.ref C) ∧ cls = .ref C ∧ d = some dd ∧ MR K F B ρ M H ∧ M[n]? = some (.xd dd gs) ∧ ∀ B' ρ' H', Le B ρ B' ρ' → MR K F B' ρ' M H' → Q (.str x) H'
theorem pe_who (hg : Gl X x0) (hm : X.mg x0 = some (.ref f)) (hk : PySem.W.keepIn X.K (.ref f) = true) (hb : Binds X.K fd ps []) (hr : Room k X.A) (hz : L2N.Zn cls d oe) (hf : ∃ vs, oe.data = .fields vs) (hi : X.N[i]? = some e) (hv : Vis X.env.scope e)
    (hdb : (x0 == ("__debug__" : Str)) = false := by decide) (hd1 : (e == ("__debug__" : Str)) = false := by decide) (hd2 : (e == ("__classdict__" : Str)) = false := by decide) : PE (X.suite a ((a, oe) :: pn)) (.Call (.Name x0 q1) [.Name e q2] [] q3) (tWho X.prog X.w X.K X.mg X.base k f fd ps i a cls d) := by
  refine ⟨fun pins s σ H Q I ⟨hs, x, C, dd, gs, Fr, B, ρ, M, n, Fw, hmx, hcls, hdd, mr, hM, q⟩ => ?_⟩
  subst hcls hdd
  refine wpAny_Call_Name_kw (ld_glob (X := X.suite a ((a, oe) :: pn)) I hg hm (PySem.W.callWith_K (h₀ := X.base) I.ok.mod.kin hk (thn ((pa_cons (pe_var (X := X.suite a ((a, oe) :: pn)) (pos := q2) hi hv hd1 hd2) pa_nil).run q3 pins s σ H (fun vs H1 => vs = [.ref a] ∧ H1 = H) I ⟨.ref a, hs, rfl, rfl⟩) fun us s1 ⟨vs, H1, I1, r, e1, e2⟩ => ⟨I1.kIn, ?_⟩) rfl rfl) hdb)
  subst e1 e2
  obtain ⟨u, rfl, ru⟩ : ∃ u, us = [u] ∧ RelV (.ref a) u := by
    cases r with
    | cons r1 rr => cases rr; exact ⟨_, rfl, r1⟩
  obtain rfl : u = Value.ref a := ru
  have b := hb s1 [.ref a] I1.kIn (by rw [List.append_nil, Fw.len]; rfl)
  rw [List.append_nil] at b
  have P1 := I1.pin (a, oe) (List.mem_append_left _ List.mem_cons_self)
  obtain ⟨vs, hvs⟩ := hf
  refine wpAny_call (codeAny_mono (Fw.run _ _ s1 H1 ⟨[.ref a], []⟩ (a, oe) C dd gs Fr B ρ M n Q E0 (⟨hr.dp, hr.un⟩) ⟨rfl, vs, hvs, hz.2.2 vs hvs⟩ ⟨P1.1, P1.2.1, fun hm => (List.mem_cons.mp (I1.stkSub a hm)).elim P1.2.2.1 P1.2.2.2.1, P1.2.2.2.2⟩ I1.env0 b hmx hz.zc ⟨vs, hvs⟩ mr hM q) fun r2 s2 hq => ?_)
  cases r2 with
  | error er => exact hq.elim
  | ok w =>
    cases w with
    | ret u => exact I1.after hq
    | next => exact False.elim hq
    | brk => exact False.elim hq
    | cont => exact False.elim hq
/-- e.f -/
def tFldE (K : PySem.W.Frag) (i : Nat) (fl : Str) (a : Addr) (cls : Value) (d : Option Addr) : TE := fun σ H Q => ∃ C, XfC K C ∧ PySem.W.findIn K (.ref C) fl = some none ∧ tXf a cls d C fl (tVar i) σ H Q
theorem pe_fldE (hz : L2N.Zn cls d oe) (hf : ∃ vs, oe.data = .fields vs) (hi : X.N[i]? = some e) (hv : Vis X.env.scope e) (hb : attributeBase (.Name e q2) fl X.env (eval (.Name e q2) X.env) = eval (.Name e q2) X.env := by rfl)
    (hd1 : (e == ("__debug__" : Str)) = false := by decide) (hd2 : (e == ("__classdict__" : Str)) = false := by decide) : PE (X.suite a ((a, oe) :: pn)) (.Attribute (.Name e q2) fl q4) (tFldE X.K i fl a cls d) :=
  ⟨fun pins s σ H Q I ⟨C, T, hn, h⟩ => (pe_xf T hn hz.zc hf (pe_var (X := X.suite a ((a, oe) :: pn)) hi hv hd1 hd2) hb).run pins s σ H Q I h⟩
abbrev tsF (P : Program) (w : World) (K : PySem.W.Frag) (mg : Str → Option Value) (base : Heap) (k : Nat) (f : Addr) (fd : FuncData) (ps : List Str) (i : Nat) (fl : Str) : Addr → Value → Option Addr → TS := fun a cls d => tRet (tTup (tCons (tWho P w K mg base k f fd ps i a cls d) (tCons (tFldE K i fl a cls d) tNil)))
abbrev tsN (P : Program) (w : World) (K : PySem.W.Frag) (mg : Str → Option Value) (base : Heap) (k : Nat) (f : Addr) (fd : FuncData) (ps : List Str) (i : Nat) : Addr → Value → Option Addr → TS := fun a cls d => tRet (tTup (tCons (tWho P w K mg base k f fd ps i a cls d) (tCons (tC .non) tNil)))
end
/-- the clause that is taken -/
inductive Picks (cls : Value) : List Clause → (Addr → Value → Option Addr → TS) → Prop
  | here {mt : Value → Option Bool} {ts : Addr → Value → Option Addr → TS} {r : List Clause} : mt cls = some true → Picks cls ((mt, ts) :: r) ts
  | next {mt : Value → Option Bool} {ts ts' : Addr → Value → Option Addr → TS} {r : List Clause} : mt cls = some false → Picks cls r ts → Picks cls ((mt, ts') :: r) ts
theorem wClauses_of {i : Nat} {Wout : WX} {D : Ends} {cls : Value} {d : Option Addr} {σ : L2.St} {H : Hp} {ts : Addr → Value → Option Addr → TS} : ∀ {l : List Clause}, Picks cls l ts → (∀ a, H a = none → ts a cls d { nx := fun σ' H' => D.nx (σ'.set i none) H', rt := D.rt, bk := fun σ' H' => D.bk (σ'.set i none) H', ct := fun σ' H' => D.ct (σ'.set i none) H' } (σ.set i (some (.ref a))) H) → wClauses i Wout D l cls d σ H
  | _, .here e, h => ⟨true, e, fun _ => h, fun z => by cases z⟩
  | _, .next e p, h => ⟨false, e, (fun z => by simp at z), fun _ => wClauses_of p h⟩
section
variable {X : Cx}
theorem takes_len {X : Cx} {W W' : WX} (t : L2N.Takes X W) (h : ∀ c d σ H, σ.length = X.N.length → W' c d σ H → W c d σ H) : L2N.Takes X W' := fun u s' ⟨a, B, sI, pins, σ, H, cls, d, e, I, nb, up, sky, na, os, ag, w⟩ => t u s' ⟨a, B, sI, pins, σ, H, cls, d, e, I, nb, up, sky, na, os, ag, h _ _ _ _ I.len w⟩
/-- told: try: a() / except ..: .. / return ("none", None) -/
def TRef (l : List Clause) : (XK → Hp → VK → Prop) → Hp → VK → Prop := fun tl H Q =>
  tl (fun c d H' => ∀ (D : Ends) (σ' : L2.St), σ'.length = 2 → D.rt = Q → wClauses 1 (fun _ _ _ _ => False) D l c d σ' H') H (fun _ H' => [V.str "none", V.non].length ≤ sizeLine ∧ ∀ tp, H' tp = none → Q (.ref tp) (upd H' tp (.tup [.str "none", .non])))
theorem gives_of {Ng : List Str} {x a n q : Str} {sg : Scope} {g : Addr} {cdg : Value} {k : Nat} {h0 : ExceptHandler} {hds : List ExceptHandler} {l : List Clause} {p1 p2 p3 p4 p5 p6 p7 p8 : Pos} {k1 k2 k3 : _} (hN : Ng.Nodup) (hi : Ng[1]? = some n) (hln : sg.names.lookup n = some .local) (hl2 : Ng.length = 2) (h0' : ∀ f : Addr, (L2.start Ng [V.ref f])[0]? = some (some (V.ref f)))
    (hkd : ∀ (s : Shared) (H : Hp), ((cxOf C8.CX0 X.prog X.w X.K X.mg X.base Ng x sg g cdg X.A X.stack s H C8.E0).nox).env.kindOf n = some .local)
    (hcl : ∀ (s : Shared) (H : Hp), Room k (X.A.deeper (envOfC x sg s.heap.objs.size g cdg)) → ClsOk (cxOf C8.CX0 X.prog X.w X.K X.mg X.base Ng x sg g cdg X.A X.stack s H C8.E0).nox n (h0 :: hds) l) :
    Gives X Ng x sg g cdg [.Try [.Expr (.Call (.Name a p1) [] [] p2) p3] (h0 :: hds) [] [] p4, .Return (some (.Tuple [.Constant (.str "none") k1 p5, .Constant .none k2 p6] k3 p7)) p8] a q k (TRef l) := by
  intro f c' s H Q tl hr act hc h
  refine ⟨_, pss_cons (ps_try_clauses (X := (cxOf C8.CX0 X.prog X.w X.K X.mg X.base Ng x sg g cdg X.A X.stack s H C8.E0).nox) (i := 1) (Wout := fun _ _ _ _ => False)
      (tb := fun W D σ H => ∃ Ech : XK, (∀ cls d σ' H', σ'.length = Ng.length → Ech cls d H' → W cls d σ' H') ∧ σ[0]? = some (some (.ref f)) ∧ H c' = some (CodeO c' q) ∧ tl Ech H (fun _ H' => D.nx σ H')) rfl rfl hN hi (hkd s H) takesF (fun W pn xe tk _ => pss_one ⟨fun pins s' σ H' D I ⟨Ech, hW, h1, h2, h3⟩ => ?_⟩) (hcl s H hr)) (pss_one (ps_ret (pe_tup (pa_cons pe_str (pa_cons pe_non pa_nil))))), ?_⟩
  · exact (ps_expr (act (wK Ech) pn xe Ech p1 p2 (takes_len tk fun c d σ H hl z => hW c d σ H hl z) fun _ _ _ _ z => z)).run pins s' σ H' D I ⟨h1, h2, h3⟩
  · exact ⟨_, fun cls d σ' H' hl z => z _ σ' (by rw [hl, hl2]) rfl, h0' f, hc, h⟩
end
/-- what the refusal's clauses make of the class x, whose field is told (or none) -/
structure RefX (P : Program) (w : World) (K : PySem.W.Frag) (mg : Str → Option Value) (base : Heap) (l : List Clause) (k : Nat) (f : Addr) (fd : FuncData) (ps : List Str) (x : Str) (fl : Option Str) : Prop where
  ex : ∃ C, mg x = some (.ref C) ∧ FnW P w K mg base k f fd ps x ∧ match fl with
    | some y => Picks (.ref C) l (tsF P w K mg base k f fd ps 1 y) ∧ XfC K C ∧ PySem.W.findIn K (.ref C) y = some none
    | none => Picks (.ref C) l (tsN P w K mg base k f fd ps 1)
/-- `_law_refusal(lambda: g)` in the def y, the table of whose code objects is the thing number i -/
def xRefusal (xs : List (Str × Option Str)) (i : Nat) (y q : Str) (g : XE) : XE := fun η M => match M[i]? with
  | some (.tab y' q') => if y' = y ∧ q' = q then match g η M with
    | .ok _ M1 => .ok (.tup [.str "none", .non]) M1
    | .ex e M1 => match xs.lookup e.cls with
      | some (some fl) => match e.fs.lookup fl with
        | some d => .ok (.tup [.str e.cls, d]) (M1 ++ [.gone])
        | none => .no
      | some none => .ok (.tup [.str e.cls, .non]) (M1 ++ [.gone])
      | none => .no
    | .no => .no
    else .no
  | _ => .no
theorem pair_at {K : PySem.W.Frag} {F B H : Hp} {ρ : List Addr} {M1 : Mem} {dd : Addr} {gs : List (Str × V)} {ds : List D} {vs : List V} {d : D} (m : MR K F B ρ (M1 ++ [.xd dd gs]) H) {tp : Addr} (ht : H tp = none) (r : Rps K B ρ ds vs) : ∃ B' H', H' = upd H tp (.tup vs) ∧ MR K F B' ρ (M1 ++ [.gone]) H' ∧ Le B ρ B' ρ ∧ Rp K B' ρ (.tup ds) (.ref tp) := by
  obtain ⟨m2, l2⟩ := m.new (o := .tup vs) ht
  have hM : (M1 ++ [Ob.xd dd gs])[M1.length]? = some (.xd dd gs) := by simp
  obtain ⟨a0, ha0, _, e0, h0⟩ := m2.ob _ _ hM
  have m3 := m2.retell (ob := .gone) ha0 hM (by intro z; cases z) ⟨_, h0⟩
  rw [show (M1 ++ [Ob.xd dd gs]).set M1.length .gone = M1 ++ [.gone] by simp] at m3
  exact ⟨_, _, rfl, m3, l2, .tup (st_of upd_same) (r.mono l2) (.inr upd_same)⟩
section
variable {X : Cx} {W : WX}
theorem made_mr {K : PySem.W.Frag} {F B H H1 : Hp} {ρ : List Addr} {M : Mem} {i : Nat} {a c' : Addr} {y q : Str} {ps : Array Value} (m : MR K F B ρ M H) (ha : ρ[i]? = some a) (hM : M[i]? = some (.tab y q)) (hT : TabAt K y a) (hP : H a = some (.tbl ps)) (cod : ∀ (pos : Pos) (cv : Value), codeAmong pos ps.toList = some cv → ∃ c, cv = .ref c ∧ B c = some (CodeO c q)) (mk : Made a c' q H H1) :
    ∃ B1, Le B ρ B1 ρ ∧ MR K F B1 ρ M H1 := by
  rcases mk with rfl | ⟨ps0, more, hP0, hn, hne, rfl, tr, cd⟩
  · exact ⟨B, Le.refl _ _, m⟩
  · rw [hP] at hP0
    cases hP0
    obtain ⟨m2, l2⟩ := m.new (o := CodeO c' q) hn
    have m3 := m2.put (o := .tbl (ps ++ more)) (ob := .tab y q) ha hM (by intro z; cases z) ⟨hT, _, upd_same, tr, fun pos cv hc => by
      rcases cd pos cv hc with z | z
      · obtain ⟨c, e1, e2⟩ := cod pos cv z
        exact ⟨c, e1, l2.1 _ _ e2⟩
      · exact ⟨c', z, upd_same⟩⟩
    have e : M.set i (.tab y q) = M := by
      apply List.ext_getElem?
      intro j
      by_cases hj : i = j
      · subst hj
        rw [List.getElem?_set_self (List.getElem?_eq_some_iff.mp hM).1, hM]
      · rw [List.getElem?_set_ne hj]
    rw [e] at m3
    exact ⟨_, l2, m3⟩
theorem de_refusal {xs : List (Str × Option Str)} {l : List Clause} {i : Nat} {y x a : Str} {g c P fW : Addr} {fdW : FuncData} {psW : List Str} {k kw : Nat} {pg : Arguments} {bg : List Stmt} {sg : Scope} {dV kV doc pm cdv ct oc : Value} {an od : Option Addr} {osl : Array (Option Value)} {Ng : List Str}
    {params : Arguments} {body : Expr} {scope : Scope} {fn : XE} {p lpos pos : Pos} (hx : ∀ z ∈ xs, RefX X.prog X.w X.K X.mg X.base l kw fW fdW psW z.1 z.2) (hTab : TabAt X.K y P)
    (hg : Gl X x) (hm : X.mg x = some (.ref g)) (hk : PySem.W.keepIn X.K (.ref g) = true)
    (lk : X.K.lookup g = some ⟨oc, od, .func (PySem.W.fnOf x x pg bg sg dV kV doc pm an cdv ct), osl⟩) (hcg : PySem.W.codeIn X.K cdv x = true) (hb : L2.Binds X.K (PySem.W.fnOf x x pg bg sg dV kV doc pm an cdv ct) [a] []) (Sg : FnScope Ng [a] sg) (hNg : Ng[0]? = some a) (hva : Vis sg a)
    (hG : Gives X Ng x sg g cdv bg a (X.env.qual ++ "<lambda>") (k + 1) (TRef l)) (TB : TabB X.base X.mg c P) (hcode : X.env.code = .ref c) (hr : Room (k + 2) X.A) (L : LamS X.env.scope scope)
    (hbody : ∀ (A : Around) (outer : List Env) (s : Shared) (H : Hp) (E : XK) (f c' : Addr), Room k (A.deeper (lamEnv X scope s.heap.objs.size f c')) → L2N.Takes (lamCxN X A outer s H E scope f c') (wK E) → DE (lamCxN X A outer s H E scope f c') (wK E) body fn)
    (htk : ∀ (A : Around) (outer : List Env) (s : Shared) (H : Hp) (E : XK) (f c' : Addr), L2N.Takes (lamCxN X A outer s H E scope f c') (wK E))
    (hdef : defaultsOf params X.env = ([], []) := by rfl) (hbind : ∀ (q : Str) (cl : List (Str × Addr)) (pm cv ctv : Value), bindArgs (PySem.W.kla_fn "<lambda>" q params body scope cl pm cv ctv) ⟨[], []⟩ = pure [] := by intros; rfl)
    (hdb : (x == ("__debug__" : Str)) = false := by decide) (hd : (a == ("__debug__" : Str)) = false := by decide) (hcd : (a == ("__classdict__" : Str)) = false := by decide) :
    DE X W (.Call (.Name x p) [.Lambda params body scope lpos] [] pos) (xRefusal xs i y (X.env.qual ++ "<lambda>") fn) := by
  refine PE.imp (pe_lamcall3 (t := fun E => tE X.K X.mg (wK E) fn) hg hm hk lk hcg hb Sg hNg hva hG TB hcode hr L hdef hbind (fun A outer s H E f c' hr' => hbody A outer s H E f c' hr' (htk A outer s H E f c')) hdb hd hcd) fun σ H Q z => ?_
  obtain ⟨η, F, B, ρ, M, er, m, w⟩ := z
  unfold xRefusal at w
  split at w
  · next y' q' hM =>
    split at w
    · next hyq =>
      obtain ⟨rfl, rfl⟩ := hyq
      obtain ⟨a0, ha, hB, hT, ps, hP, tr, cod⟩ := m.ob i _ hM
      obtain rfl := hT.inj hTab
      refine ⟨ps, hP, ⟨tr, fun ps' cv hc => let ⟨c, e1, e2⟩ := cod ps' cv hc; ⟨c, e1, m.ex _ _ e2⟩⟩, fun c' H1 made hc' => ?_⟩
      obtain ⟨B1, l1, m1⟩ := made_mr m ha hM hT hP cod made
      refine ⟨η, F, B1, ρ, M, er.mono l1, m1, ?_⟩
      cases hf : fn η M with
      | no => rw [hf] at w; exact w.elim
      | ok d M1 =>
        rw [hf] at w
        intro B2 ρ2 H2 l2 m2 v rv
        refine ⟨Nat.le_of_ble_eq_true rfl, fun tp ntp => ?_⟩
        obtain ⟨m3, l3⟩ := m2.new (o := .tup [.str "none", .non]) ntp
        exact w _ _ _ ((l1.trans l2).trans l3) m3 _ (.tup (st_of upd_same) (.cons (.str _) (.cons .non .nil)) (.inr upd_same))
      | ex e M1 =>
        rw [hf] at w
        intro cc dx B2 ρ2 H2 l2 m2 xr D σ' hlen hrt
        obtain ⟨hmc, dd, gs, rfl, hdd, hpr, hF, hB2, hρ⟩ := xr
        obtain ⟨mt, lt⟩ := m2.track hdd hF hB2 hρ
        have hxd : (M1 ++ [Ob.xd dd gs])[M1.length]? = some (.xd dd gs) := by simp
        have hset : ∀ a : Addr, (σ'.set 1 (some (V.ref a)))[1]? = some (some (.ref a)) := fun a => List.getElem?_set_self (by omega)
        dsimp only at w
        split at w
        · next fl hl =>
          split at w
          · next dv hfl =>
            obtain ⟨C, hC, Fw, pk, xf, fn0⟩ := (hx _ (look_mem hl)).ex
            rw [hC] at hmc
            cases hmc
            obtain ⟨v, hv, rv⟩ := look_rel hpr hfl
            refine wClauses_of pk fun a na => ⟨hset a, e.cls, C, dd, gs, F, B2, _, _, M1.length, Fw, hC, rfl, rfl, mt, hxd, fun B3 ρ3 H3 l3 m3 => ?_⟩
            obtain ⟨a3, _, _, e3, h3⟩ := m3.ob _ _ hxd
            subst e3
            refine ⟨C, xf, fn0, .ref a, hset a, rfl, rfl, a3, gs, v, rfl, h3, hv, Nat.le_of_ble_eq_true rfl, fun tp ntp => ?_⟩
            obtain ⟨B4, H4, rfl, m4, l4, r4⟩ := pair_at (d := dv) m3 ntp (.cons (.str e.cls) (.cons (rv.mono (lt.trans l3)) .nil))
            show D.rt _ _
            rw [hrt]
            exact w _ _ _ ((l1.trans l2).trans ((lt.trans l3).trans l4)) m4 _ r4
          · exact w.elim
        · next hl =>
          obtain ⟨C, hC, Fw, pk⟩ := (hx _ (look_mem hl)).ex
          rw [hC] at hmc
          cases hmc
          refine wClauses_of pk fun a na => ⟨hset a, e.cls, C, dd, gs, F, B2, _, _, M1.length, Fw, hC, rfl, rfl, mt, hxd, fun B3 ρ3 H3 l3 m3 => ⟨Nat.le_of_ble_eq_true rfl, fun tp ntp => ?_⟩⟩
          obtain ⟨B4, H4, rfl, m4, l4, r4⟩ := pair_at (d := .non) m3 ntp (.cons (.str e.cls) (.cons .non .nil))
          show D.rt _ _
          rw [hrt]
          exact w _ _ _ ((l1.trans l2).trans ((lt.trans l3).trans l4)) m4 _ r4
        · exact w.elim
    · exact w.elim
  · exact w.elim
end
end Dn

/-! DnRef2: what must stand of the refusal's classes; the refusal in one bundle; defs with lambdas -/
namespace Dn
open PySem PySem.Spec PyProof.Rows L2 Evl L2H Kh LamX Kl
def lamQ (x : Str) : Str := x ++ ".<locals>." ++ "<lambda>"
/-- the classes of the refusal's clauses -/
def clsOf (mg : Str → Option Value) (ns : List Str) : List Value := ns.map fun n => (mg n).getD .none
structure RfG (mg : Str → Option Value) : Prop where
  own : ∀ n ∈ ownN, ∃ c, mg n = some (.ref c)
  bas : ∀ b ∈ basN, mg b.1 = none
/-- the class x: its bases of the language, its clause, its field -/
structure RfD (K : PySem.W.Frag) (mg : Str → Option Value) (x : Str) (bs : List Str) (j : Nat) (fl : Option Str) : Prop where
  ex : ∃ C, mg x = some (.ref C) ∧ ExcC K C ∧ XfC K C ∧ (∀ y, fl = some y → PySem.W.findIn K (.ref C) y = some none) ∧ (∀ n ∈ ownN, ∀ D', mg n = some (.ref D') → PySem.W.kitOne K (.ref C) (.ref D') = some (tbW x bs n)) ∧ (∀ b ∈ basN, PySem.W.kitOne K (.ref C) (.type b.2) = some (tbW x bs b.1)) ∧
    ∀ (i : Nat) (ns : List Str), clN[i]? = some ns → i ≤ j → mtOf K (clsOf mg ns) (.ref C) = some (decide (i = j))
/-- the refusal: the classes xs with their fields -/
structure RfOk (P : Program) (w : World) (K : PySem.W.Frag) (mg : Str → Option Value) (base : Heap) (xs : List (Str × Option Str)) : Prop where
  ex : ∃ (l : List Clause) (g fW : Addr) (fdW : FuncData) (psW : List Str) (pg : Arguments) (bg : List Stmt) (sg : Scope) (dV kV doc pm cdv ct oc : Value) (an od : Option Addr) (osl : Array (Option Value)) (Ng : List Str) (a : Str),
    (∀ z ∈ xs, RefX P w K mg base l 1 fW fdW psW z.1 z.2) ∧ mg "_law_refusal" = some (.ref g) ∧ PySem.W.keepIn K (.ref g) = true ∧ K.lookup g = some ⟨oc, od, .func (PySem.W.fnOf "_law_refusal" "_law_refusal" pg bg sg dV kV doc pm an cdv ct), osl⟩ ∧ PySem.W.codeIn K cdv "_law_refusal" = true ∧
    L2.Binds K (PySem.W.fnOf "_law_refusal" "_law_refusal" pg bg sg dV kV doc pm an cdv ct) [a] [] ∧ FnScope Ng [a] sg ∧ Ng[0]? = some a ∧ Vis sg a ∧ ((a == ("__debug__" : Str)) = false ∧ (a == ("__classdict__" : Str)) = false) ∧
    ∀ (X : Cx) (q : Str) (k : Nat), X.prog = P → X.w = w → X.K = K → X.mg = mg → X.base = base → Gives X Ng "_law_refusal" sg g cdv bg a q (k + 1) (TRef l)
section
variable {X : Cx} {W : WX}
theorem de_refuse {xs : List (Str × Option Str)} {i : Nat} {y : Str} {c P : Addr} {k : Nat} {params : Arguments} {body : Expr} {scope : Scope} {fn : XE} {p lpos pos : Pos} (R : RfOk X.prog X.w X.K X.mg X.base xs) (hTab : TabAt X.K y P) (TB : TabB X.base X.mg c P)
    (hr : Room (k + 2) X.A) (hg : Gl X "_law_refusal") (hcode : X.env.code = .ref c) (hq : X.env.qual ++ "<lambda>" = lamQ y) (L : LamS X.env.scope scope)
    (hbody : ∀ (A : Around) (outer : List Env) (s : Shared) (H : Hp) (E : XK) (f c' : Addr), Room k (A.deeper (lamEnv X scope s.heap.objs.size f c')) → L2N.Takes (lamCxN X A outer s H E scope f c') (wK E) → DE (lamCxN X A outer s H E scope f c') (wK E) body fn)
    (hdef : defaultsOf params X.env = ([], []) := by rfl) (hbind : ∀ (q : Str) (cl : List (Str × Addr)) (pm cv ctv : Value), bindArgs (PySem.W.kla_fn "<lambda>" q params body scope cl pm cv ctv) ⟨[], []⟩ = pure [] := by intros; rfl) :
    DE X W (.Call (.Name "_law_refusal" p) [.Lambda params body scope lpos] [] pos) (xRefusal xs i y (lamQ y) fn) := by
  obtain ⟨l, g, fW, fdW, psW, pg, bg, sg, dV, kV, doc, pm, cdv, ct, oc, an, od, osl, Ng, a, hx, hm, hk, lk, hcg, hb, Sg, hNg, hva, ⟨hd1, hd2⟩, hG⟩ := R.ex
  rw [← hq]
  exact de_refusal hx hTab hg hm hk lk hcg hb Sg hNg hva (hG X _ k rfl rfl rfl rfl rfl) TB hcode hr L hbody (fun A outer s H E f c' => L2N.takes_of rfl rfl rfl rfl) hdef hbind (by decide) hd1 hd2
end
theorem fnXN_okE {P : Program} {w : World} {K : PySem.W.Frag} {mg : Str → Option Value} {base : Heap} {x qual : Str} {st : Stmt} {f : Addr} {fd : FuncData} {N ps : List Str} {k n m lv : Nat} {body : XS} {fF : Fn} (F : Fun K x qual st f fd) (S : FnScope N ps (defScope st))
    (hf : fF = callB n m body) (hn : ps.length = n) (hm : N.length = m) (hlv : lv = k + 1)
    (hb : ∀ (cdv : Value) (A : Around) (outer : List Env) (s : Shared) (H : Hp) (E : XK) (W : WX), Room k (A.deeper (envOfC qual (defScope st) s.heap.objs.size f cdv)) → L2N.Takes (cxOf (L2N.CX P w) P w K mg base N qual (defScope st) f cdv A outer s H E) W →
      PassesOwn (model P w) (A.deeper (envOfC qual (defScope st) s.heap.objs.size f cdv)) (envOfC qual (defScope st) s.heap.objs.size f cdv) (cxOf (L2N.CX P w) P w K mg base N qual (defScope st) f cdv A outer s H E).xe → DSs (cxOf (L2N.CX P w) P w K mg base N qual (defScope st) f cdv A outer s H E) W (defBody st) body) :
    FnOk P w K mg base (L2N.CX P w) lv f fd ps (spX K mg n fF) := by
  subst hf hn hm hlv
  obtain ⟨oc, od, kV, doc, pm, an, cdv, ct, osl, rfl, lk, hci⟩ := F.ex
  refine fn_of lk hci S (fun vs H Q E h => ?_) fun A outer s H vs Q E hr h => ?_
  · obtain ⟨ds, _, _, _, _, hl, r, _⟩ := h
    rw [← r.len]
    exact hl
  · obtain ⟨ds, Fr, B, ρ, M, hl, r, mm, wp⟩ := h
    refine ⟨_, hb cdv A outer s H E (fun c d _ H => E c d H) hr (L2N.takes_of rfl rfl rfl rfl) (passes_of rfl), ?_⟩
    have e := er_start (N := N) r
    rw [hl] at e
    refine ⟨_, Fr, B, ρ, M, e, mm, ?_⟩
    unfold callB at wp
    rw [if_pos hl] at wp
    exact wp.bind fun fl M1 B1 ρ1 H1 l1 m1 w1 => by
      cases fl with
      | nx η' => exact fun σ' _ => Wp.ret w1 m1 _ .non
      | rt d => exact fun v rv => Wp.ret w1 m1 v rv
      | bk η' => exact w1.elim
      | ct η' => exact w1.elim
/-- the same, where methods that may raise are called -/
theorem fnXN_okK {P : Program} {w : World} {K : PySem.W.Frag} {mg : Str → Option Value} {base : Heap} {x qual : Str} {st : Stmt} {f : Addr} {fd : FuncData} {N ps : List Str} {k n m lv : Nat} {body : XS} {fF : Fn} (F : Fun K x qual st f fd) (S : FnScope N ps (defScope st))
    (hf : fF = callB n m body) (hn : ps.length = n) (hm : N.length = m) (hlv : lv = k + 1)
    (hb : ∀ (cdv : Value) (A : Around) (outer : List Env) (s : Shared) (H : Hp) (E : XK), Room k (A.deeper (envOfC qual (defScope st) s.heap.objs.size f cdv)) → L2N.Takes (cxOf (L2N.CX P w) P w K mg base N qual (defScope st) f cdv A outer s H E) (wK E) →
      PassesOwn (model P w) (A.deeper (envOfC qual (defScope st) s.heap.objs.size f cdv)) (envOfC qual (defScope st) s.heap.objs.size f cdv) (cxOf (L2N.CX P w) P w K mg base N qual (defScope st) f cdv A outer s H E).xe → DSs (cxOf (L2N.CX P w) P w K mg base N qual (defScope st) f cdv A outer s H E) (wK E) (defBody st) body) :
    FnOk P w K mg base (L2N.CX P w) lv f fd ps (spX K mg n fF) := by
  subst hf hn hm hlv
  obtain ⟨oc, od, kV, doc, pm, an, cdv, ct, osl, rfl, lk, hci⟩ := F.ex
  refine fn_of lk hci S (fun vs H Q E h => ?_) fun A outer s H vs Q E hr h => ?_
  · obtain ⟨ds, _, _, _, _, hl, r, _⟩ := h
    rw [← r.len]
    exact hl
  · obtain ⟨ds, Fr, B, ρ, M, hl, r, mm, wp⟩ := h
    refine ⟨_, hb cdv A outer s H E hr (L2N.takes_of rfl rfl rfl rfl) (passes_of rfl), ?_⟩
    have e := er_start (N := N) r
    rw [hl] at e
    refine ⟨_, Fr, B, ρ, M, e, mm, ?_⟩
    unfold callB at wp
    rw [if_pos hl] at wp
    exact wp.bind fun fl M1 B1 ρ1 H1 l1 m1 w1 => by
      cases fl with
      | nx η' => exact fun σ' _ => Wp.ret w1 m1 _ .non
      | rt d => exact fun v rv => Wp.ret w1 m1 v rv
      | bk η' => exact w1.elim
      | ct η' => exact w1.elim
end Dn

namespace Dh
open PySem PySem.Spec PyProof.Rows L2
end Dh

namespace Dn
open PySem PySem.Spec PyProof.Rows L2 Evl
/-- the law's promise, where the tables ts are empty -/
def spLawT (K : PySem.W.Frag) (ts : List (Str × Addr)) : Sp := fun vs H Q _ => ∃ (a : Addr) (ns : List Int), vs = [.ref a] ∧ SqL K H a (ns.map V.int) ∧ ns.length ≤ 63 ∧ (∀ z ∈ ns, Builtin.Int.intBits z ≤ 1048576) ∧ (∀ p ∈ ts, H p.2 = some (.tbl #[])) ∧ ∀ H', Q (.bl true) H'
def tabM (ts : List (Str × Addr)) : Mem := ts.map fun p => .tab p.1 (lamQ p.1)
theorem law_spT {K : PySem.W.Frag} {mg : Str → Option Value} {f : Fn} {ts : List (Str × Addr)} (hT : ∀ p ∈ ts, TabAt K p.1 p.2) (hn : (ts.map Prod.snd).Nodup) (h : ∀ ns : List Int, ns.length ≤ 63 → (∀ z ∈ ns, Builtin.Int.intBits z ≤ 1048576) → ∃ M', f [.scr ns] (tabM ts) = .ok (.bl true) M') : ∀ vs H Q E, spLawT K ts vs H Q E → spF K mg 1 f vs H Q E := by
  intro vs H Q E ⟨a, ns, ev, hs, hl, hb, ht, k⟩
  subst ev
  obtain ⟨M', e⟩ := h ns hl hb
  classical
  have hB : Ex (fun b => if b ∈ ts.map Prod.snd then none else H b : Hp) H := fun b o q => by
    dsimp only at q
    split at q
    · cases q
    · exact q
  refine ⟨fun _ _ _ => False, [.scr ns], fun _ => none, (fun b => if b ∈ ts.map Prod.snd then none else H b : Hp), ts.map Prod.snd, tabM ts, rfl, .cons (.scr ?_) .nil, ⟨hB, fun _ _ e => (nomatch e), fun _ _ e => (nomatch e), by simp [tabM], hn, fun n o e => ?_, fun _ _ e => (nomatch e)⟩, ?_⟩
  · have na : ∀ xs, H a = some (.lst xs) ∨ (∃ oo, H a = some (.frz oo (.lst xs))) → a ∉ ts.map Prod.snd := fun xs q hm => by
      obtain ⟨p, hp, ep⟩ := List.mem_map.mp hm
      have z := ht p hp
      rw [ep] at z
      rcases q with q | ⟨oo, q⟩ <;> (rw [z] at q; cases q)
    rcases hs with hs | hs
    · left
      rcases hs with hs | ⟨oo, hs⟩
      · exact .inl ((if_neg (na _ (.inl hs))).trans hs)
      · exact .inr ⟨oo, (if_neg (na _ (.inr ⟨oo, hs⟩))).trans hs⟩
    · exact .inr hs
  · unfold tabM at e
    rw [List.getElem?_map] at e
    cases hp : ts[n]? with
    | none => rw [hp] at e; cases e
    | some p =>
      rw [hp] at e
      cases e
      have hm : p ∈ ts := List.mem_of_getElem? hp
      refine ⟨p.2, by rw [List.getElem?_map, hp]; rfl, fun _ => if_pos (List.mem_map.mpr ⟨p, hm, rfl⟩), hT p hm, #[], ht p hm, True.intro, fun pos cv hc => ?_⟩
      have z : codeAmong pos [] = some cv := hc
      simp [codeAmong] at z
  · rw [e]
    intro B' ρ' H' _ _ v r
    cases r
    exact k H'
end Dn
namespace Dh
open PySem PySem.Spec PyProof.Rows L2
end Dh

/-! DnRef3: the refusal's facts as truths that a run of the head can tell -/
namespace Dn
open PySem PySem.Spec PyProof.Rows L2 Evl Kx
/-- the class at C is one straight over the base with the mro bmB -/
theorem exoB_ok {K : PySem.W.Frag} {C : Addr} {newId : String} {bmB : List Value} (h : exoB K C newId bmB = true) : ∃ nm q N bs sn sub ab col dd k0 k1 k2 k3 k5, K.lookup C = some (excClassObj nm q C N bs bmB true sn sub ab col dd k0 k1 k2 k3 k5 newId) := by
  unfold exoB at h
  split at h
  · next t dd nm bs C' bm N q sn sub ab col sl e =>
    simp only [Bool.and_eq_true, decide_eq_true_eq, beq_iff_eq] at h
    obtain ⟨rfl, rfl, rfl, h4⟩ := h
    obtain ⟨l⟩ := sl
    dsimp only at h4
    split at h4
    · next k0 k1 k2 k3 n k5 =>
      have : n = newId := of_decide_eq_true h4
      subst this
      exact ⟨nm, q, N, bs, sn, sub, ab, col, dd, k0, k1, k2, k3, k5, e⟩
    · cases h4
  · cases h
theorem oexG_all {K : PySem.W.Frag} {C : Addr} {B newId ini : String} {bmB : List Value} (O : Kx.NewOk newId bmB) (F : Kx.InitOk B ini) (hB : bmB.contains (.type B) = true) (S : Kx.MroOk (.ref C :: bmB)) (h : oexB K C newId bmB = true) : OexG K C ini := by
  unfold oexB at h
  simp only [Bool.and_eq_true, decide_eq_true_eq] at h
  obtain ⟨h1, h2, h3, h4, h5⟩ := h
  obtain ⟨nm, q, N, bs, sn, sub, ab, col, dd, k0, k1, k2, k3, k5, e⟩ := exoB_ok h1
  exact ⟨⟨B, newId, nm, q, N, bs, bmB, sn, sub, ab, col, dd, k0, k1, k2, k3, k5, ⟨O, F, hB⟩, e, S⟩, He.eqO_ok h2, h3, h4, h5⟩
theorem oexG_of {K : PySem.W.Frag} {C : Addr} {B newId ini si so : String} {bmB : List Value} (F : ExcBaseFacts B newId ini bmB) (S : StoreFacts B bmB si so) (hn : bmB.contains (.type "object") = true) (h : oexB K C newId bmB = true) : OexG K C ini :=
  oexG_all ⟨⟨_, _, _, F, F.hasB⟩, F.noAttr, F.noName⟩ (Kx.InitOk.of F) F.hasB (mro_over S hn) h
/-! ### the classes of the refusal -/
theorem own_at {K : PySem.W.Frag} {h : Heap} {mg : Str → Option Value} (X : K.In h) (Gh : h.Ns mainGlobals mg) {n : Str} (hb : isRefV (PySem.W.nsIn K mainGlobals n) = true) : ∃ c, mg n = some (.ref c) ∧ kcOf K n = .ref c := by
  unfold kcOf
  cases e : PySem.W.nsIn K mainGlobals n with
  | none => rw [e] at hb; cases hb
  | some o =>
    cases o with
    | none => rw [e] at hb; cases hb
    | some v =>
      cases v with
      | ref c => exact ⟨c, PySem.W.mg_of X Gh e, rfl⟩
      | _ => rw [e] at hb; cases hb
theorem rfG_of {K : PySem.W.Frag} {h : Heap} {mg : Str → Option Value} (X : K.In h) (Gh : h.Ns mainGlobals mg) (hb : ownB K = true) : RfG mg := by
  unfold ownB at hb
  simp only [Bool.and_eq_true, List.all_eq_true] at hb
  exact ⟨fun n hn => let ⟨c, e, _⟩ := own_at X Gh (hb.1 n hn); ⟨c, e⟩, fun b h' => PySem.W.mg_none_of X Gh (He.eqO_ok (hb.2 b h'))⟩
theorem cls_of {K : PySem.W.Frag} {h : Heap} {mg : Str → Option Value} (X : K.In h) (Gh : h.Ns mainGlobals mg) (hb : ownB K = true) {ns : List Str} (hs : ∀ n ∈ ns, n ∈ ownN) : clsOf mg ns = ns.map (kcOf K) := by
  unfold ownB at hb
  simp only [Bool.and_eq_true, List.all_eq_true] at hb
  exact List.map_congr_left fun n hn => by
    obtain ⟨c, e1, e2⟩ := own_at X Gh (hb.1 n (hs n hn))
    rw [e1, e2]
    rfl
theorem cl_own : ∀ p ∈ clN.zipIdx, ∀ n ∈ p.1, n ∈ ownN := by decide +kernel
theorem rfD_of {K : PySem.W.Frag} {h : Heap} {mg : Str → Option Value} (X : K.In h) (Gh : h.Ns mainGlobals mg) (ho : ownB K = true) {C : Addr} {x : Str} {bs : List Str} {j : Nat} {fl : Option Str} (hC : PySem.W.nsIn K mainGlobals x = some (some (.ref C))) (hb : rfB K C x bs j fl = true) : RfD K mg x bs j fl := by
  have ho' := ho
  unfold ownB at ho'
  unfold rfB excB at hb
  simp only [Bool.and_eq_true, List.all_eq_true, decide_eq_true_eq] at hb ho'
  obtain ⟨⟨e1, e2, e3, e4, e5, e6, e7, e8⟩, hf, hw, hk, hc⟩ := hb
  refine ⟨C, PySem.W.mg_of X Gh hC, ⟨He.eqO_ok e1, He.eqO_ok e2, e3, e4, He.eqO_ok e5, He.eqO_ok e6, e7, e8⟩, ⟨He.eqO_ok e1, He.eqO_ok e2, e3, e4⟩, fun y hy => ?_, fun n hn D' hD => ?_, fun b hbm => hk b hbm, fun i ns hi hij => ?_⟩
  · subst hy
    exact He.eqO_ok hf
  · obtain ⟨c, q1, q2⟩ := own_at X Gh (ho'.1 n hn)
    rw [q1] at hD
    cases hD
    have z := hw n hn
    rw [q2] at z
    exact z
  · have hm : (ns, i) ∈ clN.zipIdx := List.mk_mem_zipIdx_iff_getElem?.mpr hi
    have z := hc _ hm
    rw [Bool.or_eq_true] at z
    rcases z with z | z
    · exact absurd (of_decide_eq_true z) (by omega)
    · rw [cls_of X Gh ho (cl_own _ hm)]
      exact of_decide_eq_true z
theorem vvB_ok {K : PySem.W.Frag} {B ini : String} (h : vvB K B ini = true) : PySem.W.findCls K (.type B) (.type "type") "__init__" = some (.val (.builtin ini)) := by
  unfold vvB at h
  split at h
  · next v e => rw [e, of_decide_eq_true h]
  · cases h
/-- the tables of the defs stand apart -/
theorem fO_at {K : PySem.W.Frag} {x : Str} {f : Addr} {oc : Value} {od : Option Addr} {fd : FuncData} {sl : Array (Option Value)} (a : PySem.W.nsIn K mainGlobals x = some (some (.ref f))) (l : K.lookup f = some ⟨oc, od, .func fd, sl⟩) : Dh.fO K (x, none) = fd := by
  have e : He.fAd K (x, none) = f := by
    show He.ga K x = f
    unfold He.ga
    rw [a]
  unfold Dh.fO Dh.oO
  rw [e, l]
theorem tabAt_of {K K0 : PySem.W.Frag} {x : Str} {f : Addr} {oc : Value} {od : Option Addr} {fd : FuncData} {sl : Array (Option Value)} (a : PySem.W.nsIn K mainGlobals x = some (some (.ref f))) (l : K.lookup f = some ⟨oc, od, .func fd, sl⟩) (T : Dh.TabOk K K0 x (Dh.cdA K x) (Dh.tbA K x)) : fd.code = .ref (Dh.cdA K x) ∧ TabAt K x (Dh.tbA K x) := by
  have e := T.code
  rw [fO_at a l] at e
  obtain ⟨ob, us, h1, h2, h3⟩ := T.at_
  exact ⟨e, f, Dh.cdA K x, _, ob, fd, us, a, l, rfl, e, h1, h2, h3⟩
theorem tabsAt {K : PySem.W.Frag} {tb : List Str} (h : ∀ y ∈ tb, TabAt K y (Dh.tbA K y)) : ∀ p ∈ tb.map (fun y => (y, Dh.tbA K y)), TabAt K p.1 p.2 := fun p hp => by
  obtain ⟨y, hy, rfl⟩ := List.mem_map.mp hp
  exact h y hy
theorem ndB_ok {K : PySem.W.Frag} {tb : List Str} (h : ndB K tb = true) : ((tb.map fun y => (y, Dh.tbA K y)).map (·.2)).Nodup := by
  rw [List.map_map]
  exact of_decide_eq_true h
theorem tabM_of {K : PySem.W.Frag} {tb : List Str} : tabM (tb.map fun y => (y, Dh.tbA K y)) = tb.map fun y => .tab y (lamQ y) := by
  unfold tabM
  rw [List.map_map]
  rfl
end Dn

/-! DnEvalX: plain rules for what ends in an error, for the refusal -/
namespace Dn
open PySem L2 Evl
/-- it ends in an error of which E holds -/
def Gx {α : Type} (r : R α) (E : Exc → Mem → Prop) : Prop := ∃ e M, r = .ex e M ∧ E e M
section
variable {α β : Type} {E : Exc → Mem → Prop} {η : Dv} {M : Mem} {P : D → Mem → Prop} {s u : XS} {f g : XE} {p : XT}
theorem gx_ok {e : Exc} (h : E e M) : Gx (.ex e M : R α) E := ⟨e, M, rfl, h⟩
theorem Gx.imp {r : R α} {E' : Exc → Mem → Prop} (h : Gx r E) (i : ∀ e M, E e M → E' e M) : Gx r E' := let ⟨e, M, q, z⟩ := h; ⟨e, M, q, i e M z⟩
theorem gx_bind {r : R α} {k : α → Mem → R β} (h : Gv r fun a M => Gx (k a M) E) : Gx (r.bind k) E := by
  obtain ⟨a, M, e, h⟩ := h
  rw [e]
  exact h
theorem gx_bind1 {r : R α} {k : α → Mem → R β} (h : Gx r E) : Gx (r.bind k) E := by
  obtain ⟨e, M, q, h⟩ := h
  rw [q]
  exact ⟨e, M, rfl, h⟩
theorem x_seq (h : Gv (s η M) fun fl M1 => Gx (thenS u fl M1) E) : Gx (xSeq s u η M) E := gx_bind h
theorem x_thn {η' : Dv} (h : Gx (u η' M) E) : Gx (thenS u (.nx η') M) E := h
theorem x_raise {x fl : Str} (h : Gv (g η M) fun d M1 => E ⟨x, [("called", .str x), (fl, d)]⟩ M1) : Gx (xRaise x fl g η M) E := gx_bind (h.imp fun d M1 h => gx_ok h)
theorem x_body {n N : Nat} {b : XS} {ds : List D} (hl : ds.length = n) (h : Gx (b (ds.map some ++ List.replicate (N - n) none) M) E) : Gx (callB n N b ds M) E := by
  unfold callB
  rw [if_pos hl]
  exact gx_bind1 h
theorem v_calm (h : Gv (f η M) P) : Gv (xCalm f η M) P := by
  obtain ⟨d, M1, e, h⟩ := h
  unfold xCalm
  rw [e]
  exact gv_ok h
/-- refused: the class and its field -/
theorem v_refF {xs : List (Str × Option Str)} {i : Nat} {y q : Str} (hM : M[i]? = some (.tab y q)) (h : Gx (g η M) fun e M1 => ∃ fl d, xs.lookup e.cls = some (some fl) ∧ e.fs.lookup fl = some d ∧ P (.tup [.str e.cls, d]) (M1 ++ [.gone])) : Gv (xRefusal xs i y q g η M) P := by
  obtain ⟨e, M1, he, fl, d, h1, h2, h3⟩ := h
  unfold xRefusal
  rw [hM]
  dsimp only
  rw [if_pos ⟨rfl, rfl⟩, he]
  dsimp only
  rw [h1]
  dsimp only
  rw [h2]
  exact gv_ok h3
theorem v_refO {xs : List (Str × Option Str)} {i : Nat} {y q : Str} (hM : M[i]? = some (.tab y q)) (h : Gv (g η M) fun _ M1 => P (.tup [.str "none", .non]) M1) : Gv (xRefusal xs i y q g η M) P := by
  obtain ⟨d, M1, he, h3⟩ := h
  unfold xRefusal
  rw [hM]
  dsimp only
  rw [if_pos ⟨rfl, rfl⟩, he]
  exact gv_ok h3
end
end Dn

namespace Dn
open PySem PyProof.Rows L2 Evl
/-! ### sorted(texts) to a list that may change -/
section
variable {X : Cx} {W : WX} {e : Expr} {es : List Expr} {fa : XA} {pos : Pos}
end
section
variable {η : Dv} {M : Mem} {P : D → Mem → Prop} {fa : XA}
end
end Dn

/-! KInD: a dict looked for in a list of texts -/
namespace Dn
open PySem PySem.Spec PyProof.Rows L2
open AutoSeq1 (wpAny_loadPart')
open MeetsSeq MeetsSeq2 MeetsSeq3 SeqRoads2 SeqAt GQ
section
variable {prog : Program} {w : World} {A : Around} {E : Value → Shared → Prop} {s : Shared}
theorem str_dec_dict {b : Addr} {dd : Option Addr} {sl : Array (Option Value)} {es : Array DictEntry} {ep : Nat} {i : Str} {t : Tok} (hb : s.heap.get? b = some { cls := .type "dict", dict := dd, data := .dict es ep, slots := sl }) (Q : Value → Shared → Prop) (h : Q .notImplemented s) : wpAny (model prog w) A (call (.builtin "str.__eq__") [.str i t, .ref b]) Q E s := by
  refine call_here F.slot_str_eq (typeIs_str s i t) F.entry_str_eq (F.args_str_eq_2 _ _) ?_
  obtain ⟨hp, g, d, tk, os⟩ := s
  wp_walk using wpAny_loadPart' hb, wpAny_load hb
  exact h
theorem dict_dec_str {b : Addr} {dd : Option Addr} {sl : Array (Option Value)} {es : Array DictEntry} {ep : Nat} {i : Str} {t : Tok} (hb : s.heap.get? b = some { cls := .type "dict", dict := dd, data := .dict es ep, slots := sl }) (Q : Value → Shared → Prop) (h : Q .notImplemented s) : wpAny (model prog w) A (call (.builtin "dict.__eq__") [.ref b, .str i t]) Q E s := by
  refine call_here F.slot_dict_eq ⟨_, hb, rfl⟩ F.entry_dict_eq (F.args_dict_eq_2 _ _) ?_
  obtain ⟨hp, g, d, tk, os⟩ := s
  have f1 := F.sub_str_dict
  wp_walk using wpAny_loadPart' hb, wpAny_load hb
  exact h
theorem rcStrDict {b : Addr} {dd : Option Addr} {sl : Array (Option Value)} {es : Array DictEntry} {ep : Nat} (i : Str) (t : Tok) (hb : s.heap.get? b = some { cls := .type "dict", dict := dd, data := .dict es ep, slots := sl }) (hu : A.units < cLine) : RcAt A s (.str i t) (.ref b) false := fun prog w E Q h => by
  exact rc_eq_decline_or (k := false) (typeIs_str s i t) ⟨_, hb, rfl⟩ (by decide) F.sub_dict_str F.slot_str_eq F.slot_dict_eq_refl
    (fun _ hq => str_dec_dict hb _ hq)
    (fun _ hq => dict_dec_str hb _ hq)
    (fun _ hq => wpAny_of_eq (rfl : isSame (.str i t) (.ref b) = pure false) hq) (.inr hu) h
theorem eqStrDict {b : Addr} {dd : Option Addr} {sl : Array (Option Value)} {es : Array DictEntry} {ep : Nat} (i : Str) (t : Tok) (hb : s.heap.get? b = some { cls := .type "dict", dict := dd, data := .dict es ep, slots := sl }) (hu : A.units < cLine) : EqAt A s (.str i t) (.ref b) false := fun prog w E Q h => by
  unfold eqBool
  refine wpAny_holding ?_
  refine wpAny_ite_split (fun hab => absurd (eq_of_beq hab) nofun) (fun _ => ?_)
  exact wpAny_bind (rcStrDict i t hb hu prog w E _ (wpAny_truthy_bool h))
end
end Dn

/-! DnOdd: dicts among things of all kinds: looked for in a list of texts; shown within a tuple -/
namespace Dn
open PySem PyProof.Rows L2 Evl
/-! ### a dict in a list of texts -/
def isStrV : V → Bool
  | .str _ => true
  | _ => false
def isStrD : D → Bool
  | .str _ => true
  | _ => false
def rInDct (K : PySem.W.Frag) : R2 := fun x y H Q => ∃ (a : Addr) (o : Obj) (kvs : List (Key × V)) (p : Addr) (xs : List V), x = .ref a ∧ H a = some (.frz o (.dK kvs)) ∧ y = .ref p ∧ SqL K H p xs ∧ xs.all isStrV = true ∧ Q (.bl false) H
section
variable {X : Cx}
theorem op_in_dct {k : Nat} (hr : Room k X.A) : OpR X (compareOp .In) (rInDct X.K) := by
  intro pins s σ H x y v u Q I rx ry h
  obtain ⟨a, o, kvs, p, xs, rfl, ha, rfl, hq, hs, q⟩ := h
  cases rx
  cases ry
  obtain ⟨its, r, pl, hz⟩ := I.list hq
  obtain ⟨e1, _, _, vs, _, o2, es, ep, e2, hx, hd, _⟩ : s.heap.get? a = some o ∧ kvs.length ≤ sizeLine ∧ (a == sysModules) = false ∧ ∃ vs, KV kvs vs ∧ s.heap.DictOf (mixKind X.prog X.w) a vs := I.hok a _ ha
  obtain ⟨cls, dd, data, sl⟩ := o2
  obtain ⟨hx, -, -⟩ := hx
  simp only at hx hd
  subst hx hd
  have hu := hr.un
  have hany : its.toArray.any (fun _ => false) = false := by simp
  have key : ∀ {xs : List V} {its : List Value}, Vals xs its → xs.all isStrV = true → ∀ w ∈ its, ∃ i t, w = Value.str i t := by
    intro xs its r
    induction r with
    | nil => intro _ w hw; cases hw
    | @cons v0 u0 vs us r1 r2 ih =>
      intro hs w hw
      rw [List.all_cons, Bool.and_eq_true] at hs
      rcases List.mem_cons.mp hw with e | e
      · subst e
        cases v0 <;> first | (simp [isStrV] at hs; done) | skip
        obtain ⟨t, e⟩ := r1
        exact ⟨_, t, e⟩
      · exact ih hs.2 w e
  refine SeqAt.in_listAt (fun _ => false) pl.isList (fun w hw => ?_) ?_
  · obtain ⟨i, t, rfl⟩ := key r hs w (by simpa using hw)
    exact eqStrDict i t e2 (by show X.A.units + 1 < cLine; omega)
  · rw [hany]
    exact ⟨.bl false, H, I, rfl, q⟩
def inDct : Op2 := fun M x y => match x with
  | .dct _ => (asL M y).bind fun ds => if ds.all isStrD = true then some (.bl false) else none
  | _ => none
theorem strs_all {K : PySem.W.Frag} {B : Hp} {ρ : List Addr} : ∀ {ds : List D} {vs : List V}, Rps K B ρ ds vs → ds.all isStrD = true → vs.all isStrV = true
  | _, _, .nil, _ => rfl
  | _, _, .cons (d := d) r t, h => by
    rw [List.all_cons, Bool.and_eq_true] at h ⊢
    refine ⟨?_, strs_all t h.2⟩
    cases d <;> first | (have := h.1; simp [isStrD] at this; done) | skip
    cases r
    rfl
theorem inDct_snd {K : PySem.W.Frag} : OSnd K (rInDct K) inDct := fun F B ρ M H x y dx dy dz Q m rx ry e k => by
  unfold inDct at e
  split at e
  · next kds =>
    simp only [Option.bind_eq_some_iff] at e
    obtain ⟨ds, he, e⟩ := e
    split at e
    · next hs =>
      cases e
      cases rx with
      | dct hb rk =>
        obtain ⟨p, vs, rfl, hq, rs⟩ := asL_snd m ry he
        exact ⟨_, _, _, p, vs, rfl, m.ex _ _ hb, rfl, hq, strs_all rs hs, k.same m (.bl _)⟩
    · cases e
  · cases e
theorem od_inY {k : Nat} (hr : Room k X.A) : OpD X (compareOp .In) (oOr dIn inDct) := OpD.or (od_in hr) ⟨_, op_in_dct hr, inDct_snd⟩
end
/-! ### repr of a tuple that holds dicts -/
def keyPO : Key → PyData
  | .inl i => .int i
  | .inr x => .str x
mutual
def pyO : D → Option PyData
  | .non => some .none
  | .bl b => some (.bool b)
  | .int i => some (.int i)
  | .str s => some (.str s)
  | .tup ds => (pyOs ds).map .tuple
  | .dct kvs => (pyOk kvs).map .dict
  | _ => none
def pyOs : List D → Option (List PyData)
  | [] => some []
  | d :: ds => (pyO d).bind fun x => (pyOs ds).map (x :: ·)
def pyOk : List (Key × D) → Option (List (PyData × PyData))
  | [] => some []
  | (k, d) :: r => (pyO d).bind fun x => (pyOk r).map ((keyPO k, x) :: ·)
end
mutual
inductive PyW (K : PySem.W.Frag) (H : Hp) : V → PyData → Prop
  | non : PyW K H .non .none
  | bl (b : Bool) : PyW K H (.bl b) (.bool b)
  | int (i : Int) : PyW K H (.int i) (.int i)
  | str (s : Str) : PyW K H (.str s) (.str s)
  | tup {a : Addr} {vs : List V} {ds : List PyData} : SqT K H a vs → PyWs K H vs ds → PyW K H (.ref a) (.tuple ds)
  | dct {a : Addr} {o : Obj} {kvs : List (Key × V)} {ds : List (PyData × PyData)} : H a = some (.frz o (.dK kvs)) → PyWk K H kvs ds → PyW K H (.ref a) (.dict ds)
inductive PyWs (K : PySem.W.Frag) (H : Hp) : List V → List PyData → Prop
  | nil : PyWs K H [] []
  | cons {v : V} {d : PyData} {vs : List V} {ds : List PyData} : PyW K H v d → PyWs K H vs ds → PyWs K H (v :: vs) (d :: ds)
inductive PyWk (K : PySem.W.Frag) (H : Hp) : List (Key × V) → List (PyData × PyData) → Prop
  | nil : PyWk K H [] []
  | cons {k : Key} {v : V} {d : PyData} {vs : List (Key × V)} {ds : List (PyData × PyData)} : PyW K H v d → PyWk K H vs ds → PyWk K H ((k, v) :: vs) ((keyPO k, d) :: ds)
end
section
variable {K : PySem.W.Frag} {F B H : Hp} {ρ : List Addr} {M : Mem}
mutual
theorem pyO_snd (m : MR K F B ρ M H) : ∀ {d : D} {v : V} {p : PyData}, Rp K B ρ d v → pyO d = some p → PyW K H v p
  | .non, _, _, r, h => by simp only [pyO] at h; cases h; cases r; exact .non
  | .bl b, _, _, r, h => by simp only [pyO] at h; cases h; cases r; exact .bl b
  | .int i, _, _, r, h => by simp only [pyO] at h; cases h; cases r; exact .int i
  | .str s, _, _, r, h => by simp only [pyO] at h; cases h; cases r; exact .str s
  | .tup ds, _, _, r, h => by
    simp only [pyO, Option.map_eq_some_iff] at h
    obtain ⟨ps, h1, rfl⟩ := h
    cases r with
    | tup e q => exact .tup (ex_t m.ex e) (pyOs_snd m q h1)
  | .dct kvs, _, _, r, h => by
    simp only [pyO, Option.map_eq_some_iff] at h
    obtain ⟨ps, h1, rfl⟩ := h
    cases r with
    | dct e q => exact .dct (m.ex _ _ e) (pyOk_snd m q h1)
  | .lst _, _, _, _, h => by simp [pyO] at h
  | .dcT _, _, _, _, h => by simp [pyO] at h
  | .ins _ _, _, _, _, h => by simp [pyO] at h
  | .fn _, _, _, _, h => by simp [pyO] at h
  | .scr _, _, _, _, h => by simp [pyO] at h
  | .ptr _, _, _, _, h => by simp [pyO] at h
  | .raw _, _, _, _, h => by simp [pyO] at h
theorem pyOs_snd (m : MR K F B ρ M H) : ∀ {ds : List D} {vs : List V} {ps : List PyData}, Rps K B ρ ds vs → pyOs ds = some ps → PyWs K H vs ps
  | [], _, _, r, h => by simp only [pyOs] at h; cases h; cases r; exact .nil
  | d :: ds, _, _, r, h => by
    simp only [pyOs, Option.bind_eq_some_iff, Option.map_eq_some_iff] at h
    obtain ⟨p, h1, ps, h2, rfl⟩ := h
    cases r with
    | cons r1 r2 => exact .cons (pyO_snd m r1 h1) (pyOs_snd m r2 h2)
theorem pyOk_snd (m : MR K F B ρ M H) : ∀ {ds : List (Key × D)} {vs : List (Key × V)} {ps : List (PyData × PyData)}, Rpk K B ρ ds vs → pyOk ds = some ps → PyWk K H vs ps
  | [], _, _, r, h => by simp only [pyOk] at h; cases h; cases r; exact .nil
  | (k, d) :: ds, _, _, r, h => by
    simp only [pyOk, Option.bind_eq_some_iff, Option.map_eq_some_iff] at h
    obtain ⟨p, h1, ps, h2, rfl⟩ := h
    cases r with
    | cons r1 r2 => exact .cons (pyO_snd m r1 h1) (pyOk_snd m r2 h2)
end
end
section
variable {X : Cx} {pins : List (Addr × Obj)} {σ : L2.St} {H : Hp} {s : Shared}
theorem key_reads {h : Heap} (k : Key) (key : Value) (e : (mixKind X.prog X.w).is k key = true) : Reads h key (keyPO k) [] := by
  rcases keyIs_shape (show keyIs k key = true from e) with ⟨i, t, rfl, rfl⟩ | ⟨x, t, rfl, rfl⟩
  · exact .int i t
  · exact .str x t
mutual
theorem reads_ofO (I : Inv X pins σ H s) : ∀ {p : PyData} {v : V} {u : Value}, PyW X.K H v p → RelV v u → ∃ as, Reads s.heap u p as ∧ sysModules ∉ as
  | .none, _, _, .non, r => by cases r; exact ⟨_, .none, by simp⟩
  | .bool b, _, _, .bl _, r => by cases r; exact ⟨_, .bool b, by simp⟩
  | .int i, _, _, .int _, r => by
    obtain ⟨t, rfl⟩ := r
    exact ⟨_, .int i t, by simp⟩
  | .str x, _, _, .str _, r => by
    obtain ⟨t, rfl⟩ := r
    exact ⟨_, .str x t, by simp⟩
  | .tuple ps, _, _, .tup hq hv, r => by
    cases r
    obtain ⟨its, rv, ⟨o, e, c, n, d⟩, _⟩ := I.tuple hq
    obtain ⟨as, h, ns⟩ := readsAll_ofO I hv rv
    exact ⟨_, .tuple e c d (by simpa using h), ns⟩
  | .dict ps, _, _, .dct (a := a) ha hv, r => by
    cases r
    obtain ⟨_, _, hne, vs, kv, hd⟩ : s.heap.get? a = some _ ∧ _ ≤ sizeLine ∧ (a == sysModules) = false ∧ ∃ vs, KV _ vs ∧ s.heap.DictOf (mixKind X.prog X.w) a vs := I.hok a _ ha
    obtain ⟨bs, h, ns⟩ := pairs_ofO I hv kv
    refine ⟨_, PyProof.V.reads_dictOf (key_reads (X := X)) hd h, ?_⟩
    rw [List.mem_cons, not_or]
    exact ⟨fun e => by rw [← e] at hne; simp at hne, ns⟩
theorem readsAll_ofO (I : Inv X pins σ H s) : ∀ {ps : List PyData} {vs : List V} {us : List Value}, PyWs X.K H vs ps → Vals vs us → ∃ as, ReadsAll s.heap us ps as ∧ sysModules ∉ as
  | [], _, _, .nil, r => by cases r; exact ⟨_, .nil, by simp⟩
  | p :: ps, _, _, .cons h1 h2, r => by
    cases r with
    | cons r1 r2 =>
      obtain ⟨as, e1, n1⟩ := reads_ofO I h1 r1
      obtain ⟨bs, e2, n2⟩ := readsAll_ofO I h2 r2
      exact ⟨_, .cons e1 e2, by simp [n1, n2]⟩
theorem pairs_ofO (I : Inv X pins σ H s) : ∀ {ps : List (PyData × PyData)} {vs : List (Key × V)} {us : List (Key × Value)}, PyWk X.K H vs ps → KV vs us → ∃ bs, PyProof.V.PairsRead s.heap keyPO us ps bs ∧ sysModules ∉ bs
  | [], _, _, .nil, r => by cases r; exact ⟨_, .nil, by simp⟩
  | (_, _) :: ps, _, _, .cons h1 h2, r => by
    cases r with
    | @cons _ q _ _ r1 r2 =>
      obtain ⟨k2, u⟩ := q
      obtain ⟨e, r1⟩ := r1
      simp only at e r1
      subst e
      obtain ⟨as, e1, n1⟩ := reads_ofO I h1 r1
      obtain ⟨bs, e2, n2⟩ := pairs_ofO I h2 r2
      exact ⟨_, .cons e1 e2, by simp [n1, n2]⟩
end
end
def isTupP : PyData → Bool
  | .tuple _ => true
  | _ => false
def reprFitsO (p : PyData) : Prop := isTupP p = true ∧ p.showable = true ∧ p.depth ≤ 100 ∧ p.shown.length ≤ sizeLine
theorem PyW.refO {K : PySem.W.Frag} {H : Hp} {v : V} {p : PyData} (h : PyW K H v p) (hp : isTupP p = true) : ∃ a, v = .ref a := by
  cases h with
  | tup _ _ => exact ⟨_, rfl⟩
  | _ => simp [isTupP] at hp
section
variable {X : Cx}
theorem call_reprO {k : Nat} (hg : X.A.guards = some []) (hr : Room k X.A) : CallR X (.builtin "repr") (fun xs H Q => ∃ a p, xs = [.ref a] ∧ PyW X.K H (.ref a) p ∧ reprFitsO p ∧ Q (.str p.shown) H) := by
  intro pins s σ H xs us Q I r h
  obtain ⟨a, p, rfl, hv, ⟨_, h1, h3, h4⟩, q⟩ := h
  obtain ⟨u, rfl, rx⟩ := vals1 r
  cases rx
  obtain ⟨as, hr0, ns⟩ := reads_ofO I hv rfl
  have hu := hr.un
  exact repr_of_reads' hr0 h1 (fun _ => ns) hg (by omega) (fun _ _ e => e) (fun h' u tk hk => ⟨.str p.shown, H, I.kept hk, ⟨_, rfl⟩, q⟩) h4
open Classical in
noncomputable def bReprO : OpC := one fun M d => (pyO d).bind fun p => if reprFitsO p then some (.str p.shown) else none
theorem cd_reprO {k : Nat} (hg : X.A.guards = some []) (hr : Room k X.A) : CallD X (.builtin "repr") bReprO := by
  refine ⟨_, call_reprO hg hr, fun F B ρ M H xs ds dz Q m rx e kk => ?_⟩
  obtain ⟨d, rfl, h⟩ := one_some e
  cases rx with
  | cons r rr =>
    cases rr
    simp only [Option.bind_eq_some_iff] at h
    obtain ⟨p, hp, h⟩ := h
    split at h
    · next hf =>
      cases h
      have hv := pyO_snd m r hp
      obtain ⟨a, rfl⟩ := hv.refO hf.1
      exact ⟨a, p, rfl, hv, hf, kk.same m (.str _)⟩
    · cases h
theorem cd_reprY {k : Nat} (hg : X.A.guards = some []) (hr : Room k X.A) : CallD X (.builtin "repr") (cOr bRepr bReprO) := CallD.or (cd_repr hg hr) (cd_reprO hg hr)
end
end Dn

/-! DnTG: a law that calls repr itself and makes lambdas -/
namespace Dn
open PySem PySem.Spec PyProof.Rows L2 Evl LamX
section
variable {P : Program} {w : World} {K : PySem.W.Frag} {mg : Str → Option Value} {base : Heap}
/-- a def that makes lambdas, where no repr is under way -/
theorem fnLG_okE {x qual : Str} {st : Stmt} {f c : Addr} {fd : FuncData} {N ps : List Str} {k n m lv : Nat} {body : XS} {fF : Fn} (F : Fun K x qual st f fd) (hcd : fd.code = .ref c) (S : FnScope N ps (defScope st))
    (hf : fF = callB n m body) (hn : ps.length = n) (hm : N.length = m) (hlv : lv = k + 1)
    (hb : ∀ (A : Around) (outer : List Env) (s : Shared) (H : Hp) (E : XK) (W : WX), A.guards = some [] → Room k (A.deeper (envOfC qual (defScope st) s.heap.objs.size f (.ref c))) → DSs (cxOf CX0 P w K mg base N qual (defScope st) f (.ref c) A outer s H E).nox W (defBody st) body) :
    FnOkG P w K mg base CX0 lv f fd ps (spF K mg n fF) := by
  subst hf hn hm hlv
  obtain ⟨oc, od, kV, doc, pm, an, cdv, ct, osl, rfl, lk, hci⟩ := F.ex
  obtain rfl : cdv = .ref c := hcd
  have hlen : ∀ xs H Q E, spF K mg ps.length (callB ps.length N.length body) xs H Q E → xs.length = ps.length := fun xs H Q E h => by
    obtain ⟨_, ds, _, _, _, _, hl, r, _⟩ := h
    rw [← r.len]
    exact hl
  refine ⟨hlen, fun A out t H as us xs Q E g hr e0 bd rv hs => ?_⟩
  have old := fun b o e => (e0.bs b o e).1
  have kin : K.In t.heap := e0.mod.kin.keeps old
  refine codeAny_call_function hr.depth (kin _ _ lk) rfl S.co S.gen rfl (PySem.W.codeRec_of kin hci) (bd _ _ _ _ ?_)
  refine wpAny_newFunctionEnv_cells S.kind (fun y hy => ?_) fun env he t1 ic => ?_
  · have := S.par y.1 (List.of_mem_zip hy).1
    rcases this with q | q
    · exact .inl q
    · exact .inr ⟨q, PySem.W.cellsFrom_some _ _ _ (.inl q)⟩
  subst he
  refine ⟨(e0.mod.nolimit.keeps old).keeps ic.toInCall.keep, codeAny_func ?_⟩
  have I : Inv (cxOf CX0 P w K mg base N qual (defScope st) f (.ref c) A out t H E) [] (start N xs) H t1 := inv_start S hr.hd e0 (hlen _ _ _ _ hs) rv ic
  obtain ⟨U, ds, Fr, B, ρ, M, hl, r, m, wp⟩ := hs
  have er := er_start (N := N) r
  rw [hl] at er
  unfold callB at wp
  rw [if_pos hl] at wp
  have hq := (hb A out t H E (fun c d _ H => U c d H) g (hr.deeper _)).nox.run [] t1 (start N xs) H { nx := fun _ H' => Q .non H', rt := Q } I ⟨_, Fr, B, ρ, M, er, m, wp.bind fun fl M1 B1 ρ1 H1 l1 m1 w1 => by
    cases fl with
    | nx η' => exact fun σ' _ => Wp.ret w1 m1 _ .non
    | rt d => exact fun v rv => Wp.ret w1 m1 v rv
    | bk η' => exact w1.elim
    | ct η' => exact w1.elim⟩
  refine wpAny_mono hq (fun fl t2 h2 => ?_) fun e t2 h2 => h2
  cases fl with
  | ret u =>
    obtain ⟨v, _, H2, J, rw2, q2⟩ := h2
    exact ⟨v, H2, J.os, J.bare, J.base, J.hok, rw2, q2⟩
  | next =>
    obtain ⟨_, H2, J, q2⟩ := h2
    exact ⟨V.non, H2, J.os, J.bare, J.base, J.hok, rfl, q2⟩
  | brk => exact h2.elim fun _ z => z.elim fun _ z => z.2.elim
  | cont => exact h2.elim fun _ z => z.elim fun _ z => z.2.elim
end
/-! ### called from without, the tables empty -/
section
variable {P : Program} {w : World} {K : PySem.W.Frag} {mg mb : Str → Option Value} {CX : CXT} {k : Nat} {fa a : Addr} {ts : List (Addr × Addr)} {fd : FuncData} {x : Str} {sp : Sp} {t : Shared} {vs : List Value} {ns : List Int}
abbrev isTabs (ts : List (Addr × Addr)) (b : Addr) : Prop := b ∈ ts.map Prod.snd
theorem law_tabG {H : Hp} (KX : K.In t.heap) (hns : t.heap.Ns mainGlobals mg) (hb : t.heap.Ns builtinsNs mb) (hbb : ∀ x : Str, x ≠ "__name__" → mb x = bootBuiltins x) (nl : t.heap.NoLimit) (hg : t.gens = #[])
    (hT : ∀ p ∈ ts, t.heap.get? p.2 = some { cls := .none, data := .fields #[] }) (hN : ∀ p ∈ ts, K.lookup p.2 = none) (hC : ∀ p ∈ ts, PySem.W.CodeHd t.heap p.1 p.2)
    (hM : ∃ (bm : Addr) (ob : Obj), mg "__builtins__" = some (.ref bm) ∧ bm ≠ builtinsNs ∧ t.heap.get? bm = some ob ∧ ob.cls = .type "module" ∧ ob.dict = some builtinsNs ∧ ob.data = .plain)
    (ha : t.heap.get? a = some { cls := .type "list", data := .seq vs.toArray }) (hr : Room k callerA)
    (F : ∀ base : Heap, K.In base → base.Ns mainGlobals mg → (∀ p ∈ ts, TabB base mg p.1 p.2) → FnOkG P w K mg base CX k fa fd [x] sp) (bd : ∀ (t : Shared) (u : Value), BindsTo t fd ⟨[u], []⟩ [(x, u)])
    (tb : ∀ p ∈ ts, H p.2 = some (.tbl #[])) (hO : ∀ b, isTabs ts b ∨ H b = none ∨ ∃ o xs, H b = some (.frz o (.lst xs))) (hok : HOk P w H t.heap) (hA : ∀ b, H b ≠ none → isTabs ts b ∨ b = a) (hK : H a ≠ none → K.lookup a = none)
    (hs : sp [.ref a] H (fun v _ => v = .bl true) fun _ _ _ => False) (hx : ∀ e t', CX [] H t (fun _ _ _ => False) e t' → False) :
    codeAny (model P w) callerA (.call (.ref fa) ⟨[.ref a], []⟩) (fun r t' => r = .ok (.ret (.bool true)) ∧ OldK t.heap t'.heap ∧ t'.os = t.os ∧ AllBare t'.gens) t := by
  have atT : ∀ {b : Addr}, isTabs ts b → ∃ p ∈ ts, p.2 = b ∧ t.heap.get? b = some { cls := .none, data := .fields #[] } := fun {b} z => by
    obtain ⟨p, hp, rfl⟩ := List.mem_map.mp z
    exact ⟨p, hp, rfl, hT p hp⟩
  -- what is neither a row of things nor an empty table is not tracked
  have free : ∀ {b : Addr} {o : Obj}, t.heap.get? b = some o → (∀ us n, ¬ o.data = .seq us n) → ¬ o.data = .fields #[] → H b = none := fun {b o} e n1 n2 => Classical.byContradiction fun z => by
    rcases hA b z with q | q
    · obtain ⟨_, _, _, e2⟩ := atT q
      rw [e] at e2
      exact n2 (congrArg Obj.data (Option.some.inj e2))
    · subst q
      rw [ha] at e
      exact n1 _ _ (congrArg Obj.data (Option.some.inj e)).symm
  have nsH : ∀ {b : Addr} {m : Str → Option Value}, t.heap.Ns b m → (hidT t.heap H).Ns b m := fun {b m} z => by
    obtain ⟨o, es, ep, e, d, r⟩ := z
    exact ⟨o, es, ep, hidT_get e (free e (fun us n q => by rw [d] at q; cases q) fun q => by rw [d] at q; cases q), d, r⟩
  have kH : K.In (hidT t.heap H) := fun b o e => hidT_get (KX b o e) (Classical.byContradiction fun z => by
    rcases hA b z with q | q
    · obtain ⟨p, hp, rfl⟩ := List.mem_map.mp q
      rw [hN p hp] at e
      cases e
    · subst q
      rw [hK z] at e
      cases e)
  have md : L2.Mod K mg (hidT t.heap H) := by
    obtain ⟨mc, n1, n2⟩ := nl
    exact ⟨kH, nsH hns, ⟨mb, nsH hb, hbb⟩, ⟨mc, nsH n1, n2⟩⟩
  have tB : ∀ p ∈ ts, TabB (hidT t.heap H) mg p.1 p.2 := fun p hp => by
    have pe := hT p hp
    obtain ⟨bm, ob, b1, b2, b3, b4, b5, b6⟩ := hM
    obtain ⟨o, us, file, tf, flags, tg, inF, text, tt, e1, r1, r2, r3, r4, r5, r6, r7, r8, hne⟩ := hC p hp
    obtain ⟨og, eg, epg, eG, dG, _⟩ := hns
    have w1 : H p.1 = none := free e1 (fun us n q => by rw [r2] at q; cases q) fun q => by
      rw [r2] at q
      cases q
      simp at r3
    have w2 : H bm = none := free b3 (fun us n q => by rw [b6] at q; cases q) fun q => by rw [b6] at q; cases q
    refine ⟨⟨o, us, file, tf, flags, tg, inF, text, tt, hidT_get e1 w1, r1, r2, r3, r4, r5, r6, r7, r8, hne⟩, ⟨bm, ob, b1, b2, fun q => ?_, fun q => ?_, hidT_get b3 w2, b4, b5, b6⟩, fun q => ?_⟩
    · rw [q, eG] at b3
      have := congrArg Obj.data (Option.some.inj b3)
      rw [dG, b6] at this
      cases this
    · rw [q, pe] at b3
      have := congrArg Obj.data (Option.some.inj b3)
      rw [b6] at this
      cases this
    · rw [q, pe] at eG
      have := congrArg Obj.data (Option.some.inj eG)
      rw [dG] at this
      cases this
  have e0 : Env0 P w K mg (hidT t.heap H) callerA [] t H :=
    ⟨rfl, md, fun _ _ e => of_hidT e, Nat.le_of_eq (hidT_size _ _), trivial, fun b q => absurd (show b ∈ ([] : List Addr) from q) (by simp), hok, .of_eq hg⟩
  refine codeAny_mono ((F _ kH (nsH hns) tB).runG callerA [] t H ⟨[.ref a], []⟩ [.ref a] [.ref a] _ _ rfl hr e0 (bd t _) (.cons rfl .nil) hs) fun r t' h => ?_
  cases r with
  | error e => exact (hx e t' h).elim
  | ok fl =>
    cases fl with
    | next => exact False.elim h
    | brk => exact False.elim h
    | cont => exact False.elim h
    | ret u =>
      obtain ⟨v, H2, os2, br, un, hok2, ru, rfl⟩ := h
      obtain rfl : u = Value.bool true := ru
      have grow : ∀ p ∈ ts, ∃ more : Array Value, t'.heap.get? p.2 = some { cls := .none, data := .fields more } := fun p hp => by
        obtain ⟨more, z⟩ := un.tbls p.2 #[] (tb p hp)
        exact ⟨_, hok2 p.2 _ z⟩
      have keep : ∀ b o, ¬ isTabs ts b → t.heap.get? b = some o → t'.heap.get? b = some o := fun b o nb e => by
        rcases hO b with z | z | ⟨ob, ys, z⟩
        · exact absurd z nb
        · exact un.keep b o e z (fun q => absurd (show b ∈ ([] : List Addr) from q) (by simp)) (by simp)
        · obtain ⟨e1, _⟩ := hok b _ z
          obtain ⟨e2, _⟩ := hok2 b _ (un.frzs b ob _ z)
          rw [e] at e1
          cases e1
          exact e2
      refine ⟨rfl, ⟨fun b o e => ?_, fun b o e => ?_⟩, os2, br⟩
      · by_cases hb : isTabs ts b
        · obtain ⟨p, hp, rfl, e2⟩ := atT hb
          obtain ⟨more, hm⟩ := grow p hp
          rw [e] at e2
          cases e2
          refine .inr (.inl ⟨((hC p hp).tab (hT p hp)).isCodeTable, rfl, #[], more, rfl, ?_⟩)
          rw [Array.empty_append]
          exact hm
        · exact .inl (keep b o hb e)
      · by_cases hb : isTabs ts b
        · obtain ⟨p, hp, rfl, _⟩ := atT hb
          obtain ⟨more, hm⟩ := grow p hp
          exact ⟨_, hm⟩
        · exact ⟨o, keep b o hb e⟩
theorem law_callTG (KX : K.In t.heap) (hns : t.heap.Ns mainGlobals mg) (hb : t.heap.Ns builtinsNs mb) (hbb : ∀ x : Str, x ≠ "__name__" → mb x = bootBuiltins x) (nl : t.heap.NoLimit) (hg : t.gens = #[])
    (hT : ∀ p ∈ ts, t.heap.get? p.2 = some { cls := .none, data := .fields #[] }) (hN : ∀ p ∈ ts, K.lookup p.2 = none) (hC : ∀ p ∈ ts, PySem.W.CodeHd t.heap p.1 p.2)
    (hM : ∃ (bm : Addr) (ob : Obj), mg "__builtins__" = some (.ref bm) ∧ bm ≠ builtinsNs ∧ t.heap.get? bm = some ob ∧ ob.cls = .type "module" ∧ ob.dict = some builtinsNs ∧ ob.data = .plain)
    (ha : t.heap.get? a = some { cls := .type "list", data := .seq vs.toArray }) (hi : IntsAre vs ns) (hl : ns.length ≤ sizeLine) (hr : Room k callerA)
    (F : ∀ base : Heap, K.In base → base.Ns mainGlobals mg → (∀ p ∈ ts, TabB base mg p.1 p.2) → FnOkG P w K mg base CX k fa fd [x] sp) (bd : ∀ (t : Shared) (u : Value), BindsTo t fd ⟨[u], []⟩ [(x, u)])
    (hs : ∀ H : Hp, (∀ p ∈ ts, H p.2 = some (.tbl #[])) → SqL K H a (ns.map V.int) → sp [.ref a] H (fun v _ => v = .bl true) fun _ _ _ => False) (hx : ∀ H e t', CX [] H t (fun _ _ _ => False) e t' → False) :
    codeAny (model P w) callerA (.call (.ref fa) ⟨[.ref a], []⟩) (fun r t' => r = .ok (.ret (.bool true)) ∧ OldK t.heap t'.heap ∧ t'.os = t.os ∧ AllBare t'.gens) t := by
  classical
  have rv := vals_ints hi
  have ln := hi.length
  have aT : ¬ isTabs ts a := fun z => by
    obtain ⟨p, hp, e⟩ := List.mem_map.mp z
    have := hT p hp
    rw [e, ha] at this
    have := congrArg Obj.data (Option.some.inj this)
    cases this
  have pT : ∀ p ∈ ts, isTabs ts p.2 := fun p hp => List.mem_map.mpr ⟨p, hp, rfl⟩
  have tOk : ∀ b, isTabs ts b → t.heap.get? b = some { cls := .none, data := .fields #[] } := fun b z => by
    obtain ⟨p, hp, rfl⟩ := List.mem_map.mp z
    exact hT p hp
  cases lk : K.lookup a with
  | some o =>
    have e := KX a o lk
    rw [ha] at e
    cases e
    let H : Hp := fun b => if isTabs ts b then some (.tbl #[]) else none
    have h1 : ∀ b, isTabs ts b → H b = some (.tbl #[]) := fun b z => if_pos z
    have h0 : ∀ b, ¬ isTabs ts b → H b = none := fun b z => if_neg z
    refine law_tabG (H := H) KX hns hb hbb nl hg hT hN hC hM ha hr F bd (fun p hp => h1 _ (pT p hp)) (fun b => ?_) (fun b u z => ?_) (fun b z => ?_) (fun z => absurd (h0 a aT) z) (hs _ (fun p hp => h1 _ (pT p hp)) (.inr ⟨_, vs.toArray, _, lk, rfl, rfl, rfl, ?_, by simpa using rv⟩)) (hx _)
    · by_cases q : isTabs ts b
      · exact .inl q
      · exact .inr (.inl (h0 b q))
    · by_cases q : isTabs ts b
      · rw [h1 b q] at z
        cases z
        exact tOk b q
      · rw [h0 b q] at z
        cases z
    · exact .inl (Classical.byContradiction fun q => z (h0 b q))
    · rw [List.size_toArray, ln]
      exact hl
  | none =>
    let H : Hp := fun b => if isTabs ts b then some (.tbl #[]) else if b = a then some (.frz { cls := .type "list", data := .seq vs.toArray } (.lst (ns.map V.int))) else none
    have h1 : ∀ b, isTabs ts b → H b = some (.tbl #[]) := fun b z => if_pos z
    have h2 : H a = some (.frz { cls := .type "list", data := .seq vs.toArray } (.lst (ns.map V.int))) := (if_neg aT).trans (if_pos rfl)
    have h0 : ∀ b, ¬ isTabs ts b → b ≠ a → H b = none := fun b z q => (if_neg z).trans (if_neg q)
    refine law_tabG (H := H) KX hns hb hbb nl hg hT hN hC hM ha hr F bd (fun p hp => h1 _ (pT p hp)) (fun b => ?_) (fun b u z => ?_) (fun b z => ?_) (fun _ => lk) (hs _ (fun p hp => h1 _ (pT p hp)) (.inl (.inr ⟨_, h2⟩))) (hx _)
    · by_cases q : isTabs ts b
      · exact .inl q
      · by_cases e : b = a
        · subst e
          exact .inr (.inr ⟨_, _, h2⟩)
        · exact .inr (.inl (h0 b q e))
    · by_cases q : isTabs ts b
      · rw [h1 b q] at z
        cases z
        exact tOk b q
      · by_cases e : b = a
        · subst e
          rw [h2] at z
          cases z
          exact ⟨ha, by rw [List.length_map]; exact hl, vs, _, rv, ha⟩
        · rw [h0 b q e] at z
          cases z
    · by_cases q : isTabs ts b
      · exact .inl q
      · exact .inr (Classical.byContradiction fun e => z (h0 b q e))
end
end Dn
namespace Dh
open PySem PySem.Spec PyProof.Rows L2
theorem law_walkETG {l : PySem.W.OpenLaw} {q : Program} {loose : List Str} {XP : (Str → Option Value) → Heap → Prop} {YP : World → Heap → Prop} {d : DefRec} {k : Nat} {x : Str} (hn : l.most = some 63) (hdf : d.params.defaults = []) (hr : Room k callerA)
    (F : ∀ (w : World) (mg : Str → Option Value) (fa : Addr) (h : Heap), YP w h → h.Ns mainGlobals mg → mg d.name = some (.ref fa) →
      ∃ (K K0 : PySem.W.Frag) (tb : List Str), K.In h ∧ K0.In h ∧ (∀ y ∈ tb, TabOk K K0 y (cdA K y) (tbA K y)) ∧ ∃ fd : FuncData, (∀ (s : Shared) (u : Value), BindsTo s fd ⟨[u], []⟩ [(x, u)]) ∧
        ∀ base : Heap, K.In base → base.Ns mainGlobals mg → (∀ y ∈ tb, LamX.TabB base mg (cdA K y) (tbA K y)) → Dn.FnOkG l.prog w K mg base CX0 k fa fd [x] (Dn.spLawT K (tb.map fun y => (y, tbA K y)))) :
    PySem.W.WalkO q loose XP YP l.row.toRowW d [] (fun f vs => PySem.call f vs) :=
  Att.attach_callB hn hdf fun w _ t mg _ fa _ _ _ _ a _ ns G Y _ _ _ hmg ho hi hlen hbits hg => by
    obtain ⟨K, K0, tb, KX, KX0, hT, fd, bd, hF⟩ := F w mg fa _ Y G.T.g hmg
    refine Dn.law_callTG (ts := tb.map fun y => (cdA K y, tbA K y)) KX G.T.g G.T.b G.T.builtins G.T.nolimit hg (fun p hp => ?_) (fun p hp => ?_) (fun p hp => ?_) G.T.bmain ho hi (Nat.le_trans hlen (by decide)) hr (fun base hK hN hTB => hF base hK hN fun y hy => hTB _ (List.mem_map.mpr ⟨y, hy, rfl⟩)) bd (fun H hH hS => ⟨a, ns, rfl, hS, hlen, hbits, fun p hp => ?_, fun _ => rfl⟩) fun _ _ _ z => z
    · obtain ⟨y, hy, rfl⟩ := List.mem_map.mp hp
      exact KX0 _ _ (hT y hy).em
    · obtain ⟨y, hy, rfl⟩ := List.mem_map.mp hp
      exact (hT y hy).no
    · obtain ⟨y, hy, rfl⟩ := List.mem_map.mp hp
      exact (hT y hy).hd _ KX
    · obtain ⟨y, hy, rfl⟩ := List.mem_map.mp hp
      exact hH (cdA K y, tbA K y) (List.mem_map.mpr ⟨y, hy, rfl⟩)
end Dh

/-! DnFnX: defs that may raise, called where lambdas are run -/
namespace Dn
open PySem PySem.Spec PyProof.Rows L2 Evl
structure FnX (P : Program) (w : World) (K : PySem.W.Frag) (mg : Str → Option Value) (base : Heap) (k : Nat) (x : Str) (n : Nat) (f : Fn) : Prop where
  ex : ∃ (a : Addr) (fd : FuncData) (ps : List Str), FnOk P w K mg base (L2N.CX P w) k a fd ps (spX K mg n f) ∧ mg x = some (.ref a) ∧ PySem.W.keepIn K (.ref a) = true ∧ Binds K fd ps []
theorem de_callXN {X : Cx} {E : XK} {e : Expr} {es : List Expr} {fa : XA} {pos : Pos} {k n : Nat} {x : Str} {f : Fn} {p0 : Pos} (tk : L2N.Takes X (wK E)) (G : FnX X.prog X.w X.K X.mg X.base k x n f) (hr : Room k X.A) (hg : Gl X x) (ha : DA X (wK E) (e :: es) fa) (hdb : (x == ("__debug__" : Str)) = false := by decide)
    (he : starEach (e :: es) X.env = (false, eval e X.env) :: starEach es X.env := by rfl) (hpl : (backTo pos (starEach es X.env)).any (·.1) = false := by rfl) : DE X (wK E) (.Call (.Name x p0) (e :: es) [] pos) (xFn n f fa) := by
  obtain ⟨ad, fd, ps, F, hm, hk, hb⟩ := G.ex
  refine PE.imp (pe_call (E := E) F hr hg hm hk hb .nil (pass_of tk) ha hdb he hpl) fun σ H Q z => ?_
  obtain ⟨η, Fr, B, ρ, M, er, m, w⟩ := z
  refine ⟨η, Fr, B, ρ, M, er, m, w.bind fun ds M1 B1 ρ1 H1 l1 m1 w1 vs rv => ?_⟩
  split at w1
  · next hl =>
    rw [List.append_nil]
    exact ⟨ds, Fr, B1, ρ1, M1, hl, rv, m1, w1⟩
  · exact w1.elim
end Dn

namespace Law
open PySem PyProof.Rows L2 Evl Dn
def top (i : Nat) : Stmt := PySem.Challenge.pw_crowdpurse_k05_rooms_and_serving.main.body.getD i (.Pass ⟨0, 0, 0, 0⟩)
abbrev E0W : WX := fun _ _ _ _ => False
/-- what the module's names hold -/
structure G (K : PySem.W.Frag) (mg : Str → Option Value) : Prop where
  z_abs : mg "abs" = none
  z_all : mg "all" = none
  z_any : mg "any" = none
  z_bool : mg "bool" = none
  z_int : mg "int" = none
  z_isinstance : mg "isinstance" = none
  z_len : mg "len" = none
  z_list : mg "list" = none
  z_max : mg "max" = none
  z_min : mg "min" = none
  z_range : mg "range" = none
  z_repr : mg "repr" = none
  z_sorted : mg "sorted" = none
  z_str : mg "str" = none
  z_sum : mg "sum" = none
  z_tuple : mg "tuple" = none
  z_zip : mg "zip" = none
  g_SIGNS : ∃ u, mg "SIGNS" = some u ∧ RelV (.str "abcdefghijklmnopqrstuvwxyz") u
  g_MOST_SIGNS : ∃ u, mg "MOST_SIGNS" = some u ∧ RelV (.int 8) u
  g_MOST_ROOMS : ∃ u, mg "MOST_ROOMS" = some u ∧ RelV (.int 8) u
  rf : RfG mg
  rd_NoRoom : RfD K mg "NoRoom" ["LookupError"] 1 (some "name")
def refXs : List (Str × Option Str) := [("NoRoom", some "name")]
def lamTb : List Str := ["law"]
/-! NoRoom -/
abbrev s_NoRoom_init : Stmt := inClass (top 9) 0
theorem sc_NoRoom_init : FnScope ["self", "name"] ["self", "name"] (defScope s_NoRoom_init) := ⟨rfl, rfl, rfl, by decide +kernel, rfl, by decide +kernel, by decide +kernel⟩
theorem okI_NoRoom {P : Program} {w : World} {K : PySem.W.Frag} {mg : Str → Option Value} {base : Heap} {f C : Addr} {fd : FuncData} (F : Fun K "__init__" "NoRoom.__init__" s_NoRoom_init f fd) (O : Kx.OexG K C "LookupError.__init__") (h1 : PySem.W.findIn K (.ref C) "name" = some none) (h2 : PySem.W.findIn K (.ref C) "called" = some none) (hm : mg "LookupError" = none) (vV : PySem.W.findCls K (.type "LookupError") (.type "type") "__init__" = some (.val (.builtin "LookupError.__init__"))) : FnOk P w K mg base CX0 1 f fd ["self", "name"] (spI K C "name" "NoRoom") :=
  init_okG (k := 0) (ini := "LookupError.__init__") F sc_NoRoom_init rfl rfl O h1 h2 fun cdv A outer s H E => pss_cons (ps_expr (Kx.pe_base (B := "LookupError") (by rfl) hm (by decide +kernel) (by kernel_rfl) (by decide +kernel) vV (by decide +kernel) (pa_cons (pe_var (i := 0) rfl (Or.inl rfl)) (pa_cons pe_str pa_nil)))) (pss_cons (Kx.ps_fldG (pe_var (i := 0) rfl (Or.inl rfl)) (pe_var (i := 1) rfl (Or.inl rfl))) (pss_one (Kx.ps_fldG (pe_var (i := 0) rfl (Or.inl rfl)) pe_str)))
/-! _law_which -/
abbrev s_law_which : Stmt := top 43
abbrev n_law_which : List Str := ["_law_e", "_law_some", "_law_names_here", "_law_right", "_law_name", "_law_ours", "_law_theirs"]
theorem sc_law_which : FnScope n_law_which ["_law_e"] (defScope s_law_which) := ⟨rfl, rfl, rfl, by decide +kernel, rfl, by decide +kernel, by decide +kernel⟩
theorem okw_law_which {P : Program} {w : World} {K : PySem.W.Frag} {mg : Str → Option Value} {base : Heap} {f : Addr} {fd : FuncData} {x : Str} {bs : List Str} {j : Nat} {fl : Option Str} (T : G K mg) (D : RfD K mg x bs j fl) (V : WhV x bs) (F : Fun K "_law_which" "_law_which" s_law_which f fd) : FnW P w K mg base 1 f fd ["_law_e"] x := by
  obtain ⟨C0, hC0, ec, _, _, ho, hb, _⟩ := D.ex
  obtain ⟨c_NoSet, m_NoSet⟩ := T.rf.own "NoSet" (by decide)
  have o_NoSet := ho "NoSet" (by decide) _ m_NoSet
  obtain ⟨c_NoBook, m_NoBook⟩ := T.rf.own "NoBook" (by decide)
  have o_NoBook := ho "NoBook" (by decide) _ m_NoBook
  obtain ⟨c_NoHouse, m_NoHouse⟩ := T.rf.own "NoHouse" (by decide)
  have o_NoHouse := ho "NoHouse" (by decide) _ m_NoHouse
  obtain ⟨c_NoDesk, m_NoDesk⟩ := T.rf.own "NoDesk" (by decide)
  have o_NoDesk := ho "NoDesk" (by decide) _ m_NoDesk
  obtain ⟨c_Down, m_Down⟩ := T.rf.own "Down" (by decide)
  have o_Down := ho "Down" (by decide) _ m_Down
  obtain ⟨c_Up, m_Up⟩ := T.rf.own "Up" (by decide)
  have o_Up := ho "Up" (by decide) _ m_Up
  obtain ⟨c_NoName, m_NoName⟩ := T.rf.own "NoName" (by decide)
  have o_NoName := ho "NoName" (by decide) _ m_NoName
  obtain ⟨c_NoCount, m_NoCount⟩ := T.rf.own "NoCount" (by decide)
  have o_NoCount := ho "NoCount" (by decide) _ m_NoCount
  obtain ⟨c_NoRoom, m_NoRoom⟩ := T.rf.own "NoRoom" (by decide)
  have o_NoRoom := ho "NoRoom" (by decide) _ m_NoRoom
  obtain ⟨c_NoKind, m_NoKind⟩ := T.rf.own "NoKind" (by decide)
  have o_NoKind := ho "NoKind" (by decide) _ m_NoKind
  obtain ⟨c_TooMany, m_TooMany⟩ := T.rf.own "TooMany" (by decide)
  have o_TooMany := ho "TooMany" (by decide) _ m_TooMany
  obtain ⟨c_Taken, m_Taken⟩ := T.rf.own "Taken" (by decide)
  have o_Taken := ho "Taken" (by decide) _ m_Taken
  obtain ⟨c_NoGuest, m_NoGuest⟩ := T.rf.own "NoGuest" (by decide)
  have o_NoGuest := ho "NoGuest" (by decide) _ m_NoGuest
  obtain ⟨c_Waits, m_Waits⟩ := T.rf.own "Waits" (by decide)
  have o_Waits := ho "Waits" (by decide) _ m_Waits
  obtain ⟨c_Bound, m_Bound⟩ := T.rf.own "Bound" (by decide)
  have o_Bound := ho "Bound" (by decide) _ m_Bound
  obtain ⟨c_NoKey, m_NoKey⟩ := T.rf.own "NoKey" (by decide)
  have o_NoKey := ho "NoKey" (by decide) _ m_NoKey
  obtain ⟨c_Needed, m_Needed⟩ := T.rf.own "Needed" (by decide)
  have o_Needed := ho "Needed" (by decide) _ m_Needed
  obtain ⟨c_NoLetter, m_NoLetter⟩ := T.rf.own "NoLetter" (by decide)
  have o_NoLetter := ho "NoLetter" (by decide) _ m_NoLetter
  obtain ⟨c_NoDeed, m_NoDeed⟩ := T.rf.own "NoDeed" (by decide)
  have o_NoDeed := ho "NoDeed" (by decide) _ m_NoDeed
  obtain ⟨c_NoText, m_NoText⟩ := T.rf.own "NoText" (by decide)
  have o_NoText := ho "NoText" (by decide) _ m_NoText
  obtain ⟨c_NoRow, m_NoRow⟩ := T.rf.own "NoRow" (by decide)
  have o_NoRow := ho "NoRow" (by decide) _ m_NoRow
  have p_KeyError := hb ("KeyError", "KeyError") (by decide)
  have q_KeyError := T.rf.bas ("KeyError", "KeyError") (by decide)
  have p_ValueError := hb ("ValueError", "ValueError") (by decide)
  have q_ValueError := T.rf.bas ("ValueError", "ValueError") (by decide)
  have p_RuntimeError := hb ("RuntimeError", "RuntimeError") (by decide)
  have q_RuntimeError := T.rf.bas ("RuntimeError", "RuntimeError") (by decide)
  have p_LookupError := hb ("LookupError", "LookupError") (by decide)
  have q_LookupError := T.rf.bas ("LookupError", "LookupError") (by decide)
  have p_OverflowError := hb ("OverflowError", "OverflowError") (by decide)
  have q_OverflowError := T.rf.bas ("OverflowError", "OverflowError") (by decide)
  have p_IndexError := hb ("IndexError", "IndexError") (by decide)
  have q_IndexError := T.rf.bas ("IndexError", "IndexError") (by decide)
  have p_ArithmeticError := hb ("ArithmeticError", "ArithmeticError") (by decide)
  have q_ArithmeticError := T.rf.bas ("ArithmeticError", "ArithmeticError") (by decide)
  have p_TypeError := hb ("TypeError", "TypeError") (by decide)
  have q_TypeError := T.rf.bas ("TypeError", "TypeError") (by decide)
  refine fnW_of (k := 0) (body := fun a dd n => b_which (tbW x bs) a dd n) F sc_law_which rfl (fun cdv A outer s H E p C dd n hot hr hm hz hf => ?_) V
  have hc : L2H.HotC (L2H.cxH CX0 P w K mg base n_law_which "_law_which" (defScope s_law_which) f cdv A outer s H E p) := ⟨p, hot, List.mem_singleton.mpr rfl⟩
  have hcat : CatC (L2H.cxH CX0 P w K mg base n_law_which "_law_which" (defScope s_law_which) f cdv A outer s H E p) C0 p.1 dd := ⟨⟨p.2, List.mem_singleton.mpr rfl, by rw [hC0] at hm; cases hm; exact hz, hf⟩⟩
  exact (dss_cons (ds_set (i := 1) sc_law_which.nd (de_lst (da_cons (de_tup (da_cons de_str (da_cons (de_isX (D' := c_NoSet) ec hcat o_NoSet (by rfl) T.z_isinstance rfl (Or.inl rfl) (by rfl) m_NoSet) (da_cons (de_isB (nm := "KeyError") ec hcat p_KeyError (by decide +kernel) (by rfl) T.z_isinstance rfl (Or.inl rfl) (by rfl) q_KeyError) da_nil)))) (da_cons (de_tup (da_cons de_str (da_cons (de_isX (D' := c_NoBook) ec hcat o_NoBook (by rfl) T.z_isinstance rfl (Or.inl rfl) (by rfl) m_NoBook) (da_cons (de_isB (nm := "ValueError") ec hcat p_ValueError (by decide +kernel) (by rfl) T.z_isinstance rfl (Or.inl rfl) (by rfl) q_ValueError) da_nil)))) (da_cons (de_tup (da_cons de_str (da_cons (de_isX (D' := c_NoHouse) ec hcat o_NoHouse (by rfl) T.z_isinstance rfl (Or.inl rfl) (by rfl) m_NoHouse) (da_cons (de_isB (nm := "ValueError") ec hcat p_ValueError (by decide +kernel) (by rfl) T.z_isinstance rfl (Or.inl rfl) (by rfl) q_ValueError) da_nil)))) (da_cons (de_tup (da_cons de_str (da_cons (de_isX (D' := c_NoDesk) ec hcat o_NoDesk (by rfl) T.z_isinstance rfl (Or.inl rfl) (by rfl) m_NoDesk) (da_cons (de_isB (nm := "KeyError") ec hcat p_KeyError (by decide +kernel) (by rfl) T.z_isinstance rfl (Or.inl rfl) (by rfl) q_KeyError) da_nil)))) (da_cons (de_tup (da_cons de_str (da_cons (de_isX (D' := c_Down) ec hcat o_Down (by rfl) T.z_isinstance rfl (Or.inl rfl) (by rfl) m_Down) (da_cons (de_isB (nm := "RuntimeError") ec hcat p_RuntimeError (by decide +kernel) (by rfl) T.z_isinstance rfl (Or.inl rfl) (by rfl) q_RuntimeError) da_nil)))) (da_cons (de_tup (da_cons de_str (da_cons (de_isX (D' := c_Up) ec hcat o_Up (by rfl) T.z_isinstance rfl (Or.inl rfl) (by rfl) m_Up) (da_cons (de_isB (nm := "RuntimeError") ec hcat p_RuntimeError (by decide +kernel) (by rfl) T.z_isinstance rfl (Or.inl rfl) (by rfl) q_RuntimeError) da_nil)))) (da_cons (de_tup (da_cons de_str (da_cons (de_isX (D' := c_NoName) ec hcat o_NoName (by rfl) T.z_isinstance rfl (Or.inl rfl) (by rfl) m_NoName) (da_cons (de_isB (nm := "ValueError") ec hcat p_ValueError (by decide +kernel) (by rfl) T.z_isinstance rfl (Or.inl rfl) (by rfl) q_ValueError) da_nil)))) (da_cons (de_tup (da_cons de_str (da_cons (de_isX (D' := c_NoCount) ec hcat o_NoCount (by rfl) T.z_isinstance rfl (Or.inl rfl) (by rfl) m_NoCount) (da_cons (de_isB (nm := "ValueError") ec hcat p_ValueError (by decide +kernel) (by rfl) T.z_isinstance rfl (Or.inl rfl) (by rfl) q_ValueError) da_nil)))) (da_cons (de_tup (da_cons de_str (da_cons (de_isX (D' := c_NoRoom) ec hcat o_NoRoom (by rfl) T.z_isinstance rfl (Or.inl rfl) (by rfl) m_NoRoom) (da_cons (de_isB (nm := "LookupError") ec hcat p_LookupError (by decide +kernel) (by rfl) T.z_isinstance rfl (Or.inl rfl) (by rfl) q_LookupError) da_nil)))) (da_cons (de_tup (da_cons de_str (da_cons (de_isX (D' := c_NoKind) ec hcat o_NoKind (by rfl) T.z_isinstance rfl (Or.inl rfl) (by rfl) m_NoKind) (da_cons (de_isB (nm := "LookupError") ec hcat p_LookupError (by decide +kernel) (by rfl) T.z_isinstance rfl (Or.inl rfl) (by rfl) q_LookupError) da_nil)))) (da_cons (de_tup (da_cons de_str (da_cons (de_isX (D' := c_TooMany) ec hcat o_TooMany (by rfl) T.z_isinstance rfl (Or.inl rfl) (by rfl) m_TooMany) (da_cons (de_isB (nm := "OverflowError") ec hcat p_OverflowError (by decide +kernel) (by rfl) T.z_isinstance rfl (Or.inl rfl) (by rfl) q_OverflowError) da_nil)))) (da_cons (de_tup (da_cons de_str (da_cons (de_isX (D' := c_Taken) ec hcat o_Taken (by rfl) T.z_isinstance rfl (Or.inl rfl) (by rfl) m_Taken) (da_cons (de_isB (nm := "ValueError") ec hcat p_ValueError (by decide +kernel) (by rfl) T.z_isinstance rfl (Or.inl rfl) (by rfl) q_ValueError) da_nil)))) (da_cons (de_tup (da_cons de_str (da_cons (de_isX (D' := c_NoGuest) ec hcat o_NoGuest (by rfl) T.z_isinstance rfl (Or.inl rfl) (by rfl) m_NoGuest) (da_cons (de_isB (nm := "KeyError") ec hcat p_KeyError (by decide +kernel) (by rfl) T.z_isinstance rfl (Or.inl rfl) (by rfl) q_KeyError) da_nil)))) (da_cons (de_tup (da_cons de_str (da_cons (de_isX (D' := c_Waits) ec hcat o_Waits (by rfl) T.z_isinstance rfl (Or.inl rfl) (by rfl) m_Waits) (da_cons (de_isB (nm := "RuntimeError") ec hcat p_RuntimeError (by decide +kernel) (by rfl) T.z_isinstance rfl (Or.inl rfl) (by rfl) q_RuntimeError) da_nil)))) (da_cons (de_tup (da_cons de_str (da_cons (de_isX (D' := c_Bound) ec hcat o_Bound (by rfl) T.z_isinstance rfl (Or.inl rfl) (by rfl) m_Bound) (da_cons (de_isB (nm := "RuntimeError") ec hcat p_RuntimeError (by decide +kernel) (by rfl) T.z_isinstance rfl (Or.inl rfl) (by rfl) q_RuntimeError) da_nil)))) (da_cons (de_tup (da_cons de_str (da_cons (de_isX (D' := c_NoKey) ec hcat o_NoKey (by rfl) T.z_isinstance rfl (Or.inl rfl) (by rfl) m_NoKey) (da_cons (de_isB (nm := "IndexError") ec hcat p_IndexError (by decide +kernel) (by rfl) T.z_isinstance rfl (Or.inl rfl) (by rfl) q_IndexError) da_nil)))) (da_cons (de_tup (da_cons de_str (da_cons (de_isX (D' := c_Needed) ec hcat o_Needed (by rfl) T.z_isinstance rfl (Or.inl rfl) (by rfl) m_Needed) (da_cons (de_isB (nm := "ArithmeticError") ec hcat p_ArithmeticError (by decide +kernel) (by rfl) T.z_isinstance rfl (Or.inl rfl) (by rfl) q_ArithmeticError) da_nil)))) (da_cons (de_tup (da_cons de_str (da_cons (de_isX (D' := c_NoLetter) ec hcat o_NoLetter (by rfl) T.z_isinstance rfl (Or.inl rfl) (by rfl) m_NoLetter) (da_cons (de_isB (nm := "IndexError") ec hcat p_IndexError (by decide +kernel) (by rfl) T.z_isinstance rfl (Or.inl rfl) (by rfl) q_IndexError) da_nil)))) (da_cons (de_tup (da_cons de_str (da_cons (de_isX (D' := c_NoDeed) ec hcat o_NoDeed (by rfl) T.z_isinstance rfl (Or.inl rfl) (by rfl) m_NoDeed) (da_cons (de_isB (nm := "TypeError") ec hcat p_TypeError (by decide +kernel) (by rfl) T.z_isinstance rfl (Or.inl rfl) (by rfl) q_TypeError) da_nil)))) (da_cons (de_tup (da_cons de_str (da_cons (de_isX (D' := c_NoText) ec hcat o_NoText (by rfl) T.z_isinstance rfl (Or.inl rfl) (by rfl) m_NoText) (da_cons (de_isB (nm := "ValueError") ec hcat p_ValueError (by decide +kernel) (by rfl) T.z_isinstance rfl (Or.inl rfl) (by rfl) q_ValueError) da_nil)))) (da_cons (de_tup (da_cons de_str (da_cons (de_isX (D' := c_NoRow) ec hcat o_NoRow (by rfl) T.z_isinstance rfl (Or.inl rfl) (by rfl) m_NoRow) (da_cons (de_isB (nm := "ValueError") ec hcat p_ValueError (by decide +kernel) (by rfl) T.z_isinstance rfl (Or.inl rfl) (by rfl) q_ValueError) da_nil)))) da_nil))))))))))))))))))))))) (dss_cons (ds_setLcH (i := 2) (own := [("_law_name", 4), ("_law_ours", 5), ("_law_theirs", 6)]) (W' := E0W) fin_frozen hc sc_law_which.nd (dih_lst (de_var (i := 1))) (blkOk_by (own := [("_law_name", 4), ("_law_ours", 5), ("_law_theirs", 6)]) (N := n_law_which) (sc := defScope s_law_which) (by decide +kernel)) (fun p1 _ _ _ _ _ h1 => (dgh_tup (hot_blk h1) (dgs_cons (dg_name (i := 4) sc_law_which.nd) (dgs_cons (dg_name (i := 5) sc_law_which.nd) (dgs_cons (dg_name (i := 6) sc_law_which.nd) dgs_nil))))) (fun _ _ _ _ _ _ => (dts_one (dt_tru (de_var (i := 5))))) (fun _ _ _ _ _ _ => (de_var (i := 4))) (by decide)) (dss_cons (ds_setLcH (i := 3) (own := [("_law_name", 4), ("_law_ours", 5), ("_law_theirs", 6)]) (W' := E0W) fin_frozen hc sc_law_which.nd (dih_lst (de_var (i := 1))) (blkOk_by (own := [("_law_name", 4), ("_law_ours", 5), ("_law_theirs", 6)]) (N := n_law_which) (sc := defScope s_law_which) (by decide +kernel)) (fun p1 _ _ _ _ _ h1 => (dgh_tup (hot_blk h1) (dgs_cons (dg_name (i := 4) sc_law_which.nd) (dgs_cons (dg_name (i := 5) sc_law_which.nd) (dgs_cons (dg_name (i := 6) sc_law_which.nd) dgs_nil))))) (fun _ _ _ _ _ _ => (dts_one (dt_w (dw_and (dt_tru (de_var (i := 5))) (dw_and1 (dt_tru (de_var (i := 6)))))))) (fun _ _ _ _ _ _ => (de_var (i := 4))) (by decide)) (dss_one (ds_ret (de_if (dt_w (dw_and (dt_cmp (od_eqMH hr) (de_callB cd_len (by rfl) T.z_len bt_len (da_cons (de_var (i := 2)) da_nil)) de_int (nomark _)) (dw_and1 (dt_cmp (od_eqMH hr) (de_var (i := 3)) (de_var (i := 2)) (nomark _))))) (de_ix (de_var (i := 2)) de_int) de_str))))))
/-! _law_refusal -/
abbrev s_law_refusal : Stmt := top 44
abbrev n_law_refusal : List Str := ["_law_deed", "_law_e"]
theorem sc_law_refusal : FnScope n_law_refusal ["_law_deed"] (defScope s_law_refusal) := ⟨rfl, rfl, rfl, by decide +kernel, rfl, by decide +kernel, by decide +kernel⟩
theorem ok_law_refusal {P : Program} {w : World} {K : PySem.W.Frag} {mg : Str → Option Value} {base : Heap} {f fW : Addr} {fd fdW : FuncData} (T : G K mg) (FW : Fun K "_law_which" "_law_which" s_law_which fW fdW) (hW : mg "_law_which" = some (.ref fW)) (bW : Binds K fdW ["_law_e"] []) (F : Fun K "_law_refusal" "_law_refusal" s_law_refusal f fd) (hm : mg "_law_refusal" = some (.ref f)) (hb : Binds K fd ["_law_deed"] []) : RfOk P w K mg base refXs := by
  obtain ⟨oc, od, kV, doc, pm, an, cdv, ct, osl, rfl, lk, hcd⟩ := F.ex
  obtain ⟨c_NoSet, m_NoSet⟩ := T.rf.own "NoSet" (by decide)
  obtain ⟨c_NoBook, m_NoBook⟩ := T.rf.own "NoBook" (by decide)
  obtain ⟨c_NoHouse, m_NoHouse⟩ := T.rf.own "NoHouse" (by decide)
  obtain ⟨c_NoDesk, m_NoDesk⟩ := T.rf.own "NoDesk" (by decide)
  obtain ⟨c_Down, m_Down⟩ := T.rf.own "Down" (by decide)
  obtain ⟨c_Up, m_Up⟩ := T.rf.own "Up" (by decide)
  obtain ⟨c_NoName, m_NoName⟩ := T.rf.own "NoName" (by decide)
  obtain ⟨c_NoCount, m_NoCount⟩ := T.rf.own "NoCount" (by decide)
  obtain ⟨c_NoRoom, m_NoRoom⟩ := T.rf.own "NoRoom" (by decide)
  obtain ⟨c_NoKind, m_NoKind⟩ := T.rf.own "NoKind" (by decide)
  obtain ⟨c_TooMany, m_TooMany⟩ := T.rf.own "TooMany" (by decide)
  obtain ⟨c_Taken, m_Taken⟩ := T.rf.own "Taken" (by decide)
  obtain ⟨c_NoGuest, m_NoGuest⟩ := T.rf.own "NoGuest" (by decide)
  obtain ⟨c_Waits, m_Waits⟩ := T.rf.own "Waits" (by decide)
  obtain ⟨c_Bound, m_Bound⟩ := T.rf.own "Bound" (by decide)
  obtain ⟨c_NoKey, m_NoKey⟩ := T.rf.own "NoKey" (by decide)
  obtain ⟨c_Needed, m_Needed⟩ := T.rf.own "Needed" (by decide)
  obtain ⟨c_NoLetter, m_NoLetter⟩ := T.rf.own "NoLetter" (by decide)
  obtain ⟨c_NoDeed, m_NoDeed⟩ := T.rf.own "NoDeed" (by decide)
  obtain ⟨c_NoText, m_NoText⟩ := T.rf.own "NoText" (by decide)
  obtain ⟨c_NoRow, m_NoRow⟩ := T.rf.own "NoRow" (by decide)
  refine ⟨⟨[(fun cls => PySem.W.exmAny K cls [.ref c_NoDesk, .ref c_NoSet], tsF P w K mg base 1 fW fdW ["_law_e"] 1 "name"), (fun cls => PySem.W.exmAny K cls [.ref c_NoName, .ref c_NoRoom, .ref c_NoKind], tsF P w K mg base 1 fW fdW ["_law_e"] 1 "name"), (fun cls => PySem.W.exmAny K cls [.ref c_Down, .ref c_Up], tsF P w K mg base 1 fW fdW ["_law_e"] 1 "desk"), (fun cls => PySem.W.exmAny K cls [.ref c_Taken, .ref c_NoGuest, .ref c_Waits, .ref c_Bound], tsF P w K mg base 1 fW fdW ["_law_e"] 1 "guest"), (fun cls => PySem.W.exmAny K cls [.ref c_NoDeed, .ref c_NoBook, .ref c_NoText], tsF P w K mg base 1 fW fdW ["_law_e"] 1 "at"), (fun cls => PySem.W.exmOne K cls (.ref c_NoHouse), tsF P w K mg base 1 fW fdW ["_law_e"] 1 "why"), (fun cls => PySem.W.exmOne K cls (.ref c_NoCount), tsF P w K mg base 1 fW fdW ["_law_e"] 1 "count"), (fun cls => PySem.W.exmOne K cls (.ref c_NoKey), tsF P w K mg base 1 fW fdW ["_law_e"] 1 "room"), (fun cls => PySem.W.exmOne K cls (.ref c_Needed), tsF P w K mg base 1 fW fdW ["_law_e"] 1 "of"), (fun cls => PySem.W.exmOne K cls (.ref c_NoLetter), tsF P w K mg base 1 fW fdW ["_law_e"] 1 "number"), (fun cls => PySem.W.exmAny K cls [.ref c_TooMany, .ref c_NoRow], tsN P w K mg base 1 fW fdW ["_law_e"] 1)], f, fW, fdW, ["_law_e"], _, defBody s_law_refusal, defScope s_law_refusal, _, _, _, _, _, _, _, _, _, _, n_law_refusal, "_law_deed", fun z hz => ?_, hm, F.kp, lk, hcd, hb, sc_law_refusal, rfl, Or.inl rfl, ⟨by decide, by decide⟩, fun X q k e1 e2 e3 e4 e5 => ?_⟩⟩
  · simp only [refXs, List.mem_cons, List.not_mem_nil, or_false] at hz
    rcases hz with rfl
    · obtain ⟨C, hC, ec, xf, hfl, _, _, hcl⟩ := T.rd_NoRoom.ex
      have h0 : PySem.W.exmAny K (.ref C) [.ref c_NoDesk, .ref c_NoSet] = some false := by
        have z := hcl 0 _ rfl (by decide)
        simpa [clsOf, mtOf, m_NoDesk, m_NoSet] using z
      have h1 : PySem.W.exmAny K (.ref C) [.ref c_NoName, .ref c_NoRoom, .ref c_NoKind] = some true := by
        have z := hcl 1 _ rfl (by decide)
        simpa [clsOf, mtOf, m_NoName, m_NoRoom, m_NoKind] using z
      exact ⟨⟨C, hC, okw_law_which T T.rd_NoRoom which_NoRoom FW, .next h0 (.here h1), xf, hfl _ rfl⟩⟩
  · subst e1 e2 e3 e4 e5
    exact gives_of (n := "_law_e") sc_law_refusal.nd rfl rfl rfl (fun _ => rfl) (fun _ _ => rfl) fun s H hr => .cons (Kh.ty_two ⟨by rfl, by decide, .inl m_NoDesk⟩ ⟨by rfl, by decide, .inl m_NoSet⟩) (fun a oe cls d pn hz hf => pss_one (ps_ret (pe_tup (pa_cons (pe_who (by rfl) hW FW.kp bW (hr.mono (by omega)) hz hf rfl (Or.inl rfl)) (pa_cons (pe_fldE hz hf rfl (Or.inl rfl)) pa_nil))))) (.cons (Kh.ty_three ⟨by rfl, by decide, .inl m_NoName⟩ ⟨by rfl, by decide, .inl m_NoRoom⟩ ⟨by rfl, by decide, .inl m_NoKind⟩) (fun a oe cls d pn hz hf => pss_one (ps_ret (pe_tup (pa_cons (pe_who (by rfl) hW FW.kp bW (hr.mono (by omega)) hz hf rfl (Or.inl rfl)) (pa_cons (pe_fldE hz hf rfl (Or.inl rfl)) pa_nil))))) (.cons (Kh.ty_two ⟨by rfl, by decide, .inl m_Down⟩ ⟨by rfl, by decide, .inl m_Up⟩) (fun a oe cls d pn hz hf => pss_one (ps_ret (pe_tup (pa_cons (pe_who (by rfl) hW FW.kp bW (hr.mono (by omega)) hz hf rfl (Or.inl rfl)) (pa_cons (pe_fldE hz hf rfl (Or.inl rfl)) pa_nil))))) (.cons (Kh.ty_four ⟨by rfl, by decide, .inl m_Taken⟩ ⟨by rfl, by decide, .inl m_NoGuest⟩ ⟨by rfl, by decide, .inl m_Waits⟩ ⟨by rfl, by decide, .inl m_Bound⟩) (fun a oe cls d pn hz hf => pss_one (ps_ret (pe_tup (pa_cons (pe_who (by rfl) hW FW.kp bW (hr.mono (by omega)) hz hf rfl (Or.inl rfl)) (pa_cons (pe_fldE hz hf rfl (Or.inl rfl)) pa_nil))))) (.cons (Kh.ty_three ⟨by rfl, by decide, .inl m_NoDeed⟩ ⟨by rfl, by decide, .inl m_NoBook⟩ ⟨by rfl, by decide, .inl m_NoText⟩) (fun a oe cls d pn hz hf => pss_one (ps_ret (pe_tup (pa_cons (pe_who (by rfl) hW FW.kp bW (hr.mono (by omega)) hz hf rfl (Or.inl rfl)) (pa_cons (pe_fldE hz hf rfl (Or.inl rfl)) pa_nil))))) (.cons (Kh.ty_one ⟨by rfl, by decide, .inl m_NoHouse⟩) (fun a oe cls d pn hz hf => pss_one (ps_ret (pe_tup (pa_cons (pe_who (by rfl) hW FW.kp bW (hr.mono (by omega)) hz hf rfl (Or.inl rfl)) (pa_cons (pe_fldE hz hf rfl (Or.inl rfl)) pa_nil))))) (.cons (Kh.ty_one ⟨by rfl, by decide, .inl m_NoCount⟩) (fun a oe cls d pn hz hf => pss_one (ps_ret (pe_tup (pa_cons (pe_who (by rfl) hW FW.kp bW (hr.mono (by omega)) hz hf rfl (Or.inl rfl)) (pa_cons (pe_fldE hz hf rfl (Or.inl rfl)) pa_nil))))) (.cons (Kh.ty_one ⟨by rfl, by decide, .inl m_NoKey⟩) (fun a oe cls d pn hz hf => pss_one (ps_ret (pe_tup (pa_cons (pe_who (by rfl) hW FW.kp bW (hr.mono (by omega)) hz hf rfl (Or.inl rfl)) (pa_cons (pe_fldE hz hf rfl (Or.inl rfl)) pa_nil))))) (.cons (Kh.ty_one ⟨by rfl, by decide, .inl m_Needed⟩) (fun a oe cls d pn hz hf => pss_one (ps_ret (pe_tup (pa_cons (pe_who (by rfl) hW FW.kp bW (hr.mono (by omega)) hz hf rfl (Or.inl rfl)) (pa_cons (pe_fldE hz hf rfl (Or.inl rfl)) pa_nil))))) (.cons (Kh.ty_one ⟨by rfl, by decide, .inl m_NoLetter⟩) (fun a oe cls d pn hz hf => pss_one (ps_ret (pe_tup (pa_cons (pe_who (by rfl) hW FW.kp bW (hr.mono (by omega)) hz hf rfl (Or.inl rfl)) (pa_cons (pe_fldE hz hf rfl (Or.inl rfl)) pa_nil))))) (.cons (Kh.ty_two ⟨by rfl, by decide, .inl m_TooMany⟩ ⟨by rfl, by decide, .inl m_NoRow⟩) (fun a oe cls d pn hz hf => pss_one (ps_ret (pe_tup (pa_cons (pe_who (by rfl) hW FW.kp bW (hr.mono (by omega)) hz hf rfl (Or.inl rfl)) (pa_cons pe_non pa_nil))))) (.nil)))))))))))
/-! _law_take -/
abbrev s_law_take : Stmt := top 37
abbrev n_law_take : List Str := ["_law_bag_here", "_law_often", "_law_digit", "_law_primes", "_law_step", "_law_base", "_law_found"]
theorem sc_law_take : FnScope n_law_take ["_law_bag_here", "_law_often"] (defScope s_law_take) := ⟨rfl, rfl, rfl, by decide +kernel, rfl, by decide +kernel, by decide +kernel⟩
noncomputable def b_law_take : XS := (xSeq (xIfS (xTst (xOp dGt (xOp dIx (xVar 0) (xC (.int 0))) (xC (.int 0)))) (xSeq (xAsg (xOp dMod (xOp dIx (xVar 0) (xC (.int 0))) (xVar 1)) (xgName 2)) (xSeq (xSetL (xOp dDiv (xOp dIx (xVar 0) (xC (.int 0))) (xVar 1)) (xVar 0) (xC (.int 0))) (xRet (xVar 2)))) xNx) (xSeq (xAsg (xTup (xCons (xC (.int 2147483647)) (xCons (xC (.int 2147483629)) (xCons (xC (.int 2147483587)) (xCons (xC (.int 2147483579)) (xCons (xC (.int 2147483563)) (xCons (xC (.int 2147483549)) (xCons (xC (.int 2147483543)) (xCons (xC (.int 2147483497)) xNil))))))))) (xgName 3)) (xSeq (xSetL (xOp dAdd (xOp dIx (xVar 0) (xC (.int 2))) (xC (.int 1))) (xVar 0) (xC (.int 2))) (xSeq (xAsg (xOp dIx (xVar 0) (xC (.int 2))) (xgName 4)) (xSeq (xAsg (xOp dAdd (xOp dAdd (xOp dMul (xOp dIx (xVar 0) (xC (.int 1))) (xOp dAdd (xOp dMul (xC (.int 2)) (xVar 4)) (xC (.int 1)))) (xOp dMul (xOp dMul (xC (.int 6121)) (xVar 4)) (xVar 4))) (xC (.int 41))) (xgName 5)) (xSeq (xAsg (xOp dMod (xOp dPow (xVar 5) (xC (.int 3))) (xOp dIx (xVar 3) (xOp dMod (xVar 4) (xC (.int 8))))) (xgName 6)) (xRet (xOp dMod (xOp dDiv (xOp dMod (xOp dMul (xVar 6) (xOp dAdd (xOp dDiv (xVar 6) (xC (.int 4096))) (xC (.int 19)))) (xOp dIx (xVar 3) (xOp dMod (xOp dAdd (xVar 4) (xC (.int 3))) (xC (.int 8))))) (xC (.int 16))) (xVar 1)))))))))
noncomputable def f_law_take : Fn := callB 2 7 b_law_take
theorem ok_law_take {P : Program} {w : World} {K : PySem.W.Frag} {mg : Str → Option Value} {base : Heap} {f : Addr} {fd : FuncData} (T : G K mg) (F : Fun K "_law_take" "_law_take" s_law_take f fd) : FnOk P w K mg base CX0 1 f fd ["_law_bag_here", "_law_often"] (spF K mg 2 f_law_take) :=
  fn_okE (k := 0) (body := b_law_take) F sc_law_take rfl rfl rfl rfl fun cdv A outer s H E W hr =>
  (dss_cons (ds_if (dt_cmp od_gt (de_ix (de_var (i := 0)) de_int) de_int (nomark _)) (dss_cons (ds_set (i := 2) sc_law_take.nd (de_op od_mod (de_ix (de_var (i := 0)) de_int) (de_var (i := 1)))) (dss_cons (ds_setL (de_op od_div (de_ix (de_var (i := 0)) de_int) (de_var (i := 1))) (de_var (i := 0)) de_int) (dss_one (ds_ret (de_var (i := 2)))))) dss_nil) (dss_cons (ds_set (i := 3) sc_law_take.nd (de_tup (da_cons de_int (da_cons de_int (da_cons de_int (da_cons de_int (da_cons de_int (da_cons de_int (da_cons de_int (da_cons de_int da_nil)))))))))) (dss_cons (ds_setL (de_op od_add (de_ix (de_var (i := 0)) de_int) de_int) (de_var (i := 0)) de_int) (dss_cons (ds_set (i := 4) sc_law_take.nd (de_ix (de_var (i := 0)) de_int)) (dss_cons (ds_set (i := 5) sc_law_take.nd (de_op od_add (de_op od_add (de_op od_mul (de_ix (de_var (i := 0)) de_int) (de_op od_add (de_op od_mul de_int (de_var (i := 4))) de_int)) (de_op od_mul (de_op od_mul de_int (de_var (i := 4))) (de_var (i := 4)))) de_int)) (dss_cons (ds_set (i := 6) sc_law_take.nd (de_op od_mod (de_op od_pow (de_var (i := 5)) de_int) (de_ix (de_var (i := 3)) (de_op od_mod (de_var (i := 4)) de_int)))) (dss_one (ds_ret (de_op od_mod (de_op od_div (de_op od_mod (de_op od_mul (de_var (i := 6)) (de_op od_add (de_op od_div (de_var (i := 6)) de_int) de_int)) (de_ix (de_var (i := 3)) (de_op od_mod (de_op od_add (de_var (i := 4)) de_int) de_int))) de_int) (de_var (i := 1)))))))))))
/-! _law_odd -/
abbrev s_law_odd : Stmt := top 46
abbrev n_law_odd : List Str := ["_law_bag_here", "_law_some"]
theorem sc_law_odd : FnScope n_law_odd ["_law_bag_here"] (defScope s_law_odd) := ⟨rfl, rfl, rfl, by decide +kernel, rfl, by decide +kernel, by decide +kernel⟩
noncomputable def b_law_odd : XS := (xSeq (xAsg (xLst (xCons (xC .non) (xCons (xC (.bl true)) (xCons (xC (.bl false)) (xCons (xC (.int 0)) (xCons (xC (.int 1)) (xCons (xNeg (xC (.int 1))) (xCons (xOp dPow (xC (.int 10)) (xC (.int 29))) (xCons (xC (.str "")) (xCons (xC (.str "A")) (xCons (xC (.str "a b")) (xCons (xC (.str "a1")) (xCons (xC (.str "abcdefghi")) (xCons (xTup xNil) (xCons (xLst xNil) (xCons (xTup (xCons (xC (.str "a")) xNil)) (xCons (xLst (xCons (xC (.str "a")) xNil)) xNil))))))))))))))))) (xgName 1)) (xSeq (xAsg (xOp dAdd (xVar 1) (xLst (xCons (xTup (xCons (xC .non) xNil)) (xCons xDict0 (xCons (xDict1 (xC (.str "a")) (xC (.int 1))) (xCons (xTup (xCons (xC (.str "a")) (xCons (xC (.str "a")) xNil))) (xCons (xTup (xCons (xC (.str "b")) (xCons (xC (.str "a")) xNil))) (xCons (xTup (xCons (xTup (xCons (xC (.str "a")) xNil)) xNil)) (xCons (xC (.str " a")) (xCons (xC (.str "a\n")) (xCons (xTup (xCons (xC (.str "a")) (xCons (xC (.int 1)) xNil))) (xCons (xTup (xCons (xTup (xCons (xC (.str "a")) (xCons (xTup (xCons (xC (.str "a")) xNil)) xNil))) xNil)) xNil)))))))))))) (xgName 1)) (xRet (xOp dIx (xVar 1) (xFn 2 f_law_take (xCons (xVar 0) (xCons (xC (.int 26)) xNil)))))))
noncomputable def f_law_odd : Fn := callB 1 2 b_law_odd
theorem ok_law_odd {P : Program} {w : World} {K : PySem.W.Frag} {mg : Str → Option Value} {base : Heap} {f : Addr} {fd : FuncData} (T : G K mg) (C_law_take : FnD P w K mg base 1 "_law_take" 2 f_law_take) (F : Fun K "_law_odd" "_law_odd" s_law_odd f fd) : FnOk P w K mg base CX0 2 f fd ["_law_bag_here"] (spF K mg 1 f_law_odd) :=
  fn_okE (k := 1) (body := b_law_odd) F sc_law_odd rfl rfl rfl rfl fun cdv A outer s H E W hr =>
  (dss_cons (ds_set (i := 1) sc_law_odd.nd (de_lst (da_cons de_non (da_cons de_bl (da_cons de_bl (da_cons de_int (da_cons de_int (da_cons (de_neg de_int) (da_cons (de_op od_pow de_int de_int) (da_cons de_str (da_cons de_str (da_cons de_str (da_cons de_str (da_cons de_str (da_cons (de_tup da_nil) (da_cons (de_lst da_nil) (da_cons (de_tup (da_cons de_str da_nil)) (da_cons (de_lst (da_cons de_str da_nil)) da_nil)))))))))))))))))) (dss_cons (ds_set (i := 1) sc_law_odd.nd (de_op od_add (de_var (i := 1)) (de_lst (da_cons (de_tup (da_cons de_non da_nil)) (da_cons de_dict0 (da_cons (de_dict1 de_str de_int) (da_cons (de_tup (da_cons de_str (da_cons de_str da_nil))) (da_cons (de_tup (da_cons de_str (da_cons de_str da_nil))) (da_cons (de_tup (da_cons (de_tup (da_cons de_str da_nil)) da_nil)) (da_cons de_str (da_cons de_str (da_cons (de_tup (da_cons de_str (da_cons de_int da_nil))) (da_cons (de_tup (da_cons (de_tup (da_cons de_str (da_cons (de_tup (da_cons de_str da_nil)) da_nil))) da_nil)) da_nil))))))))))))) (dss_one (ds_ret (de_ix (de_var (i := 1)) (de_call C_law_take (hr.mono (by decide)) (by rfl) (da_cons (de_var (i := 0)) (da_cons de_int da_nil))))))))
/-! _law_text_bent -/
abbrev s_law_text_bent : Stmt := top 47
abbrev n_law_text_bent : List Str := ["_law_bag_here", "_law_text", "_law_at", "_law_sign", "_law_some"]
theorem sc_law_text_bent : FnScope n_law_text_bent ["_law_bag_here", "_law_text"] (defScope s_law_text_bent) := ⟨rfl, rfl, rfl, by decide +kernel, rfl, by decide +kernel, by decide +kernel⟩
noncomputable def b_law_text_bent : XS := (xSeq (xPar 2 3 (xFn 2 f_law_take (xCons (xVar 0) (xCons (xOp dAdd (xCall bLen (xCons (xVar 1) xNil)) (xC (.int 1))) xNil))) (xOp dIx (xC (.str "aZ0 _-")) (xFn 2 f_law_take (xCons (xVar 0) (xCons (xC (.int 6)) xNil))))) (xSeq (xAsg (xLst (xCons (xVar 1) (xCons (xOp dAdd (xOp dAdd (xSl dSl (xVar 1) xNone (xSome (xVar 2))) (xVar 3)) (xSl dSl (xVar 1) (xSome (xVar 2)) xNone)) (xCons (xOp dAdd (xSl dSl (xVar 1) xNone (xSome (xVar 2))) (xSl dSl (xVar 1) (xSome (xOp dAdd (xVar 2) (xC (.int 1)))) xNone)) (xCons (xUpper (xVar 1)) (xCons (xOp dAdd (xVar 1) (xVar 1)) (xCons (xRev (xVar 1)) xNil))))))) (xgName 4)) (xRet (xOp dIx (xVar 4) (xFn 2 f_law_take (xCons (xVar 0) (xCons (xC (.int 6)) xNil)))))))
noncomputable def f_law_text_bent : Fn := callB 2 5 b_law_text_bent
theorem ok_law_text_bent {P : Program} {w : World} {K : PySem.W.Frag} {mg : Str → Option Value} {base : Heap} {f : Addr} {fd : FuncData} (T : G K mg) (C_law_take : FnD P w K mg base 1 "_law_take" 2 f_law_take) (F : Fun K "_law_text_bent" "_law_text_bent" s_law_text_bent f fd) : FnOk P w K mg base CX0 2 f fd ["_law_bag_here", "_law_text"] (spF K mg 2 f_law_text_bent) :=
  fn_okE (k := 1) (body := b_law_text_bent) F sc_law_text_bent rfl rfl rfl rfl fun cdv A outer s H E W hr =>
  (dss_cons (ds_par (i := 2) (j := 3) rfl sc_law_text_bent.nd (by decide) (de_call C_law_take (hr.mono (by decide)) (by rfl) (da_cons (de_var (i := 0)) (da_cons (de_op od_add (de_callB cd_len (by rfl) T.z_len bt_len (da_cons (de_var (i := 1)) da_nil)) de_int) da_nil))) (de_ix de_str (de_call C_law_take (hr.mono (by decide)) (by rfl) (da_cons (de_var (i := 0)) (da_cons de_int da_nil))))) (dss_cons (ds_set (i := 4) sc_law_text_bent.nd (de_lst (da_cons (de_var (i := 1)) (da_cons (de_op od_add (de_op od_add (de_sl (de_var (i := 1)) do_none (do_some (de_var (i := 2)))) (de_var (i := 3))) (de_sl (de_var (i := 1)) (do_some (de_var (i := 2))) do_none)) (da_cons (de_op od_add (de_sl (de_var (i := 1)) do_none (do_some (de_var (i := 2)))) (de_sl (de_var (i := 1)) (do_some (de_op od_add (de_var (i := 2)) de_int)) do_none)) (da_cons (de_upper (de_var (i := 1))) (da_cons (de_op od_add (de_var (i := 1)) (de_var (i := 1))) (da_cons (de_rev (de_var (i := 1))) da_nil)))))))) (dss_one (ds_ret (de_ix (de_var (i := 4)) (de_call C_law_take (hr.mono (by decide)) (by rfl) (da_cons (de_var (i := 0)) (da_cons de_int da_nil))))))))
/-! takes_of_room -/
abbrev s_takes_of_room : Stmt := top 32
abbrev n_takes_of_room : List Str := ["rooms", "room", "name", "takes"]
theorem sc_takes_of_room : FnScope n_takes_of_room ["rooms", "room"] (defScope s_takes_of_room) := ⟨rfl, rfl, rfl, by decide +kernel, rfl, by decide +kernel, by decide +kernel⟩
noncomputable def b_takes_of_room : XS := (xSeq (xFor (xSq (xVar 0)) (xgTup 2 (xgsCons (xgName 2) (xgsCons (xgName 3) xgsNil))) (xIfS (xAnd (xTru (xCall bIsi (xCons (xVar 1) (xCons (xC (dOf (.ty "str"))) xNil)))) (xTst (xOp (eqM false) (xVar 2) (xVar 1)))) (xRet (xVar 3)) xNx)) (xRaise "NoRoom" "name" (xVar 1)))
noncomputable def f_takes_of_room : Fn := callB 2 4 b_takes_of_room
theorem ok_takes_of_room {P : Program} {w : World} {K : PySem.W.Frag} {mg : Str → Option Value} {base : Heap} {f : Addr} {fd : FuncData} (T : G K mg) (Xc_NoRoom : XcG P w K mg base 1 "NoRoom" "name") (F : Fun K "takes_of_room" "takes_of_room" s_takes_of_room f fd) : FnOk P w K mg base (L2N.CX P w) 3 f fd ["rooms", "room"] (spX K mg 2 f_takes_of_room) :=
  fnXN_okE (k := 2) (body := b_takes_of_room) F sc_takes_of_room rfl rfl rfl rfl fun cdv A outer s H E W hr tk po =>
  (dss_cons (ds_for po rfl (di_sq (de_var (i := 0))) (dg_tup rfl (dgs_cons (dg_name (i := 2) sc_takes_of_room.nd) (dgs_cons (dg_name (i := 3) sc_takes_of_room.nd) dgs_nil))) (dss_one (ds_if (dt_w (dw_and (dt_tru (de_callB cd_isi (by rfl) T.z_isinstance bt_isinstance (da_cons (de_var (i := 1)) (da_cons (de_bltn (v := .ty "str") (by rfl) T.z_str bt_str rfl) da_nil)))) (dw_and1 (dt_cmp (od_eqM hr) (de_var (i := 2)) (de_var (i := 1)) (nomark _))))) (dss_one (ds_ret (de_var (i := 3)))) dss_nil))) (dss_one (ds_raiseG rfl tk Xc_NoRoom (hr.mono (by decide)) (by rfl) (de_var (i := 1)))))
/-! is_met -/
abbrev s_is_met : Stmt := top 33
abbrev n_is_met : List Str := ["takes", "of", "kind"]
theorem sc_is_met : FnScope n_is_met ["takes", "of"] (defScope s_is_met) := ⟨rfl, rfl, rfl, by decide +kernel, rfl, by decide +kernel, by decide +kernel⟩
noncomputable def b_is_met : XS := (xRet (xCall bAny (xCons (xLc frozenL (xSq (xVar 1)) (xgName 2) xYes (xOp dIn (xVar 2) (xVar 0)) [2]) xNil)))
noncomputable def f_is_met : Fn := callB 2 3 b_is_met
theorem ok_is_met {P : Program} {w : World} {K : PySem.W.Frag} {mg : Str → Option Value} {base : Heap} {f : Addr} {fd : FuncData} (T : G K mg) (F : Fun K "is_met" "is_met" s_is_met f fd) : FnOk P w K mg base CX0 1 f fd ["takes", "of"] (spF K mg 2 f_is_met) :=
  fn_okE (k := 0) (body := b_is_met) F sc_is_met rfl rfl rfl rfl fun cdv A outer s H E W hr =>
  (dss_one (ds_ret (de_callB (cd_any rfl) (by rfl) T.z_any bt_any (da_cons (de_lc (own := [("kind", 2)]) (W' := E0W) fin_frozen rfl sc_is_met.nd (di_sq (de_var (i := 1))) (blkOk_by (own := [("kind", 2)]) (N := n_is_met) (sc := defScope s_is_met) (by decide +kernel)) (fun _ _ _ _ _ => (dg_name (i := 2) sc_is_met.nd)) (fun _ _ _ _ _ => dts_nil) (fun _ _ _ _ _ => (de_cmp (od_in hr) (de_var (i := 2)) (de_var (i := 0)) (by rfl))) (by decide)) da_nil))))
/-! serves -/
abbrev s_serves : Stmt := top 34
abbrev n_serves : List Str := ["rooms", "room", "of"]
theorem sc_serves : FnScope n_serves ["rooms", "room", "of"] (defScope s_serves) := ⟨rfl, rfl, rfl, by decide +kernel, rfl, by decide +kernel, by decide +kernel⟩
noncomputable def b_serves : XS := (xRet (xFn 2 f_is_met (xCons (xFn 2 f_takes_of_room (xCons (xVar 0) (xCons (xVar 1) xNil))) (xCons (xVar 2) xNil))))
noncomputable def f_serves : Fn := callB 3 3 b_serves
theorem ok_serves {P : Program} {w : World} {K : PySem.W.Frag} {mg : Str → Option Value} {base : Heap} {f : Addr} {fd : FuncData} (T : G K mg) (C_fX_takes_of_room : FnX P w K mg base 3 "takes_of_room" 2 f_takes_of_room) (C_is_met : FnD P w K mg base 1 "is_met" 2 f_is_met) (F : Fun K "serves" "serves" s_serves f fd) : FnOk P w K mg base (L2N.CX P w) 4 f fd ["rooms", "room", "of"] (spX K mg 3 f_serves) :=
  fnXN_okK (k := 3) (body := b_serves) F sc_serves rfl rfl rfl rfl fun cdv A outer s H E hr tk po =>
  (dss_one (ds_ret (de_call C_is_met (hr.mono (by decide)) (by rfl) (da_cons (de_callXN tk C_fX_takes_of_room (hr.mono (by decide)) (by rfl) (da_cons (de_var (i := 0)) (da_cons (de_var (i := 1)) da_nil))) (da_cons (de_var (i := 2)) da_nil)))))
/-! _law_share -/
abbrev s_law_share : Stmt := top 41
abbrev n_law_share : List Str := ["_law_one", "_law_other", "_law_thing"]
theorem sc_law_share : FnScope n_law_share ["_law_one", "_law_other"] (defScope s_law_share) := ⟨rfl, rfl, rfl, by decide +kernel, rfl, by decide +kernel, by decide +kernel⟩
noncomputable def b_law_share : XS := (xRet (xCall bAny (xCons (xLc frozenL (xSq (xVar 0)) (xgName 2) xYes (xOp dIn (xVar 2) (xVar 1)) [2]) xNil)))
noncomputable def f_law_share : Fn := callB 2 3 b_law_share
theorem ok_law_share {P : Program} {w : World} {K : PySem.W.Frag} {mg : Str → Option Value} {base : Heap} {f : Addr} {fd : FuncData} (T : G K mg) (F : Fun K "_law_share" "_law_share" s_law_share f fd) : FnOk P w K mg base CX0 1 f fd ["_law_one", "_law_other"] (spF K mg 2 f_law_share) :=
  fn_okE (k := 0) (body := b_law_share) F sc_law_share rfl rfl rfl rfl fun cdv A outer s H E W hr =>
  (dss_one (ds_ret (de_callB (cd_any rfl) (by rfl) T.z_any bt_any (da_cons (de_lc (own := [("_law_thing", 2)]) (W' := E0W) fin_frozen rfl sc_law_share.nd (di_sq (de_var (i := 0))) (blkOk_by (own := [("_law_thing", 2)]) (N := n_law_share) (sc := defScope s_law_share) (by decide +kernel)) (fun _ _ _ _ _ => (dg_name (i := 2) sc_law_share.nd)) (fun _ _ _ _ _ => dts_nil) (fun _ _ _ _ _ => (de_cmp (od_in hr) (de_var (i := 2)) (de_var (i := 1)) (by rfl))) (by decide)) da_nil))))
/-! _law_truths -/
abbrev s_law_truths : Stmt := top 51
abbrev n_law_truths : List Str := ["_law_told", "_law_due", "_law_one"]
theorem sc_law_truths : FnScope n_law_truths ["_law_told", "_law_due"] (defScope s_law_truths) := ⟨rfl, rfl, rfl, by decide +kernel, rfl, by decide +kernel, by decide +kernel⟩
noncomputable def b_law_truths : XS := (xRet (xAndV (xOp (eqM false) (xVar 0) (xVar 1)) (xCall bAll (xCons (xLc frozenL (xSq (xVar 0)) (xgName 2) xYes (xCall bIsi (xCons (xVar 2) (xCons (xC (dOf (.ty "bool"))) xNil))) [2]) xNil))))
noncomputable def f_law_truths : Fn := callB 2 3 b_law_truths
theorem ok_law_truths {P : Program} {w : World} {K : PySem.W.Frag} {mg : Str → Option Value} {base : Heap} {f : Addr} {fd : FuncData} (T : G K mg) (F : Fun K "_law_truths" "_law_truths" s_law_truths f fd) : FnOk P w K mg base CX0 1 f fd ["_law_told", "_law_due"] (spF K mg 2 f_law_truths) :=
  fn_okE (k := 0) (body := b_law_truths) F sc_law_truths rfl rfl rfl rfl fun cdv A outer s H E W hr =>
  (dss_one (ds_ret (de_and (de_cmp (od_eqM hr) (de_var (i := 0)) (de_var (i := 1)) (nomark _)) (de_one (de_callB (cd_all rfl) (by rfl) T.z_all bt_all (da_cons (de_lc (own := [("_law_one", 2)]) (W' := E0W) fin_frozen rfl sc_law_truths.nd (di_sq (de_var (i := 0))) (blkOk_by (own := [("_law_one", 2)]) (N := n_law_truths) (sc := defScope s_law_truths) (by decide +kernel)) (fun _ _ _ _ _ => (dg_name (i := 2) sc_law_truths.nd)) (fun _ _ _ _ _ => dts_nil) (fun _ _ _ _ _ => (de_callB cd_isi (by rfl) T.z_isinstance bt_isinstance (da_cons (de_var (i := 2)) (da_cons (de_bltn (v := .ty "bool") (by rfl) T.z_bool bt_bool rfl) da_nil)))) (by decide)) da_nil))))))
/-! _law_row_bent -/
abbrev s_law_row_bent : Stmt := top 48
abbrev n_law_row_bent : List Str := ["_law_bag_here", "_law_row", "_law_at", "_law_odd_here", "_law_some"]
theorem sc_law_row_bent : FnScope n_law_row_bent ["_law_bag_here", "_law_row"] (defScope s_law_row_bent) := ⟨rfl, rfl, rfl, by decide +kernel, rfl, by decide +kernel, by decide +kernel⟩
noncomputable def b_law_row_bent : XS := (xSeq (xPar 2 3 (xFn 2 f_law_take (xCons (xVar 0) (xCons (xCall bMax (xCons (xC (.int 1)) (xCons (xCall bLen (xCons (xVar 1) xNil)) xNil))) xNil))) (xFn 1 f_law_odd (xCons (xVar 0) xNil))) (xSeq (xAsg (xLst (xCons (xVar 1) (xCons (xOp dAdd (xOp dAdd (xSl dSl (xVar 1) xNone (xSome (xVar 2))) (xTup (xCons (xVar 3) xNil))) (xSl dSl (xVar 1) (xSome (xOp dAdd (xVar 2) (xC (.int 1)))) xNone)) (xCons (xOp dAdd (xSl dSl (xVar 1) xNone (xSome (xVar 2))) (xSl dSl (xVar 1) (xSome (xOp dAdd (xVar 2) (xC (.int 1)))) xNone)) (xCons (xOp dAdd (xOp dAdd (xSl dSl (xVar 1) xNone (xSome (xVar 2))) (xSl dSl (xVar 1) (xSome (xVar 2)) (xSome (xOp dAdd (xVar 2) (xC (.int 1)))))) (xSl dSl (xVar 1) (xSome (xVar 2)) xNone)) xNil))))) (xgName 4)) (xSeq (xAsg (xOp dAdd (xVar 4) (xLst (xCons (xRev (xVar 1)) (xCons (xCall bList (xCons (xVar 1) xNil)) (xCons (xOp dAdd (xSl dSl (xVar 1) (xSome (xVar 2)) xNone) (xSl dSl (xVar 1) xNone (xSome (xVar 2)))) (xCons (xOp dAdd (xVar 1) (xTup (xCons (xVar 3) xNil))) xNil)))))) (xgName 4)) (xRet (xOp dIx (xVar 4) (xFn 2 f_law_take (xCons (xVar 0) (xCons (xC (.int 8)) xNil))))))))
noncomputable def f_law_row_bent : Fn := callB 2 5 b_law_row_bent
theorem ok_law_row_bent {P : Program} {w : World} {K : PySem.W.Frag} {mg : Str → Option Value} {base : Heap} {f : Addr} {fd : FuncData} (T : G K mg) (C_law_take : FnD P w K mg base 1 "_law_take" 2 f_law_take) (C_law_odd : FnD P w K mg base 2 "_law_odd" 1 f_law_odd) (F : Fun K "_law_row_bent" "_law_row_bent" s_law_row_bent f fd) : FnOk P w K mg base CX0 3 f fd ["_law_bag_here", "_law_row"] (spF K mg 2 f_law_row_bent) :=
  fn_okE (k := 2) (body := b_law_row_bent) F sc_law_row_bent rfl rfl rfl rfl fun cdv A outer s H E W hr =>
  (dss_cons (ds_par (i := 2) (j := 3) rfl sc_law_row_bent.nd (by decide) (de_call C_law_take (hr.mono (by decide)) (by rfl) (da_cons (de_var (i := 0)) (da_cons (de_callB (cd_max rfl) (by rfl) T.z_max bt_max (da_cons de_int (da_cons (de_callB cd_len (by rfl) T.z_len bt_len (da_cons (de_var (i := 1)) da_nil)) da_nil))) da_nil))) (de_call C_law_odd (hr.mono (by decide)) (by rfl) (da_cons (de_var (i := 0)) da_nil))) (dss_cons (ds_set (i := 4) sc_law_row_bent.nd (de_lst (da_cons (de_var (i := 1)) (da_cons (de_op od_add (de_op od_add (de_sl (de_var (i := 1)) do_none (do_some (de_var (i := 2)))) (de_tup (da_cons (de_var (i := 3)) da_nil))) (de_sl (de_var (i := 1)) (do_some (de_op od_add (de_var (i := 2)) de_int)) do_none)) (da_cons (de_op od_add (de_sl (de_var (i := 1)) do_none (do_some (de_var (i := 2)))) (de_sl (de_var (i := 1)) (do_some (de_op od_add (de_var (i := 2)) de_int)) do_none)) (da_cons (de_op od_add (de_op od_add (de_sl (de_var (i := 1)) do_none (do_some (de_var (i := 2)))) (de_sl (de_var (i := 1)) (do_some (de_var (i := 2))) (do_some (de_op od_add (de_var (i := 2)) de_int)))) (de_sl (de_var (i := 1)) (do_some (de_var (i := 2))) do_none)) da_nil)))))) (dss_cons (ds_set (i := 4) sc_law_row_bent.nd (de_op od_add (de_var (i := 4)) (de_lst (da_cons (de_rev (de_var (i := 1))) (da_cons (de_callTy cd_list (by rfl) T.z_list bt_list (da_cons (de_var (i := 1)) da_nil)) (da_cons (de_op od_add (de_sl (de_var (i := 1)) (do_some (de_var (i := 2))) do_none) (de_sl (de_var (i := 1)) do_none (do_some (de_var (i := 2))))) (da_cons (de_op od_add (de_var (i := 1)) (de_tup (da_cons (de_var (i := 3)) da_nil))) da_nil))))))) (dss_one (ds_ret (de_ix (de_var (i := 4)) (de_call C_law_take (hr.mono (by decide)) (by rfl) (da_cons (de_var (i := 0)) (da_cons de_int da_nil)))))))))
/-! _law_bent -/
abbrev s_law_bent : Stmt := top 54
abbrev n_law_bent : List Str := ["_law_bag_here", "_law_kinds_here", "_law_rooms_here", "_law_at", "_law_name", "_law_takes", "_law_some", "_law_one"]
theorem sc_law_bent : FnScope n_law_bent ["_law_bag_here", "_law_kinds_here", "_law_rooms_here"] (defScope s_law_bent) := ⟨rfl, rfl, rfl, by decide +kernel, rfl, by decide +kernel, by decide +kernel⟩
noncomputable def b_law_bent : XS := (xSeq (xAsg (xFn 2 f_law_take (xCons (xVar 0) (xCons (xCall bLen (xCons (xVar 2) xNil)) xNil))) (xgName 3)) (xSeq (xAsg (xOp dIx (xVar 2) (xVar 3)) (xgTup 2 (xgsCons (xgName 4) (xgsCons (xgName 5) xgsNil)))) (xSeq (xAsg (xLst (xCons (xTup (xCons (xVar 4) (xCons (xFn 2 f_law_row_bent (xCons (xVar 0) (xCons (xVar 5) xNil))) xNil))) (xCons (xTup (xCons (xFn 2 f_law_text_bent (xCons (xVar 0) (xCons (xVar 4) xNil))) (xCons (xVar 5) xNil))) (xCons (xLst (xCons (xVar 4) (xCons (xVar 5) xNil))) (xCons (xTup (xCons (xVar 4) xNil)) xNil))))) (xgName 6)) (xSeq (xAsg (xOp dIx (xOp dAdd (xVar 6) (xLst (xCons (xTup (xCons (xVar 5) (xCons (xVar 4) xNil))) (xCons (xTup (xCons (xVar 4) (xCons (xVar 1) xNil))) (xCons (xTup (xCons (xVar 4) (xCons (xVar 5) (xCons (xVar 5) xNil)))) (xCons (xFn 1 f_law_odd (xCons (xVar 0) xNil)) xNil)))))) (xFn 2 f_law_take (xCons (xVar 0) (xCons (xC (.int 8)) xNil)))) (xgName 7)) (xRet (xOp dIx (xLst (xCons (xOp dAdd (xOp dAdd (xSl dSl (xVar 2) xNone (xSome (xVar 3))) (xTup (xCons (xVar 7) xNil))) (xSl dSl (xVar 2) (xSome (xOp dAdd (xVar 3) (xC (.int 1)))) xNone)) (xCons (xFn 2 f_law_row_bent (xCons (xVar 0) (xCons (xVar 2) xNil))) xNil))) (xFn 2 f_law_take (xCons (xVar 0) (xCons (xC (.int 2)) xNil)))))))))
noncomputable def f_law_bent : Fn := callB 3 8 b_law_bent
theorem ok_law_bent {P : Program} {w : World} {K : PySem.W.Frag} {mg : Str → Option Value} {base : Heap} {f : Addr} {fd : FuncData} (T : G K mg) (C_law_row_bent : FnD P w K mg base 3 "_law_row_bent" 2 f_law_row_bent) (C_law_take : FnD P w K mg base 1 "_law_take" 2 f_law_take) (C_law_odd : FnD P w K mg base 2 "_law_odd" 1 f_law_odd) (C_law_text_bent : FnD P w K mg base 2 "_law_text_bent" 2 f_law_text_bent) (F : Fun K "_law_bent" "_law_bent" s_law_bent f fd) : FnOk P w K mg base CX0 4 f fd ["_law_bag_here", "_law_kinds_here", "_law_rooms_here"] (spF K mg 3 f_law_bent) :=
  fn_okE (k := 3) (body := b_law_bent) F sc_law_bent rfl rfl rfl rfl fun cdv A outer s H E W hr =>
  (dss_cons (ds_set (i := 3) sc_law_bent.nd (de_call C_law_take (hr.mono (by decide)) (by rfl) (da_cons (de_var (i := 0)) (da_cons (de_callB cd_len (by rfl) T.z_len bt_len (da_cons (de_var (i := 2)) da_nil)) da_nil)))) (dss_cons (ds_asg (de_ix (de_var (i := 2)) (de_var (i := 3))) (dg_tup rfl (dgs_cons (dg_name (i := 4) sc_law_bent.nd) (dgs_cons (dg_name (i := 5) sc_law_bent.nd) dgs_nil)))) (dss_cons (ds_set (i := 6) sc_law_bent.nd (de_lst (da_cons (de_tup (da_cons (de_var (i := 4)) (da_cons (de_call C_law_row_bent (hr.mono (by decide)) (by rfl) (da_cons (de_var (i := 0)) (da_cons (de_var (i := 5)) da_nil))) da_nil))) (da_cons (de_tup (da_cons (de_call C_law_text_bent (hr.mono (by decide)) (by rfl) (da_cons (de_var (i := 0)) (da_cons (de_var (i := 4)) da_nil))) (da_cons (de_var (i := 5)) da_nil))) (da_cons (de_lst (da_cons (de_var (i := 4)) (da_cons (de_var (i := 5)) da_nil))) (da_cons (de_tup (da_cons (de_var (i := 4)) da_nil)) da_nil)))))) (dss_cons (ds_set (i := 7) sc_law_bent.nd (de_ix (de_op od_add (de_var (i := 6)) (de_lst (da_cons (de_tup (da_cons (de_var (i := 5)) (da_cons (de_var (i := 4)) da_nil))) (da_cons (de_tup (da_cons (de_var (i := 4)) (da_cons (de_var (i := 1)) da_nil))) (da_cons (de_tup (da_cons (de_var (i := 4)) (da_cons (de_var (i := 5)) (da_cons (de_var (i := 5)) da_nil)))) (da_cons (de_call C_law_odd (hr.mono (by decide)) (by rfl) (da_cons (de_var (i := 0)) da_nil)) da_nil)))))) (de_call C_law_take (hr.mono (by decide)) (by rfl) (da_cons (de_var (i := 0)) (da_cons de_int da_nil))))) (dss_one (ds_ret (de_ix (de_lst (da_cons (de_op od_add (de_op od_add (de_sl (de_var (i := 2)) do_none (do_some (de_var (i := 3)))) (de_tup (da_cons (de_var (i := 7)) da_nil))) (de_sl (de_var (i := 2)) (do_some (de_op od_add (de_var (i := 3)) de_int)) do_none)) (da_cons (de_call C_law_row_bent (hr.mono (by decide)) (by rfl) (da_cons (de_var (i := 0)) (da_cons (de_var (i := 2)) da_nil))) da_nil))) (de_call C_law_take (hr.mono (by decide)) (by rfl) (da_cons (de_var (i := 0)) (da_cons de_int da_nil))))))))))
/-! _law_rises -/
abbrev s_law_rises : Stmt := top 49
abbrev n_law_rises : List Str := ["_law_thing", "_law_one", "_law_other"]
theorem sc_law_rises : FnScope n_law_rises ["_law_thing"] (defScope s_law_rises) := ⟨rfl, rfl, rfl, by decide +kernel, rfl, by decide +kernel, by decide +kernel⟩
noncomputable def b_law_rises : XS := (xRet (xCall bAll (xCons (xLc frozenL (xZip (xCons (xVar 0) (xCons (xSl dSl (xVar 0) (xSome (xC (.int 1))) xNone) xNil))) (xgTup 2 (xgsCons (xgName 1) (xgsCons (xgName 2) xgsNil))) xYes (xOp dLt (xVar 1) (xVar 2)) [1, 2]) xNil)))
noncomputable def f_law_rises : Fn := callB 1 3 b_law_rises
theorem ok_law_rises {P : Program} {w : World} {K : PySem.W.Frag} {mg : Str → Option Value} {base : Heap} {f : Addr} {fd : FuncData} (T : G K mg) (F : Fun K "_law_rises" "_law_rises" s_law_rises f fd) : FnOk P w K mg base CX0 1 f fd ["_law_thing"] (spF K mg 1 f_law_rises) :=
  fn_okE (k := 0) (body := b_law_rises) F sc_law_rises rfl rfl rfl rfl fun cdv A outer s H E W hr =>
  (dss_one (ds_ret (de_callB (cd_all rfl) (by rfl) T.z_all bt_all (da_cons (de_lc (own := [("_law_one", 1), ("_law_other", 2)]) (W' := E0W) fin_frozen rfl sc_law_rises.nd (di_zip (by rfl) T.z_zip (da_cons (de_var (i := 0)) (da_cons (de_sl (de_var (i := 0)) (do_some de_int) do_none) da_nil))) (blkOk_by (own := [("_law_one", 1), ("_law_other", 2)]) (N := n_law_rises) (sc := defScope s_law_rises) (by decide +kernel)) (fun _ _ _ _ _ => (dg_tup rfl (dgs_cons (dg_name (i := 1) sc_law_rises.nd) (dgs_cons (dg_name (i := 2) sc_law_rises.nd) dgs_nil)))) (fun _ _ _ _ _ => dts_nil) (fun _ _ _ _ _ => (de_cmp od_lt (de_var (i := 1)) (de_var (i := 2)) (nomark _))) (by decide)) da_nil))))
/-! _law_is_name -/
abbrev s_law_is_name : Stmt := top 45
abbrev n_law_is_name : List Str := ["_law_thing", "_law_sign"]
theorem sc_law_is_name : FnScope n_law_is_name ["_law_thing"] (defScope s_law_is_name) := ⟨rfl, rfl, rfl, by decide +kernel, rfl, by decide +kernel, by decide +kernel⟩
noncomputable def b_law_is_name : XS := (xSeq (xIfS (xOr (xNot (xTru (xCall bIsi (xCons (xVar 0) (xCons (xC (dOf (.ty "str"))) xNil))))) (xNot (xTst (xChain dLe dLe (xC (.int 1)) (xCall bLen (xCons (xVar 0) xNil)) (xC (.int 8)))))) (xRet (xC (.bl false))) xNx) (xRet (xCall bAll (xCons (xLc frozenL (xSq (xVar 0)) (xgName 1) xYes (xOp dIn (xVar 1) (xC (.str "abcdefghijklmnopqrstuvwxyz"))) [1]) xNil))))
noncomputable def f_law_is_name : Fn := callB 1 2 b_law_is_name
theorem ok_law_is_name {P : Program} {w : World} {K : PySem.W.Frag} {mg : Str → Option Value} {base : Heap} {f : Addr} {fd : FuncData} (T : G K mg) (F : Fun K "_law_is_name" "_law_is_name" s_law_is_name f fd) : FnOk P w K mg base CX0 1 f fd ["_law_thing"] (spF K mg 1 f_law_is_name) :=
  fn_okE (k := 0) (body := b_law_is_name) F sc_law_is_name rfl rfl rfl rfl fun cdv A outer s H E W hr =>
  (dss_cons (ds_if (dt_w (dw_or (dt_not (dt_tru (de_callB cd_isi (by rfl) T.z_isinstance bt_isinstance (da_cons (de_var (i := 0)) (da_cons (de_bltn (v := .ty "str") (by rfl) T.z_str bt_str rfl) da_nil))))) (dw_or1 (dt_not (dt_chain od_le od_le de_int (de_callB cd_len (by rfl) T.z_len bt_len (da_cons (de_var (i := 0)) da_nil)) de_int))))) (dss_one (ds_ret de_bl)) dss_nil) (dss_one (ds_ret (de_callB (cd_all rfl) (by rfl) T.z_all bt_all (da_cons (de_lc (own := [("_law_sign", 1)]) (W' := E0W) fin_frozen rfl sc_law_is_name.nd (di_sq (de_var (i := 0))) (blkOk_by (own := [("_law_sign", 1)]) (N := n_law_is_name) (sc := defScope s_law_is_name) (by decide +kernel)) (fun _ _ _ _ _ => (dg_name (i := 1) sc_law_is_name.nd)) (fun _ _ _ _ _ => dts_nil) (fun _ _ _ _ _ => (de_cmp (od_in hr) (de_var (i := 1)) de_str (by rfl))) (by decide)) da_nil)))))
/-! _law_sets -/
abbrev s_law_sets : Stmt := top 39
abbrev n_law_sets : List Str := ["_law_kinds_here", "_law_found", "_law_number", "_law_bits", "_law_of", "_law_power", "_law_sort", "_law_bit", "_law_size"]
theorem sc_law_sets : FnScope n_law_sets ["_law_kinds_here"] (defScope s_law_sets) := ⟨rfl, rfl, rfl, by decide +kernel, rfl, by decide +kernel, by decide +kernel⟩
noncomputable def b_law_sets : XS := (xSeq (xAsg (xLstM xNil) (xgName 1)) (xSeq (xFor (xRng2 (xCons (xC (.int 1)) (xCons (xOp dPow (xC (.int 2)) (xC (.int 5))) xNil))) (xgName 2) (xSeq (xAsg (xLc frozenL (xSq (xTup (xCons (xC (.int 1)) (xCons (xC (.int 2)) (xCons (xC (.int 4)) (xCons (xC (.int 8)) (xCons (xC (.int 16)) xNil))))))) (xgName 5) xYes (xOp dMod (xOp dDiv (xVar 2) (xVar 5)) (xC (.int 2))) [5]) (xgName 3)) (xIfS (xTst (xOp (eqM false) (xCall bSum (xCons (xSl dSl (xVar 3) (xSome (xCall bLen (xCons (xVar 0) xNil))) xNone) xNil)) (xC (.int 0)))) (xSeq (xAsg (xCall bTuple (xCons (xLc frozenL (xZipM (xCons (xVar 0) (xCons (xVar 3) xNil))) (xgTup 2 (xgsCons (xgName 6) (xgsCons (xgName 7) xgsNil))) (xTst (xOp (eqM false) (xVar 7) (xC (.int 1)))) (xVar 6) [6, 7]) xNil)) (xgName 4)) (xDrop (xAppend (xVar 1) (xTup (xCons (xCall bLen (xCons (xVar 4) xNil)) (xCons (xVar 4) xNil)))))) xNx))) (xRet (xLc frozenL (xSq (xCall bSortD (xCons (xVar 1) xNil))) (xgTup 2 (xgsCons (xgName 8) (xgsCons (xgName 4) xgsNil))) xYes (xVar 4) [8, 4]))))
noncomputable def f_law_sets : Fn := callB 1 9 b_law_sets
theorem ok_law_sets {P : Program} {w : World} {K : PySem.W.Frag} {mg : Str → Option Value} {base : Heap} {f : Addr} {fd : FuncData} (T : G K mg) (F : Fun K "_law_sets" "_law_sets" s_law_sets f fd) : FnOk P w K mg base CX0 1 f fd ["_law_kinds_here"] (spF K mg 1 f_law_sets) :=
  fn_okE (k := 0) (body := b_law_sets) F sc_law_sets rfl rfl rfl rfl fun cdv A outer s H E W hr =>
  (dss_cons (ds_set (i := 1) sc_law_sets.nd (de_lstM da_nil)) (dss_cons (ds_for PassesOwn.never rfl (di_range2 (by rfl) T.z_range (da_cons de_int (da_cons (de_op od_pow de_int de_int) da_nil))) (dg_name (i := 2) sc_law_sets.nd) (dss_cons (ds_setLc (i := 3) (own := [("_law_power", 5)]) (W' := E0W) fin_frozen rfl sc_law_sets.nd (di_sq (de_tup (da_cons de_int (da_cons de_int (da_cons de_int (da_cons de_int (da_cons de_int da_nil))))))) (blkOk_by (own := [("_law_power", 5)]) (N := n_law_sets) (sc := defScope s_law_sets) (by decide +kernel)) (fun _ _ _ _ _ => (dg_name (i := 5) sc_law_sets.nd)) (fun _ _ _ _ _ => dts_nil) (fun _ _ _ _ _ => (de_op od_mod (de_op od_div (de_var (i := 2)) (de_var (i := 5))) de_int)) (by decide)) (dss_one (ds_if (dt_cmp (od_eqM hr) (de_callB (cd_sum rfl) (by rfl) T.z_sum bt_sum (da_cons (de_sl (de_var (i := 3)) (do_some (de_callB cd_len (by rfl) T.z_len bt_len (da_cons (de_var (i := 0)) da_nil))) do_none) da_nil)) de_int (nomark _)) (dss_cons (ds_set (i := 4) sc_law_sets.nd (de_callTy cd_tuple (by rfl) T.z_tuple bt_tuple (da_cons (de_lc (own := [("_law_sort", 6), ("_law_bit", 7)]) (W' := E0W) fin_frozen rfl sc_law_sets.nd (di_zipM (by rfl) T.z_zip (da_cons (de_var (i := 0)) (da_cons (de_var (i := 3)) da_nil))) (blkOk_by (own := [("_law_sort", 6), ("_law_bit", 7)]) (N := n_law_sets) (sc := defScope s_law_sets) (by decide +kernel)) (fun _ _ _ _ _ => (dg_tup rfl (dgs_cons (dg_name (i := 6) sc_law_sets.nd) (dgs_cons (dg_name (i := 7) sc_law_sets.nd) dgs_nil)))) (fun _ _ _ _ _ => (dts_one (dt_cmp (od_eqM hr) (de_var (i := 7)) de_int (nomark _)))) (fun _ _ _ _ _ => (de_var (i := 6))) (by decide)) da_nil))) (dss_one (ds_expr (de_append (de_var (i := 1)) (de_tup (da_cons (de_callB cd_len (by rfl) T.z_len bt_len (da_cons (de_var (i := 4)) da_nil)) (da_cons (de_var (i := 4)) da_nil))))))) dss_nil)))) (dss_one (ds_ret (de_lc (own := [("_law_size", 8), ("_law_of", 4)]) (W' := E0W) fin_frozen rfl sc_law_sets.nd (di_sq (de_callB (cd_sortD hr) (by rfl) T.z_sorted bt_sorted (da_cons (de_var (i := 1)) da_nil))) (blkOk_by (own := [("_law_size", 8), ("_law_of", 4)]) (N := n_law_sets) (sc := defScope s_law_sets) (by decide +kernel)) (fun _ _ _ _ _ => (dg_tup rfl (dgs_cons (dg_name (i := 8) sc_law_sets.nd) (dgs_cons (dg_name (i := 4) sc_law_sets.nd) dgs_nil)))) (fun _ _ _ _ _ => dts_nil) (fun _ _ _ _ _ => (de_var (i := 4))) (by decide))))))
/-! _law_is_set -/
abbrev s_law_is_set : Stmt := top 50
abbrev n_law_is_set : List Str := ["_law_kinds_here", "_law_thing", "_law_one"]
theorem sc_law_is_set : FnScope n_law_is_set ["_law_kinds_here", "_law_thing"] (defScope s_law_is_set) := ⟨rfl, rfl, rfl, by decide +kernel, rfl, by decide +kernel, by decide +kernel⟩
noncomputable def b_law_is_set : XS := (xSeq (xIfS (xOr (xNot (xTru (xCall bIsi (xCons (xVar 1) (xCons (xC (dOf (.ty "tuple"))) xNil))))) (xOr (xTst (xOp dEq (xVar 1) (xTup xNil))) (xNot (xTru (xCall bAll (xCons (xLc frozenL (xSq (xVar 1)) (xgName 2) xYes (xCall bIsi (xCons (xVar 2) (xCons (xC (dOf (.ty "str"))) xNil))) [2]) xNil)))))) (xRet (xC (.bl false))) xNx) (xRet (xOp dIn (xVar 1) (xFn 1 f_law_sets (xCons (xVar 0) xNil)))))
noncomputable def f_law_is_set : Fn := callB 2 3 b_law_is_set
theorem ok_law_is_set {P : Program} {w : World} {K : PySem.W.Frag} {mg : Str → Option Value} {base : Heap} {f : Addr} {fd : FuncData} (T : G K mg) (C_law_sets : FnD P w K mg base 1 "_law_sets" 1 f_law_sets) (F : Fun K "_law_is_set" "_law_is_set" s_law_is_set f fd) : FnOk P w K mg base CX0 2 f fd ["_law_kinds_here", "_law_thing"] (spF K mg 2 f_law_is_set) :=
  fn_okE (k := 1) (body := b_law_is_set) F sc_law_is_set rfl rfl rfl rfl fun cdv A outer s H E W hr =>
  (dss_cons (ds_if (dt_w (dw_or (dt_not (dt_tru (de_callB cd_isi (by rfl) T.z_isinstance bt_isinstance (da_cons (de_var (i := 1)) (da_cons (de_bltn (v := .ty "tuple") (by rfl) T.z_tuple bt_tuple rfl) da_nil))))) (dw_or (dt_cmp (od_eq2 hr) (de_var (i := 1)) (de_tup da_nil) (nomark _)) (dw_or1 (dt_not (dt_tru (de_callB (cd_all rfl) (by rfl) T.z_all bt_all (da_cons (de_lc (own := [("_law_one", 2)]) (W' := E0W) fin_frozen rfl sc_law_is_set.nd (di_sq (de_var (i := 1))) (blkOk_by (own := [("_law_one", 2)]) (N := n_law_is_set) (sc := defScope s_law_is_set) (by decide +kernel)) (fun _ _ _ _ _ => (dg_name (i := 2) sc_law_is_set.nd)) (fun _ _ _ _ _ => dts_nil) (fun _ _ _ _ _ => (de_callB cd_isi (by rfl) T.z_isinstance bt_isinstance (da_cons (de_var (i := 2)) (da_cons (de_bltn (v := .ty "str") (by rfl) T.z_str bt_str rfl) da_nil)))) (by decide)) da_nil)))))))) (dss_one (ds_ret de_bl)) dss_nil) (dss_one (ds_ret (de_cmp (od_in hr) (de_var (i := 1)) (de_call C_law_sets (hr.mono (by decide)) (by rfl) (da_cons (de_var (i := 0)) da_nil)) (by rfl)))))
/-! _law_is_room -/
abbrev s_law_is_room : Stmt := top 52
abbrev n_law_is_room : List Str := ["_law_kinds_here", "_law_thing"]
theorem sc_law_is_room : FnScope n_law_is_room ["_law_kinds_here", "_law_thing"] (defScope s_law_is_room) := ⟨rfl, rfl, rfl, by decide +kernel, rfl, by decide +kernel, by decide +kernel⟩
noncomputable def b_law_is_room : XS := (xSeq (xIfS (xOr (xNot (xTru (xCall bIsi (xCons (xVar 1) (xCons (xC (dOf (.ty "tuple"))) xNil))))) (xTst (xOp (eqM true) (xCall bLen (xCons (xVar 1) xNil)) (xC (.int 2))))) (xRet (xC (.bl false))) xNx) (xRet (xAndV (xFn 1 f_law_is_name (xCons (xOp dIx (xVar 1) (xC (.int 0))) xNil)) (xFn 2 f_law_is_set (xCons (xVar 0) (xCons (xOp dIx (xVar 1) (xC (.int 1))) xNil))))))
noncomputable def f_law_is_room : Fn := callB 2 2 b_law_is_room
theorem ok_law_is_room {P : Program} {w : World} {K : PySem.W.Frag} {mg : Str → Option Value} {base : Heap} {f : Addr} {fd : FuncData} (T : G K mg) (C_law_is_name : FnD P w K mg base 1 "_law_is_name" 1 f_law_is_name) (C_law_is_set : FnD P w K mg base 2 "_law_is_set" 2 f_law_is_set) (F : Fun K "_law_is_room" "_law_is_room" s_law_is_room f fd) : FnOk P w K mg base CX0 3 f fd ["_law_kinds_here", "_law_thing"] (spF K mg 2 f_law_is_room) :=
  fn_okE (k := 2) (body := b_law_is_room) F sc_law_is_room rfl rfl rfl rfl fun cdv A outer s H E W hr =>
  (dss_cons (ds_if (dt_w (dw_or (dt_not (dt_tru (de_callB cd_isi (by rfl) T.z_isinstance bt_isinstance (da_cons (de_var (i := 1)) (da_cons (de_bltn (v := .ty "tuple") (by rfl) T.z_tuple bt_tuple rfl) da_nil))))) (dw_or1 (dt_cmp (od_neM hr) (de_callB cd_len (by rfl) T.z_len bt_len (da_cons (de_var (i := 1)) da_nil)) de_int (nomark _))))) (dss_one (ds_ret de_bl)) dss_nil) (dss_one (ds_ret (de_and (de_call C_law_is_name (hr.mono (by decide)) (by rfl) (da_cons (de_ix (de_var (i := 1)) de_int) da_nil)) (de_one (de_call C_law_is_set (hr.mono (by decide)) (by rfl) (da_cons (de_var (i := 0)) (da_cons (de_ix (de_var (i := 1)) de_int) da_nil))))))))
/-! _law_are_rooms -/
abbrev s_law_are_rooms : Stmt := top 53
abbrev n_law_are_rooms : List Str := ["_law_kinds_here", "_law_thing", "_law_one", "_law_room"]
theorem sc_law_are_rooms : FnScope n_law_are_rooms ["_law_kinds_here", "_law_thing"] (defScope s_law_are_rooms) := ⟨rfl, rfl, rfl, by decide +kernel, rfl, by decide +kernel, by decide +kernel⟩
noncomputable def b_law_are_rooms : XS := (xSeq (xIfS (xOr (xNot (xTru (xCall bIsi (xCons (xVar 1) (xCons (xC (dOf (.ty "tuple"))) xNil))))) (xOr (xNot (xTst (xChain dLe dLe (xC (.int 1)) (xCall bLen (xCons (xVar 1) xNil)) (xC (.int 8))))) (xNot (xTru (xCall bAll (xCons (xLc frozenL (xSq (xVar 1)) (xgName 2) xYes (xFn 2 f_law_is_room (xCons (xVar 0) (xCons (xVar 2) xNil))) [2]) xNil)))))) (xRet (xC (.bl false))) xNx) (xRet (xFn 1 f_law_rises (xCons (xLc frozenL (xSq (xVar 1)) (xgName 3) xYes (xOp dIx (xVar 3) (xC (.int 0))) [3]) xNil))))
noncomputable def f_law_are_rooms : Fn := callB 2 4 b_law_are_rooms
theorem ok_law_are_rooms {P : Program} {w : World} {K : PySem.W.Frag} {mg : Str → Option Value} {base : Heap} {f : Addr} {fd : FuncData} (T : G K mg) (C_law_rises : FnD P w K mg base 1 "_law_rises" 1 f_law_rises) (C_law_is_room : FnD P w K mg base 3 "_law_is_room" 2 f_law_is_room) (F : Fun K "_law_are_rooms" "_law_are_rooms" s_law_are_rooms f fd) : FnOk P w K mg base CX0 4 f fd ["_law_kinds_here", "_law_thing"] (spF K mg 2 f_law_are_rooms) :=
  fn_okE (k := 3) (body := b_law_are_rooms) F sc_law_are_rooms rfl rfl rfl rfl fun cdv A outer s H E W hr =>
  (dss_cons (ds_if (dt_w (dw_or (dt_not (dt_tru (de_callB cd_isi (by rfl) T.z_isinstance bt_isinstance (da_cons (de_var (i := 1)) (da_cons (de_bltn (v := .ty "tuple") (by rfl) T.z_tuple bt_tuple rfl) da_nil))))) (dw_or (dt_not (dt_chain od_le od_le de_int (de_callB cd_len (by rfl) T.z_len bt_len (da_cons (de_var (i := 1)) da_nil)) de_int)) (dw_or1 (dt_not (dt_tru (de_callB (cd_all rfl) (by rfl) T.z_all bt_all (da_cons (de_lc (own := [("_law_one", 2)]) (W' := E0W) fin_frozen rfl sc_law_are_rooms.nd (di_sq (de_var (i := 1))) (blkOk_by (own := [("_law_one", 2)]) (N := n_law_are_rooms) (sc := defScope s_law_are_rooms) (by decide +kernel)) (fun _ _ _ _ _ => (dg_name (i := 2) sc_law_are_rooms.nd)) (fun _ _ _ _ _ => dts_nil) (fun _ _ _ _ _ => (de_call C_law_is_room (hr.mono (by decide)) (by rfl) (da_cons (de_var (i := 0)) (da_cons (de_var (i := 2)) da_nil)))) (by decide)) da_nil)))))))) (dss_one (ds_ret de_bl)) dss_nil) (dss_one (ds_ret (de_call C_law_rises (hr.mono (by decide)) (by rfl) (da_cons (de_lc (own := [("_law_room", 3)]) (W' := E0W) fin_frozen rfl sc_law_are_rooms.nd (di_sq (de_var (i := 1))) (blkOk_by (own := [("_law_room", 3)]) (N := n_law_are_rooms) (sc := defScope s_law_are_rooms) (by decide +kernel)) (fun _ _ _ _ _ => (dg_name (i := 3) sc_law_are_rooms.nd)) (fun _ _ _ _ _ => dts_nil) (fun _ _ _ _ _ => (de_ix (de_var (i := 3)) de_int)) (by decide)) da_nil)))))
/-! is_name -/
abbrev s_is_name : Stmt := top 25
abbrev n_is_name : List Str := ["thing", "sign"]
theorem sc_is_name : FnScope n_is_name ["thing"] (defScope s_is_name) := ⟨rfl, rfl, rfl, by decide +kernel, rfl, by decide +kernel, by decide +kernel⟩
noncomputable def b_is_name : XS := (xSeq (xIfS (xOr (xNot (xTru (xCall bIsi (xCons (xVar 0) (xCons (xC (dOf (.ty "str"))) xNil))))) (xNot (xTst (xChain dLe dLe (xC (.int 1)) (xCall bLen (xCons (xVar 0) xNil)) (xC (dOf (.int 8))))))) (xRet (xC (.bl false))) xNx) (xRet (xCall bAll (xCons (xLc frozenL (xSq (xVar 0)) (xgName 1) xYes (xOp dInS (xVar 1) (xC (dOf (.str "abcdefghijklmnopqrstuvwxyz")))) [1]) xNil))))
noncomputable def f_is_name : Fn := callB 1 2 b_is_name
theorem ok_is_name {P : Program} {w : World} {K : PySem.W.Frag} {mg : Str → Option Value} {base : Heap} {f : Addr} {fd : FuncData} (T : G K mg) (F : Fun K "is_name" "is_name" s_is_name f fd) : FnOk P w K mg base CX0 1 f fd ["thing"] (spF K mg 1 f_is_name) :=
  fn_okE (k := 0) (body := b_is_name) F sc_is_name rfl rfl rfl rfl fun cdv A outer s H E W hr =>
  (dss_cons (ds_if (dt_w (dw_or (dt_not (dt_tru (de_callB cd_isi (by rfl) T.z_isinstance bt_isinstance (da_cons (de_var (i := 0)) (da_cons (de_bltn (v := .ty "str") (by rfl) T.z_str bt_str rfl) da_nil))))) (dw_or1 (dt_not (dt_chain od_le od_le de_int (de_callB cd_len (by rfl) T.z_len bt_len (da_cons (de_var (i := 0)) da_nil)) (de_gl T.g_MOST_SIGNS (by rfl))))))) (dss_one (ds_ret de_bl)) dss_nil) (dss_one (ds_ret (de_callB (cd_all rfl) (by rfl) T.z_all bt_all (da_cons (de_lc (own := [("sign", 1)]) (W' := E0W) fin_frozen rfl sc_is_name.nd (di_sq (de_var (i := 0))) (blkOk_by (own := [("sign", 1)]) (N := n_is_name) (sc := defScope s_is_name) (by decide +kernel)) (fun _ _ _ _ _ => (dg_name (i := 1) sc_is_name.nd)) (fun _ _ _ _ _ => dts_nil) (fun _ _ _ _ _ => (de_cmp od_inS (de_var (i := 1)) (de_gl T.g_SIGNS (by rfl)) (by rfl))) (by decide)) da_nil)))))
/-! is_rising -/
abbrev s_is_rising : Stmt := top 26
abbrev n_is_rising : List Str := ["things", "one", "other"]
theorem sc_is_rising : FnScope n_is_rising ["things"] (defScope s_is_rising) := ⟨rfl, rfl, rfl, by decide +kernel, rfl, by decide +kernel, by decide +kernel⟩
noncomputable def b_is_rising : XS := (xRet (xCall bAll (xCons (xLc frozenL (xZip (xCons (xVar 0) (xCons (xSl dSl (xVar 0) (xSome (xC (.int 1))) xNone) xNil))) (xgTup 2 (xgsCons (xgName 1) (xgsCons (xgName 2) xgsNil))) xYes (xOp dLt (xVar 1) (xVar 2)) [1, 2]) xNil)))
noncomputable def f_is_rising : Fn := callB 1 3 b_is_rising
theorem ok_is_rising {P : Program} {w : World} {K : PySem.W.Frag} {mg : Str → Option Value} {base : Heap} {f : Addr} {fd : FuncData} (T : G K mg) (F : Fun K "is_rising" "is_rising" s_is_rising f fd) : FnOk P w K mg base CX0 1 f fd ["things"] (spF K mg 1 f_is_rising) :=
  fn_okE (k := 0) (body := b_is_rising) F sc_is_rising rfl rfl rfl rfl fun cdv A outer s H E W hr =>
  (dss_one (ds_ret (de_callB (cd_all rfl) (by rfl) T.z_all bt_all (da_cons (de_lc (own := [("one", 1), ("other", 2)]) (W' := E0W) fin_frozen rfl sc_is_rising.nd (di_zip (by rfl) T.z_zip (da_cons (de_var (i := 0)) (da_cons (de_sl (de_var (i := 0)) (do_some de_int) do_none) da_nil))) (blkOk_by (own := [("one", 1), ("other", 2)]) (N := n_is_rising) (sc := defScope s_is_rising) (by decide +kernel)) (fun _ _ _ _ _ => (dg_tup rfl (dgs_cons (dg_name (i := 1) sc_is_rising.nd) (dgs_cons (dg_name (i := 2) sc_is_rising.nd) dgs_nil)))) (fun _ _ _ _ _ => dts_nil) (fun _ _ _ _ _ => (de_cmp od_lt (de_var (i := 1)) (de_var (i := 2)) (nomark _))) (by decide)) da_nil))))
/-! is_set -/
abbrev s_is_set : Stmt := top 27
abbrev n_is_set : List Str := ["kinds", "thing", "kind"]
theorem sc_is_set : FnScope n_is_set ["kinds", "thing"] (defScope s_is_set) := ⟨rfl, rfl, rfl, by decide +kernel, rfl, by decide +kernel, by decide +kernel⟩
noncomputable def b_is_set : XS := (xSeq (xIfS (xOr (xNot (xTru (xCall bIsi (xCons (xVar 1) (xCons (xC (dOf (.ty "tuple"))) xNil))))) (xTst (xOp (eqM false) (xCall bLen (xCons (xVar 1) xNil)) (xC (.int 0))))) (xRet (xC (.bl false))) xNx) (xRet (xAndV (xCall bAll (xCons (xLc frozenL (xSq (xVar 1)) (xgName 2) xYes (xAndV (xCall bIsi (xCons (xVar 2) (xCons (xC (dOf (.ty "str"))) xNil))) (xOp dIn (xVar 2) (xVar 0))) [2]) xNil)) (xFn 1 f_is_rising (xCons (xVar 1) xNil)))))
noncomputable def f_is_set : Fn := callB 2 3 b_is_set
theorem ok_is_set {P : Program} {w : World} {K : PySem.W.Frag} {mg : Str → Option Value} {base : Heap} {f : Addr} {fd : FuncData} (T : G K mg) (C_is_rising : FnD P w K mg base 1 "is_rising" 1 f_is_rising) (F : Fun K "is_set" "is_set" s_is_set f fd) : FnOk P w K mg base CX0 2 f fd ["kinds", "thing"] (spF K mg 2 f_is_set) :=
  fn_okE (k := 1) (body := b_is_set) F sc_is_set rfl rfl rfl rfl fun cdv A outer s H E W hr =>
  (dss_cons (ds_if (dt_w (dw_or (dt_not (dt_tru (de_callB cd_isi (by rfl) T.z_isinstance bt_isinstance (da_cons (de_var (i := 1)) (da_cons (de_bltn (v := .ty "tuple") (by rfl) T.z_tuple bt_tuple rfl) da_nil))))) (dw_or1 (dt_cmp (od_eqM hr) (de_callB cd_len (by rfl) T.z_len bt_len (da_cons (de_var (i := 1)) da_nil)) de_int (nomark _))))) (dss_one (ds_ret de_bl)) dss_nil) (dss_one (ds_ret (de_and (de_callB (cd_all rfl) (by rfl) T.z_all bt_all (da_cons (de_lc (own := [("kind", 2)]) (W' := E0W) fin_frozen rfl sc_is_set.nd (di_sq (de_var (i := 1))) (blkOk_by (own := [("kind", 2)]) (N := n_is_set) (sc := defScope s_is_set) (by decide +kernel)) (fun _ _ _ _ _ => (dg_name (i := 2) sc_is_set.nd)) (fun _ _ _ _ _ => dts_nil) (fun _ _ _ _ _ => (de_and (de_callB cd_isi (by rfl) T.z_isinstance bt_isinstance (da_cons (de_var (i := 2)) (da_cons (de_bltn (v := .ty "str") (by rfl) T.z_str bt_str rfl) da_nil))) (de_one (de_cmp (od_in hr) (de_var (i := 2)) (de_var (i := 0)) (by rfl))))) (by decide)) da_nil)) (de_one (de_call C_is_rising (hr.mono (by decide)) (by rfl) (da_cons (de_var (i := 1)) da_nil)))))))
/-! is_room -/
abbrev s_is_room : Stmt := top 30
abbrev n_is_room : List Str := ["kinds", "thing"]
theorem sc_is_room : FnScope n_is_room ["kinds", "thing"] (defScope s_is_room) := ⟨rfl, rfl, rfl, by decide +kernel, rfl, by decide +kernel, by decide +kernel⟩
noncomputable def b_is_room : XS := (xRet (xAndV (xCall bIsi (xCons (xVar 1) (xCons (xC (dOf (.ty "tuple"))) xNil))) (xAndV (xOp (eqM false) (xCall bLen (xCons (xVar 1) xNil)) (xC (.int 2))) (xAndV (xFn 1 f_is_name (xCons (xOp dIx (xVar 1) (xC (.int 0))) xNil)) (xFn 2 f_is_set (xCons (xVar 0) (xCons (xOp dIx (xVar 1) (xC (.int 1))) xNil)))))))
noncomputable def f_is_room : Fn := callB 2 2 b_is_room
theorem ok_is_room {P : Program} {w : World} {K : PySem.W.Frag} {mg : Str → Option Value} {base : Heap} {f : Addr} {fd : FuncData} (T : G K mg) (C_is_name : FnD P w K mg base 1 "is_name" 1 f_is_name) (C_is_set : FnD P w K mg base 2 "is_set" 2 f_is_set) (F : Fun K "is_room" "is_room" s_is_room f fd) : FnOk P w K mg base CX0 3 f fd ["kinds", "thing"] (spF K mg 2 f_is_room) :=
  fn_okE (k := 2) (body := b_is_room) F sc_is_room rfl rfl rfl rfl fun cdv A outer s H E W hr =>
  (dss_one (ds_ret (de_and (de_callB cd_isi (by rfl) T.z_isinstance bt_isinstance (da_cons (de_var (i := 1)) (da_cons (de_bltn (v := .ty "tuple") (by rfl) T.z_tuple bt_tuple rfl) da_nil))) (de_and (de_cmp (od_eqM hr) (de_callB cd_len (by rfl) T.z_len bt_len (da_cons (de_var (i := 1)) da_nil)) de_int (nomark _)) (de_and (de_call C_is_name (hr.mono (by decide)) (by rfl) (da_cons (de_ix (de_var (i := 1)) de_int) da_nil)) (de_one (de_call C_is_set (hr.mono (by decide)) (by rfl) (da_cons (de_var (i := 0)) (da_cons (de_ix (de_var (i := 1)) de_int) da_nil)))))))))
/-! are_rooms -/
abbrev s_are_rooms : Stmt := top 31
abbrev n_are_rooms : List Str := ["kinds", "thing", "one", "name", "takes"]
theorem sc_are_rooms : FnScope n_are_rooms ["kinds", "thing"] (defScope s_are_rooms) := ⟨rfl, rfl, rfl, by decide +kernel, rfl, by decide +kernel, by decide +kernel⟩
noncomputable def b_are_rooms : XS := (xSeq (xIfS (xOr (xNot (xTru (xCall bIsi (xCons (xVar 1) (xCons (xC (dOf (.ty "tuple"))) xNil))))) (xNot (xTst (xChain dLe dLe (xC (.int 1)) (xCall bLen (xCons (xVar 1) xNil)) (xC (dOf (.int 8))))))) (xRet (xC (.bl false))) xNx) (xRet (xAndV (xCall bAll (xCons (xLc frozenL (xSq (xVar 1)) (xgName 2) xYes (xFn 2 f_is_room (xCons (xVar 0) (xCons (xVar 2) xNil))) [2]) xNil)) (xFn 1 f_is_rising (xCons (xLc frozenL (xSq (xVar 1)) (xgTup 2 (xgsCons (xgName 3) (xgsCons (xgName 4) xgsNil))) xYes (xVar 3) [3, 4]) xNil)))))
noncomputable def f_are_rooms : Fn := callB 2 5 b_are_rooms
theorem ok_are_rooms {P : Program} {w : World} {K : PySem.W.Frag} {mg : Str → Option Value} {base : Heap} {f : Addr} {fd : FuncData} (T : G K mg) (C_is_room : FnD P w K mg base 3 "is_room" 2 f_is_room) (C_is_rising : FnD P w K mg base 1 "is_rising" 1 f_is_rising) (F : Fun K "are_rooms" "are_rooms" s_are_rooms f fd) : FnOk P w K mg base CX0 4 f fd ["kinds", "thing"] (spF K mg 2 f_are_rooms) :=
  fn_okE (k := 3) (body := b_are_rooms) F sc_are_rooms rfl rfl rfl rfl fun cdv A outer s H E W hr =>
  (dss_cons (ds_if (dt_w (dw_or (dt_not (dt_tru (de_callB cd_isi (by rfl) T.z_isinstance bt_isinstance (da_cons (de_var (i := 1)) (da_cons (de_bltn (v := .ty "tuple") (by rfl) T.z_tuple bt_tuple rfl) da_nil))))) (dw_or1 (dt_not (dt_chain od_le od_le de_int (de_callB cd_len (by rfl) T.z_len bt_len (da_cons (de_var (i := 1)) da_nil)) (de_gl T.g_MOST_ROOMS (by rfl))))))) (dss_one (ds_ret de_bl)) dss_nil) (dss_one (ds_ret (de_and (de_callB (cd_all rfl) (by rfl) T.z_all bt_all (da_cons (de_lc (own := [("one", 2)]) (W' := E0W) fin_frozen rfl sc_are_rooms.nd (di_sq (de_var (i := 1))) (blkOk_by (own := [("one", 2)]) (N := n_are_rooms) (sc := defScope s_are_rooms) (by decide +kernel)) (fun _ _ _ _ _ => (dg_name (i := 2) sc_are_rooms.nd)) (fun _ _ _ _ _ => dts_nil) (fun _ _ _ _ _ => (de_call C_is_room (hr.mono (by decide)) (by rfl) (da_cons (de_var (i := 0)) (da_cons (de_var (i := 2)) da_nil)))) (by decide)) da_nil)) (de_one (de_call C_is_rising (hr.mono (by decide)) (by rfl) (da_cons (de_lc (own := [("name", 3), ("takes", 4)]) (W' := E0W) fin_frozen rfl sc_are_rooms.nd (di_sq (de_var (i := 1))) (blkOk_by (own := [("name", 3), ("takes", 4)]) (N := n_are_rooms) (sc := defScope s_are_rooms) (by decide +kernel)) (fun _ _ _ _ _ => (dg_tup rfl (dgs_cons (dg_name (i := 3) sc_are_rooms.nd) (dgs_cons (dg_name (i := 4) sc_are_rooms.nd) dgs_nil)))) (fun _ _ _ _ _ => dts_nil) (fun _ _ _ _ _ => (de_var (i := 3))) (by decide)) da_nil)))))))
/-! _law_names -/
abbrev s_law_names : Stmt := top 38
abbrev n_law_names : List Str := ["_law_bag_here", "_law_often", "_law_letters", "_law_ahead", "_law_behind", "_law_first", "_law_k"]
theorem sc_law_names : FnScope n_law_names ["_law_bag_here", "_law_often"] (defScope s_law_names) := ⟨rfl, rfl, rfl, by decide +kernel, rfl, by decide +kernel, by decide +kernel⟩
noncomputable def b_law_names : XS := (xSeq (xAsg (xC (.str "abcdefghijklmnopqrstuvwxyz")) (xgName 2)) (xSeq (xAsg (xJoin (xC (.str "")) (xLc frozenL (xRng (xCons (xFn 2 f_law_take (xCons (xVar 0) (xCons (xC (.int 5)) xNil))) xNil)) (xgName 6) xYes (xOp dIx (xVar 2) (xFn 2 f_law_take (xCons (xVar 0) (xCons (xC (.int 26)) xNil)))) [6])) (xgName 3)) (xSeq (xAsg (xJoin (xC (.str "")) (xLc frozenL (xRng (xCons (xFn 2 f_law_take (xCons (xVar 0) (xCons (xC (.int 4)) xNil))) xNil)) (xgName 6) xYes (xOp dIx (xVar 2) (xFn 2 f_law_take (xCons (xVar 0) (xCons (xC (.int 26)) xNil)))) [6])) (xgName 4)) (xSeq (xAsg (xFn 2 f_law_take (xCons (xVar 0) (xCons (xC (.int 26)) xNil))) (xgName 5)) (xRet (xCall bSorted (xCons (xLc frozenL (xRng (xCons (xVar 1) xNil)) (xgName 6) xYes (xOp dAdd (xOp dAdd (xVar 3) (xOp dIx (xVar 2) (xOp dMod (xOp dAdd (xVar 5) (xOp dMul (xC (.int 5)) (xVar 6))) (xC (.int 26))))) (xSl dSl (xVar 4) xNone (xSome (xOp dMod (xVar 6) (xC (.int 4)))))) [6]) xNil)))))))
noncomputable def f_law_names : Fn := callB 2 7 b_law_names
theorem ok_law_names {P : Program} {w : World} {K : PySem.W.Frag} {mg : Str → Option Value} {base : Heap} {f : Addr} {fd : FuncData} (T : G K mg) (C_law_take : FnD P w K mg base 1 "_law_take" 2 f_law_take) (F : Fun K "_law_names" "_law_names" s_law_names f fd) : FnOk P w K mg base CX0 2 f fd ["_law_bag_here", "_law_often"] (spF K mg 2 f_law_names) :=
  fn_okE (k := 1) (body := b_law_names) F sc_law_names rfl rfl rfl rfl fun cdv A outer s H E W hr =>
  (dss_cons (ds_set (i := 2) sc_law_names.nd de_str) (dss_cons (ds_set (i := 3) sc_law_names.nd (de_join de_str (de_lc (own := [("_law_k", 6)]) (W' := E0W) fin_frozen rfl sc_law_names.nd (di_range1 (by rfl) T.z_range (da_cons (de_call C_law_take (hr.mono (by decide)) (by rfl) (da_cons (de_var (i := 0)) (da_cons de_int da_nil))) da_nil)) (blkOk_by (own := [("_law_k", 6)]) (N := n_law_names) (sc := defScope s_law_names) (by decide +kernel)) (fun _ _ _ _ _ => (dg_name (i := 6) sc_law_names.nd)) (fun _ _ _ _ _ => dts_nil) (fun _ _ _ _ _ => (de_ix (de_var (i := 2)) (de_call C_law_take (hr.mono (by decide)) (by rfl) (da_cons (de_var (i := 0)) (da_cons de_int da_nil))))) (by decide)))) (dss_cons (ds_set (i := 4) sc_law_names.nd (de_join de_str (de_lc (own := [("_law_k", 6)]) (W' := E0W) fin_frozen rfl sc_law_names.nd (di_range1 (by rfl) T.z_range (da_cons (de_call C_law_take (hr.mono (by decide)) (by rfl) (da_cons (de_var (i := 0)) (da_cons de_int da_nil))) da_nil)) (blkOk_by (own := [("_law_k", 6)]) (N := n_law_names) (sc := defScope s_law_names) (by decide +kernel)) (fun _ _ _ _ _ => (dg_name (i := 6) sc_law_names.nd)) (fun _ _ _ _ _ => dts_nil) (fun _ _ _ _ _ => (de_ix (de_var (i := 2)) (de_call C_law_take (hr.mono (by decide)) (by rfl) (da_cons (de_var (i := 0)) (da_cons de_int da_nil))))) (by decide)))) (dss_cons (ds_set (i := 5) sc_law_names.nd (de_call C_law_take (hr.mono (by decide)) (by rfl) (da_cons (de_var (i := 0)) (da_cons de_int da_nil)))) (dss_one (ds_ret (de_callB cd_sorted (by rfl) T.z_sorted bt_sorted (da_cons (de_lc (own := [("_law_k", 6)]) (W' := E0W) fin_frozen rfl sc_law_names.nd (di_range1 (by rfl) T.z_range (da_cons (de_var (i := 1)) da_nil)) (blkOk_by (own := [("_law_k", 6)]) (N := n_law_names) (sc := defScope s_law_names) (by decide +kernel)) (fun _ _ _ _ _ => (dg_name (i := 6) sc_law_names.nd)) (fun _ _ _ _ _ => dts_nil) (fun _ _ _ _ _ => (de_op od_add (de_op od_add (de_var (i := 3)) (de_ix (de_var (i := 2)) (de_op od_mod (de_op od_add (de_var (i := 5)) (de_op od_mul de_int (de_var (i := 6)))) de_int))) (de_sl (de_var (i := 4)) do_none (do_some (de_op od_mod (de_var (i := 6)) de_int))))) (by decide)) da_nil))))))))
/-! _law_rooms -/
abbrev s_law_rooms : Stmt := top 40
abbrev n_law_rooms : List Str := ["_law_bag_here", "_law_kinds_here", "_law_most", "_law_sets_here", "_law_names_here", "_law_name"]
theorem sc_law_rooms : FnScope n_law_rooms ["_law_bag_here", "_law_kinds_here", "_law_most"] (defScope s_law_rooms) := ⟨rfl, rfl, rfl, by decide +kernel, rfl, by decide +kernel, by decide +kernel⟩
noncomputable def b_law_rooms : XS := (xSeq (xAsg (xFn 1 f_law_sets (xCons (xVar 1) xNil)) (xgName 3)) (xSeq (xAsg (xFn 2 f_law_names (xCons (xVar 0) (xCons (xOp dAdd (xC (.int 1)) (xFn 2 f_law_take (xCons (xVar 0) (xCons (xVar 2) xNil)))) xNil))) (xgName 4)) (xRet (xCall bTuple (xCons (xLc frozenL (xSq (xVar 4)) (xgName 5) xYes (xTup (xCons (xVar 5) (xCons (xOp dIx (xVar 3) (xFn 2 f_law_take (xCons (xVar 0) (xCons (xCall bLen (xCons (xVar 3) xNil)) xNil)))) xNil))) [5]) xNil)))))
noncomputable def f_law_rooms : Fn := callB 3 6 b_law_rooms
theorem ok_law_rooms {P : Program} {w : World} {K : PySem.W.Frag} {mg : Str → Option Value} {base : Heap} {f : Addr} {fd : FuncData} (T : G K mg) (C_law_take : FnD P w K mg base 1 "_law_take" 2 f_law_take) (C_law_names : FnD P w K mg base 2 "_law_names" 2 f_law_names) (C_law_sets : FnD P w K mg base 1 "_law_sets" 1 f_law_sets) (F : Fun K "_law_rooms" "_law_rooms" s_law_rooms f fd) : FnOk P w K mg base CX0 3 f fd ["_law_bag_here", "_law_kinds_here", "_law_most"] (spF K mg 3 f_law_rooms) :=
  fn_okE (k := 2) (body := b_law_rooms) F sc_law_rooms rfl rfl rfl rfl fun cdv A outer s H E W hr =>
  (dss_cons (ds_set (i := 3) sc_law_rooms.nd (de_call C_law_sets (hr.mono (by decide)) (by rfl) (da_cons (de_var (i := 1)) da_nil))) (dss_cons (ds_set (i := 4) sc_law_rooms.nd (de_call C_law_names (hr.mono (by decide)) (by rfl) (da_cons (de_var (i := 0)) (da_cons (de_op od_add de_int (de_call C_law_take (hr.mono (by decide)) (by rfl) (da_cons (de_var (i := 0)) (da_cons (de_var (i := 2)) da_nil)))) da_nil)))) (dss_one (ds_ret (de_callTy cd_tuple (by rfl) T.z_tuple bt_tuple (da_cons (de_lc (own := [("_law_name", 5)]) (W' := E0W) fin_frozen rfl sc_law_rooms.nd (di_sq (de_var (i := 4))) (blkOk_by (own := [("_law_name", 5)]) (N := n_law_rooms) (sc := defScope s_law_rooms) (by decide +kernel)) (fun _ _ _ _ _ => (dg_name (i := 5) sc_law_rooms.nd)) (fun _ _ _ _ _ => dts_nil) (fun _ _ _ _ _ => (de_tup (da_cons (de_var (i := 5)) (da_cons (de_ix (de_var (i := 3)) (de_call C_law_take (hr.mono (by decide)) (by rfl) (da_cons (de_var (i := 0)) (da_cons (de_callB cd_len (by rfl) T.z_len bt_len (da_cons (de_var (i := 3)) da_nil)) da_nil)))) da_nil)))) (by decide)) da_nil))))))
/-! _law_kinds -/
abbrev s_law_kinds : Stmt := top 42
abbrev n_law_kinds : List Str := ["_law_bag_here"]
theorem sc_law_kinds : FnScope n_law_kinds ["_law_bag_here"] (defScope s_law_kinds) := ⟨rfl, rfl, rfl, by decide +kernel, rfl, by decide +kernel, by decide +kernel⟩
noncomputable def b_law_kinds : XS := (xRet (xCall bTuple (xCons (xFn 2 f_law_names (xCons (xVar 0) (xCons (xOp dAdd (xC (.int 1)) (xFn 2 f_law_take (xCons (xVar 0) (xCons (xC (.int 5)) xNil)))) xNil))) xNil)))
noncomputable def f_law_kinds : Fn := callB 1 1 b_law_kinds
theorem ok_law_kinds {P : Program} {w : World} {K : PySem.W.Frag} {mg : Str → Option Value} {base : Heap} {f : Addr} {fd : FuncData} (T : G K mg) (C_law_take : FnD P w K mg base 1 "_law_take" 2 f_law_take) (C_law_names : FnD P w K mg base 2 "_law_names" 2 f_law_names) (F : Fun K "_law_kinds" "_law_kinds" s_law_kinds f fd) : FnOk P w K mg base CX0 3 f fd ["_law_bag_here"] (spF K mg 1 f_law_kinds) :=
  fn_okE (k := 2) (body := b_law_kinds) F sc_law_kinds rfl rfl rfl rfl fun cdv A outer s H E W hr =>
  (dss_one (ds_ret (de_callTy cd_tuple (by rfl) T.z_tuple bt_tuple (da_cons (de_call C_law_names (hr.mono (by decide)) (by rfl) (da_cons (de_var (i := 0)) (da_cons (de_op od_add de_int (de_call C_law_take (hr.mono (by decide)) (by rfl) (da_cons (de_var (i := 0)) (da_cons de_int da_nil)))) da_nil))) da_nil))))
/-! _law_bag -/
abbrev s_law_bag : Stmt := top 36
abbrev n_law_bag : List Str := ["_law_script", "_law_at", "_law_cell", "_law_far"]
theorem sc_law_bag : FnScope n_law_bag ["_law_script", "_law_at"] (defScope s_law_bag) := ⟨rfl, rfl, rfl, by decide +kernel, rfl, by decide +kernel, by decide +kernel⟩
noncomputable def b_law_bag : XS := (xSeq (xAsg (xOp dAdd (xOp dMul (xC (.int 6011)) (xVar 1)) (xC (.int 29))) (xgName 2)) (xSeq (xIfS (xTst (xOp dLt (xVar 1) (xCall bLen (xCons (xVar 0) xNil)))) (xAsg (xOp dIx (xVar 0) (xVar 1)) (xgName 2)) xNx) (xSeq (xAsg (xCall bAbs (xCons (xVar 2) xNil)) (xgName 3)) (xRet (xLstM (xCons (xOp dMul (xVar 3) (xCall bInt (xCons (xOp dGe (xVar 3) (xOp dPow (xC (.int 10)) (xC (.int 18)))) xNil))) (xCons (xOp dAdd (xOp dAdd (xOp dMod (xVar 2) (xC (.int 1000000000000000003))) (xOp dMul (xOp dMul (xC (.int 7919)) (xVar 1)) (xVar 1))) (xOp dMul (xC (.int 13)) (xVar 1))) (xCons (xC (.int 0)) xNil))))))))
noncomputable def f_law_bag : Fn := callB 2 4 b_law_bag
theorem ok_law_bag {P : Program} {w : World} {K : PySem.W.Frag} {mg : Str → Option Value} {base : Heap} {f : Addr} {fd : FuncData} (T : G K mg) (F : Fun K "_law_bag" "_law_bag" s_law_bag f fd) : FnOk P w K mg base CX0 1 f fd ["_law_script", "_law_at"] (spF K mg 2 f_law_bag) :=
  fn_okE (k := 0) (body := b_law_bag) F sc_law_bag rfl rfl rfl rfl fun cdv A outer s H E W hr =>
  (dss_cons (ds_set (i := 2) sc_law_bag.nd (de_op od_add (de_op od_mul de_int (de_var (i := 1))) de_int)) (dss_cons (ds_if (dt_cmp od_lt (de_var (i := 1)) (de_callB cd_len (by rfl) T.z_len bt_len (da_cons (de_var (i := 0)) da_nil)) (nomark _)) (dss_one (ds_set (i := 2) sc_law_bag.nd (de_ix (de_var (i := 0)) (de_var (i := 1))))) dss_nil) (dss_cons (ds_set (i := 3) sc_law_bag.nd (de_callB cd_abs (by rfl) T.z_abs bt_abs (da_cons (de_var (i := 2)) da_nil))) (dss_one (ds_ret (de_lstM (da_cons (de_op od_mul (de_var (i := 3)) (de_callTy cd_int (by rfl) T.z_int bt_int (da_cons (de_cmp od_ge (de_var (i := 3)) (de_op od_pow de_int de_int) (nomark _)) da_nil))) (da_cons (de_op od_add (de_op od_add (de_op od_mod (de_var (i := 2)) de_int) (de_op od_mul (de_op od_mul de_int (de_var (i := 1))) (de_var (i := 1)))) (de_op od_mul de_int (de_var (i := 1)))) (da_cons de_int da_nil)))))))))
/-! law -/
abbrev s_law : Stmt := top 55
abbrev n_law : List Str := ["_law_script", "_law_k", "_law_bag_here", "_law_kinds_here", "_law_rooms_here", "_law_sets_here", "_law_nine", "_law_turn", "_law_thing", "_law_name", "_law_takes", "_law_told", "_law_due", "_law_of", "_law_room"]
theorem sc_law : FnScope n_law ["_law_script"] (defScope s_law) := ⟨rfl, rfl, rfl, by decide +kernel, rfl, by decide +kernel, by decide +kernel⟩
noncomputable def b_law : XS := (xSeq (xFor (xRng (xCons (xCall bMax (xCons (xC (.int 2)) (xCons (xCall bMin (xCons (xC (.int 5)) (xCons (xCall bLen (xCons (xVar 0) xNil)) xNil))) xNil))) xNil)) (xgName 1) (xSeq (xAsg (xFn 2 f_law_bag (xCons (xVar 0) (xCons (xVar 1) xNil))) (xgName 2)) (xSeq (xAsg (xFn 1 f_law_kinds (xCons (xVar 2) xNil)) (xgName 3)) (xSeq (xAsg (xTup (xCons (xFn 3 f_law_rooms (xCons (xVar 2) (xCons (xVar 3) (xCons (xC (.int 8)) xNil)))) (xCons (xFn 1 f_law_sets (xCons (xVar 3) xNil)) xNil))) (xgTup 2 (xgsCons (xgName 4) (xgsCons (xgName 5) xgsNil)))) (xSeq (xAsg (xCall bTuple (xCons (xLc frozenL (xSq (xFn 2 f_law_names (xCons (xVar 2) (xCons (xC (.int 9)) xNil)))) (xgName 9) xYes (xTup (xCons (xVar 9) (xCons (xVar 3) xNil))) [9]) xNil)) (xgName 6)) (xSeq (xFor (xRng (xCons (xC (.int 4)) xNil)) (xgName 7) (xFor (xSq (xLst (xCons (xVar 4) (xCons (xFn 3 f_law_bent (xCons (xVar 2) (xCons (xVar 3) (xCons (xVar 4) xNil)))) (xCons (xFn 1 f_law_odd (xCons (xVar 2) xNil)) (xCons (xVar 6) (xCons (xSl dSl (xVar 6) xNone (xSome (xC (.int 8)))) (xCons (xCall bList (xCons (xVar 4) xNil)) xNil)))))))) (xgName 8) (xIfS (xNot (xTru (xFn 2 f_law_truths (xCons (xLst (xCons (xFn 2 f_are_rooms (xCons (xVar 3) (xCons (xVar 8) xNil))) xNil)) (xCons (xLst (xCons (xFn 2 f_law_are_rooms (xCons (xVar 3) (xCons (xVar 8) xNil))) xNil)) xNil))))) (xRet (xC (.bl false))) xNx))) (xFor (xSq (xVar 4)) (xgTup 2 (xgsCons (xgName 9) (xgsCons (xgName 10) xgsNil))) (xSeq (xAsg (xLc frozenL (xSq (xVar 5)) (xgName 13) xYes (xCalm (xFn 3 f_serves (xCons (xVar 4) (xCons (xVar 9) (xCons (xVar 13) xNil))))) [13]) (xgName 11)) (xSeq (xIfS (xNot (xTru (xFn 2 f_law_truths (xCons (xVar 11) (xCons (xLc frozenL (xSq (xVar 5)) (xgName 13) xYes (xFn 2 f_law_share (xCons (xVar 10) (xCons (xVar 13) xNil))) [13]) xNil))))) (xRet (xC (.bl false))) xNx) (xFor (xSq (xLst (xCons (xFn 2 f_law_text_bent (xCons (xVar 2) (xCons (xVar 9) xNil))) (xCons (xFn 1 f_law_odd (xCons (xVar 2) xNil)) (xCons (xTup (xCons (xVar 9) xNil)) (xCons (xOp dAdd (xVar 9) (xC (.str "zzzzzzzz"))) xNil)))))) (xgName 8) (xSeq (xAsg (xIf (xTst (xOp (oOr dIn inDct) (xVar 8) (xLc frozenL (xSq (xVar 4)) (xgName 14) xYes (xOp dIx (xVar 14) (xC (.int 0))) [14]))) (xTup (xCons (xC (.str "none")) (xCons (xC .non) xNil))) (xTup (xCons (xC (.str "NoRoom")) (xCons (xVar 8) xNil)))) (xgName 12)) (xIfS (xTst (xOp (eqM true) (xCall (cOr bRepr bReprO) (xCons (xRefusal refXs 0 "law" (lamQ "law") (xFn 3 f_serves (xCons (xVar 4) (xCons (xVar 8) (xCons (xVar 3) xNil))))) xNil)) (xCall (cOr bRepr bReprO) (xCons (xVar 12) xNil)))) (xRet (xC (.bl false))) xNx)))))))))))) (xRet (xC (.bl true))))
noncomputable def f_law : Fn := callB 1 15 b_law
theorem ok_law {P : Program} {w : World} {K : PySem.W.Frag} {mg : Str → Option Value} {base : Heap} {f : Addr} {fd : FuncData} (T : G K mg) (C_law_odd : FnD P w K mg base 2 "_law_odd" 1 f_law_odd) (C_law_text_bent : FnD P w K mg base 2 "_law_text_bent" 2 f_law_text_bent) (C_fX_serves : FnX P w K mg base 4 "serves" 3 f_serves) (C_law_share : FnD P w K mg base 1 "_law_share" 2 f_law_share) (C_law_truths : FnD P w K mg base 1 "_law_truths" 2 f_law_truths) (C_law_bent : FnD P w K mg base 4 "_law_bent" 3 f_law_bent) (C_law_are_rooms : FnD P w K mg base 4 "_law_are_rooms" 2 f_law_are_rooms) (C_are_rooms : FnD P w K mg base 4 "are_rooms" 2 f_are_rooms) (C_law_names : FnD P w K mg base 2 "_law_names" 2 f_law_names) (C_law_sets : FnD P w K mg base 1 "_law_sets" 1 f_law_sets) (C_law_rooms : FnD P w K mg base 3 "_law_rooms" 3 f_law_rooms) (C_law_kinds : FnD P w K mg base 3 "_law_kinds" 1 f_law_kinds) (C_law_bag : FnD P w K mg base 1 "_law_bag" 2 f_law_bag) (R : RfOk P w K mg base refXs) {c Pt : Addr} (hcd : fd.code = .ref c) (hTab : TabAt K "law" Pt) (TB : LamX.TabB base mg c Pt) (F : Fun K "law" "law" s_law f fd) : FnOkG P w K mg base CX0 8 f fd ["_law_script"] (spF K mg 1 f_law) :=
  fnLG_okE (k := 7) (body := b_law) F hcd sc_law rfl rfl rfl rfl fun A outer s H E W hg hr =>
  (dss_cons (ds_for PassesOwn.never rfl (di_range1 (by rfl) T.z_range (da_cons (de_callB (cd_max rfl) (by rfl) T.z_max bt_max (da_cons de_int (da_cons (de_callB (cd_min rfl) (by rfl) T.z_min bt_min (da_cons de_int (da_cons (de_callB cd_len (by rfl) T.z_len bt_len (da_cons (de_var (i := 0)) da_nil)) da_nil))) da_nil))) da_nil)) (dg_name (i := 1) sc_law.nd) (dss_cons (ds_set (i := 2) sc_law.nd (de_call C_law_bag (hr.mono (by decide)) (by rfl) (da_cons (de_var (i := 0)) (da_cons (de_var (i := 1)) da_nil)))) (dss_cons (ds_set (i := 3) sc_law.nd (de_call C_law_kinds (hr.mono (by decide)) (by rfl) (da_cons (de_var (i := 2)) da_nil))) (dss_cons (ds_asg (de_tup (da_cons (de_call C_law_rooms (hr.mono (by decide)) (by rfl) (da_cons (de_var (i := 2)) (da_cons (de_var (i := 3)) (da_cons de_int da_nil)))) (da_cons (de_call C_law_sets (hr.mono (by decide)) (by rfl) (da_cons (de_var (i := 3)) da_nil)) da_nil))) (dg_tup rfl (dgs_cons (dg_name (i := 4) sc_law.nd) (dgs_cons (dg_name (i := 5) sc_law.nd) dgs_nil)))) (dss_cons (ds_set (i := 6) sc_law.nd (de_callTy cd_tuple (by rfl) T.z_tuple bt_tuple (da_cons (de_lc (own := [("_law_name", 9)]) (W' := E0W) fin_frozen rfl sc_law.nd (di_sq (de_call C_law_names (hr.mono (by decide)) (by rfl) (da_cons (de_var (i := 2)) (da_cons de_int da_nil)))) (blkOk_by (own := [("_law_name", 9)]) (N := n_law) (sc := defScope s_law) (by decide +kernel)) (fun _ _ _ _ _ => (dg_name (i := 9) sc_law.nd)) (fun _ _ _ _ _ => dts_nil) (fun _ _ _ _ _ => (de_tup (da_cons (de_var (i := 9)) (da_cons (de_var (i := 3)) da_nil)))) (by decide)) da_nil))) (dss_cons (ds_for PassesOwn.never rfl (di_range1 (by rfl) T.z_range (da_cons de_int da_nil)) (dg_name (i := 7) sc_law.nd) (dss_one (ds_for PassesOwn.never rfl (di_sq (de_lst (da_cons (de_var (i := 4)) (da_cons (de_call C_law_bent (hr.mono (by decide)) (by rfl) (da_cons (de_var (i := 2)) (da_cons (de_var (i := 3)) (da_cons (de_var (i := 4)) da_nil)))) (da_cons (de_call C_law_odd (hr.mono (by decide)) (by rfl) (da_cons (de_var (i := 2)) da_nil)) (da_cons (de_var (i := 6)) (da_cons (de_sl (de_var (i := 6)) do_none (do_some de_int)) (da_cons (de_callTy cd_list (by rfl) T.z_list bt_list (da_cons (de_var (i := 4)) da_nil)) da_nil)))))))) (dg_name (i := 8) sc_law.nd) (dss_one (ds_if (dt_not (dt_tru (de_call C_law_truths (hr.mono (by decide)) (by rfl) (da_cons (de_lst (da_cons (de_call C_are_rooms (hr.mono (by decide)) (by rfl) (da_cons (de_var (i := 3)) (da_cons (de_var (i := 8)) da_nil))) da_nil)) (da_cons (de_lst (da_cons (de_call C_law_are_rooms (hr.mono (by decide)) (by rfl) (da_cons (de_var (i := 3)) (da_cons (de_var (i := 8)) da_nil))) da_nil)) da_nil))))) (dss_one (ds_ret de_bl)) dss_nil))))) (dss_one (ds_for PassesOwn.never rfl (di_sq (de_var (i := 4))) (dg_tup rfl (dgs_cons (dg_name (i := 9) sc_law.nd) (dgs_cons (dg_name (i := 10) sc_law.nd) dgs_nil))) (dss_cons (ds_setLc (i := 11) (own := [("_law_of", 13)]) (W' := E0W) fin_frozen rfl sc_law.nd (di_sq (de_var (i := 5))) (blkOk_by (own := [("_law_of", 13)]) (N := n_law) (sc := defScope s_law) (by decide +kernel)) (fun _ _ _ _ _ => (dg_name (i := 13) sc_law.nd)) (fun _ _ _ _ _ => dts_nil) (fun _ _ _ _ _ => (de_calm (de_callXN takesF C_fX_serves (hr.mono (by decide)) (by rfl) (da_cons (de_var (i := 4)) (da_cons (de_var (i := 9)) (da_cons (de_var (i := 13)) da_nil)))))) (by decide)) (dss_cons (ds_if (dt_not (dt_tru (de_call C_law_truths (hr.mono (by decide)) (by rfl) (da_cons (de_var (i := 11)) (da_cons (de_lc (own := [("_law_of", 13)]) (W' := E0W) fin_frozen rfl sc_law.nd (di_sq (de_var (i := 5))) (blkOk_by (own := [("_law_of", 13)]) (N := n_law) (sc := defScope s_law) (by decide +kernel)) (fun _ _ _ _ _ => (dg_name (i := 13) sc_law.nd)) (fun _ _ _ _ _ => dts_nil) (fun _ _ _ _ _ => (de_call C_law_share (hr.mono (by decide)) (by rfl) (da_cons (de_var (i := 10)) (da_cons (de_var (i := 13)) da_nil)))) (by decide)) da_nil))))) (dss_one (ds_ret de_bl)) dss_nil) (dss_one (ds_for PassesOwn.never rfl (di_sq (de_lst (da_cons (de_call C_law_text_bent (hr.mono (by decide)) (by rfl) (da_cons (de_var (i := 2)) (da_cons (de_var (i := 9)) da_nil))) (da_cons (de_call C_law_odd (hr.mono (by decide)) (by rfl) (da_cons (de_var (i := 2)) da_nil)) (da_cons (de_tup (da_cons (de_var (i := 9)) da_nil)) (da_cons (de_op od_add (de_var (i := 9)) de_str) da_nil)))))) (dg_name (i := 8) sc_law.nd) (dss_cons (ds_set (i := 12) sc_law.nd (de_if (dt_cmp (od_inY hr) (de_var (i := 8)) (de_lc (own := [("_law_room", 14)]) (W' := E0W) fin_frozen rfl sc_law.nd (di_sq (de_var (i := 4))) (blkOk_by (own := [("_law_room", 14)]) (N := n_law) (sc := defScope s_law) (by decide +kernel)) (fun _ _ _ _ _ => (dg_name (i := 14) sc_law.nd)) (fun _ _ _ _ _ => dts_nil) (fun _ _ _ _ _ => (de_ix (de_var (i := 14)) de_int)) (by decide)) (by rfl)) (de_tup (da_cons de_str (da_cons de_non da_nil))) (de_tup (da_cons de_str (da_cons (de_var (i := 8)) da_nil))))) (dss_one (ds_if (dt_cmp (od_neM hr) (de_callB (cd_reprY hg hr) (by rfl) T.z_repr bt_repr (da_cons (de_refuse (k := 5) R hTab TB (hr.mono (by decide)) (by rfl) rfl rfl (LamX.lamS_by (sc := defScope s_law) (by decide +kernel)) (fun A outer s H E f c1 hr tk => (de_callXN tk C_fX_serves (hr.mono (by decide)) (by rfl) (da_cons (de_var (i := 4)) (da_cons (de_var (i := 8)) (da_cons (de_var (i := 3)) da_nil)))))) da_nil)) (de_callB (cd_reprY hg hr) (by rfl) T.z_repr bt_repr (da_cons (de_var (i := 12)) da_nil)) (nomark _)) (dss_one (ds_ret de_bl)) dss_nil))))))))))))))) (dss_one (ds_ret de_bl)))
local macro_rules | `(tactic| walk_at "go") => `(tactic| first
  | with_reducible refine v_seq ?_ | with_reducible refine v_thn ?_ | with_reducible refine v_thr ?_ | with_reducible refine v_asg ?_ | with_reducible refine v_ret ?_ | with_reducible refine v_op ?_ | with_reducible refine v_cons ?_ | with_reducible refine v_nil ?_ | with_reducible refine v_call ?_ | (with_reducible refine v_var (by with_unfolding_all rfl) ?_) | with_reducible refine v_c ?_ | with_reducible refine v_tst ?_ | with_reducible refine v_tru ?_
  | with_reducible refine v_tup ?_ | with_reducible refine v_lst ?_ | with_reducible refine v_lstM ?_ | with_reducible refine v_nx ?_ | with_reducible refine v_setL ?_ | with_reducible refine v_par ?_ | with_reducible refine v_neg ?_ | with_reducible refine v_rev ?_ | with_reducible refine v_sl ?_ | with_reducible refine v_none ?_ | with_reducible refine v_some ?_ | with_reducible refine v_not ?_ | with_reducible refine v_or ?_ | with_reducible refine v_and ?_
  | with_reducible refine v_fn ?_ | with_reducible refine v_fnK ?_ | with_reducible refine v_andV ?_ | with_reducible refine v_chain ?_ | with_reducible refine v_if ?_ | with_reducible refine v_upper ?_ | with_reducible refine v_dict0 ?_ | with_reducible refine v_dict1 ?_
  | with_reducible refine Exists.intro _ (And.intro add_ii ?_) | with_reducible refine Exists.intro _ (And.intro sub_ii ?_) | with_reducible refine Exists.intro _ (And.intro lt_ii ?_) | with_reducible refine Exists.intro _ (And.intro le_ii ?_) | with_reducible refine Exists.intro _ (And.intro gt_ii ?_) | with_reducible refine Exists.intro _ (And.intro ge_ii ?_) | with_reducible refine Exists.intro _ (And.intro (Eq.refl (D.bl _)) ?_) | with_reducible refine Exists.intro _ (And.intro (Eq.refl (D.int _)) ?_) | with_reducible refine Exists.intro _ (And.intro (Eq.refl (D.str _)) ?_) | with_reducible refine Exists.intro _ (And.intro tru_b ?_) | with_reducible refine Exists.intro _ (And.intro blen_l ?_) | with_reducible refine Exists.intro _ (And.intro blen_t ?_) | with_reducible refine Exists.intro _ (And.intro blen_sc ?_)
  | (with_reducible refine And.intro (show _ ≤ 100000 by simp) ?_))
local macro_rules | `(tactic| walk_at "gos") => `(tactic| repeat walk_at "go")
/-! ### what of the memory stays -/
/-- new things alone -/
def Gr (M M' : Mem) : Prop := ∃ T, M' = M ++ T
/-- all old things but that at n stay -/
def Kp (n : Nat) (M M' : Mem) : Prop := M.length ≤ M'.length ∧ ∀ j, j < M.length → j ≠ n → M'[j]? = M[j]?
theorem Gr.refl (M : Mem) : Gr M M := ⟨[], by simp⟩
theorem Gr.trans {A B C : Mem} (h : Gr A B) (h' : Gr B C) : Gr A C := by
  obtain ⟨T, rfl⟩ := h
  obtain ⟨U, rfl⟩ := h'
  exact ⟨T ++ U, by simp⟩
theorem Gr.app (M T : Mem) : Gr M (M ++ T) := ⟨T, rfl⟩
theorem Gr.len {M M' : Mem} (h : Gr M M') : M.length ≤ M'.length := by
  obtain ⟨T, rfl⟩ := h
  simp
theorem Gr.at {M M' : Mem} (h : Gr M M') {j : Nat} {o : Ob} (e : M[j]? = some o) : M'[j]? = some o := by
  obtain ⟨T, rfl⟩ := h
  rw [List.getElem?_append_left (List.getElem?_eq_some_iff.mp e).1]
  exact e
/-- a new thing changes -/
theorem Gr.set {M M' : Mem} (h : Gr M M') {j : Nat} {o : Ob} (hj : M.length ≤ j) : Gr M (M'.set j o) := by
  obtain ⟨T, rfl⟩ := h
  refine ⟨T.set (j - M.length) o, ?_⟩
  rw [List.set_append_right _ _ hj]
theorem Gr.kp {M M' : Mem} (h : Gr M M') (n : Nat) : Kp n M M' := by
  obtain ⟨T, rfl⟩ := h
  exact ⟨by simp, fun j hj _ => List.getElem?_append_left hj⟩
theorem Kp.refl (n : Nat) (M : Mem) : Kp n M M := ⟨Nat.le_refl _, fun _ _ _ => rfl⟩
theorem Kp.trans {n : Nat} {A B C : Mem} (h : Kp n A B) (h' : Kp n B C) : Kp n A C :=
  ⟨Nat.le_trans h.1 h'.1, fun j hj hn => (h'.2 j (Nat.lt_of_lt_of_le hj h.1) hn).trans (h.2 j hj hn)⟩
theorem Kp.put (n : Nat) (M : Mem) (o : Ob) : Kp n M (M.set n o) := ⟨by simp, fun j _ hn => List.getElem?_set_ne (Ne.symm hn)⟩
theorem Kp.at {n : Nat} {M M' : Mem} (h : Kp n M M') {j : Nat} {o : Ob} (hn : j ≠ n) (e : M[j]? = some o) : M'[j]? = some o := by
  rw [h.2 j (List.getElem?_eq_some_iff.mp e).1 hn]
  exact e
/-- what is behind the old things changes -/
theorem Kp.set {n : Nat} {M M' : Mem} (h : Kp n M M') {j : Nat} {o : Ob} (hj : M.length ≤ j) : Kp n M (M'.set j o) :=
  ⟨by simpa using h.1, fun i hi hn => by rw [List.getElem?_set_ne (by omega)]; exact h.2 i hi hn⟩
def bagOb (a b c : Int) : Ob := .lst [.int a, .int b, .int c]
def BagAt (M : Mem) (n : Nat) (N : Int) : Prop := ∃ a b c, M[n]? = some (bagOb a b c) ∧ 0 ≤ b ∧ b < 2 ^ 64 ∧ 0 ≤ c ∧ c ≤ N ∧ N < 2 ^ 40
theorem pw_small {x : Int} (h : x.natAbs < 2 ^ 200) : x.natAbs < 2 ^ 10000 := Nat.lt_of_lt_of_le h (Nat.pow_le_pow_right (by decide) (by decide))
def primesD : List D := [.int 2147483647, .int 2147483629, .int 2147483587, .int 2147483579, .int 2147483563, .int 2147483549, .int 2147483543, .int 2147483497]
theorem prime_at {i : Int} (h0 : 0 ≤ i) (h1 : i < 8) : ∃ p, atI primesD i = some (.int p) ∧ 2147483000 < p ∧ p < 2147483648 := by
  obtain ⟨k, rfl⟩ := Int.eq_ofNat_of_zero_le h0
  rw [ix_nat]
  have hk : k < 8 := by omega
  match k, hk with
  | 0, _ => exact ⟨_, rfl, by decide⟩
  | 1, _ => exact ⟨_, rfl, by decide⟩
  | 2, _ => exact ⟨_, rfl, by decide⟩
  | 3, _ => exact ⟨_, rfl, by decide⟩
  | 4, _ => exact ⟨_, rfl, by decide⟩
  | 5, _ => exact ⟨_, rfl, by decide⟩
  | 6, _ => exact ⟨_, rfl, by decide⟩
  | 7, _ => exact ⟨_, rfl, by decide⟩
structure Took (k : Int) (n : Nat) (N : Int) (M : Mem) (d : D) (M' : Mem) : Prop where
  ex : ∃ r, d = .int r ∧ 0 ≤ r ∧ r < k ∧ BagAt M' n (N + 1) ∧ Kp n M M'
theorem take_ok {M : Mem} {n : Nat} {k N : Int} (h : BagAt M n N) (hN : N + 1 < 2 ^ 40) (hk : 0 < k) (hk2 : k < 1073741824) : Gv (f_law_take [.ptr n, .int k] M) fun d M' => Took k n N M d M' := by
  obtain ⟨a, b, c, hM, h0, h1, h2, h3, h4⟩ := h
  have hl : n < M.length := (List.getElem?_eq_some_iff.mp hM).1
  refine v_body rfl ?_
  unfold b_law_take
  walk_at "gos"
  refine v_ifS ?_
  walk_at "gos"
  refine ⟨.int a, by rw [ix_p hM, ix_0]; rfl, ?_⟩
  walk_at "gos"
  by_cases ha : 0 < a
  · rw [if_pos (by simpa using ha)]
    walk_at "gos"
    refine ⟨.int a, by rw [ix_p hM, ix_0]; rfl, ?_⟩
    walk_at "gos"
    refine ⟨_, mod_ii hk, ?_⟩
    walk_at "gos"
    refine ⟨.int a, by rw [ix_p hM, ix_0]; rfl, ?_⟩
    walk_at "gos"
    refine ⟨_, div_ii hk hk2, ?_⟩
    walk_at "gos"
    refine ⟨n, _, 0, 0, rfl, rfl, hM, rfl, ?_⟩
    walk_at "gos"
    refine ⟨⟨_, rfl, Int.emod_nonneg _ (by omega), Int.emod_lt_of_pos _ hk, ⟨a / k, b, c, ?_, h0, h1, h2, by omega, hN⟩, Kp.put _ _ _⟩⟩
    rw [List.getElem?_set_self hl]
    rfl
  · rw [if_neg (by simpa using ha)]
    walk_at "gos"
    refine ⟨.int c, by rw [ix_p hM, ix_2]; rfl, ?_⟩
    walk_at "gos"
    refine ⟨n, _, 2, 2, rfl, rfl, hM, rfl, ?_⟩
    have hM' : (M.set n (.lst (([.int a, .int b, .int c] : List D).set 2 (.int (c + 1)))))[n]? = some (.lst [.int a, .int b, .int (c + 1)]) := by
      rw [List.getElem?_set_self hl]
      rfl
    have hkp : Kp n M (M.set n (.lst (([.int a, .int b, .int c] : List D).set 2 (.int (c + 1))))) := Kp.put _ _ _
    generalize M.set n (.lst (([.int a, .int b, .int c] : List D).set 2 (.int (c + 1)))) = M' at hM' hkp
    walk_at "gos"
    refine ⟨.int (c + 1), by rw [ix_p hM', ix_2]; rfl, ?_⟩
    walk_at "gos"
    refine ⟨.int b, by rw [ix_p hM', ix_1]; rfl, ?_⟩
    walk_at "gos"
    refine ⟨_, mul_l (by decide) (by decide), ?_⟩
    walk_at "gos"
    refine ⟨_, mul_l (by omega) h1, ?_⟩
    walk_at "gos"
    refine ⟨_, mul_l (by decide) (by decide), ?_⟩
    walk_at "gos"
    refine ⟨_, mul_r (by omega) (by omega), ?_⟩
    walk_at "gos"
    have hp1 : b * (2 * (c + 1) + 1) ≤ 2 ^ 64 * 2 ^ 42 := Int.mul_le_mul (by omega) (by omega) (by omega) (by omega)
    have hp0 : 0 ≤ b * (2 * (c + 1) + 1) := Int.mul_nonneg h0 (by omega)
    have hp3 : 6121 * (c + 1) * (c + 1) ≤ 2 ^ 60 * 2 ^ 41 := Int.mul_le_mul (by omega) (by omega) (by omega) (by omega)
    have hp2 : 0 ≤ 6121 * (c + 1) * (c + 1) := Int.mul_nonneg (by omega) (by omega)
    generalize b * (2 * (c + 1) + 1) = u at hp0 hp1
    generalize 6121 * (c + 1) * (c + 1) = v at hp2 hp3
    refine ⟨_, pow_ii ⟨by decide, by decide, pw_small (by omega)⟩, ?_⟩
    generalize (u + v + 41) ^ Int.toNat 3 = z
    walk_at "gos"
    refine ⟨_, mod_ii (by decide), ?_⟩
    have m8 : 0 ≤ (c + 1) % 8 ∧ (c + 1) % 8 < 8 := ⟨Int.emod_nonneg _ (by decide), Int.emod_lt_of_pos _ (by decide)⟩
    have m9 : 0 ≤ (c + 1 + 3) % 8 ∧ (c + 1 + 3) % 8 < 8 := ⟨Int.emod_nonneg _ (by decide), Int.emod_lt_of_pos _ (by decide)⟩
    obtain ⟨p1, e1, q1⟩ := prime_at m8.1 m8.2
    obtain ⟨p2, e2, q2⟩ := prime_at m9.1 m9.2
    refine ⟨.int p1, by rw [ix_t]; exact e1, ?_⟩
    refine ⟨_, mod_ii (by omega), ?_⟩
    have hz : 0 ≤ z % p1 ∧ z % p1 < p1 := ⟨Int.emod_nonneg _ (by omega), Int.emod_lt_of_pos _ (by omega)⟩
    generalize z % p1 = y at hz
    walk_at "gos"
    refine ⟨_, div_ii (by decide) (by decide), ?_⟩
    walk_at "gos"
    refine ⟨_, mul_l (by omega) (by omega), ?_⟩
    walk_at "gos"
    refine ⟨_, mod_ii (by decide), ?_⟩
    refine ⟨.int p2, by rw [ix_t]; exact e2, ?_⟩
    refine ⟨_, mod_ii (by omega), ?_⟩
    walk_at "gos"
    refine ⟨_, div_ii (by decide) (by decide), ?_⟩
    walk_at "gos"
    refine ⟨_, mod_ii hk, ?_⟩
    exact ⟨⟨_, rfl, Int.emod_nonneg _ (by omega), Int.emod_lt_of_pos _ hk, ⟨a, b, c + 1, hM', h0, h1, by omega, by omega, hN⟩, hkp⟩⟩
theorem b01 (b : Bool) : -(2 ^ 64) < (if b = true then (1 : Int) else 0) ∧ (if b = true then (1 : Int) else 0) < 2 ^ 64 := by
  cases b <;> decide
theorem bag_ok {M : Mem} {ns : List Int} {k : Nat} (hk : k ≤ 1000) : Gv (f_law_bag [.scr ns, .int k] M) fun d M' => d = .ptr M.length ∧ BagAt M' M.length 0 ∧ Gr M M' := by
  refine v_body rfl ?_
  unfold b_law_bag
  walk_at "gos"
  refine ⟨_, mul_l (by decide) (by decide), ?_⟩
  walk_at "gos"
  refine Gv.imp (P := fun fl M1 => (∃ cell : Int, fl = Fl.nx [some (D.scr ns), some (D.int k), some (D.int cell), none]) ∧ M1 = M) (v_ifS ?_) ?_
  · walk_at "gos"
    by_cases h : k < ns.length
    · rw [if_pos (by simpa using h)]
      walk_at "gos"
      refine ⟨_, by rw [ix_sc, ix_nat, List.getElem?_eq_getElem h]; rfl, ?_⟩
      exact ⟨⟨_, rfl⟩, rfl⟩
    · rw [if_neg (by simpa using h)]
      walk_at "gos"
      exact ⟨⟨_, rfl⟩, rfl⟩
  · rintro _ _ ⟨⟨cell, rfl⟩, rfl⟩
    walk_at "gos"
    refine ⟨_, babs, ?_⟩
    walk_at "gos"
    refine ⟨_, pow_ii ⟨by decide, by decide, pw_small (by decide)⟩, ?_⟩
    walk_at "gos"
    refine ⟨_, bint_b, ?_⟩
    refine ⟨_, mul_r (b01 _).1 (b01 _).2, ?_⟩
    walk_at "gos"
    refine ⟨_, mod_ii (by decide), ?_⟩
    walk_at "gos"
    refine ⟨_, mul_l (by decide) (by decide), ?_⟩
    walk_at "gos"
    refine ⟨_, mul_r (by omega) (by omega), ?_⟩
    walk_at "gos"
    refine ⟨_, mul_l (by decide) (by decide), ?_⟩
    walk_at "gos"
    refine ⟨rfl, ⟨_, _, _, by rw [List.getElem?_append_right (Nat.le_refl _)]; simp; rfl, ?_, ?_, by decide, by decide, by decide⟩, Gr.app _ _⟩
    · have h1 : 0 ≤ cell % 1000000000000000003 := Int.emod_nonneg _ (by decide)
      have h2 : 0 ≤ 7919 * (k : Int) * (k : Int) := Int.mul_nonneg (by omega) (by omega)
      omega
    · have h1 : cell % 1000000000000000003 < 1000000000000000003 := Int.emod_lt_of_pos _ (by decide)
      have h2 : 7919 * (k : Int) * (k : Int) ≤ 7919000 * 1000 := Int.mul_le_mul (by omega) (by omega) (by omega) (by omega)
      omega
theorem BagAt.gr {M M' : Mem} {n : Nat} {N : Int} (h : BagAt M n N) (g : Gr M M') : BagAt M' n N := by
  obtain ⟨a, b, c, hM, r⟩ := h
  exact ⟨a, b, c, g.at hM, r⟩
theorem BagAt.set {M : Mem} {n m : Nat} {N : Int} {o : Ob} (h : BagAt M n N) (hm : m ≠ n) : BagAt (M.set m o) n N := by
  obtain ⟨a, b, c, hM, r⟩ := h
  exact ⟨a, b, c, by rw [List.getElem?_set_ne hm]; exact hM, r⟩
theorem BagAt.lt {M : Mem} {n : Nat} {N : Int} (h : BagAt M n N) : n < M.length := by
  obtain ⟨a, b, c, hM, r⟩ := h
  exact (List.getElem?_eq_some_iff.mp hM).1
theorem BagAt.up {M : Mem} {n : Nat} {N N' : Int} (h : BagAt M n N) (h1 : N ≤ N') (h2 : N' < 2 ^ 40) : BagAt M n N' := by
  obtain ⟨a, b, c, hM, h0, h1', h2', h3, h4⟩ := h
  exact ⟨a, b, c, hM, h0, h1', h2', by omega, h2⟩
def abcL : List Nat := ("abcdefghijklmnopqrstuvwxyz" : Str).cps.toList
/-- letters alone -/
def Lett (s : Str) : Prop := ∀ c ∈ s.cps.toList, c ∈ abcL
theorem lett_one {c : Nat} (h : c ∈ ("abcdefghijklmnopqrstuvwxyz" : Str).cps.toList) : Lett ⟨#[c]⟩ := fun d hd => by
  have : d = c := by simpa using hd
  subst this
  exact h
/-- so many signs drawn -/
theorem signs_ok {M : Mem} {n : Nat} {N : Int} {m : Nat} {η : Dv} (h : BagAt M n N) (hN : N + m < 2 ^ 40) (h0 : η[0]? = some (some (.ptr n))) (h2 : η[2]? = some (some (.str "abcdefghijklmnopqrstuvwxyz"))) :
    Gv (xLcL (xgName 6) xYes (xOp dIx (xVar 2) (xFn 2 f_law_take (xCons (xVar 0) (xCons (xC (.int 26)) xNil)))) ((List.range m).map fun i => .int (i : Nat)) η M) fun r M1 => (∃ ss : List Str, r = ss.map D.str ∧ ss.length = m ∧ (∀ s ∈ ss, s.length = 1) ∧ ∀ s ∈ ss, Lett s) ∧ BagAt M1 n (N + m) ∧ Kp n M M1 := by
  refine (v_lcL (fun rest acc M1 => ∃ ss : List Str, acc = ss.map D.str ∧ ss.length + rest.length = m ∧ (∀ s ∈ ss, s.length = 1) ∧ (∀ s ∈ ss, Lett s) ∧ BagAt M1 n (N + ss.length) ∧ Kp n M M1) _ ?_ [] ⟨[], rfl, by simp, by simp, by simp, by simpa using h, Kp.refl _ _⟩).imp ?_
  · rintro d r acc M1 ⟨ss, rfl, hl, hs, hq, hb, kp⟩
    refine v_gn (v_yes ?_)
    rw [if_pos rfl]
    simp only [List.length_cons] at hl
    refine v_op (v_var (by rw [List.getElem?_set_ne (by decide)]; exact h2) ?_)
    refine v_fn (v_cons (v_var (by rw [List.getElem?_set_ne (by decide)]; exact h0) (v_cons (v_c (v_nil ⟨rfl, ?_⟩)))))
    refine (take_ok hb (by omega) (by decide) (by decide)).imp ?_
    rintro _ M2 ⟨⟨x, rfl, x0, x1, hb2, kp2⟩⟩
    obtain ⟨c, e, hcm⟩ := ix_in (l := ("abcdefghijklmnopqrstuvwxyz" : Str).cps.toList) x0 x1
    refine ⟨.str ⟨#[c]⟩, by rw [ix_s (by decide), e]; rfl, ?_⟩
    refine ⟨ss ++ [⟨#[c]⟩], by simp, by simp; omega, ?_, ?_, ?_, kp.trans kp2⟩
    · intro s hs'
      rcases List.mem_append.mp hs' with q | q
      · exact hs s q
      · simp at q; subst q; rfl
    · intro s hs'
      rcases List.mem_append.mp hs' with q | q
      · exact hq s q
      · rw [List.mem_singleton.mp q]
        exact lett_one hcm
    · have : N + ((ss ++ [(⟨#[c]⟩ : Str)]).length : Int) = N + ss.length + 1 := by simp; omega
      rw [this]; exact hb2
  · rintro r M1 ⟨ss, e, hl, hs, hq, hb, kp⟩
    simp at hl
    simp at e
    subst e
    exact ⟨⟨ss, rfl, hl, hs, hq⟩, by rw [← hl]; exact hb, kp⟩
theorem join_len {ss : List Str} (h : ∀ s ∈ ss, s.length = 1) : (Txt.join "" ss).length = ss.length := by
  show (Builtin.Str.glued "" ss).length = _
  rw [PySem.size_glued]
  have e : ((("" : Str)).length) = 0 := rfl
  rw [e, Nat.mul_zero, Nat.add_zero]
  induction ss with
  | nil => rfl
  | cons a l ih =>
    rw [List.map_cons, List.sum_cons, h a (List.mem_cons_self ..), ih fun s hs => h s (List.mem_cons_of_mem _ hs), List.length_cons]
    omega
theorem sum_len {ss : List Str} (h : ∀ s ∈ ss, s.length = 1) : (ss.map fun (q : Str) => q.length).sum = ss.length := by
  induction ss with
  | nil => rfl
  | cons a l ih =>
    rw [List.map_cons, List.sum_cons, h a (List.mem_cons_self ..), ih fun s hs => h s (List.mem_cons_of_mem _ hs), List.length_cons]
    omega
theorem join_cap {ss : List Str} (h : ∀ s ∈ ss, s.length = 1) (h1 : ss.length ≤ 1000) : (ss.map fun (q : Str) => q.length).sum + ss.length * ("" : Str).length ≤ 16777216 := by
  have e : ("" : Str).length = 0 := rfl
  rw [sum_len h, e]
  omega
theorem len_append (s t : Str) : (s ++ t).length = s.length + t.length := by
  show (s.cps ++ t.cps).size = s.cps.size + t.cps.size
  exact Array.size_append
theorem abc_nodup : abcL.Nodup := by decide +kernel
theorem abc_len : abcL.length = 26 := by decide +kernel
theorem cps_append (s t : Str) : (s ++ t).cps.toList = s.cps.toList ++ t.cps.toList := by
  show (s.cps ++ t.cps).toList = _
  simp
theorem lt_cps : ∀ a b : List Nat, PySem.Spec.ltCps a b = decide (a < b)
  | [], [] => by simp [PySem.Spec.ltCps]
  | [], _ :: _ => by simp [PySem.Spec.ltCps]
  | _ :: _, [] => by simp [PySem.Spec.ltCps]
  | a :: r, b :: t => by
    have ih := lt_cps r t
    simp only [PySem.Spec.ltCps, ih]
    rw [Bool.eq_iff_iff]
    simp [List.cons_lt_cons_iff]
theorem names_nodup {ss : List Str} {fi : Int} {p : Nat} (hl : ss.length ≤ 26) (h : ∀ (q : Nat) (s : Str), ss[q]? = some s → s.cps.toList[p]? = abcL[((fi + 5 * (q : Int)) % 26).toNat]?) : ss.Nodup := by
  rw [List.Nodup, List.pairwise_iff_getElem]
  intro i j hi hj hij e
  have h1 := h i _ (List.getElem?_eq_getElem hi)
  have h2 := h j _ (List.getElem?_eq_getElem hj)
  rw [e, h2] at h1
  have b1 : ((fi + 5 * (i : Int)) % 26).toNat < abcL.length := by rw [abc_len]; omega
  have b2 : ((fi + 5 * (j : Int)) % 26).toNat < abcL.length := by rw [abc_len]; omega
  rw [List.getElem?_eq_getElem b1, List.getElem?_eq_getElem b2] at h1
  have := (List.getElem_inj abc_nodup).mp (Option.some.inj h1)
  omega
/-- no name is empty, or stands ahead in another one -/
def PfN (ss : List Str) : Prop := (∀ a ∈ ss, a ≠ "") ∧ ∀ a ∈ ss, ∀ b ∈ ss, ∀ t, b = a ++ t → b = a
theorem names_pfx {ss : List Str} {fi : Int} {p : Nat} (hl : ss.length ≤ 26) (h : ∀ (q : Nat) (s : Str), ss[q]? = some s → s.cps.toList[p]? = abcL[((fi + 5 * (q : Int)) % 26).toNat]?) : PfN ss := by
  refine ⟨fun a ha e => ?_, fun a ha b hb t e => ?_⟩
  · obtain ⟨i, hi, ea⟩ := List.mem_iff_getElem.mp ha
    have h1 := h i a (by rw [List.getElem?_eq_getElem hi, ea])
    have b1 : ((fi + 5 * (i : Int)) % 26).toNat < abcL.length := by rw [abc_len]; omega
    rw [List.getElem?_eq_getElem b1, e] at h1
    have := (List.getElem?_eq_some_iff.mp h1).1
    have h0 : ("" : Str).cps.toList.length = 0 := by decide +kernel
    omega
  obtain ⟨i, hi, ea⟩ := List.mem_iff_getElem.mp ha
  obtain ⟨j, hj, eb⟩ := List.mem_iff_getElem.mp hb
  have h1 := h i a (by rw [List.getElem?_eq_getElem hi, ea])
  have h2 := h j b (by rw [List.getElem?_eq_getElem hj, eb])
  have b1 : ((fi + 5 * (i : Int)) % 26).toNat < abcL.length := by rw [abc_len]; omega
  have b2 : ((fi + 5 * (j : Int)) % 26).toNat < abcL.length := by rw [abc_len]; omega
  rw [List.getElem?_eq_getElem b1] at h1
  have hp := (List.getElem?_eq_some_iff.mp h1).1
  rw [e, cps_append, List.getElem?_append_left hp, h1, List.getElem?_eq_getElem b2] at h2
  have := (List.getElem_inj abc_nodup).mp (Option.some.inj h2)
  have hij : i = j := by omega
  subst hij
  rw [← ea, ← eb]
theorem srt_up {ss : List Str} (h : ss.Nodup) : (srt ss).Pairwise fun a b => a.cps.toList < b.cps.toList := by
  have h1 : (srt ss).Pairwise fun a b => leS a b = true := List.pairwise_mergeSort (le := leS) leS_trans leS_total ss
  have h2 : (srt ss).Pairwise fun a b => a ≠ b := (srt_perm ss).nodup_iff.mpr h
  refine (h1.and h2).imp fun {a b} ⟨q1, q2⟩ => ?_
  unfold leS at q1
  by_cases hc : PySem.Spec.ltCps a.cps.toList b.cps.toList = true
  · rw [lt_cps] at hc
    simpa using hc
  · exact absurd (PySem.W.str_of_cps (ltCps_anti _ _ (by simpa using hc) (by simpa using q1))) q2
/-- a name -/
def Nm (s : Str) : Prop := 1 ≤ s.length ∧ s.length ≤ 8 ∧ Lett s
theorem lett_app {s t : Str} (h : Lett s) (h' : Lett t) : Lett (s ++ t) := fun c hc => by
  rw [cps_append] at hc
  rcases List.mem_append.mp hc with hc | hc
  · exact h c hc
  · exact h' c hc
theorem join_sub : ∀ {l : List (List Nat)} {c : Nat}, c ∈ TL.joinL [] l → ∃ x ∈ l, c ∈ x
  | [], c, h => by simp [TL.joinL] at h
  | [x], c, h => by simp [TL.joinL] at h; exact ⟨x, by simp, h⟩
  | x :: y :: l, c, h => by
    simp only [TL.joinL, List.nil_append, List.append_nil, List.mem_append] at h
    rcases h with h | h
    · exact ⟨x, by simp, h⟩
    · obtain ⟨z, hz, hc⟩ := join_sub (l := y :: l) h
      exact ⟨z, List.mem_cons_of_mem _ hz, hc⟩
theorem lett_join {ss : List Str} (h : ∀ s ∈ ss, Lett s) : Lett (Txt.join "" ss) := fun c hc => by
  rw [TL.join_eq] at hc
  have hc' : c ∈ TL.tl (Str.join "" ss) := hc
  rw [TL.tl_join] at hc'
  obtain ⟨x, hx, hc2⟩ := join_sub hc'
  obtain ⟨s, hs, rfl⟩ := List.mem_map.mp hx
  exact h s hs c hc2
theorem lett_cut {s : Str} {a b : Option Int} (h : Lett s) : Lett (cutS s a b) := fun c hc => h c (by
  have : (cutS s a b).cps.toList = List.take (HT.sIx s.length s.length b - HT.sIx s.length 0 a) (List.drop (HT.sIx s.length 0 a) s.cps.toList) := by simp [cutS]
  rw [this] at hc
  exact List.mem_of_mem_drop (List.mem_of_mem_take hc))
def NamesPf (k : Nat) (d : D) : Prop := ∃ ss : List Str, d = .lst (ss.map D.str) ∧ ss.length = k ∧ (∀ s ∈ ss, s.length ≤ 8) ∧ (ss.Pairwise fun a b => a.cps.toList < b.cps.toList) ∧ PfN ss ∧ ∀ s ∈ ss, Nm s
theorem names_pf {M : Mem} {n : Nat} {N : Int} {k : Nat} (h : BagAt M n N) (hN : N + 10 < 2 ^ 40) (hk : k ≤ 26) : Gv (f_law_names [.ptr n, .int k] M) fun d M' => NamesPf k d ∧ BagAt M' n (N + 10) ∧ Kp n M M' := by
  refine v_body rfl ?_
  unfold b_law_names
  walk_at "gos"
  refine v_join (v_c ⟨_, rfl, v_lc (v_rng ?_)⟩)
  walk_at "gos"
  refine ⟨rfl, (take_ok h (by omega) (by decide) (by decide)).imp ?_⟩
  rintro _ M1 ⟨⟨x, rfl, x0, x1, hb1, kp1⟩⟩
  walk_at "gos"
  obtain ⟨m1, rfl⟩ := Int.eq_ofNat_of_zero_le x0
  refine ⟨m1, rfl, by omega, by simp; omega, (signs_ok hb1 (by omega) rfl rfl).imp ?_⟩
  rintro _ M2 ⟨⟨ss1, rfl, l1, u1, v1⟩, hb2, kp2⟩
  refine ⟨ss1, rfl, join_cap u1 (by omega), ?_⟩
  have jl1 := join_len u1
  have jt1 := lett_join v1
  generalize Txt.join "" ss1 = ahead at jl1 jt1
  walk_at "gos"
  refine v_join (v_c ⟨_, rfl, v_lc (v_rng ?_)⟩)
  walk_at "gos"
  refine ⟨rfl, (take_ok hb2 (by omega) (by decide) (by decide)).imp ?_⟩
  rintro _ M3 ⟨⟨x, rfl, x0, x1, hb3, kp3⟩⟩
  walk_at "gos"
  obtain ⟨m2, rfl⟩ := Int.eq_ofNat_of_zero_le x0
  refine ⟨m2, rfl, by omega, by simp; omega, (signs_ok hb3 (by omega) rfl rfl).imp ?_⟩
  rintro _ M4 ⟨⟨ss2, rfl, l2, u2, v2⟩, hb4, kp4⟩
  refine ⟨ss2, rfl, join_cap u2 (by omega), ?_⟩
  have jl2 := join_len u2
  have jt2 := lett_join v2
  generalize Txt.join "" ss2 = behind at jl2 jt2
  walk_at "gos"
  refine ⟨rfl, (take_ok hb4 (by omega) (by decide) (by decide)).imp ?_⟩
  rintro _ M5 ⟨⟨fi, rfl, f0, f1, hb5, kp5⟩⟩
  walk_at "gos"
  refine v_lc (v_rng ?_)
  walk_at "gos"
  refine ⟨k, rfl, by omega, by simp; omega, ?_⟩
  refine (v_lcL (fun rest acc M1 => ∃ ss : List Str, acc = ss.map D.str ∧ ss.length + rest.length = k ∧ (∀ s ∈ ss, Nm s) ∧ M1 = M5 ∧ (∀ (q : Nat) (d : D), rest[q]? = some d → d = .int ((ss.length + q : Nat) : Int)) ∧
      ∀ (q : Nat) (s : Str), ss[q]? = some s → s.cps.toList[ahead.length]? = abcL[((fi + 5 * (q : Int)) % 26).toNat]?) _ ?_ [] ⟨[], rfl, by simp, by simp, rfl, ?_, by simp⟩).imp ?_
  · rintro d r acc M1 ⟨ss, rfl, hl, hs, rfl, hr, hq⟩
    obtain rfl : d = .int ((ss.length : Nat) : Int) := by simpa using hr 0 d rfl
    have hj : ss.length < 26 := by simp at hl; omega
    generalize ej : ss.length = j at hj
    refine v_gn (v_yes ?_)
    rw [if_pos rfl]
    walk_at "gos"
    refine ⟨_, mul_l (by decide) (by decide), ?_⟩
    walk_at "gos"
    refine ⟨_, mod_ii (by decide), ?_⟩
    obtain ⟨c, e, hcm⟩ := ix_in (l := ("abcdefghijklmnopqrstuvwxyz" : Str).cps.toList) (i := (fi + 5 * (j : Int)) % 26) (Int.emod_nonneg _ (by decide)) (Int.emod_lt_of_pos _ (by decide))
    refine ⟨.str ⟨#[c]⟩, by rw [ix_s (by decide), e]; rfl, ?_⟩
    have ec : abcL[((fi + 5 * (j : Int)) % 26).toNat]? = some c := by
      have h0 : 0 ≤ (fi + 5 * (j : Int)) % 26 := Int.emod_nonneg _ (by decide)
      have e2 := e
      rw [show (fi + 5 * (j : Int)) % 26 = ((((fi + 5 * (j : Int)) % 26).toNat : Nat) : Int) by omega, ix_nat] at e2
      exact e2
    have lc : (⟨#[c]⟩ : Str).length = 1 := rfl
    have lcc : (⟨#[c]⟩ : Str).cps.toList = [c] := rfl
    have ltc : Lett ⟨#[c]⟩ := lett_one hcm
    generalize (⟨#[c]⟩ : Str) = cs at lc lcc ltc
    refine ⟨_, add_ss (small_line (by omega)), ?_⟩
    walk_at "gos"
    refine ⟨_, mod_ii (by decide), ?_⟩
    walk_at "gos"
    refine ⟨_, sl_s (small_line (by omega)), ?_⟩
    have cl : (cutS behind none (some ((j : Int) % 4))).length ≤ behind.length := cutS_length _ _ _
    refine ⟨_, add_ss (small_line (by rw [len_append]; omega)), ?_⟩
    refine ⟨ss ++ [ahead ++ cs ++ cutS behind none (some ((j : Int) % 4))], by simp, by simp at hl ⊢; omega, ?_, rfl, ?_, ?_⟩
    · intro s hs'
      rcases List.mem_append.mp hs' with q | q
      · exact hs s q
      · simp at q
        subst q
        refine ⟨by rw [len_append, len_append]; omega, by rw [len_append, len_append]; omega, lett_app (lett_app jt1 ltc) (lett_cut jt2)⟩
    · intro q d hd
      have := hr (q + 1) d (by simpa using hd)
      rw [this, List.length_append, List.length_singleton]
      congr 2
      omega
    · intro q s hs'
      by_cases hlt : q < ss.length
      · rw [List.getElem?_append_left hlt] at hs'
        exact hq q s hs'
      · rw [List.getElem?_append_right (by omega)] at hs'
        have hz : q - ss.length = 0 := by
          have := (List.getElem?_eq_some_iff.mp hs').1
          simp at this
          omega
        rw [hz] at hs'
        simp at hs'
        subst hs'
        have eq : q = j := by omega
        subst eq
        rw [ec, cps_append, cps_append, lcc]
        have hla : ahead.length = ahead.cps.toList.length := by rw [Array.length_toList]; rfl
        rw [List.append_assoc, List.getElem?_append_right (by omega), hla]
        simp
  · intro q d hd
    rw [List.getElem?_map] at hd
    cases hq : (List.range k)[q]? with
    | none => rw [hq] at hd; cases hd
    | some z =>
      rw [hq] at hd
      have : z = q := by
        have := (List.getElem?_eq_some_iff.mp hq).2
        simpa using this.symm
      subst this
      simp at hd
      rw [← hd]
      simp
  · rintro r M1 ⟨ss, e, hl, hs, rfl, _, hq⟩
    simp at e hl
    subst e
    walk_at "gos"
    refine ⟨_, bsorted (by omega), ⟨srt ss, rfl, by rw [(srt_perm ss).length_eq]; exact hl, fun s q => (hs s ((srt_perm ss).mem_iff.mp q)).2.1, srt_up (names_nodup (by omega) hq), ⟨fun a ha => (names_pfx (by omega) hq).1 a ((srt_perm ss).mem_iff.mp ha), fun a ha b hb => (names_pfx (by omega) hq).2 a ((srt_perm ss).mem_iff.mp ha) b ((srt_perm ss).mem_iff.mp hb)⟩, fun s q => hs s ((srt_perm ss).mem_iff.mp q)⟩, hb5.up (by omega) (by omega), (((kp1.trans kp2).trans kp3).trans kp4).trans kp5⟩
/-! ### == and in on sets of names -/
theorem depth_tup (o : List Str) : (tupP o).depth ≤ 60 := by
  simp [tupP, PyData.depth, depth_strs]
theorem eqv_strs : ∀ o u : List Str, PyData.eqvAll (o.map PyData.str) (u.map PyData.str) = decide (o = u)
  | [], [] => by simp [PyData.eqvAll]
  | [], _ :: _ => by simp [PyData.eqvAll]
  | _ :: _, [] => by simp [PyData.eqvAll]
  | a :: o, b :: u => by
    simp only [List.map_cons, PyData.eqvAll, PyData.eqv, eqv_strs o u]
    rw [Bool.eq_iff_iff]
    simp
theorem eqv_tup (o u : List Str) : PyData.eqv (tupP o) (tupP u) = decide (o = u) := by
  simp only [tupP, PyData.eqv, eqv_strs]
theorem eq_ii {M : Mem} {i j : Int} : eqM false M (.int i) (.int j) = some (.bl (decide (i = j))) := by
  have h : (PyData.int i).depth ≤ 60 := by simp [PyData.depth]
  simp only [eqM, toPM, toP, Option.bind_some, h, if_true, PyData.eqv, Bool.false_eq_true, if_false]
  congr 2
theorem in_sets {M : Mem} {o : List Str} {l : List (List Str)} : dIn M (tupD o) (.lst (l.map tupD)) = some (.bl (decide (o ∈ l))) := by
  have h1 : toPM M (.lst (l.map tupD)) = some (.list (l.map tupP)) := by simp [toPM, toP, toPs_map toP_tup]
  have h2 : inD false M (tupD o) (.lst (l.map tupD)) = some (.bl (decide (o ∈ l))) := by
    simp only [inD, toP_tup, h1, Option.bind_some, depth_tup, if_true, Bool.false_eq_true, if_false]
    congr 2
    rw [List.any_map]
    rw [Bool.eq_iff_iff, List.any_eq_true, decide_eq_true_eq]
    constructor
    · rintro ⟨u, hu, e⟩
      have e : PyData.eqv (tupP u) (tupP o) = true := e
      rw [eqv_tup, decide_eq_true_eq] at e
      exact e ▸ hu
    · intro h
      exact ⟨o, h, by show PyData.eqv (tupP o) (tupP o) = true; rw [eqv_tup]; simp⟩
  have h3 : dInS M (tupD o) (.lst (l.map tupD)) = none := rfl
  have h4 : inF false M (tupD o) (.lst (l.map tupD)) = none := rfl
  simp only [dIn, oOr, h3, h4, h2]
theorem flat_strs : ∀ ss : List Str, flatDs (ss.map D.str) = some (ss.map V.str)
  | [] => rfl
  | a :: l => by simp [flatDs, flatD, flat_strs l]
theorem inV_strs {s : Str} : ∀ ss : List Str, L2.inV (.str s) (ss.map V.str) = decide (s ∈ ss)
  | [] => rfl
  | a :: l => by
    have ih := inV_strs (s := s) l
    unfold L2.inV at ih ⊢
    rw [List.map_cons, List.any_cons, ih]
    show (decide (a = s) || decide (s ∈ l)) = decide (s ∈ a :: l)
    by_cases h : a = s
    · subst h; simp
    · have h' : ¬ s = a := fun e => h e.symm
      simp [h, h']
theorem in_kinds {M : Mem} {s : Str} {ss : List Str} : dIn M (.str s) (.tup (ss.map D.str)) = some (.bl (decide (s ∈ ss))) := by
  have h1 : dInS M (.str s) (.tup (ss.map D.str)) = none := rfl
  have h2 : inF false M (.str s) (.tup (ss.map D.str)) = some (.bl (decide (s ∈ ss))) := by
    simp only [inF, flatD, seqD, asL, asT, Option.bind_some, flat_strs, Option.map_some, inV_strs, Bool.false_eq_true, if_false]
  simp only [dIn, oOr, h1, h2]
theorem eq_nil {M : Mem} {ds : List D} : dEq M (.tup ds) (.tup []) = some (.bl (decide (ds.length = 0))) := by
  unfold dEq oOr
  cases h : eqM false M (.tup ds) (.tup []) with
  | none => rfl
  | some z =>
    obtain ⟨p, q, h1, h2, _, rfl⟩ := eqM_some h
    have e2 : q = .tuple [] := by
      have : toPM M (.tup []) = some (.tuple []) := by simp [toPM, toP, toPs]
      rw [this] at h2
      exact (Option.some.inj h2).symm
    subst e2
    have h1' : (toPs ds).map PyData.tuple = some p := by
      have : toPM M (.tup ds) = (toPs ds).map PyData.tuple := by simp [toPM, toP]
      rw [← this]; exact h1
    cases hp : toPs ds with
    | none => rw [hp] at h1'; cases h1'
    | some ps =>
      rw [hp] at h1'
      simp at h1'
      subst h1'
      have hl := congrArg List.length (pD_map hp)
      rw [List.length_map] at hl
      simp only [Bool.false_eq_true, if_false, PyData.eqv]
      rw [hl]
      cases ps <;> simp [PyData.eqvAll]
/-! ### the bits of a number -/
def bitsL : Nat → Nat → List Nat
  | 0, _ => []
  | k + 1, m => m % 2 :: bitsL k (m / 2)
def pBit : D → Bool
  | .tup [_, .int b] => decide (b = 1)
  | _ => false
def hFst : D → D
  | .tup [a, _] => a
  | d => d
def hSnd : D → D
  | .tup [_, a] => a
  | d => d
theorem zip_bits : ∀ (ss : List Str) (k m : Nat), ss.length ≤ k → ((((ss.map D.str).zip ((bitsL k m).map fun b => D.int (b : Nat))).map fun q => D.tup [q.1, q.2]).filter pBit).map hFst = (ofN ss m).map D.str
  | [], _, _, _ => by simp [ofN]
  | s :: r, 0, _, h => by simp at h
  | s :: r, k + 1, m, h => by
    have ih := zip_bits r k (m / 2) (by simpa using h)
    simp only [List.map_cons, bitsL, List.zip_cons_cons]
    by_cases hb : m % 2 = 1
    · rw [List.filter_cons_of_pos (by simp [pBit, hb]), List.map_cons, ih, ofN, if_pos hb]
      rfl
    · rw [List.filter_cons_of_neg (by simp [pBit]; omega), ih, ofN, if_neg hb]
theorem bits5 (m : Nat) : bitsL 5 m = [m % 2, m / 2 % 2, m / 4 % 2, m / 8 % 2, m / 16 % 2] := by
  simp only [bitsL, Nat.div_div_eq_div_mul]
theorem bits_sum (n m : Nat) (hn : n ≤ 5) (hm : m < 32) : ((bitsL 5 m).drop n).sum = 0 ↔ m < 2 ^ n := by
  rw [bits5]
  match n, hn with
  | 0, _ => simp; omega
  | 1, _ => simp; omega
  | 2, _ => simp; omega
  | 3, _ => simp; omega
  | 4, _ => simp; omega
  | 5, _ => simp; omega
theorem bits_d (n : Nat) : [D.int ((n : Int) / 1 % 2), .int ((n : Int) / 2 % 2), .int ((n : Int) / 4 % 2), .int ((n : Int) / 8 % 2), .int ((n : Int) / 16 % 2)] = (bitsL 5 n).map fun b => D.int (b : Nat) := by
  rw [bits5]
  simp
theorem sum_d (l : List Nat) : asIs (l.map fun b => D.int (b : Nat)) = some (l.map fun b => ((b : Nat) : Int)) := by
  induction l with
  | nil => rfl
  | cons a l ih => simp [asIs, asI, ih]
theorem sum_cast : ∀ l : List Nat, (l.map fun b => ((b : Nat) : Int)).sum = ((l.sum : Nat) : Int)
  | [] => rfl
  | a :: l => by rw [List.map_cons, List.sum_cons, sum_cast l, List.sum_cons]; omega
theorem bsum_d {M : Mem} (l : List Nat) : bSum M [.lst (l.map fun b => D.int (b : Nat))] = some (.int ((l.sum : Nat) : Int)) := by
  simp only [bSum, one, asL, Option.bind_some, sum_d, Option.map_some, sum_cast]
theorem cut_from {α : Type} (l : List α) (n : Nat) : Dn.cutD l (some (n : Int)) none = l.drop n := by
  unfold Dn.cutD
  rw [HT.sIx_nat, HT.sIx_none]
  by_cases h : n ≤ l.length
  · rw [Nat.min_eq_left h, List.take_of_length_le (by rw [List.length_drop]; omega)]
  · rw [Nat.min_eq_right (by omega), List.drop_of_length_le (by omega), List.drop_of_length_le (by omega)]
    simp
/-- a number's turn -/
def hBit (n : Nat) : D → D
  | .int p => .int ((n : Int) / p % 2)
  | d => d
theorem law_sets_ok {M : Mem} {ss : List Str} (h5 : ss.length ≤ 5) : Gv (f_law_sets [.tup (ss.map D.str)] M) fun d M' => d = .lst ((setSort (sets1 ss)).map tupD) ∧ Gr M M' := by
  have h32 : 2 ^ ss.length ≤ 32 := Nat.pow_le_pow_right (by decide) h5
  refine v_body rfl ?_
  unfold b_law_sets
  walk_at "gos"
  refine v_for (PI := fun _ _ => True) (v_rng2 ?_)
  walk_at "gos"
  refine ⟨_, pow_ii ⟨by decide, by decide, pw_small (by decide)⟩, ?_⟩
  walk_at "gos"
  refine ⟨1, 32, rfl, by decide, by decide, ?_⟩
  refine v_forL (fun rest η M1 => ∃ q, q ≤ 31 ∧ rest = ((List.range 31).map fun k => D.int ((1 : Nat) + (k : Nat) : Int)).drop q ∧ (∃ a2 a3 a4 a5 a6 a7 a8, η = [some (.tup (ss.map D.str)), some (.ptr M.length), a2, a3, a4, a5, a6, a7, a8]) ∧
      M1 = M ++ [.lst ((((List.range (min q (2 ^ ss.length - 1))).map fun m => ofN ss (m + 1))).map keyDD)]) _ ⟨0, by decide, rfl, ⟨_, _, _, _, _, _, _, rfl⟩, by simp⟩ ?_ ?_
  · rintro d r η M1 ⟨q, hq, hr, ⟨a2, a3, a4, a5, a6, a7, a8, rfl⟩, rfl⟩
    have hq31 : q < 31 := by
      rcases Nat.lt_or_ge q 31 with h | h
      · exact h
      · rw [List.drop_of_length_le (by simp; omega)] at hr; cases hr
    rw [List.drop_eq_getElem_cons (by simp; omega)] at hr
    injection hr with hd hr
    have hd : d = .int ((q + 1 : Nat) : Int) := by
      rw [hd]
      simp
      omega
    subst hd
    refine v_gn ?_
    refine v_seq (v_asg (v_lc (v_sq ?_)))
    walk_at "gos"
    refine ⟨_, rfl, by simp, ?_⟩
    refine (v_lc_map (hBit (q + 1)) _ fun x hx => ?_).imp ?_
    · simp only [List.mem_cons, List.not_mem_nil, or_false] at hx
      refine v_gn (v_yes ⟨rfl, ?_⟩)
      rcases hx with rfl | rfl | rfl | rfl | rfl <;>
      · walk_at "gos"
        refine ⟨_, div_ii (by decide) (by decide), ?_⟩
        walk_at "gos"
        exact ⟨_, mod_ii (by decide), rfl, rfl⟩
    rintro r1 M2 ⟨rfl, rfl⟩
    have eb : [D.int 1, .int 2, .int 4, .int 8, .int 16].map (hBit (q + 1)) = (bitsL 5 (q + 1)).map fun b => D.int (b : Nat) := bits_d (q + 1)
    rw [eb]
    refine v_thn (v_ifS ?_)
    walk_at "gos"
    refine ⟨_, sl_l, ?_⟩
    have el : (((ss.map D.str).length : Nat) : Int) = ((ss.length : Nat) : Int) := by simp
    rw [el, cut_from, ← List.map_drop]
    walk_at "gos"
    refine ⟨_, bsum_d _, ?_⟩
    walk_at "gos"
    refine ⟨_, eq_ii, ?_⟩
    walk_at "gos"
    have hb := bits_sum ss.length (q + 1) h5 (by omega)
    have hM : (M ++ [Ob.lst ((((List.range (min q (2 ^ ss.length - 1))).map fun m => ofN ss (m + 1))).map keyDD)])[M.length]? = some (.lst ((((List.range (min q (2 ^ ss.length - 1))).map fun m => ofN ss (m + 1))).map keyDD)) := by simp
    by_cases hc : q + 1 < 2 ^ ss.length
    · rw [if_pos (by rw [decide_eq_true_eq]; have := hb.mpr hc; omega)]
      refine v_seq (v_asg ?_)
      walk_at "gos"
      refine v_lc (v_zipM ?_)
      walk_at "gos"
      refine ⟨_, _, rfl, by simp [bits5]; omega, ?_⟩
      refine (v_lc_fm pBit hFst _ fun x hx => ?_).imp ?_
      · obtain ⟨⟨u, v⟩, huv, rfl⟩ := List.mem_map.mp hx
        obtain ⟨hu, hv⟩ := List.of_mem_zip huv
        obtain ⟨s, _, rfl⟩ := List.mem_map.mp hu
        obtain ⟨b, _, rfl⟩ := List.mem_map.mp hv
        refine ⟨_, _, rfl, ?_⟩
        walk_at "gos"
        refine ⟨_, eq_ii, ?_⟩
        refine ⟨_, rfl, rfl, rfl, fun _ => ?_⟩
        walk_at "gos"
        exact ⟨rfl, rfl⟩
      rintro r2 M3 ⟨rfl, rfl⟩
      rw [zip_bits ss 5 (q + 1) h5]
      walk_at "gos"
      refine ⟨_, btuple_l, ?_⟩
      walk_at "gos"
      refine v_drop (v_append ?_)
      walk_at "gos"
      refine ⟨M.length, _, rfl, hM, ?_⟩
      walk_at "gos"
      refine ⟨_, hM, by simp; omega, q + 1, by omega, hr, ⟨_, _, _, _, _, _, _, rfl⟩, ?_⟩
      have e1 : min q (2 ^ ss.length - 1) = q := by omega
      have e2 : min (q + 1) (2 ^ ss.length - 1) = q + 1 := by omega
      rw [e1, e2, List.range_succ, List.map_append, List.map_append]
      have e3 : ((M ++ [Ob.lst ((((List.range q).map fun m => ofN ss (m + 1))).map keyDD)]).set M.length (.lst ((((List.range q).map fun m => ofN ss (m + 1))).map keyDD ++ [D.tup [.int (((ofN ss (q + 1)).map D.str).length : Nat), .tup ((ofN ss (q + 1)).map D.str)]]))) = M ++ [Ob.lst ((((List.range q).map fun m => ofN ss (m + 1))).map keyDD ++ [D.tup [.int (((ofN ss (q + 1)).map D.str).length : Nat), .tup ((ofN ss (q + 1)).map D.str)]])] := by simp
      rw [e3]
      simp [keyDD, tupD]
    · rw [if_neg (by rw [decide_eq_true_eq]; intro e; exact hc (hb.mp (by omega)))]
      walk_at "gos"
      have e1 : min q (2 ^ ss.length - 1) = 2 ^ ss.length - 1 := by omega
      have e2 : min (q + 1) (2 ^ ss.length - 1) = 2 ^ ss.length - 1 := by omega
      exact ⟨q + 1, by omega, hr, ⟨_, _, _, _, _, _, _, rfl⟩, by rw [e1, e2]⟩
  · rintro η M1 ⟨q, hq, hr, ⟨a2, a3, a4, a5, a6, a7, a8, rfl⟩, rfl⟩
    have hq31 : q = 31 := by
      rcases Nat.lt_or_ge q 31 with h | h
      · rw [List.drop_eq_getElem_cons (by simp; omega)] at hr; cases hr
      · omega
    subst hq31
    have e1 : min 31 (2 ^ ss.length - 1) = 2 ^ ss.length - 1 := by omega
    rw [e1]
    walk_at "gos"
    refine v_lc (v_sq ?_)
    walk_at "gos"
    refine ⟨_, bsort_sets (sets1 ss) (by simp [sets1]), ?_⟩
    have hl : (setSort (sets1 ss)).length = 2 ^ ss.length - 1 := by rw [(setSort_perm _).length_eq]; simp [sets1]
    refine ⟨_, rfl, by simp; omega, ?_⟩
    refine (v_lc_map hSnd _ fun x hx => ?_).imp ?_
    · obtain ⟨o, _, rfl⟩ := List.mem_map.mp hx
      refine ⟨_, _, rfl, ?_⟩
      refine v_yes ⟨rfl, ?_⟩
      walk_at "gos"
      exact ⟨rfl, rfl⟩
    rintro r3 M3 ⟨rfl, rfl⟩
    refine ⟨?_, Gr.app _ _⟩
    rw [List.map_map]
    rfl
def Fine1 : D → Prop
  | .str s => s.length ≤ 1000
  | .raw _ => False
  | .scr _ => False
  | .ptr _ => False
  | .dcT _ => False
  | .ins _ _ => False
  | .fn _ => False
  | _ => True
def Fine (d : D) : Prop := Fine1 d ∧ ∀ ds, d = .tup ds → ds.length ≤ 1000 ∧ ∀ x ∈ ds, Fine1 x
def isS : D → Bool
  | .str _ => true
  | _ => false
def isT : D → Bool
  | .tup _ => true
  | _ => false
theorem isi_s {M : Mem} {d : D} (h : Fine1 d) : bIsi M [d, .raw (.ty "str")] = some (.bl (isS d)) := by
  cases d with
  | raw _ => exact h.elim
  | scr _ => exact h.elim
  | ptr _ => exact h.elim
  | dcT _ => exact h.elim
  | ins _ _ => exact h.elim
  | fn _ => exact h.elim
  | non => simp only [bIsi, two, tyN, Option.bind_some, show kitB "NoneType" "str" = some false by decide +kernel]; rfl
  | bl _ => simp only [bIsi, two, tyN, Option.bind_some, show kitB "bool" "str" = some false by decide +kernel]; rfl
  | int _ => simp only [bIsi, two, tyN, Option.bind_some, show kitB "int" "str" = some false by decide +kernel]; rfl
  | str _ => simp only [bIsi, two, tyN, Option.bind_some, show kitB "str" "str" = some true by decide +kernel]; rfl
  | lst _ => simp only [bIsi, two, tyN, Option.bind_some, show kitB "list" "str" = some false by decide +kernel]; rfl
  | tup _ => simp only [bIsi, two, tyN, Option.bind_some, show kitB "tuple" "str" = some false by decide +kernel]; rfl
  | dct _ => simp only [bIsi, two, tyN, Option.bind_some, show kitB "dict" "str" = some false by decide +kernel]; rfl
theorem isi_t {M : Mem} {d : D} (h : Fine1 d) : bIsi M [d, .raw (.ty "tuple")] = some (.bl (isT d)) := by
  cases d with
  | raw _ => exact h.elim
  | scr _ => exact h.elim
  | ptr _ => exact h.elim
  | dcT _ => exact h.elim
  | ins _ _ => exact h.elim
  | fn _ => exact h.elim
  | non => simp only [bIsi, two, tyN, Option.bind_some, show kitB "NoneType" "tuple" = some false by decide +kernel]; rfl
  | bl _ => simp only [bIsi, two, tyN, Option.bind_some, show kitB "bool" "tuple" = some false by decide +kernel]; rfl
  | int _ => simp only [bIsi, two, tyN, Option.bind_some, show kitB "int" "tuple" = some false by decide +kernel]; rfl
  | str _ => simp only [bIsi, two, tyN, Option.bind_some, show kitB "str" "tuple" = some false by decide +kernel]; rfl
  | lst _ => simp only [bIsi, two, tyN, Option.bind_some, show kitB "list" "tuple" = some false by decide +kernel]; rfl
  | tup _ => simp only [bIsi, two, tyN, Option.bind_some, show kitB "tuple" "tuple" = some true by decide +kernel]; rfl
  | dct _ => simp only [bIsi, two, tyN, Option.bind_some, show kitB "dict" "tuple" = some false by decide +kernel]; rfl
theorem isi_b {M : Mem} {b : Bool} : bIsi M [.bl b, .raw (.ty "bool")] = some (.bl true) := by
  simp only [bIsi, two, tyN, Option.bind_some, show kitB "bool" "bool" = some true by decide +kernel]; rfl
theorem cut_mem {α : Type} {l : List α} {lo hi : Option Int} {x : α} (h : x ∈ Dn.cutD l lo hi) : x ∈ l := List.mem_of_mem_drop (List.mem_of_mem_take h)
theorem cut_len {α : Type} {l : List α} {lo hi : Option Int} : (Dn.cutD l lo hi).length ≤ l.length := by
  unfold Dn.cutD
  rw [List.length_take, List.length_drop]
  omega
def fine1b : D → Bool
  | .str s => decide (s.length ≤ 1000)
  | .raw _ => false
  | .scr _ => false
  | .ptr _ => false
  | .dcT _ => false
  | .ins _ _ => false
  | .fn _ => false
  | _ => true
theorem fine1_of {d : D} (h : fine1b d = true) : Fine1 d := by
  cases d <;> simp_all [fine1b, Fine1]
/-! ### what is a set -/
abbrev ltS (a b : Str) : Prop := a.cps.toList < b.cps.toList
theorem ltS_trans {a b c : Str} (h : ltS a b) (h' : ltS b c) : ltS a c := List.lt_trans h h'
theorem ltS_irr {a : Str} (h : ltS a a) : False := List.lt_irrefl _ h
theorem sub_up {ss : List Str} (h : ss.Pairwise ltS) : ∀ {ts : List Str}, ts.Pairwise ltS → (∀ t ∈ ts, t ∈ ss) → ts.Sublist ss := by
  induction ss with
  | nil =>
    intro ts _ hs
    cases ts with
    | nil => exact .slnil
    | cons t ts => exact absurd (hs t (List.mem_cons_self ..)) (by simp)
  | cons a r ih =>
    intro ts ht hs
    obtain ⟨ha, hr⟩ := List.pairwise_cons.mp h
    cases ts with
    | nil => exact List.nil_sublist _
    | cons t ts =>
      obtain ⟨h1, h2⟩ := List.pairwise_cons.mp ht
      by_cases e : t = a
      · subst e
        refine (ih hr h2 fun u hu => ?_).cons₂ t
        rcases List.mem_cons.mp (hs u (List.mem_cons_of_mem _ hu)) with q | q
        · subst q; exact (ltS_irr (h1 _ hu)).elim
        · exact q
      · have hta : t ∈ r := (List.mem_cons.mp (hs t (List.mem_cons_self ..))).resolve_left e
        refine (ih hr ht fun u hu => ?_).cons a
        rcases List.mem_cons.mp (hs u hu) with q | q
        · subst q
          rcases List.mem_cons.mp hu with q2 | q2
          · exact absurd q2.symm e
          · exact (ltS_irr (ltS_trans (h1 _ q2) (ha _ hta))).elim
        · exact q
def risesS (ts : List Str) : Bool := (ts.zip (ts.drop 1)).all fun q => decide (ltS q.1 q.2)
theorem rises_pw : ∀ ts : List Str, risesS ts = true ↔ ts.Pairwise ltS
  | [] => by simp [risesS]
  | [a] => by simp [risesS]
  | a :: b :: r => by
    have ih := rises_pw (b :: r)
    have e : risesS (a :: b :: r) = (decide (ltS a b) && risesS (b :: r)) := by simp [risesS]
    rw [e, Bool.and_eq_true, ih, decide_eq_true_eq]
    constructor
    · rintro ⟨h1, h2⟩
      refine List.pairwise_cons.mpr ⟨fun c hc => ?_, h2⟩
      rcases List.mem_cons.mp hc with q | q
      · subst q; exact h1
      · exact ltS_trans h1 ((List.pairwise_cons.mp h2).1 c q)
    · intro h
      exact ⟨(List.pairwise_cons.mp h).1 b (List.mem_cons_self ..), (List.pairwise_cons.mp h).2⟩
def SetOf (ss : List Str) (d : D) : Prop := ∃ ts, d = tupD ts ∧ ts ≠ [] ∧ ts.Sublist ss
open Classical in
noncomputable def setB (ss : List Str) (d : D) : Bool := decide (SetOf ss d)
open Classical in
theorem setB_no {ss : List Str} {d : D} (h : ¬ SetOf ss d) : setB ss d = false := by unfold setB; exact decide_eq_false h
open Classical in
theorem setB_yes {ss : List Str} {d : D} {b : Bool} (h : SetOf ss d ↔ b = true) : setB ss d = b := by
  unfold setB
  cases b with
  | true => exact decide_eq_true (h.mpr rfl)
  | false => exact decide_eq_false fun q => absurd (h.mp q) (by decide)
theorem tupD_inj {ts us : List Str} (h : tupD ts = tupD us) : ts = us := by
  unfold tupD at h
  injection h with h
  exact (List.map_inj_right (f := D.str) fun a b e => by injection e).mp h
theorem strs_of : ∀ {ds : List D}, ds.all isS = true → ∃ ts : List Str, ds = ts.map D.str
  | [], _ => ⟨[], rfl⟩
  | d :: ds, h => by
    rw [List.all_cons, Bool.and_eq_true] at h
    obtain ⟨ts, rfl⟩ := strs_of h.2
    have : ∃ s, d = .str s := by
      have h1 := h.1
      cases d <;> first | exact ⟨_, rfl⟩ | (simp [isS] at h1)
    obtain ⟨s, rfl⟩ := this
    exact ⟨s :: ts, rfl⟩
def hLt : D → D
  | .tup [.str a, .str b] => .bl (decide (ltS a b))
  | d => d
theorem rising_ok {M : Mem} {ts : List Str} (hl : ts.length ≤ 1000) : Gv (f_is_rising [tupD ts] M) fun r M' => r = .bl (risesS ts) ∧ M' = M := by
  refine v_body rfl ?_
  unfold b_is_rising
  walk_at "gos"
  refine v_lc (v_zipT ?_)
  walk_at "gos"
  refine ⟨_, sl_t, ?_⟩
  walk_at "gos"
  have ec : Dn.cutD (ts.map D.str) (some (1 : Int)) none = (ts.drop 1).map D.str := by
    rw [show (1 : Int) = ((1 : Nat) : Int) from rfl, cut_from, List.map_drop]
  rw [ec]
  refine ⟨_, _, rfl, by simp; omega, ?_⟩
  refine (v_lc_map hLt _ ?_).imp ?_
  · intro q hq
    obtain ⟨⟨a, b⟩, hab, rfl⟩ := List.mem_map.mp hq
    obtain ⟨ha, hb⟩ := List.of_mem_zip hab
    obtain ⟨s, _, rfl⟩ := List.mem_map.mp ha
    obtain ⟨t, _, rfl⟩ := List.mem_map.mp hb
    refine ⟨_, _, rfl, ?_⟩
    refine v_yes ⟨rfl, ?_⟩
    walk_at "gos"
    exact ⟨_, lt_ss, rfl, rfl⟩
  · rintro r M1 ⟨rfl, rfl⟩
    walk_at "gos"
    have e : (((ts.map D.str).zip ((ts.drop 1).map D.str)).map fun q => D.tup [q.1, q.2]).map hLt = (ts.zip (ts.drop 1)).map fun q => D.bl (decide (ltS q.1 q.2)) := by
      have gen : ∀ (l m : List Str), (((l.map D.str).zip (m.map D.str)).map fun q => D.tup [q.1, q.2]).map hLt = (l.zip m).map fun q => D.bl (decide (ltS q.1 q.2)) := by
        intro l
        induction l with
        | nil => intro m; rfl
        | cons a l ih =>
          intro m
          cases m with
          | nil => rfl
          | cons b m =>
            rw [List.map_cons, List.map_cons, List.zip_cons_cons, List.zip_cons_cons, List.map_cons, List.map_cons, List.map_cons, ih m]
            rfl
      exact gen _ _
    rw [e]
    exact ⟨_, ball_map, rfl, rfl⟩
def inB (ss : List Str) : D → Bool
  | .str s => decide (s ∈ ss)
  | _ => false
theorem prog_set_ok {M : Mem} {ss : List Str} {d : D} (hup : ss.Pairwise ltS) (h : Fine d) : Gv (f_is_set [.tup (ss.map D.str), d] M) fun r M' => r = .bl (setB ss d) ∧ M' = M := by
  refine v_body rfl ?_
  unfold b_is_set
  walk_at "gos"
  refine v_ifS ?_
  walk_at "gos"
  refine ⟨_, isi_t h.1, ?_⟩
  walk_at "gos"
  by_cases hs : ∃ ds, d = .tup ds
  · obtain ⟨ds, rfl⟩ := hs
    obtain ⟨hl, hf⟩ := h.2 ds rfl
    refine iteF ?_
    walk_at "gos"
    refine ⟨_, eq_ii, ?_⟩
    walk_at "gos"
    by_cases c0 : ds.length = 0
    · rw [if_pos (by rw [decide_eq_true_eq]; omega)]
      walk_at "gos"
      refine ⟨?_, rfl⟩
      rw [setB_no]
      rintro ⟨ts, e, h1, _⟩
      unfold tupD at e
      injection e with e
      subst e
      exact h1 (List.eq_nil_of_length_eq_zero (by simpa using c0))
    · rw [if_neg (by rw [decide_eq_true_eq]; omega)]
      walk_at "gos"
      refine v_lc (v_sq (v_var rfl ⟨_, rfl, by omega, ?_⟩))
      refine (v_lc_map (fun x => .bl (inB ss x)) _ fun x hx => ?_).imp ?_
      · refine v_gn (v_yes ⟨rfl, ?_⟩)
        walk_at "gos"
        refine ⟨_, isi_s (hf x hx), ?_⟩
        walk_at "gos"
        by_cases hxs : ∃ s, x = .str s
        · obtain ⟨s, rfl⟩ := hxs
          refine iteT ?_
          walk_at "gos"
          exact ⟨_, in_kinds, rfl, rfl⟩
        · have hn : isS x = false := by cases x <;> first | rfl | exact absurd ⟨_, rfl⟩ hxs
          have hb : inB ss x = false := by cases x <;> first | rfl | exact absurd ⟨_, rfl⟩ hxs
          rw [hn, hb]
          exact iteF ⟨rfl, rfl⟩
      rintro r M1 ⟨rfl, rfl⟩
      walk_at "gos"
      refine ⟨_, ball_map, _, rfl, ?_⟩
      by_cases c3 : ds.all (inB ss) = true
      · rw [if_pos c3]
        have hS : ds.all isS = true := List.all_eq_true.mpr fun x hx => by
          have := List.all_eq_true.mp c3 x hx
          cases x <;> first | rfl | (simp [inB] at this)
        obtain ⟨ts, rfl⟩ := strs_of hS
        walk_at "gos"
        refine ⟨rfl, (rising_ok (ts := ts) (by simpa using hl)).imp ?_⟩
        rintro r M1 ⟨rfl, rfl⟩
        refine ⟨?_, rfl⟩
        have hin : ∀ t ∈ ts, t ∈ ss := fun t ht => by
          have := List.all_eq_true.mp c3 (.str t) (List.mem_map.mpr ⟨t, ht, rfl⟩)
          simpa [inB] using this
        rw [setB_yes]
        rw [rises_pw]
        constructor
        · rintro ⟨us, e, h1, h2⟩
          have : ts = us := tupD_inj e
          subst this
          exact hup.sublist h2
        · intro hp
          exact ⟨ts, rfl, fun e => c0 (by rw [e]; rfl), sub_up hup hp hin⟩
      · rw [if_neg c3]
        refine ⟨?_, rfl⟩
        rw [setB_no]
        rintro ⟨ts, e, h1, h2⟩
        unfold tupD at e
        injection e with e
        subst e
        refine c3 (List.all_eq_true.mpr fun x hx => ?_)
        obtain ⟨t, ht, rfl⟩ := List.mem_map.mp hx
        simpa [inB] using h2.subset ht
  · have hn : isT d = false := by cases d <;> first | rfl | exact absurd ⟨_, rfl⟩ hs
    rw [hn]
    refine iteT (iteT ?_)
    walk_at "gos"
    refine ⟨?_, rfl⟩
    rw [setB_no]
    rintro ⟨ts, e, _⟩
    exact hs ⟨_, e⟩
structure Kinds (ss : List Str) : Prop where
  le : ss.length ≤ 5
  ge : 1 ≤ ss.length
  sh : ∀ s ∈ ss, s.length ≤ 8
  up : ss.Pairwise ltS
/-! ### tables -/
noncomputable def setS (ss : List Str) : List (List Str) := setSort (sets1 ss)
theorem setS_len {ss : List Str} (h : ss.length ≤ 5) : (setS ss).length ≤ 31 := by
  unfold setS
  rw [(setSort_perm _).length_eq]
  have : 2 ^ ss.length ≤ 32 := Nat.pow_le_pow_right (by decide) h
  simp [sets1]
  omega
theorem setS_len1 {ss : List Str} (h : 1 ≤ ss.length) : 1 ≤ (setS ss).length := by
  unfold setS
  rw [(setSort_perm _).length_eq]
  have : 2 ^ 1 ≤ 2 ^ ss.length := Nat.pow_le_pow_right (by decide) h
  simp [sets1]
  omega
theorem v_asgG {f : XE} {gt : XG} {η : Dv} {M : Mem} {PF : Fl → Mem → Prop} (h : Gv (f η M) fun d M1 => Gv (gt d η M1) fun η1 M2 => PF (.nx η1) M2) : Gv (xAsg f gt η M) PF := gv_bind (h.imp fun d M1 h1 => gv_bind (Gv.imp h1 fun η1 M2 h2 => gv_ok h2))
def roomD (r : Str × List Str) : D := .tup [.str r.1, tupD r.2]
structure Rooms (ss : List Str) (most : Nat) (rs : List (Str × List Str)) : Prop where
  le : rs.length ≤ most
  ge : 1 ≤ rs.length
  sh : ∀ r ∈ rs, r.1.length ≤ 8
  up : (rs.map (·.1)).Pairwise ltS
  tk : ∀ r ∈ rs, r.2 ∈ setS ss
theorem ix_map {α : Type} {M : Mem} {l : List α} {e : α → D} {i : Int} (h0 : 0 ≤ i) (h1 : i < l.length) : ∃ a ∈ l, dIx M (.lst (l.map e)) (.int i) = some (e a) := by
  obtain ⟨x, hx, hm⟩ := ix_in (l := l.map e) h0 (by simpa using h1)
  obtain ⟨a, ha, rfl⟩ := List.mem_map.mp hm
  exact ⟨a, ha, ix_l.trans hx⟩
theorem bany_map {M : Mem} {α : Type} {p : α → Bool} {l : List α} : bAny M [.lst (l.map fun d => .bl (p d))] = some (.bl (l.any p)) := by
  have e : (l.map p).any id = l.any p := by
    induction l with
    | nil => rfl
    | cons a l ih => simp only [List.map_cons, List.any_cons, id, ih]
  have e2 : ∀ l : List α, asBs (l.map fun d => D.bl (p d)) = some (l.map p) := by
    intro l
    induction l with
    | nil => rfl
    | cons a l ih => simp only [List.map_cons, asBs, asB, Option.bind_some, ih, Option.map_some]
  simp only [bAny, one, asL, Option.bind_some, e2, Option.map_some, e]
/-- the set has a kind that is taken -/
def meets (tk o : List Str) : Bool := o.any fun s => decide (s ∈ tk)
theorem meets_comm (tk o : List Str) : (tk.any fun s => decide (s ∈ o)) = meets tk o := by
  unfold meets
  rw [Bool.eq_iff_iff]
  simp only [List.any_eq_true, decide_eq_true_eq]
  exact ⟨fun ⟨x, h1, h2⟩ => ⟨x, h2, h1⟩, fun ⟨x, h1, h2⟩ => ⟨x, h2, h1⟩⟩
theorem met_ok {M : Mem} {tk o : List Str} (hl : o.length ≤ 1000) : Gv (f_is_met [tupD tk, tupD o] M) fun r M' => r = .bl (meets tk o) ∧ M' = M := by
  refine v_body rfl ?_
  unfold b_is_met
  refine v_ret (v_call (v_cons (v_lc (v_sq (v_var rfl ⟨_, rfl, by simp; omega, ?_⟩)))))
  refine (v_lc_ma (e := D.str) (h := fun s => .bl (decide (s ∈ tk))) o ?_).imp ?_
  · intro s hs
    refine v_gn (v_op ?_)
    walk_at "gos"
    exact ⟨_, in_kinds, rfl, rfl, rfl⟩
  · rintro r M1 ⟨rfl, rfl⟩
    exact v_nil ⟨_, bany_map, rfl, rfl⟩
theorem share_ok {M : Mem} {tk o : List Str} (hl : tk.length ≤ 1000) : Gv (f_law_share [tupD tk, tupD o] M) fun r M' => r = .bl (meets tk o) ∧ M' = M := by
  rw [← meets_comm]
  refine v_body rfl ?_
  unfold b_law_share
  refine v_ret (v_call (v_cons (v_lc (v_sq (v_var rfl ⟨_, rfl, by simp; omega, ?_⟩)))))
  refine (v_lc_ma (e := D.str) (h := fun s => .bl (decide (s ∈ o))) tk ?_).imp ?_
  · intro s hs
    refine v_gn (v_op ?_)
    walk_at "gos"
    exact ⟨_, in_kinds, rfl, rfl, rfl⟩
  · rintro r M1 ⟨rfl, rfl⟩
    exact v_nil ⟨_, bany_map, rfl, rfl⟩
theorem v_gT2 {M : Mem} {η : Dv} {i j : Nat} {a b : D} {P : Dv → Mem → Prop} (hp : P ((η.set i (some a)).set j (some b)) M) : Gv (xgTup 2 (xgsCons (xgName i) (xgsCons (xgName j) xgsNil)) (.tup [a, b]) η M) P := gv_ok hp
theorem kinds_nm {M : Mem} {n : Nat} {N : Int} (h : BagAt M n N) (hN : N + 11 < 2 ^ 40) : Gv (f_law_kinds [.ptr n] M) fun d M' => (∃ ss, d = .tup (ss.map D.str) ∧ Kinds ss ∧ ∀ s ∈ ss, Nm s) ∧ BagAt M' n (N + 11) ∧ Kp n M M' := by
  refine v_body rfl ?_
  unfold b_law_kinds
  walk_at "gos"
  refine ⟨rfl, (take_ok h (by omega) (by decide) (by decide)).imp ?_⟩
  rintro _ M1 ⟨⟨x, rfl, x0, x1, hb1, kp1⟩⟩
  walk_at "gos"
  obtain ⟨q, rfl⟩ := Int.eq_ofNat_of_zero_le x0
  have eq1 : (1 : Int) + (q : Int) = ((q + 1 : Nat) : Int) := by omega
  rw [eq1]
  refine ⟨rfl, (names_pf hb1 (by omega) (by omega)).imp ?_⟩
  rintro _ M2 ⟨⟨ss, rfl, hl, hs, hu, _, hnm⟩, hb2, kp2⟩
  walk_at "gos"
  exact ⟨_, btuple_l, ⟨ss, rfl, ⟨by omega, by omega, hs, hu⟩, hnm⟩, hb2.up (by omega) (by omega), kp1.trans kp2⟩
theorem rooms_nm {M : Mem} {n : Nat} {N : Int} {ss : List Str} {most : Nat} (K : Kinds ss) (h : BagAt M n N) (hN : N + 40 < 2 ^ 40) (hm1 : 1 ≤ most) (hm : most ≤ 16) : Gv (f_law_rooms [.ptr n, .tup (ss.map D.str), .int most] M) fun d M' => (∃ rs, d = .tup (rs.map roomD) ∧ Rooms ss most rs ∧ ∀ r ∈ rs, Nm r.1) ∧ BagAt M' n (N + 40) ∧ Kp n M M' := by
  have hsl := setS_len K.le
  have hs1 := setS_len1 K.ge
  refine v_body rfl ?_
  unfold b_law_rooms
  refine v_seq (v_asg ?_)
  walk_at "gos"
  refine ⟨rfl, (law_sets_ok K.le).imp ?_⟩
  rintro _ M1 ⟨rfl, g1⟩
  have b1 := h.gr g1
  walk_at "gos"
  refine ⟨rfl, (take_ok b1 (by omega) (by omega) (by omega)).imp ?_⟩
  rintro _ M2 ⟨⟨x, rfl, x0, x1, b2, k2⟩⟩
  obtain ⟨q, rfl⟩ := Int.eq_ofNat_of_zero_le x0
  walk_at "gos"
  have eq1 : (1 : Int) + (q : Int) = ((q + 1 : Nat) : Int) := by omega
  rw [eq1]
  refine ⟨rfl, (names_pf b2 (by omega) (by omega)).imp ?_⟩
  rintro _ M3 ⟨⟨ts, rfl, hl, hsh, hu, _, hnm⟩, b3, k3⟩
  have k13 : Kp n M M3 := ((g1.kp n).trans k2).trans k3
  walk_at "gos"
  refine v_lc (v_sq ?_)
  walk_at "gos"
  refine ⟨_, rfl, by simp; omega, ?_⟩
  refine (v_lcL (fun rest acc Mx => ∃ (us : List Str) (rs : List (Str × List Str)), rest = us.map D.str ∧ acc = rs.map roomD ∧ rs.map (·.1) ++ us = ts ∧ (∀ r ∈ rs, r.2 ∈ setS ss) ∧ BagAt Mx n (N + 1 + 10 + rs.length) ∧ Kp n M Mx) _ ?_ [] ⟨ts, [], rfl, rfl, by simp, by simp, by simpa using b3, k13⟩).imp ?_
  · rintro d r acc Mx ⟨us, rs, e1, rfl, e2, hk, bx, kx⟩
    cases us with
    | nil => simp at e1
    | cons t us =>
      rw [List.map_cons] at e1
      injection e1 with e1 e3
      subst e1 e3
      have hlr : rs.length + us.length + 1 = q + 1 := by rw [← hl, ← e2]; simp; omega
      refine v_gn (v_yes ?_)
      rw [if_pos rfl]
      walk_at "gos"
      refine ⟨rfl, ?_⟩
      have hls : ((setSort (sets1 ss)).map tupD).length = (setS ss).length := List.length_map ..
      rw [hls]
      refine (take_ok bx (by omega) (by omega) (by omega)).imp ?_
      rintro _ M4 ⟨⟨y, rfl, y0, y1, b4, k4⟩⟩
      obtain ⟨o, ho, eo⟩ := ix_map (M := M4) (l := setS ss) (e := tupD) y0 y1
      refine ⟨_, eo, ?_⟩
      walk_at "gos"
      refine ⟨us, rs ++ [(t, o)], rfl, by simp [roomD], by rw [← e2]; simp, ?_, ?_, kx.trans k4⟩
      · intro r hr
        rcases List.mem_append.mp hr with hr | hr
        · exact hk r hr
        · simp at hr; subst hr; exact ho
      · have hl1 : (rs ++ [(t, o)]).length = rs.length + 1 := by simp
        rw [hl1]
        exact b4.up (by omega) (by omega)
  · rintro r M4 ⟨us, rs, e1, e2, e3, hk, b4, k4⟩
    have hus : us = [] := List.map_eq_nil_iff.mp e1.symm
    subst hus
    rw [List.nil_append] at e2
    subst e2
    rw [List.append_nil] at e3
    have hlr : rs.length = q + 1 := by rw [← hl, ← e3]; simp
    walk_at "gos"
    refine ⟨_, btuple_l, ⟨rs, rfl, ⟨by omega, by omega, ?_, by rw [e3]; exact hu, hk⟩, fun r hr => hnm r.1 (by rw [← e3]; exact List.mem_map.mpr ⟨r, hr, rfl⟩)⟩, b4.up (by omega) (by omega), k4⟩
    intro r hr
    exact hsh r.1 (by rw [← e3]; exact List.mem_map.mpr ⟨r, hr, rfl⟩)
/-! ### k05: things of all kinds -/
theorem v_zipL {fa : XA} {η : Dv} {M : Mem} {PA : List D → Mem → Prop} (h : Gv (fa η M) fun ds M1 => ∃ xs ys, ds = [.lst xs, .lst ys] ∧ PA (xs.zip ys |>.map fun q => .tup [q.1, q.2]) M1) : Gv (xZip fa η M) PA := gv_bind (h.imp fun ds M1 ⟨xs, ys, e, h1⟩ => by
  subst e
  exact gv_ok h1)
theorem rising_l {M : Mem} {ts : List Str} (hl : ts.length ≤ 1000) : Gv (f_is_rising [.lst (ts.map D.str)] M) fun r M' => r = .bl (risesS ts) ∧ M' = M := by
  refine v_body rfl ?_
  unfold b_is_rising
  refine v_ret (v_call (v_cons (v_lc (v_zipL (v_cons (v_var rfl (v_cons (v_sl (v_var rfl (v_some (v_c ⟨1, rfl, v_none ⟨_, sl_l, v_nil ⟨_, _, rfl, ?_, ?_⟩⟩⟩)))))))))))
  · rw [List.length_map, List.length_zip]
    simp
    omega
  have ec : Dn.cutD (ts.map D.str) (some (1 : Int)) none = (ts.drop 1).map D.str := by
    rw [show (1 : Int) = ((1 : Nat) : Int) from rfl, cut_from, List.map_drop]
  rw [ec]
  refine (v_lc_map hLt _ ?_).imp ?_
  · intro q hq
    obtain ⟨⟨a, b⟩, hab, rfl⟩ := List.mem_map.mp hq
    obtain ⟨ha, hb⟩ := List.of_mem_zip hab
    obtain ⟨s, _, rfl⟩ := List.mem_map.mp ha
    obtain ⟨t, _, rfl⟩ := List.mem_map.mp hb
    refine ⟨_, _, rfl, v_yes ⟨rfl, v_op (v_var rfl (v_var rfl ⟨_, lt_ss, ?_, rfl⟩))⟩⟩
    rfl
  · rintro r M1 ⟨rfl, e0⟩
    have e : (((ts.map D.str).zip ((ts.drop 1).map D.str)).map fun q => D.tup [q.1, q.2]).map hLt = (ts.zip (ts.drop 1)).map fun q => .bl (decide (ltS q.1 q.2)) := by
      rw [List.zip_map, List.map_map, List.map_map]
      rfl
    rw [e]
    exact v_nil ⟨_, ball_map, rfl, e0⟩
theorem law_rises_eq : f_law_rises = f_is_rising := rfl
def FineK : Nat → D → Prop
  | 0, d => Fine1 d
  | k + 1, d => Fine1 d ∧ ∀ ds, d = .tup ds → ds.length ≤ 1000 ∧ ∀ x ∈ ds, FineK k x
def fineKb : Nat → D → Bool
  | 0, d => fine1b d
  | k + 1, d => fine1b d && match d with
    | .tup ds => decide (ds.length ≤ 1000) && ds.all (fineKb k)
    | _ => true
theorem fineK_of : ∀ {k : Nat} {d : D}, fineKb k d = true → FineK k d
  | 0, _, h => fine1_of h
  | k + 1, d, h => by
    unfold fineKb at h
    rw [Bool.and_eq_true] at h
    refine ⟨fine1_of h.1, fun ds e => ?_⟩
    subst e
    have h2 := h.2
    simp only [Bool.and_eq_true, decide_eq_true_eq] at h2
    exact ⟨h2.1, fun x hx => fineK_of (List.all_eq_true.mp h2.2 x hx)⟩
theorem FineK.one : ∀ {k : Nat} {d : D}, FineK k d → Fine1 d
  | 0, _, h => h
  | _ + 1, _, h => h.1
theorem FineK.fine {k : Nat} {d : D} (h : FineK (k + 1) d) : Fine d := ⟨h.1, fun ds e => ⟨(h.2 ds e).1, fun x hx => ((h.2 ds e).2 x hx).one⟩⟩
theorem FineK.down : ∀ {k : Nat} {d : D}, FineK (k + 1) d → FineK k d
  | 0, _, h => h.1
  | k + 1, _, h => ⟨h.1, fun ds e => ⟨(h.2 ds e).1, fun x hx => ((h.2 ds e).2 x hx).down⟩⟩
theorem fineK_str {s : Str} (h : s.length ≤ 1000) : ∀ {k : Nat}, FineK k (.str s)
  | 0 => h
  | _ + 1 => ⟨h, fun _ e => by cases e⟩
theorem fineK_lst {l : List D} : ∀ {k : Nat}, FineK k (.lst l)
  | 0 => trivial
  | _ + 1 => ⟨trivial, fun _ e => by cases e⟩
theorem fineK_tup {k : Nat} {ds : List D} (h1 : ds.length ≤ 1000) (h2 : ∀ x ∈ ds, FineK k x) : FineK (k + 1) (.tup ds) := ⟨trivial, fun cs e => by cases e; exact ⟨h1, h2⟩⟩
theorem fineK_strs {k : Nat} {ts : List Str} (h1 : ts.length ≤ 1000) (h : ∀ t ∈ ts, t.length ≤ 8) : FineK (k + 1) (tupD ts) := fineK_tup (by simpa using h1) fun x hx => by
  obtain ⟨t, ht, rfl⟩ := List.mem_map.mp hx
  exact fineK_str (Nat.le_trans (h t ht) (by decide))
/-- shown behind NoRoom; looked for among texts -/
def pyT (d : D) : D := .tup [.str "NoRoom", d]
def Shw (d : D) : Prop := ∃ s : Str, ∀ M : Mem, (cOr bRepr bReprO) M [pyT d] = some (.str s)
def InOk (d : D) : Prop := ∀ (M : Mem) (ns : List Str), (oOr dIn inDct) M d (.lst (ns.map D.str)) = some (.bl (match d with | .str s => decide (s ∈ ns) | _ => false))
theorem in_strL {M : Mem} {s : Str} {ns : List Str} : dIn M (.str s) (.lst (ns.map D.str)) = some (.bl (decide (s ∈ ns))) := by
  have h1 : dInS M (.str s) (.lst (ns.map D.str)) = none := rfl
  have h2 : inF false M (.str s) (.lst (ns.map D.str)) = some (.bl (decide (s ∈ ns))) := by
    simp only [inF, flatD, seqD, asL, Option.bind_some, flat_strs, Option.map_some, inV_strs, Bool.false_eq_true, if_false]
  simp only [dIn, oOr, h1, h2]
theorem inOk_str {s : Str} : InOk (.str s) := fun M ns => by
  show oOr dIn inDct M _ _ = _
  unfold oOr
  rw [in_strL]
/-! ### k05: things shown, looked for -/
theorem toPs_strs : ∀ l : List Str, toPs (l.map D.str) = some (l.map PyData.str)
  | [] => by simp [toPs]
  | a :: l => by simp [toPs, toP, toPs_strs l]
mutual
theorem pyD_ind {M N : Mem} : ∀ d : D, pyD M d = pyD N d
  | .non => by simp only [pyD]
  | .bl _ => by simp only [pyD]
  | .int _ => by simp only [pyD]
  | .str _ => by simp only [pyD]
  | .tup ds => by simp only [pyD, pyDs_ind (M := M) (N := N) ds]
  | .lst ds => by simp only [pyD, pyDs_ind (M := M) (N := N) ds]
  | .dct _ => by simp only [pyD]
  | .dcT _ => by simp only [pyD]
  | .ins _ _ => by simp only [pyD]
  | .fn _ => by simp only [pyD]
  | .scr _ => by simp only [pyD]
  | .ptr _ => by simp only [pyD]
  | .raw _ => by simp only [pyD]
theorem pyDs_ind {M N : Mem} : ∀ ds : List D, pyDs M ds = pyDs N ds
  | [] => by simp only [pyDs]
  | d :: ds => by simp only [pyDs, pyD_ind (M := M) (N := N) d, pyDs_ind (M := M) (N := N) ds]
end
def shwb (d : D) : Bool := match pyD [] (pyT d) with
  | some p => p.showable && !p.hasDict && decide (p.depth ≤ 100) && decide (p.shown.length ≤ sizeLine)
  | none => match pyO (pyT d) with
    | some p => p.showable && decide (p.depth ≤ 100) && decide (p.shown.length ≤ sizeLine)
    | none => false
theorem pyT_tup {d : D} {p : PyData} {M : Mem} (h : pyD M (pyT d) = some p) : ∃ ps, p = .tuple ps := by
  unfold pyT at h
  simp only [pyD, Option.map_eq_some_iff] at h
  obtain ⟨ps, _, rfl⟩ := h
  exact ⟨ps, rfl⟩
theorem pyO_tup {d : D} {p : PyData} (h : pyO (pyT d) = some p) : ∃ ps, p = .tuple ps := by
  unfold pyT at h
  simp only [pyO, Option.map_eq_some_iff] at h
  obtain ⟨ps, _, rfl⟩ := h
  exact ⟨ps, rfl⟩
theorem shw_of {d : D} (h : shwb d = true) : Shw d := by
  unfold shwb at h
  cases h1 : pyD [] (pyT d) with
  | some p =>
    rw [h1] at h
    simp only [Bool.and_eq_true, Bool.not_eq_true', decide_eq_true_eq] at h
    obtain ⟨ps, rfl⟩ := pyT_tup h1
    refine ⟨(PyData.tuple ps).shown, fun M => ?_⟩
    have e : bRepr M [pyT d] = some (.str (PyData.tuple ps).shown) := by
      show (pyM M (pyT d)).bind _ = _
      rw [show pyM M (pyT d) = pyD M (pyT d) from rfl, pyD_ind (N := []), h1, Option.bind_some, if_pos (show reprFits _ from ⟨rfl, h.1.1.1, h.1.1.2, h.1.2, h.2⟩)]
    unfold cOr
    rw [e]
  | none =>
    rw [h1] at h
    cases h2 : pyO (pyT d) with
    | none => rw [h2] at h; cases h
    | some p =>
      rw [h2] at h
      simp only [Bool.and_eq_true, decide_eq_true_eq] at h
      obtain ⟨ps, rfl⟩ := pyO_tup h2
      refine ⟨(PyData.tuple ps).shown, fun M => ?_⟩
      have e0 : bRepr M [pyT d] = none := by
        show (pyM M (pyT d)).bind _ = _
        rw [show pyM M (pyT d) = pyD M (pyT d) from rfl, pyD_ind (N := []), h1]
        rfl
      have e : bReprO M [pyT d] = some (.str (PyData.tuple ps).shown) := by
        show (pyO (pyT d)).bind _ = _
        rw [h2, Option.bind_some, if_pos (show reprFitsO _ from ⟨rfl, h.1.1, h.1.2, h.2⟩)]
      unfold cOr
      rw [e0]
      exact e
/-- texts whose signs are signs -/
def Low (s : Str) : Prop := ∀ c ∈ s.cps.toList, c < 16 ^ 8
theorem tup_len (ts : List Str) : (tupleText ts).length ≤ piled ts + 4 := by
  have hI : ∀ b : Bool, (Str.ofString (if b = true then ",)" else ")")).length ≤ 2 := by
    intro b
    cases b <;> decide +kernel
  have h1 : (Str.join ", " ts).length ≤ piled ts := by
    cases ts with
    | nil => decide +kernel
    | cons a l =>
      have := join_length_add (a :: l) (by simp)
      omega
  have h2 := hI (ts.length == 1)
  have h3 : (Str.ofString "(").length = 1 := by decide +kernel
  unfold tupleText
  rw [strLen_append, strLen_append]
  omega
theorem shw_str {t : Str} (hl : t.length ≤ 1000) (hc : Low t) : Shw (.str t) := by
  refine shw_of ?_
  have h1 : pyD [] (pyT (.str t)) = some (.tuple [.str "NoRoom", .str t]) := by simp [pyT, pyD, pyDs]
  unfold shwb
  rw [h1]
  have h2 : (PyData.tuple [.str "NoRoom", .str t]).shown.length ≤ sizeLine := by
    simp only [PyData.shown, PyData.shownAll]
    have h3 := tup_len [reprText "NoRoom", reprText t]
    rw [piled_cons, piled_cons, piled_nil] at h3
    have h4 := StrLaws.reprText_len t hc
    have h5 : (reprText "NoRoom").length = 8 := by decide +kernel
    have h8 : 20000 ≤ sizeLine := by decide +kernel
    omega
  simp only [decide_eq_true h2, Bool.and_true]
  simp [PyData.showable, PyData.showableAll, PyData.hasDict, PyData.hasDictAll, PyData.depth, PyData.depthAll]
def inOkb : D → Bool
  | .non => true
  | .bl _ => true
  | .int _ => true
  | .str _ => true
  | .dct _ => true
  | .tup ds => ((toPs ds).map PyData.tuple).any fun p => decide (p.depth ≤ 60)
  | .lst ds => ((toPs ds).map PyData.list).any fun p => decide (p.depth ≤ 60)
  | _ => false
theorem any_strs_no {p : PyData} (h : ∀ s : Str, PyData.eqv (.str s) p = false) (ns : List Str) : ((ns.map PyData.str).any fun z => PyData.eqv z p) = false := by
  rw [List.any_eq_false]
  intro x hx
  obtain ⟨s, _, rfl⟩ := List.mem_map.mp hx
  rw [h s]
  simp
theorem inV_none {v : V} (h : ∀ s : Str, L2.eqV (.str s) v = false) (ns : List Str) : L2.inV v (ns.map V.str) = false := by
  unfold L2.inV
  rw [List.any_eq_false]
  intro x hx
  obtain ⟨s, _, rfl⟩ := List.mem_map.mp hx
  rw [h s]
  simp
theorem inFlat {d : D} {v : V} (h1 : flatD d = some v) (h2 : ∀ (M : Mem) (y : D), dInS M d y = none) (h3 : ∀ s : Str, L2.eqV (.str s) v = false) (M : Mem) (ns : List Str) : (oOr dIn inDct) M d (.lst (ns.map D.str)) = some (.bl false) := by
  have h4 : inF false M d (.lst (ns.map D.str)) = some (.bl false) := by
    simp only [inF, h1, seqD, asL, Option.bind_some, flat_strs, Option.map_some, inV_none h3, Bool.false_eq_true, if_false]
  simp only [oOr, dIn, h2, h4]
theorem inSeq {d : D} {p : PyData} (h1 : toP d = some p) (h0 : flatD d = none) (h2 : ∀ (M : Mem) (y : D), dInS M d y = none) (h3 : ∀ s : Str, PyData.eqv (.str s) p = false) (h4 : p.depth ≤ 60) (M : Mem) (ns : List Str) : (oOr dIn inDct) M d (.lst (ns.map D.str)) = some (.bl false) := by
  have e1 : inF false M d (.lst (ns.map D.str)) = none := by simp only [inF, h0, Option.bind_none]
  have e2 : toPM M (.lst (ns.map D.str)) = some (.list (ns.map PyData.str)) := by
    show toP (.lst (ns.map D.str)) = _
    unfold toP
    rw [toPs_strs]
    rfl
  have e3 : inD false M d (.lst (ns.map D.str)) = some (.bl false) := by
    simp only [inD, h1, e2, Option.bind_some, if_pos h4, any_strs_no h3, Bool.false_eq_true, if_false]
  simp only [oOr, dIn, h2, e1, e3]
theorem strs_isS : ∀ ns : List Str, (ns.map D.str).all isStrD = true := fun ns => List.all_eq_true.mpr fun x hx => by
  obtain ⟨s, _, rfl⟩ := List.mem_map.mp hx
  rfl
theorem inOk_of : ∀ {d : D}, inOkb d = true → InOk d
  | .non, _ => fun M ns => inFlat (v := .non) rfl (fun _ _ => rfl) (fun _ => rfl) M ns
  | .bl b, _ => fun M ns => inFlat (v := .bl b) rfl (fun _ _ => rfl) (fun _ => rfl) M ns
  | .int i, _ => fun M ns => inFlat (v := .int i) rfl (fun _ _ => rfl) (fun _ => rfl) M ns
  | .str _, _ => inOk_str
  | .dct kvs, _ => fun M ns => by
    have h1 : dInS M (.dct kvs) (.lst (ns.map D.str)) = none := rfl
    have h2 : inF false M (.dct kvs) (.lst (ns.map D.str)) = none := rfl
    have h3 : inD false M (.dct kvs) (.lst (ns.map D.str)) = none := by simp [inD, toP]
    have h4 : inDct M (.dct kvs) (.lst (ns.map D.str)) = some (.bl false) := by
      unfold inDct
      simp only [show asL M (.lst (ns.map D.str)) = some (ns.map D.str) from rfl, Option.bind_some, strs_isS, if_true]
    simp only [oOr, dIn, h1, h2, h3, h4]
  | .tup ds, h => fun M ns => by
    have h : ((toPs ds).map PyData.tuple).any (fun p => decide (p.depth ≤ 60)) = true := h
    cases e : toPs ds with
    | none => rw [e] at h; cases h
    | some ps =>
      rw [e] at h
      exact inSeq (p := .tuple ps) (by unfold toP; rw [e]; rfl) rfl (fun _ _ => rfl) (fun s => by simp [PyData.eqv]) (by simpa using h) M ns
  | .lst ds, h => fun M ns => by
    have h : ((toPs ds).map PyData.list).any (fun p => decide (p.depth ≤ 60)) = true := h
    cases e : toPs ds with
    | none => rw [e] at h; cases h
    | some ps =>
      rw [e] at h
      exact inSeq (p := .list ps) (by unfold toP; rw [e]; rfl) rfl (fun _ _ => rfl) (fun s => by simp [PyData.eqv]) (by simpa using h) M ns
  | .ins _ _, h => by cases h
  | .dcT _, h => by cases h
  | .fn _, h => by cases h
  | .scr _, h => by cases h
  | .ptr _, h => by cases h
  | .raw _, h => by cases h
/-- a thing that serves may be asked of -/
structure Thing (d : D) : Prop where
  f1 : Fine1 d
  sh : Shw d
  io : InOk d
def thingb (d : D) : Bool := fine1b d && shwb d && inOkb d
theorem thing_of {d : D} (h : thingb d = true) : Thing d := by
  unfold thingb at h
  rw [Bool.and_eq_true, Bool.and_eq_true] at h
  exact ⟨fine1_of h.1.1, shw_of h.1.2, inOk_of h.2⟩
theorem thing_str {s : Str} (h : s.length ≤ 1000) (hl : Low s) : Thing (.str s) := ⟨h, shw_str h hl, inOk_str⟩
/-! ### k05: things drawn -/
theorem low_lett {s : Str} (h : Lett s) : Low s := fun c hc => by
  have h2 : ∀ c ∈ abcL, c < 16 ^ 8 := by decide +kernel
  exact h2 c (h c hc)
theorem low_app {s t : Str} (h : Low s) (h' : Low t) : Low (s ++ t) := fun c hc => by
  rw [cps_append] at hc
  rcases List.mem_append.mp hc with q | q
  · exact h c q
  · exact h' c q
theorem low_cut {s : Str} {a b : Option Int} (h : Lett s) : Low (cutS s a b) := low_lett (lett_cut h)
theorem low_rev {s : Str} (h : Low s) : Low (revS s) := fun c hc => by
  refine h c ?_
  have : (revS s).cps.toList = s.cps.toList.reverse := by
    show s.cps.toList.reverse.toArray.toList = _
    simp
  rw [this] at hc
  exact List.mem_reverse.mp hc
theorem low_upper {s : Str} (h : Lett s) : Low (Txt.upper s) := fun d hd => by
  have h2 : ∀ c ∈ abcL, ∀ d ∈ Unicode.upperOf c, d < 16 ^ 8 := by decide +kernel
  have h3 : d ∈ (placed s fun _ c => Unicode.upperOf c).toList := hd
  simp [placed] at h3
  obtain ⟨l, ⟨a, ⟨i, hi, e⟩, e2⟩, hm⟩ := h3
  subst e2
  subst e
  have hm2 : d ∈ Unicode.upperOf s.cps[i] := by simpa using hm
  have hs : s.cps[i] ∈ s.cps.toList := Array.mem_toList_iff.mpr (Array.getElem_mem hi)
  exact h2 _ (h _ hs) d hm2
theorem cutS_le {s : Str} {lo hi : Option Int} : (cutS s lo hi).length ≤ s.length := cutS_length _ _ _
theorem rev_len (s : Str) : (revS s).length = s.length := by
  show s.cps.toList.reverse.toArray.size = s.cps.size
  simp
theorem odd_ok {M : Mem} {n : Nat} {N : Int} (h : BagAt M n N) (hN : N + 1 < 2 ^ 40) : Gv (f_law_odd [.ptr n] M) fun d M' => (FineK 3 d ∧ Thing d) ∧ BagAt M' n (N + 1) ∧ Kp n M M' := by
  refine v_body rfl ?_
  unfold b_law_odd
  walk_at "gos"
  refine ⟨_, pow_ii ⟨by decide, by decide, pw_small (by decide)⟩, ?_⟩
  walk_at "gos"
  refine ⟨_, rfl, ?_⟩
  walk_at "gos"
  refine ⟨_, add_ll (small_line (by simp)), ?_⟩
  walk_at "gos"
  refine ⟨rfl, (take_ok h hN (by decide) (by decide)).imp ?_⟩
  rintro _ M1 ⟨⟨x, rfl, x0, x1, hb1, k1⟩⟩
  refine Exists.elim (ix_in (l := _) x0 ?_) fun a ha => ⟨a, ix_l.trans ha.1, ?_, hb1, k1⟩
  · exact x1
  · have hh : (fineKb 3 a && thingb a) = true := by
      refine (List.all_eq_true (p := fun a => fineKb 3 a && thingb a)).mp ?_ a ha.2
      decide +kernel
    rw [Bool.and_eq_true] at hh
    exact ⟨fineK_of hh.1, thing_of hh.2⟩
theorem text_ok {M : Mem} {n : Nat} {N : Int} {s : Str} (h : BagAt M n N) (hN : N + 3 < 2 ^ 40) (hs : s.length ≤ 8) (hL : Lett s) : Gv (f_law_text_bent [.ptr n, .str s] M) fun d M' => (FineK 3 d ∧ Thing d) ∧ BagAt M' n (N + 3) ∧ Kp n M M' := by
  refine v_body rfl ?_
  unfold b_law_text_bent
  walk_at "gos"
  refine ⟨_, blen_s (small_line (by omega)), ?_⟩
  walk_at "gos"
  refine ⟨rfl, (take_ok h (by omega) (by omega) (by omega)).imp ?_⟩
  rintro _ M1 ⟨⟨x, rfl, x0, x1, hb1, k1⟩⟩
  walk_at "gos"
  refine ⟨rfl, (take_ok hb1 (by omega) (by decide) (by decide)).imp ?_⟩
  rintro _ M2 ⟨⟨y, rfl, y0, y1, hb2, k2⟩⟩
  obtain ⟨c, e, hcm⟩ := ix_in (l := ("aZ0 _-" : Str).cps.toList) y0 y1
  refine ⟨.str ⟨#[c]⟩, by rw [ix_s (by decide), e]; rfl, ?_⟩
  have lc : (⟨#[c]⟩ : Str).length = 1 := rfl
  have lo : Low ⟨#[c]⟩ := fun d hd => by
    have h2 : ∀ c ∈ ("aZ0 _-" : Str).cps.toList, c < 16 ^ 8 := by decide +kernel
    obtain rfl : d = c := by simpa using hd
    exact h2 d hcm
  generalize (⟨#[c]⟩ : Str) = cs at lc lo
  have c1 : (cutS s none (some x)).length ≤ s.length := cutS_le
  have c2 : (cutS s (some x) none).length ≤ s.length := cutS_le
  have c3 : (cutS s (some (x + 1)) none).length ≤ s.length := cutS_le
  have l0 := low_lett hL
  have hl := small_line (n := s.length) (by omega)
  walk_at "gos"
  refine ⟨_, sl_s hl, ?_⟩
  walk_at "gos"
  refine ⟨_, add_ss (small_line (by omega)), ?_⟩
  walk_at "gos"
  refine ⟨_, sl_s hl, ?_⟩
  refine ⟨_, add_ss (small_line (by rw [len_append]; omega)), ?_⟩
  walk_at "gos"
  refine ⟨_, sl_s hl, ?_⟩
  walk_at "gos"
  refine ⟨_, sl_s hl, ?_⟩
  refine ⟨_, add_ss (small_line (by omega)), ?_⟩
  walk_at "gos"
  refine ⟨by omega, ?_⟩
  walk_at "gos"
  refine ⟨_, add_ss (small_line (by omega)), ?_⟩
  walk_at "gos"
  refine ⟨_, rev_s hl, ?_⟩
  walk_at "gos"
  refine ⟨rfl, (take_ok hb2 (by omega) (by decide) (by decide)).imp ?_⟩
  rintro _ M3 ⟨⟨z, rfl, z0, z1, hb3, k3⟩⟩
  refine Exists.elim (ix_in (l := _) z0 ?_) fun a ha => ⟨a, ix_l.trans ha.1, ?_, hb3.up (by omega) (by omega), (k1.trans k2).trans k3⟩
  · exact z1
  · have hu := PyProof.Rows.len_upper s
    have hm := ha.2
    simp only [List.mem_cons, List.not_mem_nil, or_false] at hm
    have fin : ∀ t : Str, t.length ≤ 1000 → Low t → FineK 3 (.str t) ∧ Thing (.str t) := fun t ht hl => ⟨fineK_str ht, thing_str ht hl⟩
    rcases hm with rfl | rfl | rfl | rfl | rfl | rfl
    · exact fin _ (by omega) l0
    · exact fin _ (by rw [len_append, len_append]; omega) (low_app (low_app (low_cut hL) lo) (low_cut hL))
    · exact fin _ (by rw [len_append]; omega) (low_app (low_cut hL) (low_cut hL))
    · exact fin _ (by omega) (low_upper hL)
    · exact fin _ (by rw [len_append]; omega) (low_app l0 l0)
    · exact fin _ (by rw [rev_len]; omega) (low_rev l0)
theorem row_ok {k : Nat} {M : Mem} {n : Nat} {N : Int} {ds : List D} (hk : k ≤ 3) (h : BagAt M n N) (hN : N + 3 < 2 ^ 40) (hl : ds.length ≤ 10) (hd : ∀ x ∈ ds, FineK k x) : Gv (f_law_row_bent [.ptr n, .tup ds] M) fun d M' => FineK (k + 1) d ∧ BagAt M' n (N + 3) ∧ Kp n M M' := by
  refine v_body rfl ?_
  unfold b_law_row_bent
  walk_at "gos"
  refine ⟨_, bmax, ?_⟩
  walk_at "gos"
  refine ⟨rfl, (take_ok h (by omega) (by split <;> omega) (by split <;> omega)).imp ?_⟩
  rintro _ M1 ⟨⟨x, rfl, x0, x1, hb1, k1⟩⟩
  walk_at "gos"
  refine ⟨rfl, (odd_ok hb1 (by omega)).imp ?_⟩
  rintro o M2 ⟨⟨fo3, _⟩, hb2, k2⟩
  have fo : FineK k o := by
    match k, hk with
    | 0, _ => exact fo3.down.down.down
    | 1, _ => exact fo3.down.down
    | 2, _ => exact fo3.down
    | 3, _ => exact fo3
  have c1 : (Dn.cutD ds none (some x)).length ≤ ds.length := cut_len
  have c2 : (Dn.cutD ds (some x) none).length ≤ ds.length := cut_len
  have c3 : (Dn.cutD ds (some (x + 1)) none).length ≤ ds.length := cut_len
  have c4 : (Dn.cutD ds (some x) (some (x + 1))).length ≤ ds.length := cut_len
  walk_at "gos"
  refine ⟨_, sl_t, ?_⟩
  walk_at "gos"
  refine ⟨_, add_tt (small_line (by simp; omega)), ?_⟩
  walk_at "gos"
  refine ⟨_, sl_t, ?_⟩
  refine ⟨_, add_tt (small_line (by simp; omega)), ?_⟩
  walk_at "gos"
  refine ⟨_, sl_t, ?_⟩
  walk_at "gos"
  refine ⟨_, sl_t, ?_⟩
  refine ⟨_, add_tt (small_line (by omega)), ?_⟩
  walk_at "gos"
  refine ⟨_, sl_t, ?_⟩
  walk_at "gos"
  refine ⟨_, sl_t, ?_⟩
  refine ⟨_, add_tt (small_line (by omega)), ?_⟩
  walk_at "gos"
  refine ⟨_, sl_t, ?_⟩
  refine ⟨_, add_tt (small_line (by simp; omega)), ?_⟩
  walk_at "gos"
  refine ⟨_, rev_t, ?_⟩
  walk_at "gos"
  refine ⟨_, blist_t, ?_⟩
  walk_at "gos"
  refine ⟨_, sl_t, ?_⟩
  walk_at "gos"
  refine ⟨_, sl_t, ?_⟩
  refine ⟨_, add_tt (small_line (by omega)), ?_⟩
  walk_at "gos"
  refine ⟨_, add_tt (small_line (by simp; omega)), ?_⟩
  walk_at "gos"
  refine ⟨_, add_ll (small_line (by simp)), ?_⟩
  walk_at "gos"
  refine ⟨rfl, (take_ok hb2 (by omega) (by decide) (by decide)).imp ?_⟩
  rintro _ M3 ⟨⟨z, rfl, z0, z1, hb3, k3⟩⟩
  refine Exists.elim (ix_in (l := _) z0 ?_) fun a ha => ⟨a, ix_l.trans ha.1, ?_, hb3.up (by omega) (by omega), (k1.trans k2).trans k3⟩
  · exact z1
  · have hm := ha.2
    simp only [List.cons_append, List.nil_append, List.mem_cons, List.not_mem_nil, or_false] at hm
    have fin : ∀ es : List D, es.length ≤ 1000 → (∀ x ∈ es, x ∈ ds ∨ x = o) → FineK (k + 1) (.tup es) := fun es h1 h2 => fineK_tup h1 fun x hx => (h2 x hx).elim (hd x) fun e => e ▸ fo
    rcases hm with rfl | rfl | rfl | rfl | rfl | rfl | rfl | rfl
    · exact fin _ (by omega) fun x hx => .inl hx
    · refine fin _ (by simp; omega) fun x hx => ?_
      simp only [List.mem_append, List.mem_singleton] at hx
      rcases hx with (q | q) | q
      · exact .inl (cut_mem q)
      · exact .inr q
      · exact .inl (cut_mem q)
    · refine fin _ (by simp; omega) fun x hx => ?_
      simp only [List.mem_append] at hx
      rcases hx with q | q <;> exact .inl (cut_mem q)
    · refine fin _ (by simp; omega) fun x hx => ?_
      simp only [List.mem_append] at hx
      rcases hx with (q | q) | q <;> exact .inl (cut_mem q)
    · exact fin _ (by simp; omega) fun x hx => .inl (List.mem_reverse.mp hx)
    · exact fineK_lst
    · refine fin _ (by simp; omega) fun x hx => ?_
      simp only [List.mem_append] at hx
      rcases hx with q | q <;> exact .inl (cut_mem q)
    · refine fin _ (by simp; omega) fun x hx => ?_
      simp only [List.mem_append, List.mem_singleton] at hx
      exact hx
theorem room_fine {r : Str × List Str} (h1 : r.1.length ≤ 8) (h2 : r.2.length ≤ 1000) (h3 : ∀ t ∈ r.2, t.length ≤ 8) : FineK 2 (roomD r) := fineK_tup (by simp) fun x hx => by
  simp only [List.mem_cons, List.not_mem_nil, or_false] at hx
  rcases hx with rfl | rfl
  · exact fineK_str (by omega)
  · exact fineK_strs h2 h3
theorem bent_ok {M : Mem} {n : Nat} {N : Int} {ss : List Str} {rs : List (Str × List Str)} (h : BagAt M n N) (hN : N + 20 < 2 ^ 40) (hs1 : ss.length ≤ 5) (hs2 : ∀ t ∈ ss, t.length ≤ 8) (hr1 : 1 ≤ rs.length) (hr8 : rs.length ≤ 8) (hr : ∀ r ∈ rs, r.1.length ≤ 8 ∧ Lett r.1 ∧ r.2.length ≤ 5 ∧ ∀ t ∈ r.2, t.length ≤ 8) :
    Gv (f_law_bent [.ptr n, .tup (ss.map D.str), .tup (rs.map roomD)] M) fun d M' => FineK 3 d ∧ BagAt M' n (N + 20) ∧ Kp n M M' := by
  have frs : ∀ x ∈ rs.map roomD, FineK 2 x := fun x hx => by
    obtain ⟨r, hm, rfl⟩ := List.mem_map.mp hx
    obtain ⟨q1, q2, q3, q4⟩ := hr r hm
    exact room_fine q1 (by omega) q4
  refine v_body rfl ?_
  unfold b_law_bent
  refine v_seq (v_asg (v_fn (v_cons (v_var rfl (v_cons (v_call (v_cons (v_var rfl (v_nil ⟨_, blen_t, v_nil ⟨rfl, ?_⟩⟩)))))))))
  rw [List.length_map]
  refine (take_ok h (by omega) (by omega) (by omega)).imp ?_
  rintro _ M1 ⟨⟨x, rfl, x0, x1, hb1, k1⟩⟩
  obtain ⟨y, hy, hm⟩ := ix_in (l := rs.map roomD) x0 (by simpa using x1)
  obtain ⟨r, hrm, rfl⟩ := List.mem_map.mp hm
  obtain ⟨q1, q2, q3, q4⟩ := hr r hrm
  refine v_thn (v_seq (v_asgG (v_op (v_var rfl (v_var rfl ⟨_, ix_t.trans hy, v_gT2 (v_thn ?_)⟩)))))
  have ft : FineK 1 (tupD r.2) := fineK_strs (by omega) q4
  refine v_seq (v_asg (v_lst (v_cons (v_tup (v_cons (v_var rfl (v_cons (v_fn (v_cons (v_var rfl (v_cons (v_var rfl (v_nil ⟨rfl, ?_⟩)))))))))))))
  refine (row_ok (k := 0) (ds := r.2.map D.str) (by decide) hb1 (by omega) (by simp; omega) fun x hx => by
    obtain ⟨t, ht, rfl⟩ := List.mem_map.mp hx
    exact fineK_str (Nat.le_trans (q4 t ht) (by decide))).imp ?_
  rintro d1 M2 ⟨f1, hb2, k2⟩
  refine v_nil ⟨by simp, v_cons (v_tup (v_cons (v_fn (v_cons (v_var rfl (v_cons (v_var rfl (v_nil ⟨rfl, (text_ok hb2 (by omega) q1 q2).imp ?_⟩))))))))⟩
  rintro d2 M3 ⟨⟨f2, _⟩, hb3, k3⟩
  refine v_cons (v_var rfl (v_nil ⟨by simp, v_cons (v_lst (v_cons (v_var rfl (v_cons (v_var rfl (v_nil ⟨by simp, v_cons (v_tup (v_cons (v_var rfl (v_nil ⟨by simp, v_nil ⟨by simp, v_thn ?_⟩⟩))))⟩))))))⟩))
  refine v_seq (v_asg (v_op (v_op (v_var rfl (v_lst (v_cons (v_tup (v_cons (v_var rfl (v_cons (v_var rfl (v_nil ⟨by simp, v_cons (v_tup (v_cons (v_var rfl (v_cons (v_var rfl (v_nil ⟨by simp, v_cons (v_tup (v_cons (v_var rfl (v_cons (v_var rfl (v_cons (v_var rfl (v_nil ⟨by simp, v_cons (v_fn (v_cons (v_var rfl (v_nil ⟨rfl, (odd_ok hb3 (by omega)).imp ?_⟩))))⟩))))))))⟩))))))⟩))))))))))))
  rintro d3 M4 ⟨⟨f3, _⟩, hb4, k4⟩
  refine v_nil ⟨by simp, _, add_ll (small_line (by simp)), v_fn (v_cons (v_var rfl (v_cons (v_c (v_nil ⟨rfl, (take_ok hb4 (by omega) (by decide) (by decide)).imp ?_⟩)))))⟩
  rintro _ M5 ⟨⟨z, rfl, z0, z1, hb5, k5⟩⟩
  have fs : FineK 1 (.str r.1) := fineK_str (by omega)
  have ft2 : FineK 1 (tupD r.2) := fineK_strs (by omega) q4
  have fk2 : FineK 1 (.tup (ss.map D.str)) := fineK_strs (by omega) hs2
  refine Exists.elim (ix_in (l := _) z0 ?_) fun a ha => ⟨a, ix_l.trans ha.1, v_thn ?_⟩
  · exact z1
  have fa : FineK 2 a := by
    have hm := ha.2
    simp only [List.cons_append, List.nil_append, List.mem_cons, List.not_mem_nil, or_false] at hm
    have two : ∀ a b : D, FineK 1 a → FineK 1 b → FineK 2 (.tup [a, b]) := fun a b h1 h2 => fineK_tup (by simp) fun x hx => by
      simp only [List.mem_cons, List.not_mem_nil, or_false] at hx
      rcases hx with rfl | rfl <;> assumption
    rcases hm with rfl | rfl | rfl | rfl | rfl | rfl | rfl | rfl
    · exact two _ _ fs f1
    · exact two _ _ f2.down.down ft2
    · exact fineK_lst
    · exact fineK_tup (by simp) fun x hx => by
        obtain rfl : x = .str r.1 := by simpa using hx
        exact fs
    · exact two _ _ ft2 fs
    · exact two _ _ fs fk2
    · exact fineK_tup (by simp) fun x hx => by
        simp only [List.mem_cons, List.not_mem_nil, or_false] at hx
        rcases hx with rfl | rfl | rfl
        · exact fs
        · exact ft2
        · exact ft2
    · exact f3.down
  have c1 : (Dn.cutD (rs.map roomD) none (some x)).length ≤ 8 := Nat.le_trans cut_len (by simpa using hr8)
  have c2 : (Dn.cutD (rs.map roomD) (some (x + 1)) none).length ≤ 8 := Nat.le_trans cut_len (by simpa using hr8)
  walk_at "gos"
  refine ⟨_, sl_t, ?_⟩
  walk_at "gos"
  refine ⟨_, add_tt (small_line (by simp; omega)), ?_⟩
  walk_at "gos"
  refine ⟨_, sl_t, ?_⟩
  refine ⟨_, add_tt (small_line (by simp; omega)), ?_⟩
  walk_at "gos"
  refine ⟨rfl, (row_ok (k := 2) (by decide) hb5 (by omega) (by simp; omega) frs).imp ?_⟩
  rintro d6 M6 ⟨f6, hb6, k6⟩
  walk_at "gos"
  refine ⟨rfl, (take_ok hb6 (by omega) (by decide) (by decide)).imp ?_⟩
  rintro _ M7 ⟨⟨u, rfl, u0, u1, hb7, k7⟩⟩
  refine Exists.elim (ix_in (l := _) u0 ?_) fun b hb => ⟨b, ix_l.trans hb.1, ?_, hb7.up (by omega) (by omega), (((((k1.trans k2).trans k3).trans k4).trans k5).trans k6).trans k7⟩
  · exact u1
  · have hm := hb.2
    simp only [List.mem_cons, List.not_mem_nil, or_false] at hm
    rcases hm with rfl | rfl
    · refine fineK_tup (by simp; omega) fun y hy => ?_
      simp only [List.mem_append, List.mem_singleton] at hy
      rcases hy with (q | q) | q
      · exact frs y (cut_mem q)
      · rw [q]
        exact fa
      · exact frs y (cut_mem q)
    · exact f6
/-! ### k05: what is a room, what are rooms -/
theorem ix_t0 {M : Mem} {a : D} {l : List D} : dIx M (.tup (a :: l)) (.int 0) = some a := by rw [ix_t, ix_0]; rfl
theorem ix_one {α : Type} {l : List α} : atI l (1 : Int) = l[1]? := ix_nat (k := 1)
theorem ix_t1 {M : Mem} {a b : D} {l : List D} : dIx M (.tup (a :: b :: l)) (.int 1) = some b := by rw [ix_t, ix_one]; rfl
theorem ne_ii {M : Mem} {i j : Int} : eqM true M (.int i) (.int j) = some (.bl (!decide (i = j))) := by
  have h : (PyData.int i).depth ≤ 60 := by simp [PyData.depth]
  simp only [eqM, toPM, toP, Option.bind_some, h, if_true, PyData.eqv]
  congr 2
def lettersS : Str := "abcdefghijklmnopqrstuvwxyz"
def nameB : D → Bool
  | .str s => decide (1 ≤ s.length) && decide (s.length ≤ 8) && s.cps.toList.all fun c => decide (c ∈ lettersS.cps.toList)
  | _ => false
theorem nameB_str {x : D} (h : nameB x = true) : ∃ s, x = .str s := by
  cases x <;> first | exact ⟨_, rfl⟩ | (simp [nameB] at h)
theorem signs_in {M : Mem} {η : Dv} {cs : List Nat} {i : Nat} {f : XE} (hf : ∀ c M1, Gv (f (η.set i (some (.str ⟨#[c]⟩))) M1) fun y M2 => y = .bl (decide (c ∈ lettersS.cps.toList)) ∧ M2 = M1) :
    Gv (xLcL (xgName i) xYes f (cs.map fun c => .str ⟨#[c]⟩) η M) fun r M1 => r = (cs.map fun c => .bl (decide (c ∈ lettersS.cps.toList))) ∧ M1 = M := by
  induction cs with
  | nil => exact gv_ok ⟨rfl, rfl⟩
  | cons c cs ih =>
    rw [List.map_cons]
    unfold xLcL
    refine gv_bind (calm_gv (v_gn (gv_bind (calm_gv (v_yes ?_)))))
    rw [if_pos rfl]
    refine gv_bind (calm_gv ((hf c M).imp ?_))
    rintro _ _ ⟨rfl, rfl⟩
    refine gv_bind (ih.imp ?_)
    rintro _ _ ⟨rfl, rfl⟩
    exact gv_ok ⟨rfl, rfl⟩
theorem isname_ok {M : Mem} {d : D} (h : Fine1 d) : Gv (f_is_name [d] M) fun r M' => r = .bl (nameB d) ∧ M' = M := by
  refine v_body rfl ?_
  unfold b_is_name
  refine v_seq (v_ifS (v_or (v_not (v_tru (v_call (v_cons (v_var rfl (v_cons (v_c (v_nil ⟨_, isi_s h, _, tru_b, ?_⟩))))))))))
  by_cases hs : ∃ s, d = .str s
  · obtain ⟨s, rfl⟩ := hs
    have h' : s.cps.size ≤ 1000 := h
    refine iteF (v_not (v_tst (v_chain (v_c (v_call (v_cons (v_var rfl (v_nil ⟨_, blen_s (Nat.le_trans h (by decide)), ?_⟩))))))))
    by_cases c1 : 1 ≤ s.length
    · refine ⟨true, by rw [le_ii, decide_eq_true (by omega)], iteT (v_c ⟨_, le_ii, _, rfl, ?_⟩)⟩
      by_cases c2 : s.length ≤ 8
      · rw [decide_eq_true (by omega)]
        refine iteF (v_nx (v_thn (v_ret (v_call (v_cons (v_lc (v_sq (v_var rfl ⟨_, rfl, by rw [List.length_map, Array.length_toList]; omega, ?_⟩))))))))
        refine (signs_in fun c M1 => v_op (v_var rfl (v_c ⟨_, rfl, rfl, rfl⟩))).imp ?_
        rintro _ Mx ⟨rfl, e⟩
        refine v_nil ⟨_, ball_map (p := fun c => decide (c ∈ lettersS.cps.toList)), ?_, e⟩
        simp [nameB, c1, c2]
      · rw [decide_eq_false (by omega)]
        exact iteT (v_ret (v_c (v_thr ⟨by simp [nameB, c2], rfl⟩)))
    · refine ⟨false, by rw [le_ii, decide_eq_false (by omega)], iteF ⟨_, rfl, iteT (v_ret (v_c (v_thr ⟨by simp [nameB, c1], rfl⟩)))⟩⟩
  · have hn : isS d = false := by cases d <;> first | rfl | exact absurd ⟨_, rfl⟩ hs
    have hb : nameB d = false := by cases d <;> first | rfl | exact absurd ⟨_, rfl⟩ hs
    rw [hn]
    exact iteT (iteT (v_ret (v_c (v_thr ⟨by rw [hb], rfl⟩))))
theorem lawname_ok {M : Mem} {d : D} (h : Fine1 d) : Gv (f_law_is_name [d] M) fun r M' => r = .bl (nameB d) ∧ M' = M := by
  refine v_body rfl ?_
  unfold b_law_is_name
  refine v_seq (v_ifS (v_or (v_not (v_tru (v_call (v_cons (v_var rfl (v_cons (v_c (v_nil ⟨_, isi_s h, _, tru_b, ?_⟩))))))))))
  by_cases hs : ∃ s, d = .str s
  · obtain ⟨s, rfl⟩ := hs
    have h' : s.cps.size ≤ 1000 := h
    refine iteF (v_not (v_tst (v_chain (v_c (v_call (v_cons (v_var rfl (v_nil ⟨_, blen_s (Nat.le_trans h (by decide)), ?_⟩))))))))
    by_cases c1 : 1 ≤ s.length
    · refine ⟨true, by rw [le_ii, decide_eq_true (by omega)], iteT (v_c ⟨_, le_ii, _, rfl, ?_⟩)⟩
      by_cases c2 : s.length ≤ 8
      · rw [decide_eq_true (by omega)]
        refine iteF (v_nx (v_thn (v_ret (v_call (v_cons (v_lc (v_sq (v_var rfl ⟨_, rfl, by rw [List.length_map, Array.length_toList]; omega, ?_⟩))))))))
        refine (signs_in fun c M1 => v_op (v_var rfl (v_c ⟨_, rfl, rfl, rfl⟩))).imp ?_
        rintro _ Mx ⟨rfl, e⟩
        refine v_nil ⟨_, ball_map (p := fun c => decide (c ∈ lettersS.cps.toList)), ?_, e⟩
        simp [nameB, c1, c2]
      · rw [decide_eq_false (by omega)]
        exact iteT (v_ret (v_c (v_thr ⟨by simp [nameB, c2], rfl⟩)))
    · refine ⟨false, by rw [le_ii, decide_eq_false (by omega)], iteF ⟨_, rfl, iteT (v_ret (v_c (v_thr ⟨by simp [nameB, c1], rfl⟩)))⟩⟩
  · have hn : isS d = false := by cases d <;> first | rfl | exact absurd ⟨_, rfl⟩ hs
    have hb : nameB d = false := by cases d <;> first | rfl | exact absurd ⟨_, rfl⟩ hs
    rw [hn]
    exact iteT (iteT (v_ret (v_c (v_thr ⟨by rw [hb], rfl⟩))))
theorem lawset_ok {M : Mem} {ss : List Str} {d : D} (h5 : ss.length ≤ 5) (h : Fine d) : Gv (f_law_is_set [.tup (ss.map D.str), d] M) fun r M' => r = .bl (setB ss d) ∧ Gr M M' := by
  refine v_body rfl ?_
  unfold b_law_is_set
  walk_at "gos"
  refine v_ifS ?_
  walk_at "gos"
  refine ⟨_, isi_t h.1, ?_⟩
  walk_at "gos"
  by_cases hs : ∃ ds, d = .tup ds
  · obtain ⟨ds, rfl⟩ := hs
    obtain ⟨hl, hf⟩ := h.2 ds rfl
    refine iteF ?_
    walk_at "gos"
    refine ⟨_, eq_nil, ?_⟩
    walk_at "gos"
    by_cases c0 : ds.length = 0
    · rw [if_pos (by rw [decide_eq_true_eq]; omega)]
      refine iteT ?_
      walk_at "gos"
      refine ⟨?_, Gr.refl _⟩
      rw [setB_no]
      rintro ⟨ts, e, h1, _⟩
      unfold tupD at e
      injection e with e
      subst e
      exact h1 (List.eq_nil_of_length_eq_zero (by simpa using c0))
    · rw [if_neg (by rw [decide_eq_true_eq]; omega)]
      walk_at "gos"
      refine v_lc (v_sq (v_var rfl ⟨_, rfl, by omega, ?_⟩))
      refine (v_lc_map (fun x => .bl (isS x)) _ fun x hx => ?_).imp ?_
      · refine v_gn (v_yes ⟨rfl, ?_⟩)
        walk_at "gos"
        exact ⟨_, isi_s (hf x hx), rfl, rfl⟩
      rintro r M1 ⟨rfl, rfl⟩
      walk_at "gos"
      refine ⟨_, ball_map, ?_⟩
      walk_at "gos"
      by_cases c3 : ds.all isS = true
      · rw [if_neg (by rw [c3]; decide)]
        obtain ⟨ts, rfl⟩ := strs_of c3
        walk_at "gos"
        refine ⟨rfl, (law_sets_ok h5).imp ?_⟩
        rintro _ M2 ⟨rfl, g2⟩
        refine ⟨_, in_sets (o := ts), ?_, g2⟩
        rw [setB_yes]
        rw [decide_eq_true_eq, (setSort_perm _).mem_iff, mem_sets1]
        constructor
        · rintro ⟨us, e, h1, h2⟩
          have : ts = us := tupD_inj e
          subst this
          exact ⟨h1, h2⟩
        · rintro ⟨h1, h2⟩
          exact ⟨ts, rfl, h1, h2⟩
      · have c4 : ds.all isS = false := by simpa using c3
        rw [if_pos (by rw [c4]; decide)]
        walk_at "gos"
        refine ⟨?_, Gr.refl _⟩
        rw [setB_no]
        rintro ⟨ts, e, h1, h2⟩
        unfold tupD at e
        injection e with e
        subst e
        refine c3 (List.all_eq_true.mpr fun x hx => ?_)
        obtain ⟨t, ht, rfl⟩ := List.mem_map.mp hx
        rfl
  · have hn : isT d = false := by cases d <;> first | rfl | exact absurd ⟨_, rfl⟩ hs
    rw [hn]
    refine iteT (iteT ?_)
    walk_at "gos"
    refine ⟨?_, Gr.refl _⟩
    rw [setB_no]
    rintro ⟨ts, e, _⟩
    exact hs ⟨_, e⟩
/-- a room -/
def twoD : D → Option (D × D)
  | .tup [a, b] => some (a, b)
  | _ => none
noncomputable def roomB (ss : List Str) (d : D) : Bool := match twoD d with
  | some q => nameB q.1 && setB ss q.2
  | none => false
theorem two_of {ds : List D} (h : ds.length = 2) : ∃ a b, ds = [a, b] := by
  match ds, h with
  | [a, b], _ => exact ⟨a, b, rfl⟩
theorem two_no {ds : List D} (h : ¬ ds.length = 2) : twoD (.tup ds) = none := by
  match ds, h with
  | [], _ => rfl
  | [_], _ => rfl
  | [_, _], h => exact absurd rfl h
  | _ :: _ :: _ :: _, _ => rfl
theorem isroom_ok {M : Mem} {ss : List Str} {d : D} (hup : ss.Pairwise ltS) (h : FineK 2 d) : Gv (f_is_room [.tup (ss.map D.str), d] M) fun r M' => r = .bl (roomB ss d) ∧ M' = M := by
  refine v_body rfl ?_
  unfold b_is_room
  refine v_ret (v_andV (v_call (v_cons (v_var rfl (v_cons (v_c (v_nil ⟨_, isi_t h.one, _, rfl, ?_⟩)))))))
  by_cases hs : ∃ ds, d = .tup ds
  · obtain ⟨ds, rfl⟩ := hs
    obtain ⟨hl, hf⟩ := h.2 ds rfl
    refine iteT (v_andV (v_op (v_call (v_cons (v_var rfl (v_nil ⟨_, blen_t, v_c ⟨_, eq_ii, _, rfl, ?_⟩⟩))))))
    by_cases c0 : ds.length = 2
    · obtain ⟨a, b, rfl⟩ := two_of c0
      have fa := hf a (by simp)
      have fb := hf b (by simp)
      rw [decide_eq_true (by simp)]
      refine iteT (v_andV (v_fn (v_cons (v_op (v_var rfl (v_c ⟨a, ix_t0, v_nil ⟨rfl, (isname_ok fa.one).imp ?_⟩⟩))))))
      rintro _ Mx ⟨rfl, e⟩
      subst Mx
      refine ⟨_, rfl, ?_⟩
      have er : roomB ss (.tup [a, b]) = (nameB a && setB ss b) := rfl
      rw [er]
      cases nameB a with
      | false => exact iteF ⟨rfl, rfl⟩
      | true =>
        refine iteT (v_fn (v_cons (v_var rfl (v_cons (v_op (v_var rfl (v_c ⟨b, ix_t1, v_nil ⟨rfl, (prog_set_ok hup fb.fine).imp ?_⟩⟩)))))))
        rintro _ Mx ⟨rfl, e⟩
        exact ⟨rfl, e⟩
    · rw [decide_eq_false (by omega)]
      refine iteF ⟨?_, rfl⟩
      unfold roomB
      rw [two_no c0]
  · have hn : isT d = false := by cases d <;> first | rfl | exact absurd ⟨_, rfl⟩ hs
    have hb : twoD d = none := by cases d <;> first | rfl | exact absurd ⟨_, rfl⟩ hs
    rw [hn]
    refine iteF ⟨?_, rfl⟩
    unfold roomB
    rw [hb]
theorem lawroom_ok {M : Mem} {ss : List Str} {d : D} (h5 : ss.length ≤ 5) (h : FineK 2 d) : Gv (f_law_is_room [.tup (ss.map D.str), d] M) fun r M' => r = .bl (roomB ss d) ∧ Gr M M' := by
  refine v_body rfl ?_
  unfold b_law_is_room
  refine v_seq (v_ifS (v_or (v_not (v_tru (v_call (v_cons (v_var rfl (v_cons (v_c (v_nil ⟨_, isi_t h.one, _, tru_b, ?_⟩))))))))))
  by_cases hs : ∃ ds, d = .tup ds
  · obtain ⟨ds, rfl⟩ := hs
    obtain ⟨hl, hf⟩ := h.2 ds rfl
    refine iteF (v_tst (v_op (v_call (v_cons (v_var rfl (v_nil ⟨_, blen_t, v_c ⟨_, ne_ii, _, rfl, ?_⟩⟩))))))
    by_cases c0 : ds.length = 2
    · obtain ⟨a, b, rfl⟩ := two_of c0
      have fa := hf a (by simp)
      have fb := hf b (by simp)
      rw [decide_eq_true (by simp)]
      refine iteF (v_nx (v_thn (v_ret (v_andV (v_fn (v_cons (v_op (v_var rfl (v_c ⟨a, ix_t0, v_nil ⟨rfl, (lawname_ok fa.one).imp ?_⟩⟩)))))))))
      rintro _ Mx ⟨rfl, e⟩
      subst Mx
      refine ⟨_, rfl, ?_⟩
      have er : roomB ss (.tup [a, b]) = (nameB a && setB ss b) := rfl
      rw [er]
      cases nameB a with
      | false => exact iteF ⟨rfl, Gr.refl _⟩
      | true =>
        refine iteT (v_fn (v_cons (v_var rfl (v_cons (v_op (v_var rfl (v_c ⟨b, ix_t1, v_nil ⟨rfl, (lawset_ok h5 fb.fine).imp ?_⟩⟩)))))))
        rintro _ Mx ⟨rfl, g⟩
        exact ⟨rfl, g⟩
    · rw [decide_eq_false (by omega)]
      refine iteT (v_ret (v_c (v_thr ⟨?_, Gr.refl _⟩)))
      unfold roomB
      rw [two_no c0]
  · have hn : isT d = false := by cases d <;> first | rfl | exact absurd ⟨_, rfl⟩ hs
    have hb : twoD d = none := by cases d <;> first | rfl | exact absurd ⟨_, rfl⟩ hs
    rw [hn]
    refine iteT (iteT (v_ret (v_c (v_thr ⟨?_, Gr.refl _⟩))))
    unfold roomB
    rw [hb]
def nmOf (d : D) : Str := match twoD d with
  | some (.str s, _) => s
  | _ => ""
noncomputable def roomsB (ss : List Str) : D → Bool
  | .tup ds => decide (1 ≤ ds.length) && decide (ds.length ≤ 8) && ds.all (roomB ss) && risesS (ds.map nmOf)
  | _ => false
theorem room_two {ss : List Str} {d : D} (h : roomB ss d = true) : ∃ b, d = .tup [.str (nmOf d), b] := by
  unfold roomB at h
  cases e : twoD d with
  | none => rw [e] at h; cases h
  | some q =>
    rw [e] at h
    obtain ⟨a, b⟩ := q
    have h1 : nameB a = true := by
      cases hn : nameB a with
      | true => rfl
      | false => simp [hn] at h
    obtain ⟨s, rfl⟩ := nameB_str h1
    have hd : d = .tup [.str s, b] := by
      unfold twoD at e
      split at e
      · cases e; rfl
      · cases e
    have hn : nmOf d = s := by rw [hd]; rfl
    exact ⟨b, by rw [hn]; exact hd⟩
theorem arerooms_ok {M : Mem} {ss : List Str} {d : D} (hup : ss.Pairwise ltS) (h : FineK 3 d) : Gv (f_are_rooms [.tup (ss.map D.str), d] M) fun r M' => r = .bl (roomsB ss d) ∧ M' = M := by
  refine v_body rfl ?_
  unfold b_are_rooms
  refine v_seq (v_ifS (v_or (v_not (v_tru (v_call (v_cons (v_var rfl (v_cons (v_c (v_nil ⟨_, isi_t h.one, _, tru_b, ?_⟩))))))))))
  by_cases hs : ∃ ds, d = .tup ds
  · obtain ⟨ds, rfl⟩ := hs
    obtain ⟨hl, hf⟩ := h.2 ds rfl
    refine iteF (v_not (v_tst (v_chain (v_c (v_call (v_cons (v_var rfl (v_nil ⟨_, blen_t, ?_⟩))))))))
    by_cases c1 : 1 ≤ ds.length
    · refine ⟨true, by rw [le_ii, decide_eq_true (by omega)], iteT (v_c ⟨_, le_ii, _, rfl, ?_⟩)⟩
      by_cases c2 : ds.length ≤ 8
      · rw [decide_eq_true (by omega)]
        refine iteF (v_nx (v_thn (v_ret (v_andV (v_call (v_cons (v_lc (v_sq (v_var rfl ⟨_, rfl, by omega, ?_⟩)))))))))
        refine (v_lc_map (fun x => .bl (roomB ss x)) _ fun x hx => ?_).imp ?_
        · refine v_gn (v_yes ⟨rfl, v_fn (v_cons (v_var rfl (v_cons (v_var rfl (v_nil ⟨rfl, (isroom_ok hup (hf x hx)).imp ?_⟩)))))⟩)
          rintro _ Mx ⟨rfl, e⟩
          exact ⟨rfl, e⟩
        rintro _ Mx ⟨rfl, e⟩
        subst Mx
        refine v_nil ⟨_, ball_map, _, rfl, ?_⟩
        cases c3 : ds.all (roomB ss) with
        | false => exact iteF ⟨by simp [roomsB, c3], rfl⟩
        | true =>
          refine iteT (v_fn (v_cons (v_lc (v_sq (v_var rfl ⟨_, rfl, by omega, ?_⟩)))))
          refine (v_lc_map (fun x => .str (nmOf x)) _ fun x hx => ?_).imp ?_
          · obtain ⟨b, e⟩ := room_two (List.all_eq_true.mp c3 x hx)
            generalize nmOf x = s at e
            subst e
            exact v_gT2 (v_yes ⟨rfl, v_var rfl ⟨rfl, rfl⟩⟩)
          rintro _ Mx ⟨rfl, e⟩
          subst Mx
          have em : (ds.map fun x => D.str (nmOf x)) = (ds.map nmOf).map D.str := by rw [List.map_map]; rfl
          rw [em]
          refine v_nil ⟨rfl, (rising_l (ts := ds.map nmOf) (by rw [List.length_map]; omega)).imp ?_⟩
          rintro _ Mx ⟨rfl, e⟩
          exact ⟨by simp [roomsB, c1, c2, c3], e⟩
      · rw [decide_eq_false (by omega)]
        exact iteT (v_ret (v_c (v_thr ⟨by simp [roomsB, c2], rfl⟩)))
    · exact ⟨false, by rw [le_ii, decide_eq_false (by omega)], iteF ⟨_, rfl, iteT (v_ret (v_c (v_thr ⟨by simp [roomsB, c1], rfl⟩)))⟩⟩
  · have hn : isT d = false := by cases d <;> first | rfl | exact absurd ⟨_, rfl⟩ hs
    have hb : roomsB ss d = false := by cases d <;> first | rfl | exact absurd ⟨_, rfl⟩ hs
    rw [hn]
    exact iteT (iteT (v_ret (v_c (v_thr ⟨by rw [hb], rfl⟩))))
theorem v_lc_gr {η : Dv} {M : Mem} {f : XE} {α : Type} {gt : XG} (e : α → D) (h : α → D) (l : List α) (hl : ∀ a ∈ l, ∀ M1, Gr M M1 → Gv (gt (e a) η M1) fun η1 M2 => M2 = M1 ∧ Gv (f η1 M2) fun y M3 => y = h a ∧ Gr M1 M3) : Gv (xLcL gt xYes f (l.map e) η M) fun r M1 => r = l.map h ∧ Gr M M1 := by
  refine (v_lcL (fun rest acc Mx => ∃ pre suf, l = pre ++ suf ∧ rest = suf.map e ∧ acc = pre.map h ∧ Gr M Mx) (l.map e) ?_ [] ⟨[], l, rfl, rfl, rfl, Gr.refl M⟩).imp ?_
  · rintro d r acc Mx ⟨pre, suf, e1, e2, rfl, g1⟩
    cases suf with
    | nil => cases e2
    | cons a suf =>
      rw [List.map_cons] at e2
      injection e2 with e2 e3
      subst e2 e3
      refine (hl a (by rw [e1]; simp) Mx g1).imp ?_
      rintro η1 M2 ⟨rfl, h2⟩
      refine v_yes ?_
      rw [if_pos rfl]
      refine h2.imp ?_
      rintro y M3 ⟨rfl, g3⟩
      exact ⟨pre ++ [a], suf, by rw [e1]; simp, rfl, by simp, g1.trans g3⟩
  · rintro r Mx ⟨pre, suf, e1, e2, e3, g1⟩
    cases suf with
    | cons _ _ => cases e2
    | nil =>
      rw [List.append_nil] at e1
      subst e1
      rw [List.nil_append] at e3
      exact ⟨e3, g1⟩
theorem lawrooms_ok {M : Mem} {ss : List Str} {d : D} (h5 : ss.length ≤ 5) (h : FineK 3 d) : Gv (f_law_are_rooms [.tup (ss.map D.str), d] M) fun r M' => r = .bl (roomsB ss d) ∧ Gr M M' := by
  refine v_body rfl ?_
  unfold b_law_are_rooms
  refine v_seq (v_ifS (v_or (v_not (v_tru (v_call (v_cons (v_var rfl (v_cons (v_c (v_nil ⟨_, isi_t h.one, _, tru_b, ?_⟩))))))))))
  by_cases hs : ∃ ds, d = .tup ds
  · obtain ⟨ds, rfl⟩ := hs
    obtain ⟨hl, hf⟩ := h.2 ds rfl
    refine iteF (v_or (v_not (v_tst (v_chain (v_c (v_call (v_cons (v_var rfl (v_nil ⟨_, blen_t, ?_⟩)))))))))
    by_cases c1 : 1 ≤ ds.length
    · refine ⟨true, by rw [le_ii, decide_eq_true (by omega)], iteT (v_c ⟨_, le_ii, _, rfl, ?_⟩)⟩
      by_cases c2 : ds.length ≤ 8
      · rw [decide_eq_true (by omega)]
        refine iteF (v_not (v_tru (v_call (v_cons (v_lc (v_sq (v_var rfl ⟨_, rfl, by omega, ?_⟩)))))))
        have hm := v_lc_gr (η := wipeD [some (.tup (ss.map D.str)), some (.tup ds), none, none] [2]) (M := M) (gt := xgName 2) (f := xFn 2 f_law_is_room (xCons (xVar 0) (xCons (xVar 2) xNil))) (e := id) (h := fun x => .bl (roomB ss x)) ds fun x hx M1 g1 => by
          refine v_gn ⟨rfl, v_fn (v_cons (v_var rfl (v_cons (v_var rfl (v_nil ⟨rfl, (lawroom_ok h5 (hf x hx)).imp ?_⟩)))))⟩
          rintro _ Mx ⟨rfl, g⟩
          exact ⟨rfl, g⟩
        rw [List.map_id] at hm
        refine Gv.imp hm ?_
        rintro _ M1 ⟨rfl, g1⟩
        refine v_nil ⟨_, ball_map, _, tru_b, ?_⟩
        cases c3 : ds.all (roomB ss) with
        | false => exact iteT (v_ret (v_c (v_thr ⟨by simp [roomsB, c3], g1⟩)))
        | true =>
          refine iteF (v_nx (v_thn (v_ret (v_fn (v_cons (v_lc (v_sq (v_var rfl ⟨_, rfl, by omega, ?_⟩))))))))
          refine (v_lc_map (fun x => .str (nmOf x)) _ fun x hx => ?_).imp ?_
          · obtain ⟨b, e⟩ := room_two (List.all_eq_true.mp c3 x hx)
            generalize nmOf x = s at e
            subst e
            exact v_gn (v_yes ⟨rfl, v_op (v_var rfl (v_c ⟨_, ix_t0, rfl, rfl⟩))⟩)
          rintro _ Mx ⟨rfl, e⟩
          subst Mx
          have em : (ds.map fun x => D.str (nmOf x)) = (ds.map nmOf).map D.str := by rw [List.map_map]; rfl
          rw [em, law_rises_eq]
          refine v_nil ⟨rfl, (rising_l (ts := ds.map nmOf) (by rw [List.length_map]; omega)).imp ?_⟩
          rintro _ Mx ⟨rfl, e⟩
          subst Mx
          exact ⟨by simp [roomsB, c1, c2, c3], g1⟩
      · rw [decide_eq_false (by omega)]
        exact iteT (iteT (v_ret (v_c (v_thr ⟨by simp [roomsB, c2], Gr.refl _⟩))))
    · exact ⟨false, by rw [le_ii, decide_eq_false (by omega)], iteF ⟨_, rfl, iteT (iteT (v_ret (v_c (v_thr ⟨by simp [roomsB, c1], Gr.refl _⟩))))⟩⟩
  · have hn : isT d = false := by cases d <;> first | rfl | exact absurd ⟨_, rfl⟩ hs
    have hb : roomsB ss d = false := by cases d <;> first | rfl | exact absurd ⟨_, rfl⟩ hs
    rw [hn]
    exact iteT (iteT (v_ret (v_c (v_thr ⟨by rw [hb], Gr.refl _⟩))))
/-! ### k05: serving -/
theorem eq_ss {M : Mem} {a b : Str} : eqM false M (.str a) (.str b) = some (.bl (decide (a = b))) := by
  simp [eqM, toPM, toP, PyData.eqv, PyData.depth]
  rfl
abbrev exN (x f : Str) (v : _root_.Dn.D) : Exc := ⟨x, [("called", .str x), (f, v)]⟩
section
variable {M : Mem} {rs : List (Str × List Str)} {o : List Str}
theorem takes_yes {r : Str × List Str} (hr : r ∈ rs) (nd : (rs.map (·.1)).Nodup) (h8 : r.1.length ≤ 1000) : Gv (f_takes_of_room [.tup (rs.map roomD), .str r.1] M) fun x M' => x = tupD r.2 ∧ M' = M := by
  refine v_body rfl ?_
  unfold b_takes_of_room
  refine v_seq (Gv.imp (P := fun fl M' => fl = .rt (tupD r.2) ∧ M' = M) (v_for (PI := fun _ _ => True) (v_sq (v_var rfl ⟨_, rfl, ?_⟩))) ?_)
  · refine v_forL (fun rest η X => (∃ l : List (Str × List Str), rest = l.map roomD ∧ r ∈ l ∧ (l.map (·.1)).Nodup) ∧ (∃ a2 a3, η = [some (.tup (rs.map roomD)), some (.str r.1), a2, a3]) ∧ X = M) _ ⟨⟨rs, rfl, hr, nd⟩, ⟨_, _, rfl⟩, rfl⟩ ?_ ?_
    · rintro d rest η X ⟨⟨l, e, hl, ndl⟩, ⟨a2, a3, rfl⟩, eX⟩
      subst X
      cases l with
      | nil => cases hl
      | cons q l =>
        rw [List.map_cons] at e
        injection e with e1 e2
        subst e1 e2
        rw [List.map_cons, List.nodup_cons] at ndl
        refine v_gT2 (v_ifS (v_and (v_tru (v_call (v_cons (v_var rfl (v_cons (v_c (v_nil ⟨_, isi_s (d := .str r.1) h8, _, tru_b, iteT (v_tst (v_op (v_var rfl (v_var rfl ⟨_, eq_ss, _, rfl, ?_⟩))))⟩)))))))))
        by_cases eq : q.1 = r.1
        · rw [decide_eq_true eq]
          rcases List.mem_cons.mp hl with e | e
          · subst e
            exact iteT (v_ret (v_var rfl ⟨rfl, rfl⟩))
          · have hm : r.1 ∈ l.map (·.1) := List.mem_map.mpr ⟨r, e, rfl⟩
            rw [← eq] at hm
            exact absurd hm ndl.1
        · rw [decide_eq_false eq]
          refine iteF (v_nx ⟨⟨l, rfl, ?_, ndl.2⟩, ⟨_, _, rfl⟩, rfl⟩)
          rcases List.mem_cons.mp hl with e | e
          · subst e
            exact absurd rfl eq
          · exact e
    · rintro η X ⟨⟨l, e, hl, _⟩, _, _⟩
      cases l with
      | nil => cases hl
      | cons _ _ => cases e
  rintro _ Mx ⟨rfl, e⟩
  exact v_thr ⟨rfl, e⟩
theorem takes_no {d : D} (hd : Fine1 d) (h : ∀ s, d = .str s → s ∉ rs.map (·.1)) : Gx (f_takes_of_room [.tup (rs.map roomD), d] M) fun e M' => e = exN "NoRoom" "name" d ∧ M' = M := by
  refine x_body rfl ?_
  unfold b_takes_of_room
  refine x_seq (Gv.imp (P := fun fl M' => (∃ a2 a3, fl = .nx [some (.tup (rs.map roomD)), some d, a2, a3]) ∧ M' = M) (v_for (PI := fun _ _ => True) (v_sq (v_var rfl ⟨_, rfl, ?_⟩))) ?_)
  · refine v_forL (fun rest η X => (∃ l : List (Str × List Str), rest = l.map roomD ∧ ∀ q ∈ l, q ∈ rs) ∧ (∃ a2 a3, η = [some (.tup (rs.map roomD)), some d, a2, a3]) ∧ X = M) _ ⟨⟨rs, rfl, fun _ q => q⟩, ⟨_, _, rfl⟩, rfl⟩ ?_ ?_
    · rintro d' rest η X ⟨⟨l, e, hl⟩, ⟨a2, a3, rfl⟩, eX⟩
      subst X
      cases l with
      | nil => cases e
      | cons q l =>
        rw [List.map_cons] at e
        injection e with e1 e2
        subst e1 e2
        have hl2 : ∀ q ∈ l, q ∈ rs := fun u hu => hl u (List.mem_cons_of_mem _ hu)
        refine v_gT2 (v_ifS (v_and (v_tru (v_call (v_cons (v_var rfl (v_cons (v_c (v_nil ⟨_, isi_s hd, _, tru_b, ?_⟩)))))))))
        by_cases hs : ∃ s, d = .str s
        · obtain ⟨s, rfl⟩ := hs
          refine iteT (v_tst (v_op (v_var rfl (v_var rfl ⟨_, eq_ss, _, rfl, ?_⟩))))
          have : ¬ q.1 = s := fun e => h s rfl (by rw [← e]; exact List.mem_map.mpr ⟨q, hl q List.mem_cons_self, rfl⟩)
          rw [decide_eq_false this]
          exact iteF (v_nx ⟨⟨l, rfl, hl2⟩, ⟨_, _, rfl⟩, rfl⟩)
        · have hn : isS d = false := by cases d <;> first | rfl | exact absurd ⟨_, rfl⟩ hs
          rw [hn]
          exact iteF (iteF (v_nx ⟨⟨l, rfl, hl2⟩, ⟨_, _, rfl⟩, rfl⟩))
    · rintro η X ⟨_, ⟨a2, a3, rfl⟩, eX⟩
      exact ⟨⟨_, _, rfl⟩, eX⟩
  rintro _ Mx ⟨⟨a2, a3, rfl⟩, e⟩
  subst Mx
  exact x_thn (x_raise (v_var rfl ⟨rfl, rfl⟩))
theorem serves_yes {r : Str × List Str} (hr : r ∈ rs) (nd : (rs.map (·.1)).Nodup) (h8 : r.1.length ≤ 1000) (ho : o.length ≤ 1000) : Gv (f_serves [.tup (rs.map roomD), .str r.1, tupD o] M) fun x M' => x = .bl (meets r.2 o) ∧ M' = M := by
  refine v_body rfl ?_
  unfold b_serves
  refine v_ret (v_fn (v_cons (v_fn (v_cons (v_var rfl (v_cons (v_var rfl (v_nil ⟨rfl, (takes_yes hr nd h8).imp ?_⟩))))))))
  rintro _ Mx ⟨rfl, e⟩
  subst Mx
  exact v_cons (v_var rfl (v_nil ⟨rfl, met_ok ho⟩))
theorem x_ret {g : XE} {η : Dv} {M : Mem} {E : Exc → Mem → Prop} (h : Gx (g η M) E) : Gx (xRet g η M) E := gx_bind1 h
theorem serves_no {d k : D} (hd : Fine1 d) (h : ∀ s, d = .str s → s ∉ rs.map (·.1)) : Gx (f_serves [.tup (rs.map roomD), d, k] M) fun e M' => e = exN "NoRoom" "name" d ∧ M' = M := by
  refine x_body rfl ?_
  unfold b_serves
  refine x_ret (gx_bind1 (gx_bind1 (gx_bind (v_cons (v_var rfl (v_cons (v_var rfl (v_nil ?_))))))))
  rw [if_pos (by rfl)]
  exact takes_no hd h
end
theorem truths_ok {M : Mem} {α : Type} {l : List α} {p : α → Bool} (hl : l.length ≤ 1000) : Gv (f_law_truths [.lst (l.map fun a => .bl (p a)), .lst (l.map fun a => .bl (p a))] M) fun r M' => r = .bl true ∧ M' = M := by
  refine v_body rfl ?_
  unfold b_law_truths
  have hp : ∀ l : List α, toPs (l.map fun a => D.bl (p a)) = some (l.map fun a => PyData.bool (p a)) := fun l => by
    induction l with
    | nil => simp [toPs]
    | cons a l ih => simp [toPs, toP, ih]
  have hq : ∀ l : List α, PyData.eqvAll (l.map fun a => PyData.bool (p a)) (l.map fun a => PyData.bool (p a)) = true := fun l => by
    induction l with
    | nil => simp [PyData.eqvAll]
    | cons a l ih => simp [PyData.eqvAll, PyData.eqv, ih]
  have hdp : ∀ l : List α, PyData.depthAll (l.map fun a => PyData.bool (p a)) ≤ 1 := fun l => by
    induction l with
    | nil => simp [PyData.depthAll]
    | cons a l ih => simp only [List.map_cons, PyData.depthAll, PyData.depth]; omega
  have he : eqM false M (.lst (l.map fun a => .bl (p a))) (.lst (l.map fun a => .bl (p a))) = some (.bl true) := by
    have h1 : toPM M (.lst (l.map fun a => D.bl (p a))) = some (.list (l.map fun a => PyData.bool (p a))) := by
      show toP _ = _
      unfold toP
      rw [hp]
      rfl
    have h2 : (PyData.list (l.map fun a => PyData.bool (p a))).depth ≤ 60 := by
      simp only [PyData.depth]
      have := hdp l
      omega
    unfold eqM
    rw [h1]
    simp only [Option.bind_some, if_pos h2, PyData.eqv, hq]
    simp
  refine v_ret (v_andV (v_op (v_var rfl (v_var rfl ⟨_, he, _, rfl, iteT (v_call (v_cons (v_lc (v_sq (v_var rfl ⟨_, rfl, by rw [List.length_map]; omega, ?_⟩)))))⟩))))
  refine (v_lc_ma (e := fun a => .bl (p a)) (h := fun _ => .bl true) l fun a _ => v_gn (v_call (v_cons (v_var rfl (v_cons (v_c (v_nil ⟨_, isi_b, rfl, rfl, rfl⟩))))))).imp ?_
  rintro _ Mx ⟨rfl, e⟩
  subst Mx
  refine v_nil ⟨_, ball_map (p := fun _ => true), ?_, rfl⟩
  rw [List.all_eq_true.mpr fun _ _ => rfl]
/-! ### k05: the law -/
theorem shw_tup {t : Str} (hl : t.length ≤ 1000) (hc : Low t) : Shw (.tup [.str t]) := by
  refine shw_of ?_
  have h1 : pyD [] (pyT (.tup [.str t])) = some (.tuple [.str "NoRoom", .tuple [.str t]]) := by simp [pyT, pyD, pyDs]
  unfold shwb
  rw [h1]
  have h2 : (PyData.tuple [.str "NoRoom", .tuple [.str t]]).shown.length ≤ sizeLine := by
    simp only [PyData.shown, PyData.shownAll]
    have h3 := tup_len [reprText "NoRoom", tupleText [reprText t]]
    have h6 := tup_len [reprText t]
    rw [piled_cons, piled_cons, piled_nil] at h3
    rw [piled_cons, piled_nil] at h6
    have h4 := StrLaws.reprText_len t hc
    have h5 : (reprText "NoRoom").length = 8 := by decide +kernel
    have h8 : 20000 ≤ sizeLine := by decide +kernel
    omega
  simp only [decide_eq_true h2, Bool.and_true]
  simp [PyData.showable, PyData.showableAll, PyData.hasDict, PyData.hasDictAll, PyData.depth, PyData.depthAll]
theorem thing_tup {t : Str} (hl : t.length ≤ 1000) (hc : Low t) : Thing (.tup [.str t]) := ⟨trivial, shw_tup hl hc, inOk_of (by simp [inOkb, toPs, toP, PyData.depth, PyData.depthAll])⟩
theorem bRepr_of {M : Mem} {x : D} {p : PyData} (h : pyM M x = some p) (hf : reprFits p) : bRepr M [x] = some (.str p.shown) := by
  show (pyM M x).bind _ = _
  rw [h, Option.bind_some, if_pos hf]
theorem fits_none : reprFits (.tuple [.str "none", .none]) := ⟨rfl, by decide +kernel, by decide +kernel, by decide +kernel, by decide +kernel⟩
theorem shw_none : ∃ s : Str, ∀ M : Mem, (cOr bRepr bReprO) M [.tup [.str "none", .non]] = some (.str s) := by
  refine ⟨(PyData.tuple [.str "none", .none]).shown, fun M => ?_⟩
  have h1 : pyM M (.tup [.str "none", .non]) = some (.tuple [.str "none", .none]) := by
    show pyD M _ = _
    simp [pyD, pyDs]
  unfold cOr
  rw [bRepr_of h1 fits_none]
theorem ne_str {M : Mem} {s : Str} : eqM true M (.str s) (.str s) = some (.bl false) := by
  unfold eqM
  simp [toPM, toP, PyData.depth, PyData.eqv]
def hitB (d : D) (ns : List Str) : Bool := match d with
  | .str s => decide (s ∈ ns)
  | _ => false
/-- a thing is asked of -/
noncomputable def askR : XS := (xSeq (xAsg (xIf (xTst (xOp (oOr dIn inDct) (xVar 8) (xLc frozenL (xSq (xVar 4)) (xgName 14) xYes (xOp dIx (xVar 14) (xC (.int 0))) [14]))) (xTup (xCons (xC (.str "none")) (xCons (xC .non) xNil))) (xTup (xCons (xC (.str "NoRoom")) (xCons (xVar 8) xNil)))) (xgName 12)) (xIfS (xTst (xOp (eqM true) (xCall (cOr bRepr bReprO) (xCons (xRefusal refXs 0 "law" (lamQ "law") (xFn 3 f_serves (xCons (xVar 4) (xCons (xVar 8) (xCons (xVar 3) xNil))))) xNil)) (xCall (cOr bRepr bReprO) (xCons (xVar 12) xNil)))) (xRet (xC (.bl false))) xNx))
abbrev dv5 (ns : List Int) (k n : Nat) (ss : List Str) (rs : List (Str × List Str)) (a5 a6 a7 a8 a9 a10 a11 a12 a13 a14 : Option D) : Dv := [some (.scr ns), some (.int (k : Nat)), some (.ptr n), some (.tup (ss.map D.str)), some (.tup (rs.map roomD)), a5, a6, a7, a8, a9, a10, a11, a12, a13, a14]
theorem ask_ok {M : Mem} {ns : List Int} {k n : Nat} {ss : List Str} {rs : List (Str × List Str)} {d : D} {a5 a6 a7 a9 a10 a11 a12 a13 a14 : Option D} (t0 : M[0]? = some (.tab "law" (lamQ "law"))) (h5 : ss.length ≤ 5) (h8 : rs.length ≤ 8) (hn : ∀ r ∈ rs, r.1.length ≤ 8) (nd : (rs.map (·.1)).Nodup) (hd : Thing d) :
    Gv (askR (dv5 ns k n ss rs a5 a6 a7 (some d) a9 a10 a11 a12 a13 a14) M) fun fl M' => (∃ a12', fl = .nx (dv5 ns k n ss rs a5 a6 a7 (some d) a9 a10 a11 a12' a13 a14)) ∧ Gr M M' := by
  unfold askR
  have key : ∀ (due : D) (s : Str), (∀ M : Mem, (cOr bRepr bReprO) M [due] = some (.str s)) → (∀ P : D → Mem → Prop, (∀ M', Gr M M' → P due M') → Gv (xRefusal refXs 0 "law" (lamQ "law") (xFn 3 f_serves (xCons (xVar 4) (xCons (xVar 8) (xCons (xVar 3) xNil)))) (dv5 ns k n ss rs a5 a6 a7 (some d) a9 a10 a11 (some due) a13 a14) M) P) →
      Gv ((xIfS (xTst (xOp (eqM true) (xCall (cOr bRepr bReprO) (xCons (xRefusal refXs 0 "law" (lamQ "law") (xFn 3 f_serves (xCons (xVar 4) (xCons (xVar 8) (xCons (xVar 3) xNil))))) xNil)) (xCall (cOr bRepr bReprO) (xCons (xVar 12) xNil)))) (xRet (xC (.bl false))) xNx) (dv5 ns k n ss rs a5 a6 a7 (some d) a9 a10 a11 (some due) a13 a14) M) fun fl M' => (∃ a12', fl = .nx (dv5 ns k n ss rs a5 a6 a7 (some d) a9 a10 a11 a12' a13 a14)) ∧ Gr M M' := fun due s hs hr => by
    refine v_ifS (v_tst (v_op (v_call (v_cons (hr _ fun M' g => v_nil ⟨_, hs _, v_call (v_cons (v_var rfl (v_nil ⟨_, hs _, _, ne_str, _, rfl, iteF (v_nx ⟨⟨_, rfl⟩, g⟩)⟩)))⟩)))))
  refine v_seq (v_asg (v_if (v_tst (v_op (v_var rfl (v_lc (v_sq (v_var rfl ⟨_, rfl, by rw [List.length_map]; omega, ?_⟩))))))))
  refine (v_lc_ma (e := roomD) (h := fun r => .str r.1) rs fun r _ => v_gn (v_op (v_var rfl (v_c ⟨_, ix_t0, rfl, rfl, rfl⟩)))).imp ?_
  rintro _ Mx ⟨rfl, e⟩
  subst Mx
  have em : (rs.map fun r => D.str r.1) = (rs.map (·.1)).map D.str := by rw [List.map_map]; rfl
  rw [em]
  have hio : (oOr dIn inDct) M d (.lst ((rs.map (·.1)).map D.str)) = some (.bl (hitB d (rs.map (·.1)))) := hd.io M _
  refine ⟨_, hio, _, rfl, ?_⟩
  by_cases hit : ∃ s, d = .str s ∧ s ∈ rs.map (·.1)
  · obtain ⟨s, rfl, hm⟩ := hit
    obtain ⟨r, hr, rfl⟩ := List.mem_map.mp hm
    obtain ⟨z, hz⟩ := shw_none
    have : hitB (.str r.1) (rs.map (·.1)) = true := decide_eq_true hm
    rw [this]
    refine iteT (v_tup (v_cons (v_c (v_cons (v_c (v_nil ⟨by simp, v_thn (key _ z hz fun P hP => ?_)⟩))))))
    refine v_refO t0 (v_fn (v_cons (v_var rfl (v_cons (v_var rfl (v_cons (v_var rfl (v_nil ⟨rfl, (serves_yes (o := ss) hr nd (Nat.le_trans (hn r hr) (by decide)) (by omega)).imp ?_⟩))))))))
    rintro _ Mx ⟨rfl, e⟩
    subst Mx
    exact hP _ (Gr.refl _)
  · have hno : ∀ s, d = .str s → s ∉ rs.map (·.1) := fun s e hm => hit ⟨s, e, hm⟩
    obtain ⟨z, hz⟩ := hd.sh
    have : hitB d (rs.map (·.1)) = false := by
      cases d <;> first | rfl | (exact decide_eq_false (hno _ rfl))
    rw [this]
    refine iteF (v_tup (v_cons (v_c (v_cons (v_var rfl (v_nil ⟨by simp, v_thn (key (pyT d) z hz fun P hP => ?_)⟩))))))
    refine v_refF t0 (gx_bind (v_cons (v_var rfl (v_cons (v_var rfl (v_cons (v_var rfl (v_nil ?_))))))))
    rw [if_pos (by rfl)]
    refine (serves_no hd.f1 hno).imp ?_
    rintro _ Mx ⟨rfl, e⟩
    subst Mx
    exact ⟨_, _, rfl, rfl, hP _ (Gr.app _ _)⟩
/-! ### k05: law_gv -/
theorem setS_of {ss o : List Str} (h : o ∈ setSort (sets1 ss)) : o.length ≤ ss.length ∧ ∀ t ∈ o, t ∈ ss := by
  have hs := (mem_sets1.mp ((setSort_perm _).mem_iff.mp h)).2
  exact ⟨hs.length_le, fun t ht => hs.subset ht⟩
theorem setS_le {ss : List Str} (h : ss.length ≤ 5) : (setSort (sets1 ss)).length ≤ 31 := by
  rw [(setSort_perm _).length_eq]
  have : 2 ^ ss.length ≤ 32 := Nat.pow_le_pow_right (by decide) h
  simp [sets1]
  omega
theorem law_gv (ns : List Int) : Gv (f_law [.scr ns] (lamTb.map fun y => .tab y (lamQ y))) fun x _ => x = .bl true := by
  have et : (lamTb.map fun y => Ob.tab y (lamQ y)) = [.tab "law" (lamQ "law")] := rfl
  rw [et]
  refine v_body rfl ?_
  unfold b_law
  obtain ⟨n, hn, hn5⟩ : ∃ n : Nat, (if (if ((ns.length : Nat) : Int) < 5 then ((ns.length : Nat) : Int) else 5) > 2 then (if ((ns.length : Nat) : Int) < 5 then ((ns.length : Nat) : Int) else 5) else (2 : Int)) = (n : Int) ∧ n ≤ 5 := by
    refine ⟨(if (if ((ns.length : Nat) : Int) < 5 then ((ns.length : Nat) : Int) else 5) > 2 then (if ((ns.length : Nat) : Int) < 5 then ((ns.length : Nat) : Int) else 5) else (2 : Int)).toNat, ?_, ?_⟩ <;> split <;> split <;> omega
  refine v_seq (v_for (PI := fun _ _ => True) (v_rng (v_cons (v_call (v_cons (v_c (v_cons (v_call (v_cons (v_c (v_cons (v_call (v_cons (v_var rfl (v_nil ⟨_, blen_sc, v_nil ⟨_, bmin, v_nil ⟨_, bmax, v_nil ?_⟩⟩⟩)))))))))))))))
  refine ⟨n, by rw [hn], by omega, ?_⟩
  refine v_forL (fun rest η Mx => (∀ d ∈ rest, ∃ k : Nat, k ≤ 5 ∧ d = .int k) ∧ Mx[0]? = some (.tab "law" (lamQ "law")) ∧ ∃ a1 a2 a3 a4 a5 a6 a7 a8 a9 a10 a11 a12 a13 a14, η = [some (.scr ns), a1, a2, a3, a4, a5, a6, a7, a8, a9, a10, a11, a12, a13, a14]) _ ⟨fun d hd => ?_, rfl, none, none, none, none, none, none, none, none, none, none, none, none, none, none, rfl⟩ ?_ ?_
  · obtain ⟨k, hk, rfl⟩ := List.mem_map.mp hd
    have := List.mem_range.mp hk
    exact ⟨k, by omega, rfl⟩
  · rintro d r η Mx ⟨hr, t0, a1, a2, a3, a4, a5, a6, a7, a8, a9, a10, a11, a12, a13, a14, rfl⟩
    obtain ⟨kk, hk, rfl⟩ := hr d List.mem_cons_self
    have hr' : ∀ d ∈ r, ∃ k : Nat, k ≤ 5 ∧ d = .int k := fun d hd => hr d (List.mem_cons_of_mem _ hd)
    have lx : 0 < Mx.length := (List.getElem?_eq_some_iff.mp t0).1
    refine v_gn (v_seq (v_asg (v_fn (v_cons (v_var rfl (v_cons (v_var rfl (v_nil ⟨rfl, (bag_ok (ns := ns) (k := kk) (by omega)).imp ?_⟩))))))))
    rintro _ M1 ⟨rfl, B1, g1⟩
    obtain ⟨b, hb⟩ : ∃ b, b = Mx.length := ⟨_, rfl⟩
    have b1 : 0 ≠ b := by omega
    rw [← hb] at B1 ⊢
    have t1 := g1.at t0
    refine v_thn (v_seq (v_asg (v_fn (v_cons (v_var rfl (v_nil ⟨rfl, (kinds_nm B1 (by decide)).imp ?_⟩))))))
    rintro _ M2 ⟨⟨ss, rfl, K, hsn⟩, B2, k2⟩
    have t2 := k2.at b1 t1
    refine v_thn (v_seq (v_asgG (v_tup (v_cons (v_fn (v_cons (v_var rfl (v_cons (v_var rfl (v_cons (v_c (v_nil ⟨rfl, (rooms_nm (most := 8) K B2 (by decide) (by decide) (by decide)).imp ?_⟩))))))))))))
    rintro _ M3 ⟨⟨rs, rfl, R, hrn⟩, B3, k3⟩
    have t3 := k3.at b1 t2
    refine v_cons (v_fn (v_cons (v_var rfl (v_nil ⟨rfl, (law_sets_ok K.le).imp ?_⟩))))
    rintro _ M4 ⟨rfl, g4⟩
    have t4 := g4.at t3
    have B4 := B3.gr g4
    have r8 := R.le
    have r1 := R.ge
    have k5 := K.le
    have hsl := setS_le K.le
    have nd : (rs.map (·.1)).Nodup := R.up.imp fun {a b} q e => by
      subst e
      exact ltS_irr q
    have hr0 : ∀ r ∈ rs, r.1.length ≤ 8 ∧ Lett r.1 ∧ r.2.length ≤ 5 ∧ ∀ t ∈ r.2, t.length ≤ 8 := fun r hr => by
      obtain ⟨q1, q2⟩ := setS_of (R.tk r hr)
      exact ⟨R.sh r hr, (hrn r hr).2.2, by omega, fun t ht => K.sh t (q2 t ht)⟩
    refine v_nil ⟨by simp, v_gT2 (v_thn (v_seq (v_asg (v_call (v_cons (v_lc (v_sq (v_fn (v_cons (v_var rfl (v_cons (v_c (v_nil ⟨rfl, (names_pf (k := 9) B4 (by decide) (by decide)).imp ?_⟩)))))))))))))⟩
    rintro _ M5 ⟨⟨gs, rfl, hgl, hg8, _⟩, B5, k5'⟩
    have t5 := k5'.at b1 t4
    refine ⟨_, rfl, by rw [List.length_map]; omega, ?_⟩
    refine (v_lc_ma (e := D.str) (h := fun g => roomD (g, ss)) gs fun g _ => v_gn (v_tup (v_cons (v_var rfl (v_cons (v_var rfl (v_nil ⟨by simp, rfl, rfl, rfl⟩))))))).imp ?_
    rintro _ My ⟨rfl, e⟩
    subst My
    refine v_nil ⟨_, btuple_l, v_thn ?_⟩
    -- four turns
    have fro : FineK 3 (.tup (rs.map roomD)) := fineK_tup (by rw [List.length_map]; omega) fun x hx => by
      obtain ⟨r, hm, rfl⟩ := List.mem_map.mp hx
      obtain ⟨q1, q2, q3, q4⟩ := hr0 r hm
      exact room_fine q1 (by omega) q4
    have fni : ∀ x ∈ gs.map fun g => roomD (g, ss), FineK 2 x := fun x hx => by
      obtain ⟨g, hm, rfl⟩ := List.mem_map.mp hx
      exact room_fine (hg8 g hm) (by show ss.length ≤ 1000; omega) K.sh
    refine v_seq (Gv.imp (P := fun fl X => (∃ a7 a8 a9 a10 a11 a12 a13 a14, fl = .nx [some (.scr ns), some (.int (kk : Nat)), some (.ptr b), some (.tup (ss.map D.str)), some (.tup (rs.map roomD)), some (.lst ((setSort (sets1 ss)).map tupD)), some (.tup (gs.map fun g => roomD (g, ss))), a7, a8, a9, a10, a11, a12, a13, a14]) ∧ X[0]? = some (.tab "law" (lamQ "law")) ∧ BagAt X b 1000) (v_for (PI := fun _ _ => True) (v_rng (v_cons (v_c (v_nil ⟨4, rfl, by decide, ?_⟩))))) ?_)
    · refine v_forL (fun rest η X => rest.length ≤ 4 ∧ (∃ a7 a8 a9 a10 a11 a12 a13 a14, η = [some (.scr ns), some (.int (kk : Nat)), some (.ptr b), some (.tup (ss.map D.str)), some (.tup (rs.map roomD)), some (.lst ((setSort (sets1 ss)).map tupD)), some (.tup (gs.map fun g => roomD (g, ss))), a7, a8, a9, a10, a11, a12, a13, a14]) ∧ X[0]? = some (.tab "law" (lamQ "law")) ∧ BagAt X b (200 + 100 * (4 - rest.length : Nat))) _ ⟨by simp, ⟨_, _, _, _, _, _, _, _, rfl⟩, t5, B5.up (by simp) (by simp)⟩ ?_ ?_
      · rintro d' r' η X ⟨hl, ⟨a7, a8, a9, a10, a11, a12, a13, a14, rfl⟩, tX, BX⟩
        rw [List.length_cons] at hl BX
        refine v_gn (v_for (PI := fun _ _ => True) (v_sq (v_lst (v_cons (v_var rfl (v_cons (v_fn (v_cons (v_var rfl (v_cons (v_var rfl (v_cons (v_var rfl (v_nil ⟨rfl, (bent_ok BX (by omega) K.le K.sh r1 r8 hr0).imp ?_⟩))))))))))))))
        rintro d1 X1 ⟨f1, BX1, kx1⟩
        refine v_cons (v_fn (v_cons (v_var rfl (v_nil ⟨rfl, (odd_ok BX1 (by omega)).imp ?_⟩))))
        rintro d2 X2 ⟨⟨f2, _⟩, BX2, kx2⟩
        have tX2 := kx2.at b1 (kx1.at b1 tX)
        refine v_cons (v_var rfl (v_cons (v_sl (v_var rfl (v_none (v_some (v_c ⟨8, rfl, _, sl_t, v_cons (v_call (v_cons (v_var rfl (v_nil ⟨_, blist_t, v_nil ⟨by simp, _, rfl, ?_⟩⟩))))⟩)))))))
        refine v_forL (fun rest η X => (∀ x ∈ rest, FineK 3 x) ∧ (∃ a8, η = [some (.scr ns), some (.int (kk : Nat)), some (.ptr b), some (.tup (ss.map D.str)), some (.tup (rs.map roomD)), some (.lst ((setSort (sets1 ss)).map tupD)), some (.tup (gs.map fun g => roomD (g, ss))), some d', a8, a9, a10, a11, a12, a13, a14]) ∧ Gr X2 X) _ ⟨fun x hx => ?_, ⟨_, rfl⟩, Gr.refl _⟩ ?_ ?_
        · simp only [List.mem_cons, List.not_mem_nil, or_false] at hx
          rcases hx with rfl | rfl | rfl | rfl | rfl | rfl
          · exact fro
          · exact f1
          · exact f2
          · exact fineK_tup (by rw [List.length_map]; omega) fni
          · exact fineK_tup (Nat.le_trans cut_len (by rw [List.length_map]; omega)) fun y hy => fni y (cut_mem hy)
          · exact fineK_lst
        · rintro x rx η9 Y ⟨hx, ⟨a8, rfl⟩, gY⟩
          have fx := hx x List.mem_cons_self
          refine v_gn (v_ifS (v_not (v_tru (v_fn (v_cons (v_lst (v_cons (v_fn (v_cons (v_var rfl (v_cons (v_var rfl (v_nil ⟨rfl, (arerooms_ok K.up fx).imp ?_⟩)))))))))))))
          rintro _ Mz ⟨rfl, e⟩
          subst Mz
          refine v_nil ⟨by simp, v_cons (v_lst (v_cons (v_fn (v_cons (v_var rfl (v_cons (v_var rfl (v_nil ⟨rfl, (lawrooms_ok K.le fx).imp ?_⟩))))))))⟩
          rintro _ Y2 ⟨rfl, g2⟩
          refine v_nil ⟨by simp, v_nil ⟨rfl, (truths_ok (l := [x]) (p := roomsB ss) (by simp)).imp ?_⟩⟩
          rintro _ Mz ⟨rfl, e⟩
          subst Mz
          exact ⟨_, tru_b, iteF (v_nx ⟨fun y hy => hx y (List.mem_cons_of_mem _ hy), ⟨_, rfl⟩, gY.trans g2⟩)⟩
        · rintro η9 Y ⟨_, ⟨a8, rfl⟩, gY⟩
          exact ⟨by omega, ⟨_, _, _, _, _, _, _, _, rfl⟩, gY.at tX2, (BX2.gr gY).up (by omega) (by omega)⟩
      · rintro η X ⟨hl, ⟨a7, a8, a9, a10, a11, a12, a13, a14, rfl⟩, tX, BX⟩
        exact ⟨⟨_, _, _, _, _, _, _, _, rfl⟩, tX, BX.up (by simp) (by decide)⟩
    rintro _ M6 ⟨⟨a7, a8, a9, a10, a11, a12, a13, a14, rfl⟩, t6, B6⟩
    -- each room
    refine v_thn (v_for (PI := fun _ _ => True) (v_sq (v_var rfl ⟨_, rfl, ?_⟩)))
    refine v_forL (fun rest η X => (∃ l : List (Str × List Str), rest = l.map roomD ∧ l.length ≤ 8 ∧ (∀ q ∈ l, q ∈ rs) ∧ BagAt X b (1000 + 100 * (8 - l.length : Nat))) ∧ (∃ a7 a8 a9 a10 a11 a12 a13 a14, η = [some (.scr ns), some (.int (kk : Nat)), some (.ptr b), some (.tup (ss.map D.str)), some (.tup (rs.map roomD)), some (.lst ((setSort (sets1 ss)).map tupD)), some (.tup (gs.map fun g => roomD (g, ss))), a7, a8, a9, a10, a11, a12, a13, a14]) ∧ X[0]? = some (.tab "law" (lamQ "law"))) _ ⟨⟨rs, rfl, r8, fun _ q => q, B6.up (by omega) (by omega)⟩, ⟨_, _, _, _, _, _, _, _, rfl⟩, t6⟩ ?_ ?_
    · rintro d' r' η X ⟨⟨l, e, hl8, hl, BX⟩, ⟨a7, a8, a9, a10, a11, a12, a13, a14, rfl⟩, tX⟩
      cases l with
      | nil => cases e
      | cons q l =>
      rw [List.map_cons] at e
      injection e with e1 e2
      subst e1 e2
      rw [List.length_cons] at hl8 BX
      have hq := hl q List.mem_cons_self
      obtain ⟨q1, q2, q3, q4⟩ := hr0 q hq
      refine v_gT2 (v_seq (v_asg (v_lc (v_sq (v_var rfl ⟨_, rfl, by rw [List.length_map]; omega, ?_⟩)))))
      have hsv : ∀ o ∈ setSort (sets1 ss), Gv (f_serves [.tup (rs.map roomD), .str q.1, tupD o] X) fun y M3 => y = .bl (meets q.2 o) ∧ M3 = X ∧ X = X := fun o ho => (serves_yes (o := o) hq nd (by omega) (by have := (setS_of ho).1; omega)).imp fun _ _ ⟨u1, u2⟩ => ⟨u1, u2, rfl⟩
      have hsh : ∀ o ∈ setSort (sets1 ss), Gv (f_law_share [tupD q.2, tupD o] X) fun y M3 => y = .bl (meets q.2 o) ∧ M3 = X ∧ X = X := fun o ho => (share_ok (by omega)).imp fun _ _ ⟨u1, u2⟩ => ⟨u1, u2, rfl⟩
      refine (v_lc_ma (e := tupD) (h := fun o => .bl (meets q.2 o)) (setSort (sets1 ss)) ?_).imp ?_
      · intro o ho
        refine v_gn (v_calm (v_fn (v_cons (v_var rfl (v_cons (v_var rfl (v_cons (v_var rfl (v_nil ⟨rfl, ?_⟩)))))))))
        exact hsv o ho
      rintro _ Mz ⟨rfl, e⟩
      subst Mz
      refine v_thn (v_seq (v_ifS (v_not (v_tru (v_fn (v_cons (v_var rfl (v_cons (v_lc (v_sq (v_var rfl ⟨_, rfl, by rw [List.length_map]; omega, ?_⟩)))))))))))
      refine (v_lc_ma (e := tupD) (h := fun o => .bl (meets q.2 o)) (setSort (sets1 ss)) ?_).imp ?_
      · intro o ho
        refine v_gn (v_fn (v_cons (v_var rfl (v_cons (v_var rfl (v_nil ⟨rfl, ?_⟩))))))
        exact hsh o ho
      rintro _ Mz ⟨rfl, e⟩
      subst Mz
      refine v_nil ⟨rfl, (truths_ok (l := setSort (sets1 ss)) (p := meets q.2) (by omega)).imp ?_⟩
      rintro _ Mz ⟨rfl, e⟩
      subst Mz
      refine ⟨_, tru_b, iteF (v_nx (v_thn (v_for (PI := fun _ _ => True) (v_sq (v_lst (v_cons (v_fn (v_cons (v_var rfl (v_cons (v_var rfl (v_nil ⟨rfl, (text_ok BX (by omega) q1 q2).imp ?_⟩))))))))))))⟩
      rintro d1 X1 ⟨⟨_, f1⟩, BX1, kx1⟩
      refine v_cons (v_fn (v_cons (v_var rfl (v_nil ⟨rfl, (odd_ok BX1 (by omega)).imp ?_⟩))))
      rintro d2 X2 ⟨⟨_, f2⟩, BX2, kx2⟩
      have tX2 := kx2.at b1 (kx1.at b1 tX)
      have lq := low_lett q2
      have lz : Low "zzzzzzzz" := fun c hc => by
        have h2 : ∀ c ∈ ("zzzzzzzz" : Str).cps.toList, c < 16 ^ 8 := by decide +kernel
        exact h2 c hc
      have z8 : ("zzzzzzzz" : Str).length = 8 := by decide +kernel
      refine v_cons (v_tup (v_cons (v_var rfl (v_nil ⟨by simp, v_cons (v_op (v_var rfl (v_c ⟨_, add_ss (small_line (by omega)), v_nil ⟨by simp, _, rfl, ?_⟩⟩)))⟩))))
      refine v_forL (fun rest η X => (∀ x ∈ rest, Thing x) ∧ (∃ a8 a12, η = [some (.scr ns), some (.int (kk : Nat)), some (.ptr b), some (.tup (ss.map D.str)), some (.tup (rs.map roomD)), some (.lst ((setSort (sets1 ss)).map tupD)), some (.tup (gs.map fun g => roomD (g, ss))), a7, a8, some (.str q.1), some (tupD q.2), some (.lst ((setSort (sets1 ss)).map fun o => .bl (meets q.2 o))), a12, a13, a14]) ∧ Gr X2 X) _ ⟨fun x hx => ?_, ⟨_, _, rfl⟩, Gr.refl _⟩ ?_ ?_
      · simp only [List.mem_cons, List.not_mem_nil, or_false] at hx
        rcases hx with rfl | rfl | rfl | rfl
        · exact f1
        · exact f2
        · exact thing_tup (by omega) lq
        · exact thing_str (by rw [len_append]; omega) (low_app lq lz)
      · rintro x rx η9 Y ⟨hx, ⟨a8, a12, rfl⟩, gY⟩
        refine v_gn (Gv.imp (ask_ok (gY.at tX2) K.le r8 (fun r hr => (hr0 r hr).1) nd (hx x List.mem_cons_self)) ?_)
        rintro _ Y2 ⟨⟨a12', rfl⟩, g2⟩
        exact ⟨fun y hy => hx y (List.mem_cons_of_mem _ hy), ⟨_, _, rfl⟩, gY.trans g2⟩
      · rintro η9 Y ⟨_, ⟨a8, a12, rfl⟩, gY⟩
        exact ⟨⟨l, rfl, by omega, fun u hu => hl u (List.mem_cons_of_mem _ hu), (BX2.gr gY).up (by omega) (by omega)⟩, ⟨_, _, _, _, _, _, _, _, rfl⟩, gY.at tX2⟩
    · rintro η X ⟨_, ⟨a7, a8, a9, a10, a11, a12, a13, a14, rfl⟩, tX⟩
      exact ⟨hr', tX, _, _, _, _, _, _, _, _, _, _, _, _, _, _, rfl⟩
  · rintro η Mx ⟨_, _, a1, a2, a3, a4, a5, a6, a7, a8, a9, a10, a11, a12, a13, a14, rfl⟩
    exact v_thn (v_ret (v_c rfl))
theorem plain_law (ns : List Int) (_ : ns.length ≤ 63) (_ : ∀ z ∈ ns, Builtin.Int.intBits z ≤ 1048576) : ∃ M', f_law [.scr ns] (lamTb.map fun y => .tab y (lamQ y)) = .ok (.bl true) M' := by
  obtain ⟨d, M', e, rfl⟩ := law_gv ns
  exact ⟨M', e⟩
end Law

namespace Law
open PySem PyProof.Rows L2 Evl Dn
theorem all_mk {l : PySem.W.OpenLaw} {w : World} {K K0 : PySem.W.Frag} {h : Heap} {mg : Str → Option Value} {fa : Addr} (X : K.In h) (Gh : h.Ns mainGlobals mg) (hfa : mg "law" = some (.ref fa)) (hTab : ∀ y ∈ lamTb, Dh.TabOk K K0 y (Dh.cdA K y) (Dh.tbA K y))
    {f_law_take : Addr} {od_law_take an_law_take : Option Addr} {sl_law_take : Array (Option Value)} {oc_law_take kV_law_take dc_law_take pm_law_take cd_law_take ct_law_take : Value}
    {f_law_odd : Addr} {od_law_odd an_law_odd : Option Addr} {sl_law_odd : Array (Option Value)} {oc_law_odd kV_law_odd dc_law_odd pm_law_odd cd_law_odd ct_law_odd : Value}
    {f_law_text_bent : Addr} {od_law_text_bent an_law_text_bent : Option Addr} {sl_law_text_bent : Array (Option Value)} {oc_law_text_bent kV_law_text_bent dc_law_text_bent pm_law_text_bent cd_law_text_bent ct_law_text_bent : Value}
    {f_takes_of_room : Addr} {od_takes_of_room an_takes_of_room : Option Addr} {sl_takes_of_room : Array (Option Value)} {oc_takes_of_room kV_takes_of_room dc_takes_of_room pm_takes_of_room cd_takes_of_room ct_takes_of_room : Value}
    {f_is_met : Addr} {od_is_met an_is_met : Option Addr} {sl_is_met : Array (Option Value)} {oc_is_met kV_is_met dc_is_met pm_is_met cd_is_met ct_is_met : Value}
    {f_serves : Addr} {od_serves an_serves : Option Addr} {sl_serves : Array (Option Value)} {oc_serves kV_serves dc_serves pm_serves cd_serves ct_serves : Value}
    {f_law_share : Addr} {od_law_share an_law_share : Option Addr} {sl_law_share : Array (Option Value)} {oc_law_share kV_law_share dc_law_share pm_law_share cd_law_share ct_law_share : Value}
    {f_law_truths : Addr} {od_law_truths an_law_truths : Option Addr} {sl_law_truths : Array (Option Value)} {oc_law_truths kV_law_truths dc_law_truths pm_law_truths cd_law_truths ct_law_truths : Value}
    {f_law_row_bent : Addr} {od_law_row_bent an_law_row_bent : Option Addr} {sl_law_row_bent : Array (Option Value)} {oc_law_row_bent kV_law_row_bent dc_law_row_bent pm_law_row_bent cd_law_row_bent ct_law_row_bent : Value}
    {f_law_bent : Addr} {od_law_bent an_law_bent : Option Addr} {sl_law_bent : Array (Option Value)} {oc_law_bent kV_law_bent dc_law_bent pm_law_bent cd_law_bent ct_law_bent : Value}
    {f_law_rises : Addr} {od_law_rises an_law_rises : Option Addr} {sl_law_rises : Array (Option Value)} {oc_law_rises kV_law_rises dc_law_rises pm_law_rises cd_law_rises ct_law_rises : Value}
    {f_law_is_name : Addr} {od_law_is_name an_law_is_name : Option Addr} {sl_law_is_name : Array (Option Value)} {oc_law_is_name kV_law_is_name dc_law_is_name pm_law_is_name cd_law_is_name ct_law_is_name : Value}
    {f_law_sets : Addr} {od_law_sets an_law_sets : Option Addr} {sl_law_sets : Array (Option Value)} {oc_law_sets kV_law_sets dc_law_sets pm_law_sets cd_law_sets ct_law_sets : Value}
    {f_law_is_set : Addr} {od_law_is_set an_law_is_set : Option Addr} {sl_law_is_set : Array (Option Value)} {oc_law_is_set kV_law_is_set dc_law_is_set pm_law_is_set cd_law_is_set ct_law_is_set : Value}
    {f_law_is_room : Addr} {od_law_is_room an_law_is_room : Option Addr} {sl_law_is_room : Array (Option Value)} {oc_law_is_room kV_law_is_room dc_law_is_room pm_law_is_room cd_law_is_room ct_law_is_room : Value}
    {f_law_are_rooms : Addr} {od_law_are_rooms an_law_are_rooms : Option Addr} {sl_law_are_rooms : Array (Option Value)} {oc_law_are_rooms kV_law_are_rooms dc_law_are_rooms pm_law_are_rooms cd_law_are_rooms ct_law_are_rooms : Value}
    {f_is_name : Addr} {od_is_name an_is_name : Option Addr} {sl_is_name : Array (Option Value)} {oc_is_name kV_is_name dc_is_name pm_is_name cd_is_name ct_is_name : Value}
    {f_is_rising : Addr} {od_is_rising an_is_rising : Option Addr} {sl_is_rising : Array (Option Value)} {oc_is_rising kV_is_rising dc_is_rising pm_is_rising cd_is_rising ct_is_rising : Value}
    {f_is_set : Addr} {od_is_set an_is_set : Option Addr} {sl_is_set : Array (Option Value)} {oc_is_set kV_is_set dc_is_set pm_is_set cd_is_set ct_is_set : Value}
    {f_is_room : Addr} {od_is_room an_is_room : Option Addr} {sl_is_room : Array (Option Value)} {oc_is_room kV_is_room dc_is_room pm_is_room cd_is_room ct_is_room : Value}
    {f_are_rooms : Addr} {od_are_rooms an_are_rooms : Option Addr} {sl_are_rooms : Array (Option Value)} {oc_are_rooms kV_are_rooms dc_are_rooms pm_are_rooms cd_are_rooms ct_are_rooms : Value}
    {f_law_names : Addr} {od_law_names an_law_names : Option Addr} {sl_law_names : Array (Option Value)} {oc_law_names kV_law_names dc_law_names pm_law_names cd_law_names ct_law_names : Value}
    {f_law_rooms : Addr} {od_law_rooms an_law_rooms : Option Addr} {sl_law_rooms : Array (Option Value)} {oc_law_rooms kV_law_rooms dc_law_rooms pm_law_rooms cd_law_rooms ct_law_rooms : Value}
    {f_law_kinds : Addr} {od_law_kinds an_law_kinds : Option Addr} {sl_law_kinds : Array (Option Value)} {oc_law_kinds kV_law_kinds dc_law_kinds pm_law_kinds cd_law_kinds ct_law_kinds : Value}
    {f_law_bag : Addr} {od_law_bag an_law_bag : Option Addr} {sl_law_bag : Array (Option Value)} {oc_law_bag kV_law_bag dc_law_bag pm_law_bag cd_law_bag ct_law_bag : Value}
    {f_law : Addr} {od_law an_law : Option Addr} {sl_law : Array (Option Value)} {oc_law kV_law dc_law pm_law cd_law ct_law : Value}
    {A_NoRoom : Addr}
    {f_law_which : Addr} {od_law_which an_law_which : Option Addr} {sl_law_which : Array (Option Value)} {oc_law_which kV_law_which dc_law_which pm_law_which cd_law_which ct_law_which : Value}
    {f_law_refusal : Addr} {od_law_refusal an_law_refusal : Option Addr} {sl_law_refusal : Array (Option Value)} {oc_law_refusal kV_law_refusal dc_law_refusal pm_law_refusal cd_law_refusal ct_law_refusal : Value}
    {f_NoRoom_init : Addr} {od_NoRoom_init an_NoRoom_init : Option Addr} {sl_NoRoom_init : Array (Option Value)} {oc_NoRoom_init kV_NoRoom_init dc_NoRoom_init pm_NoRoom_init cd_NoRoom_init ct_NoRoom_init : Value}
    {t_SIGNS : Tok}
    {t_MOST_SIGNS : Tok}
    {t_MOST_ROOMS : Tok}
    (a_law_take : PySem.W.nsIn K mainGlobals "_law_take" = some (some (.ref f_law_take)))
    (l_law_take : K.lookup f_law_take = some ⟨oc_law_take, od_law_take, .func (PySem.W.fnOf "_law_take" "_law_take" (defArgs s_law_take) (defBody s_law_take) (defScope s_law_take) .none kV_law_take dc_law_take pm_law_take an_law_take cd_law_take ct_law_take), sl_law_take⟩)
    (c_law_take : PySem.W.codeIn K cd_law_take "_law_take" = true)
    (k_law_take : PySem.W.keepIn K (.ref f_law_take) = true)
    (a_law_odd : PySem.W.nsIn K mainGlobals "_law_odd" = some (some (.ref f_law_odd)))
    (l_law_odd : K.lookup f_law_odd = some ⟨oc_law_odd, od_law_odd, .func (PySem.W.fnOf "_law_odd" "_law_odd" (defArgs s_law_odd) (defBody s_law_odd) (defScope s_law_odd) .none kV_law_odd dc_law_odd pm_law_odd an_law_odd cd_law_odd ct_law_odd), sl_law_odd⟩)
    (c_law_odd : PySem.W.codeIn K cd_law_odd "_law_odd" = true)
    (k_law_odd : PySem.W.keepIn K (.ref f_law_odd) = true)
    (a_law_text_bent : PySem.W.nsIn K mainGlobals "_law_text_bent" = some (some (.ref f_law_text_bent)))
    (l_law_text_bent : K.lookup f_law_text_bent = some ⟨oc_law_text_bent, od_law_text_bent, .func (PySem.W.fnOf "_law_text_bent" "_law_text_bent" (defArgs s_law_text_bent) (defBody s_law_text_bent) (defScope s_law_text_bent) .none kV_law_text_bent dc_law_text_bent pm_law_text_bent an_law_text_bent cd_law_text_bent ct_law_text_bent), sl_law_text_bent⟩)
    (c_law_text_bent : PySem.W.codeIn K cd_law_text_bent "_law_text_bent" = true)
    (k_law_text_bent : PySem.W.keepIn K (.ref f_law_text_bent) = true)
    (a_takes_of_room : PySem.W.nsIn K mainGlobals "takes_of_room" = some (some (.ref f_takes_of_room)))
    (l_takes_of_room : K.lookup f_takes_of_room = some ⟨oc_takes_of_room, od_takes_of_room, .func (PySem.W.fnOf "takes_of_room" "takes_of_room" (defArgs s_takes_of_room) (defBody s_takes_of_room) (defScope s_takes_of_room) .none kV_takes_of_room dc_takes_of_room pm_takes_of_room an_takes_of_room cd_takes_of_room ct_takes_of_room), sl_takes_of_room⟩)
    (c_takes_of_room : PySem.W.codeIn K cd_takes_of_room "takes_of_room" = true)
    (k_takes_of_room : PySem.W.keepIn K (.ref f_takes_of_room) = true)
    (a_is_met : PySem.W.nsIn K mainGlobals "is_met" = some (some (.ref f_is_met)))
    (l_is_met : K.lookup f_is_met = some ⟨oc_is_met, od_is_met, .func (PySem.W.fnOf "is_met" "is_met" (defArgs s_is_met) (defBody s_is_met) (defScope s_is_met) .none kV_is_met dc_is_met pm_is_met an_is_met cd_is_met ct_is_met), sl_is_met⟩)
    (c_is_met : PySem.W.codeIn K cd_is_met "is_met" = true)
    (k_is_met : PySem.W.keepIn K (.ref f_is_met) = true)
    (a_serves : PySem.W.nsIn K mainGlobals "serves" = some (some (.ref f_serves)))
    (l_serves : K.lookup f_serves = some ⟨oc_serves, od_serves, .func (PySem.W.fnOf "serves" "serves" (defArgs s_serves) (defBody s_serves) (defScope s_serves) .none kV_serves dc_serves pm_serves an_serves cd_serves ct_serves), sl_serves⟩)
    (c_serves : PySem.W.codeIn K cd_serves "serves" = true)
    (k_serves : PySem.W.keepIn K (.ref f_serves) = true)
    (a_law_share : PySem.W.nsIn K mainGlobals "_law_share" = some (some (.ref f_law_share)))
    (l_law_share : K.lookup f_law_share = some ⟨oc_law_share, od_law_share, .func (PySem.W.fnOf "_law_share" "_law_share" (defArgs s_law_share) (defBody s_law_share) (defScope s_law_share) .none kV_law_share dc_law_share pm_law_share an_law_share cd_law_share ct_law_share), sl_law_share⟩)
    (c_law_share : PySem.W.codeIn K cd_law_share "_law_share" = true)
    (k_law_share : PySem.W.keepIn K (.ref f_law_share) = true)
    (a_law_truths : PySem.W.nsIn K mainGlobals "_law_truths" = some (some (.ref f_law_truths)))
    (l_law_truths : K.lookup f_law_truths = some ⟨oc_law_truths, od_law_truths, .func (PySem.W.fnOf "_law_truths" "_law_truths" (defArgs s_law_truths) (defBody s_law_truths) (defScope s_law_truths) .none kV_law_truths dc_law_truths pm_law_truths an_law_truths cd_law_truths ct_law_truths), sl_law_truths⟩)
    (c_law_truths : PySem.W.codeIn K cd_law_truths "_law_truths" = true)
    (k_law_truths : PySem.W.keepIn K (.ref f_law_truths) = true)
    (a_law_row_bent : PySem.W.nsIn K mainGlobals "_law_row_bent" = some (some (.ref f_law_row_bent)))
    (l_law_row_bent : K.lookup f_law_row_bent = some ⟨oc_law_row_bent, od_law_row_bent, .func (PySem.W.fnOf "_law_row_bent" "_law_row_bent" (defArgs s_law_row_bent) (defBody s_law_row_bent) (defScope s_law_row_bent) .none kV_law_row_bent dc_law_row_bent pm_law_row_bent an_law_row_bent cd_law_row_bent ct_law_row_bent), sl_law_row_bent⟩)
    (c_law_row_bent : PySem.W.codeIn K cd_law_row_bent "_law_row_bent" = true)
    (k_law_row_bent : PySem.W.keepIn K (.ref f_law_row_bent) = true)
    (a_law_bent : PySem.W.nsIn K mainGlobals "_law_bent" = some (some (.ref f_law_bent)))
    (l_law_bent : K.lookup f_law_bent = some ⟨oc_law_bent, od_law_bent, .func (PySem.W.fnOf "_law_bent" "_law_bent" (defArgs s_law_bent) (defBody s_law_bent) (defScope s_law_bent) .none kV_law_bent dc_law_bent pm_law_bent an_law_bent cd_law_bent ct_law_bent), sl_law_bent⟩)
    (c_law_bent : PySem.W.codeIn K cd_law_bent "_law_bent" = true)
    (k_law_bent : PySem.W.keepIn K (.ref f_law_bent) = true)
    (a_law_rises : PySem.W.nsIn K mainGlobals "_law_rises" = some (some (.ref f_law_rises)))
    (l_law_rises : K.lookup f_law_rises = some ⟨oc_law_rises, od_law_rises, .func (PySem.W.fnOf "_law_rises" "_law_rises" (defArgs s_law_rises) (defBody s_law_rises) (defScope s_law_rises) .none kV_law_rises dc_law_rises pm_law_rises an_law_rises cd_law_rises ct_law_rises), sl_law_rises⟩)
    (c_law_rises : PySem.W.codeIn K cd_law_rises "_law_rises" = true)
    (k_law_rises : PySem.W.keepIn K (.ref f_law_rises) = true)
    (a_law_is_name : PySem.W.nsIn K mainGlobals "_law_is_name" = some (some (.ref f_law_is_name)))
    (l_law_is_name : K.lookup f_law_is_name = some ⟨oc_law_is_name, od_law_is_name, .func (PySem.W.fnOf "_law_is_name" "_law_is_name" (defArgs s_law_is_name) (defBody s_law_is_name) (defScope s_law_is_name) .none kV_law_is_name dc_law_is_name pm_law_is_name an_law_is_name cd_law_is_name ct_law_is_name), sl_law_is_name⟩)
    (c_law_is_name : PySem.W.codeIn K cd_law_is_name "_law_is_name" = true)
    (k_law_is_name : PySem.W.keepIn K (.ref f_law_is_name) = true)
    (a_law_sets : PySem.W.nsIn K mainGlobals "_law_sets" = some (some (.ref f_law_sets)))
    (l_law_sets : K.lookup f_law_sets = some ⟨oc_law_sets, od_law_sets, .func (PySem.W.fnOf "_law_sets" "_law_sets" (defArgs s_law_sets) (defBody s_law_sets) (defScope s_law_sets) .none kV_law_sets dc_law_sets pm_law_sets an_law_sets cd_law_sets ct_law_sets), sl_law_sets⟩)
    (c_law_sets : PySem.W.codeIn K cd_law_sets "_law_sets" = true)
    (k_law_sets : PySem.W.keepIn K (.ref f_law_sets) = true)
    (a_law_is_set : PySem.W.nsIn K mainGlobals "_law_is_set" = some (some (.ref f_law_is_set)))
    (l_law_is_set : K.lookup f_law_is_set = some ⟨oc_law_is_set, od_law_is_set, .func (PySem.W.fnOf "_law_is_set" "_law_is_set" (defArgs s_law_is_set) (defBody s_law_is_set) (defScope s_law_is_set) .none kV_law_is_set dc_law_is_set pm_law_is_set an_law_is_set cd_law_is_set ct_law_is_set), sl_law_is_set⟩)
    (c_law_is_set : PySem.W.codeIn K cd_law_is_set "_law_is_set" = true)
    (k_law_is_set : PySem.W.keepIn K (.ref f_law_is_set) = true)
    (a_law_is_room : PySem.W.nsIn K mainGlobals "_law_is_room" = some (some (.ref f_law_is_room)))
    (l_law_is_room : K.lookup f_law_is_room = some ⟨oc_law_is_room, od_law_is_room, .func (PySem.W.fnOf "_law_is_room" "_law_is_room" (defArgs s_law_is_room) (defBody s_law_is_room) (defScope s_law_is_room) .none kV_law_is_room dc_law_is_room pm_law_is_room an_law_is_room cd_law_is_room ct_law_is_room), sl_law_is_room⟩)
    (c_law_is_room : PySem.W.codeIn K cd_law_is_room "_law_is_room" = true)
    (k_law_is_room : PySem.W.keepIn K (.ref f_law_is_room) = true)
    (a_law_are_rooms : PySem.W.nsIn K mainGlobals "_law_are_rooms" = some (some (.ref f_law_are_rooms)))
    (l_law_are_rooms : K.lookup f_law_are_rooms = some ⟨oc_law_are_rooms, od_law_are_rooms, .func (PySem.W.fnOf "_law_are_rooms" "_law_are_rooms" (defArgs s_law_are_rooms) (defBody s_law_are_rooms) (defScope s_law_are_rooms) .none kV_law_are_rooms dc_law_are_rooms pm_law_are_rooms an_law_are_rooms cd_law_are_rooms ct_law_are_rooms), sl_law_are_rooms⟩)
    (c_law_are_rooms : PySem.W.codeIn K cd_law_are_rooms "_law_are_rooms" = true)
    (k_law_are_rooms : PySem.W.keepIn K (.ref f_law_are_rooms) = true)
    (a_is_name : PySem.W.nsIn K mainGlobals "is_name" = some (some (.ref f_is_name)))
    (l_is_name : K.lookup f_is_name = some ⟨oc_is_name, od_is_name, .func (PySem.W.fnOf "is_name" "is_name" (defArgs s_is_name) (defBody s_is_name) (defScope s_is_name) .none kV_is_name dc_is_name pm_is_name an_is_name cd_is_name ct_is_name), sl_is_name⟩)
    (c_is_name : PySem.W.codeIn K cd_is_name "is_name" = true)
    (k_is_name : PySem.W.keepIn K (.ref f_is_name) = true)
    (a_is_rising : PySem.W.nsIn K mainGlobals "is_rising" = some (some (.ref f_is_rising)))
    (l_is_rising : K.lookup f_is_rising = some ⟨oc_is_rising, od_is_rising, .func (PySem.W.fnOf "is_rising" "is_rising" (defArgs s_is_rising) (defBody s_is_rising) (defScope s_is_rising) .none kV_is_rising dc_is_rising pm_is_rising an_is_rising cd_is_rising ct_is_rising), sl_is_rising⟩)
    (c_is_rising : PySem.W.codeIn K cd_is_rising "is_rising" = true)
    (k_is_rising : PySem.W.keepIn K (.ref f_is_rising) = true)
    (a_is_set : PySem.W.nsIn K mainGlobals "is_set" = some (some (.ref f_is_set)))
    (l_is_set : K.lookup f_is_set = some ⟨oc_is_set, od_is_set, .func (PySem.W.fnOf "is_set" "is_set" (defArgs s_is_set) (defBody s_is_set) (defScope s_is_set) .none kV_is_set dc_is_set pm_is_set an_is_set cd_is_set ct_is_set), sl_is_set⟩)
    (c_is_set : PySem.W.codeIn K cd_is_set "is_set" = true)
    (k_is_set : PySem.W.keepIn K (.ref f_is_set) = true)
    (a_is_room : PySem.W.nsIn K mainGlobals "is_room" = some (some (.ref f_is_room)))
    (l_is_room : K.lookup f_is_room = some ⟨oc_is_room, od_is_room, .func (PySem.W.fnOf "is_room" "is_room" (defArgs s_is_room) (defBody s_is_room) (defScope s_is_room) .none kV_is_room dc_is_room pm_is_room an_is_room cd_is_room ct_is_room), sl_is_room⟩)
    (c_is_room : PySem.W.codeIn K cd_is_room "is_room" = true)
    (k_is_room : PySem.W.keepIn K (.ref f_is_room) = true)
    (a_are_rooms : PySem.W.nsIn K mainGlobals "are_rooms" = some (some (.ref f_are_rooms)))
    (l_are_rooms : K.lookup f_are_rooms = some ⟨oc_are_rooms, od_are_rooms, .func (PySem.W.fnOf "are_rooms" "are_rooms" (defArgs s_are_rooms) (defBody s_are_rooms) (defScope s_are_rooms) .none kV_are_rooms dc_are_rooms pm_are_rooms an_are_rooms cd_are_rooms ct_are_rooms), sl_are_rooms⟩)
    (c_are_rooms : PySem.W.codeIn K cd_are_rooms "are_rooms" = true)
    (k_are_rooms : PySem.W.keepIn K (.ref f_are_rooms) = true)
    (a_law_names : PySem.W.nsIn K mainGlobals "_law_names" = some (some (.ref f_law_names)))
    (l_law_names : K.lookup f_law_names = some ⟨oc_law_names, od_law_names, .func (PySem.W.fnOf "_law_names" "_law_names" (defArgs s_law_names) (defBody s_law_names) (defScope s_law_names) .none kV_law_names dc_law_names pm_law_names an_law_names cd_law_names ct_law_names), sl_law_names⟩)
    (c_law_names : PySem.W.codeIn K cd_law_names "_law_names" = true)
    (k_law_names : PySem.W.keepIn K (.ref f_law_names) = true)
    (a_law_rooms : PySem.W.nsIn K mainGlobals "_law_rooms" = some (some (.ref f_law_rooms)))
    (l_law_rooms : K.lookup f_law_rooms = some ⟨oc_law_rooms, od_law_rooms, .func (PySem.W.fnOf "_law_rooms" "_law_rooms" (defArgs s_law_rooms) (defBody s_law_rooms) (defScope s_law_rooms) .none kV_law_rooms dc_law_rooms pm_law_rooms an_law_rooms cd_law_rooms ct_law_rooms), sl_law_rooms⟩)
    (c_law_rooms : PySem.W.codeIn K cd_law_rooms "_law_rooms" = true)
    (k_law_rooms : PySem.W.keepIn K (.ref f_law_rooms) = true)
    (a_law_kinds : PySem.W.nsIn K mainGlobals "_law_kinds" = some (some (.ref f_law_kinds)))
    (l_law_kinds : K.lookup f_law_kinds = some ⟨oc_law_kinds, od_law_kinds, .func (PySem.W.fnOf "_law_kinds" "_law_kinds" (defArgs s_law_kinds) (defBody s_law_kinds) (defScope s_law_kinds) .none kV_law_kinds dc_law_kinds pm_law_kinds an_law_kinds cd_law_kinds ct_law_kinds), sl_law_kinds⟩)
    (c_law_kinds : PySem.W.codeIn K cd_law_kinds "_law_kinds" = true)
    (k_law_kinds : PySem.W.keepIn K (.ref f_law_kinds) = true)
    (a_law_bag : PySem.W.nsIn K mainGlobals "_law_bag" = some (some (.ref f_law_bag)))
    (l_law_bag : K.lookup f_law_bag = some ⟨oc_law_bag, od_law_bag, .func (PySem.W.fnOf "_law_bag" "_law_bag" (defArgs s_law_bag) (defBody s_law_bag) (defScope s_law_bag) .none kV_law_bag dc_law_bag pm_law_bag an_law_bag cd_law_bag ct_law_bag), sl_law_bag⟩)
    (c_law_bag : PySem.W.codeIn K cd_law_bag "_law_bag" = true)
    (k_law_bag : PySem.W.keepIn K (.ref f_law_bag) = true)
    (a_law : PySem.W.nsIn K mainGlobals "law" = some (some (.ref f_law)))
    (l_law : K.lookup f_law = some ⟨oc_law, od_law, .func (PySem.W.fnOf "law" "law" (defArgs s_law) (defBody s_law) (defScope s_law) .none kV_law dc_law pm_law an_law cd_law ct_law), sl_law⟩)
    (c_law : PySem.W.codeIn K cd_law "law" = true)
    (k_law : PySem.W.keepIn K (.ref f_law) = true)
    (aE_NoRoom : PySem.W.nsIn K mainGlobals "NoRoom" = some (some (.ref A_NoRoom)))
    (rg : Dn.ownB K = true)
    (rf_NoRoom : Dn.rfB K A_NoRoom "NoRoom" ["LookupError"] 1 (some "name") = true)
    (a_law_which : PySem.W.nsIn K mainGlobals "_law_which" = some (some (.ref f_law_which)))
    (l_law_which : K.lookup f_law_which = some ⟨oc_law_which, od_law_which, .func (PySem.W.fnOf "_law_which" "_law_which" (defArgs s_law_which) (defBody s_law_which) (defScope s_law_which) .none kV_law_which dc_law_which pm_law_which an_law_which cd_law_which ct_law_which), sl_law_which⟩)
    (c_law_which : PySem.W.codeIn K cd_law_which "_law_which" = true)
    (k_law_which : PySem.W.keepIn K (.ref f_law_which) = true)
    (a_law_refusal : PySem.W.nsIn K mainGlobals "_law_refusal" = some (some (.ref f_law_refusal)))
    (l_law_refusal : K.lookup f_law_refusal = some ⟨oc_law_refusal, od_law_refusal, .func (PySem.W.fnOf "_law_refusal" "_law_refusal" (defArgs s_law_refusal) (defBody s_law_refusal) (defScope s_law_refusal) .none kV_law_refusal dc_law_refusal pm_law_refusal an_law_refusal cd_law_refusal ct_law_refusal), sl_law_refusal⟩)
    (c_law_refusal : PySem.W.codeIn K cd_law_refusal "_law_refusal" = true)
    (k_law_refusal : PySem.W.keepIn K (.ref f_law_refusal) = true)
    (a_NoRoom_init : PySem.W.findIn K (.ref A_NoRoom) "__init__" = some (some (.ref f_NoRoom_init)))
    (l_NoRoom_init : K.lookup f_NoRoom_init = some ⟨oc_NoRoom_init, od_NoRoom_init, .func (PySem.W.fnOf "__init__" "NoRoom.__init__" (defArgs s_NoRoom_init) (defBody s_NoRoom_init) (defScope s_NoRoom_init) .none kV_NoRoom_init dc_NoRoom_init pm_NoRoom_init an_NoRoom_init cd_NoRoom_init ct_NoRoom_init), sl_NoRoom_init⟩)
    (c_NoRoom_init : PySem.W.codeIn K cd_NoRoom_init "NoRoom.__init__" = true)
    (k_NoRoom_init : PySem.W.keepIn K (.ref f_NoRoom_init) = true)
    (xo_NoRoom : Dn.oexB K A_NoRoom "LookupError.__new__" [.type "LookupError", .type "Exception", .type "BaseException", .type "object"] = true)
    (xt_NoRoom : decide (PySem.W.typeIn K (.ref f_NoRoom_init) = some (.type "function")) = true)
    (x1_NoRoom : PySem.W.findIn K (.ref A_NoRoom) "name" = some none)
    (x2_NoRoom : PySem.W.findIn K (.ref A_NoRoom) "called" = some none)
    (xv_NoRoom : Dn.vvB K "LookupError" "LookupError.__init__" = true)
    (xz_NoRoom : PySem.W.nsIn K mainGlobals "LookupError" = some none)
    (nd_tabs : Dn.ndB K lamTb = true)
    (q_SIGNS : PySem.W.nsIn K mainGlobals "SIGNS" = some (some (.str "abcdefghijklmnopqrstuvwxyz" t_SIGNS)))
    (q_MOST_SIGNS : PySem.W.nsIn K mainGlobals "MOST_SIGNS" = some (some (.int 8 t_MOST_SIGNS)))
    (q_MOST_ROOMS : PySem.W.nsIn K mainGlobals "MOST_ROOMS" = some (some (.int 8 t_MOST_ROOMS)))
    (z_abs : PySem.W.nsIn K mainGlobals "abs" = some none)
    (z_all : PySem.W.nsIn K mainGlobals "all" = some none)
    (z_any : PySem.W.nsIn K mainGlobals "any" = some none)
    (z_bool : PySem.W.nsIn K mainGlobals "bool" = some none)
    (z_int : PySem.W.nsIn K mainGlobals "int" = some none)
    (z_isinstance : PySem.W.nsIn K mainGlobals "isinstance" = some none)
    (z_len : PySem.W.nsIn K mainGlobals "len" = some none)
    (z_list : PySem.W.nsIn K mainGlobals "list" = some none)
    (z_max : PySem.W.nsIn K mainGlobals "max" = some none)
    (z_min : PySem.W.nsIn K mainGlobals "min" = some none)
    (z_range : PySem.W.nsIn K mainGlobals "range" = some none)
    (z_repr : PySem.W.nsIn K mainGlobals "repr" = some none)
    (z_sorted : PySem.W.nsIn K mainGlobals "sorted" = some none)
    (z_str : PySem.W.nsIn K mainGlobals "str" = some none)
    (z_sum : PySem.W.nsIn K mainGlobals "sum" = some none)
    (z_tuple : PySem.W.nsIn K mainGlobals "tuple" = some none)
    (z_zip : PySem.W.nsIn K mainGlobals "zip" = some none)
    : ∃ fd : FuncData, (∀ (s : Shared) (v : Value), BindsTo s fd ⟨[v], []⟩ [("_law_script", v)]) ∧ ∀ base : Heap, K.In base → base.Ns mainGlobals mg → (∀ y ∈ lamTb, LamX.TabB base mg (Dh.cdA K y) (Dh.tbA K y)) → FnOkG l.prog w K mg base CX0 8 fa fd ["_law_script"] (Dn.spLawT K (lamTb.map fun y => (y, Dh.tbA K y))) := by
  have e := hfa.symm.trans (PySem.W.mg_of X Gh a_law)
  cases e
  have rG := Dn.rfG_of X Gh rg
  have T : G K mg := ⟨PySem.W.mg_none_of X Gh z_abs, PySem.W.mg_none_of X Gh z_all, PySem.W.mg_none_of X Gh z_any, PySem.W.mg_none_of X Gh z_bool, PySem.W.mg_none_of X Gh z_int, PySem.W.mg_none_of X Gh z_isinstance, PySem.W.mg_none_of X Gh z_len, PySem.W.mg_none_of X Gh z_list, PySem.W.mg_none_of X Gh z_max, PySem.W.mg_none_of X Gh z_min, PySem.W.mg_none_of X Gh z_range, PySem.W.mg_none_of X Gh z_repr, PySem.W.mg_none_of X Gh z_sorted, PySem.W.mg_none_of X Gh z_str, PySem.W.mg_none_of X Gh z_sum, PySem.W.mg_none_of X Gh z_tuple, PySem.W.mg_none_of X Gh z_zip, ⟨_, PySem.W.mg_of X Gh q_SIGNS, ⟨_, rfl⟩⟩, ⟨_, PySem.W.mg_of X Gh q_MOST_SIGNS, ⟨_, rfl⟩⟩, ⟨_, PySem.W.mg_of X Gh q_MOST_ROOMS, ⟨_, rfl⟩⟩, rG, Dn.rfD_of X Gh rg aE_NoRoom rf_NoRoom⟩
  refine ⟨PySem.W.fnOf "law" "law" (defArgs s_law) (defBody s_law) (defScope s_law) .none kV_law dc_law pm_law an_law cd_law ct_law, fun s v => .of_eq rfl, fun base _ _ hTB => ?_⟩
  have FI_NoRoom := fun_mk (st := s_NoRoom_init) l_NoRoom_init c_NoRoom_init k_NoRoom_init
  have ox_NoRoom := Dn.oexG_of PySem.F.excBase_LookupError PySem.F.store_LookupError (by decide +kernel) xo_NoRoom
  have OI_NoRoom := okI_NoRoom (base := base) (P := l.prog) (w := w) FI_NoRoom ox_NoRoom x1_NoRoom x2_NoRoom (PySem.W.mg_none_of X Gh xz_NoRoom) (Dn.vvB_ok xv_NoRoom)
  have BI_NoRoom := FI_NoRoom.binds (ps := ["self", "name"]) fun _ _ _ _ _ _ us hl => match us, hl with | [_, _], _ => rfl
  have Xc_NoRoom : XcG l.prog w K mg base 1 "NoRoom" "name" := ⟨A_NoRoom, f_NoRoom_init, _, _, _, PySem.W.mg_of X Gh aE_NoRoom, ox_NoRoom, a_NoRoom_init, of_decide_eq_true xt_NoRoom, OI_NoRoom, BI_NoRoom⟩
  have FW := fun_mk (st := s_law_which) l_law_which c_law_which k_law_which
  have BW := FW.binds (ps := ["_law_e"]) fun _ _ _ _ _ _ us hl => match us, hl with | [_], _ => rfl
  have FR := fun_mk (st := s_law_refusal) l_law_refusal c_law_refusal k_law_refusal
  have BR := FR.binds (ps := ["_law_deed"]) fun _ _ _ _ _ _ us hl => match us, hl with | [_], _ => rfl
  have RR := ok_law_refusal (P := l.prog) (w := w) (base := base) T FW (PySem.W.mg_of X Gh a_law_which) BW FR (PySem.W.mg_of X Gh a_law_refusal) BR
  have F_law_take := fun_mk (st := s_law_take) l_law_take c_law_take k_law_take
  have O_law_take := ok_law_take (base := base) (P := l.prog) (w := w) T F_law_take
  have B_law_take := F_law_take.binds (ps := ["_law_bag_here", "_law_often"]) fun _ _ _ _ _ _ us hl => match us, hl with | [_, _], _ => rfl
  have C_law_take : FnD l.prog w K mg base 1 "_law_take" 2 Law.f_law_take := ⟨f_law_take, _, _, O_law_take, PySem.W.mg_of X Gh a_law_take, k_law_take, B_law_take⟩
  have F_law_odd := fun_mk (st := s_law_odd) l_law_odd c_law_odd k_law_odd
  have O_law_odd := ok_law_odd (base := base) (P := l.prog) (w := w) T C_law_take F_law_odd
  have B_law_odd := F_law_odd.binds (ps := ["_law_bag_here"]) fun _ _ _ _ _ _ us hl => match us, hl with | [_], _ => rfl
  have C_law_odd : FnD l.prog w K mg base 2 "_law_odd" 1 Law.f_law_odd := ⟨f_law_odd, _, _, O_law_odd, PySem.W.mg_of X Gh a_law_odd, k_law_odd, B_law_odd⟩
  have F_law_text_bent := fun_mk (st := s_law_text_bent) l_law_text_bent c_law_text_bent k_law_text_bent
  have O_law_text_bent := ok_law_text_bent (base := base) (P := l.prog) (w := w) T C_law_take F_law_text_bent
  have B_law_text_bent := F_law_text_bent.binds (ps := ["_law_bag_here", "_law_text"]) fun _ _ _ _ _ _ us hl => match us, hl with | [_, _], _ => rfl
  have C_law_text_bent : FnD l.prog w K mg base 2 "_law_text_bent" 2 Law.f_law_text_bent := ⟨f_law_text_bent, _, _, O_law_text_bent, PySem.W.mg_of X Gh a_law_text_bent, k_law_text_bent, B_law_text_bent⟩
  have F_takes_of_room := fun_mk (st := s_takes_of_room) l_takes_of_room c_takes_of_room k_takes_of_room
  have O_takes_of_room := ok_takes_of_room (base := base) (P := l.prog) (w := w) T Xc_NoRoom F_takes_of_room
  have B_takes_of_room := F_takes_of_room.binds (ps := ["rooms", "room"]) fun _ _ _ _ _ _ us hl => match us, hl with | [_, _], _ => rfl
  have C_fX_takes_of_room : FnX l.prog w K mg base 3 "takes_of_room" 2 Law.f_takes_of_room := ⟨f_takes_of_room, _, _, O_takes_of_room, PySem.W.mg_of X Gh a_takes_of_room, k_takes_of_room, B_takes_of_room⟩
  have F_is_met := fun_mk (st := s_is_met) l_is_met c_is_met k_is_met
  have O_is_met := ok_is_met (base := base) (P := l.prog) (w := w) T F_is_met
  have B_is_met := F_is_met.binds (ps := ["takes", "of"]) fun _ _ _ _ _ _ us hl => match us, hl with | [_, _], _ => rfl
  have C_is_met : FnD l.prog w K mg base 1 "is_met" 2 Law.f_is_met := ⟨f_is_met, _, _, O_is_met, PySem.W.mg_of X Gh a_is_met, k_is_met, B_is_met⟩
  have F_serves := fun_mk (st := s_serves) l_serves c_serves k_serves
  have O_serves := ok_serves (base := base) (P := l.prog) (w := w) T C_fX_takes_of_room C_is_met F_serves
  have B_serves := F_serves.binds (ps := ["rooms", "room", "of"]) fun _ _ _ _ _ _ us hl => match us, hl with | [_, _, _], _ => rfl
  have C_fX_serves : FnX l.prog w K mg base 4 "serves" 3 Law.f_serves := ⟨f_serves, _, _, O_serves, PySem.W.mg_of X Gh a_serves, k_serves, B_serves⟩
  have F_law_share := fun_mk (st := s_law_share) l_law_share c_law_share k_law_share
  have O_law_share := ok_law_share (base := base) (P := l.prog) (w := w) T F_law_share
  have B_law_share := F_law_share.binds (ps := ["_law_one", "_law_other"]) fun _ _ _ _ _ _ us hl => match us, hl with | [_, _], _ => rfl
  have C_law_share : FnD l.prog w K mg base 1 "_law_share" 2 Law.f_law_share := ⟨f_law_share, _, _, O_law_share, PySem.W.mg_of X Gh a_law_share, k_law_share, B_law_share⟩
  have F_law_truths := fun_mk (st := s_law_truths) l_law_truths c_law_truths k_law_truths
  have O_law_truths := ok_law_truths (base := base) (P := l.prog) (w := w) T F_law_truths
  have B_law_truths := F_law_truths.binds (ps := ["_law_told", "_law_due"]) fun _ _ _ _ _ _ us hl => match us, hl with | [_, _], _ => rfl
  have C_law_truths : FnD l.prog w K mg base 1 "_law_truths" 2 Law.f_law_truths := ⟨f_law_truths, _, _, O_law_truths, PySem.W.mg_of X Gh a_law_truths, k_law_truths, B_law_truths⟩
  have F_law_row_bent := fun_mk (st := s_law_row_bent) l_law_row_bent c_law_row_bent k_law_row_bent
  have O_law_row_bent := ok_law_row_bent (base := base) (P := l.prog) (w := w) T C_law_take C_law_odd F_law_row_bent
  have B_law_row_bent := F_law_row_bent.binds (ps := ["_law_bag_here", "_law_row"]) fun _ _ _ _ _ _ us hl => match us, hl with | [_, _], _ => rfl
  have C_law_row_bent : FnD l.prog w K mg base 3 "_law_row_bent" 2 Law.f_law_row_bent := ⟨f_law_row_bent, _, _, O_law_row_bent, PySem.W.mg_of X Gh a_law_row_bent, k_law_row_bent, B_law_row_bent⟩
  have F_law_bent := fun_mk (st := s_law_bent) l_law_bent c_law_bent k_law_bent
  have O_law_bent := ok_law_bent (base := base) (P := l.prog) (w := w) T C_law_row_bent C_law_take C_law_odd C_law_text_bent F_law_bent
  have B_law_bent := F_law_bent.binds (ps := ["_law_bag_here", "_law_kinds_here", "_law_rooms_here"]) fun _ _ _ _ _ _ us hl => match us, hl with | [_, _, _], _ => rfl
  have C_law_bent : FnD l.prog w K mg base 4 "_law_bent" 3 Law.f_law_bent := ⟨f_law_bent, _, _, O_law_bent, PySem.W.mg_of X Gh a_law_bent, k_law_bent, B_law_bent⟩
  have F_law_rises := fun_mk (st := s_law_rises) l_law_rises c_law_rises k_law_rises
  have O_law_rises := ok_law_rises (base := base) (P := l.prog) (w := w) T F_law_rises
  have B_law_rises := F_law_rises.binds (ps := ["_law_thing"]) fun _ _ _ _ _ _ us hl => match us, hl with | [_], _ => rfl
  have C_law_rises : FnD l.prog w K mg base 1 "_law_rises" 1 Law.f_law_rises := ⟨f_law_rises, _, _, O_law_rises, PySem.W.mg_of X Gh a_law_rises, k_law_rises, B_law_rises⟩
  have F_law_is_name := fun_mk (st := s_law_is_name) l_law_is_name c_law_is_name k_law_is_name
  have O_law_is_name := ok_law_is_name (base := base) (P := l.prog) (w := w) T F_law_is_name
  have B_law_is_name := F_law_is_name.binds (ps := ["_law_thing"]) fun _ _ _ _ _ _ us hl => match us, hl with | [_], _ => rfl
  have C_law_is_name : FnD l.prog w K mg base 1 "_law_is_name" 1 Law.f_law_is_name := ⟨f_law_is_name, _, _, O_law_is_name, PySem.W.mg_of X Gh a_law_is_name, k_law_is_name, B_law_is_name⟩
  have F_law_sets := fun_mk (st := s_law_sets) l_law_sets c_law_sets k_law_sets
  have O_law_sets := ok_law_sets (base := base) (P := l.prog) (w := w) T F_law_sets
  have B_law_sets := F_law_sets.binds (ps := ["_law_kinds_here"]) fun _ _ _ _ _ _ us hl => match us, hl with | [_], _ => rfl
  have C_law_sets : FnD l.prog w K mg base 1 "_law_sets" 1 Law.f_law_sets := ⟨f_law_sets, _, _, O_law_sets, PySem.W.mg_of X Gh a_law_sets, k_law_sets, B_law_sets⟩
  have F_law_is_set := fun_mk (st := s_law_is_set) l_law_is_set c_law_is_set k_law_is_set
  have O_law_is_set := ok_law_is_set (base := base) (P := l.prog) (w := w) T C_law_sets F_law_is_set
  have B_law_is_set := F_law_is_set.binds (ps := ["_law_kinds_here", "_law_thing"]) fun _ _ _ _ _ _ us hl => match us, hl with | [_, _], _ => rfl
  have C_law_is_set : FnD l.prog w K mg base 2 "_law_is_set" 2 Law.f_law_is_set := ⟨f_law_is_set, _, _, O_law_is_set, PySem.W.mg_of X Gh a_law_is_set, k_law_is_set, B_law_is_set⟩
  have F_law_is_room := fun_mk (st := s_law_is_room) l_law_is_room c_law_is_room k_law_is_room
  have O_law_is_room := ok_law_is_room (base := base) (P := l.prog) (w := w) T C_law_is_name C_law_is_set F_law_is_room
  have B_law_is_room := F_law_is_room.binds (ps := ["_law_kinds_here", "_law_thing"]) fun _ _ _ _ _ _ us hl => match us, hl with | [_, _], _ => rfl
  have C_law_is_room : FnD l.prog w K mg base 3 "_law_is_room" 2 Law.f_law_is_room := ⟨f_law_is_room, _, _, O_law_is_room, PySem.W.mg_of X Gh a_law_is_room, k_law_is_room, B_law_is_room⟩
  have F_law_are_rooms := fun_mk (st := s_law_are_rooms) l_law_are_rooms c_law_are_rooms k_law_are_rooms
  have O_law_are_rooms := ok_law_are_rooms (base := base) (P := l.prog) (w := w) T C_law_rises C_law_is_room F_law_are_rooms
  have B_law_are_rooms := F_law_are_rooms.binds (ps := ["_law_kinds_here", "_law_thing"]) fun _ _ _ _ _ _ us hl => match us, hl with | [_, _], _ => rfl
  have C_law_are_rooms : FnD l.prog w K mg base 4 "_law_are_rooms" 2 Law.f_law_are_rooms := ⟨f_law_are_rooms, _, _, O_law_are_rooms, PySem.W.mg_of X Gh a_law_are_rooms, k_law_are_rooms, B_law_are_rooms⟩
  have F_is_name := fun_mk (st := s_is_name) l_is_name c_is_name k_is_name
  have O_is_name := ok_is_name (base := base) (P := l.prog) (w := w) T F_is_name
  have B_is_name := F_is_name.binds (ps := ["thing"]) fun _ _ _ _ _ _ us hl => match us, hl with | [_], _ => rfl
  have C_is_name : FnD l.prog w K mg base 1 "is_name" 1 Law.f_is_name := ⟨f_is_name, _, _, O_is_name, PySem.W.mg_of X Gh a_is_name, k_is_name, B_is_name⟩
  have F_is_rising := fun_mk (st := s_is_rising) l_is_rising c_is_rising k_is_rising
  have O_is_rising := ok_is_rising (base := base) (P := l.prog) (w := w) T F_is_rising
  have B_is_rising := F_is_rising.binds (ps := ["things"]) fun _ _ _ _ _ _ us hl => match us, hl with | [_], _ => rfl
  have C_is_rising : FnD l.prog w K mg base 1 "is_rising" 1 Law.f_is_rising := ⟨f_is_rising, _, _, O_is_rising, PySem.W.mg_of X Gh a_is_rising, k_is_rising, B_is_rising⟩
  have F_is_set := fun_mk (st := s_is_set) l_is_set c_is_set k_is_set
  have O_is_set := ok_is_set (base := base) (P := l.prog) (w := w) T C_is_rising F_is_set
  have B_is_set := F_is_set.binds (ps := ["kinds", "thing"]) fun _ _ _ _ _ _ us hl => match us, hl with | [_, _], _ => rfl
  have C_is_set : FnD l.prog w K mg base 2 "is_set" 2 Law.f_is_set := ⟨f_is_set, _, _, O_is_set, PySem.W.mg_of X Gh a_is_set, k_is_set, B_is_set⟩
  have F_is_room := fun_mk (st := s_is_room) l_is_room c_is_room k_is_room
  have O_is_room := ok_is_room (base := base) (P := l.prog) (w := w) T C_is_name C_is_set F_is_room
  have B_is_room := F_is_room.binds (ps := ["kinds", "thing"]) fun _ _ _ _ _ _ us hl => match us, hl with | [_, _], _ => rfl
  have C_is_room : FnD l.prog w K mg base 3 "is_room" 2 Law.f_is_room := ⟨f_is_room, _, _, O_is_room, PySem.W.mg_of X Gh a_is_room, k_is_room, B_is_room⟩
  have F_are_rooms := fun_mk (st := s_are_rooms) l_are_rooms c_are_rooms k_are_rooms
  have O_are_rooms := ok_are_rooms (base := base) (P := l.prog) (w := w) T C_is_room C_is_rising F_are_rooms
  have B_are_rooms := F_are_rooms.binds (ps := ["kinds", "thing"]) fun _ _ _ _ _ _ us hl => match us, hl with | [_, _], _ => rfl
  have C_are_rooms : FnD l.prog w K mg base 4 "are_rooms" 2 Law.f_are_rooms := ⟨f_are_rooms, _, _, O_are_rooms, PySem.W.mg_of X Gh a_are_rooms, k_are_rooms, B_are_rooms⟩
  have F_law_names := fun_mk (st := s_law_names) l_law_names c_law_names k_law_names
  have O_law_names := ok_law_names (base := base) (P := l.prog) (w := w) T C_law_take F_law_names
  have B_law_names := F_law_names.binds (ps := ["_law_bag_here", "_law_often"]) fun _ _ _ _ _ _ us hl => match us, hl with | [_, _], _ => rfl
  have C_law_names : FnD l.prog w K mg base 2 "_law_names" 2 Law.f_law_names := ⟨f_law_names, _, _, O_law_names, PySem.W.mg_of X Gh a_law_names, k_law_names, B_law_names⟩
  have F_law_rooms := fun_mk (st := s_law_rooms) l_law_rooms c_law_rooms k_law_rooms
  have O_law_rooms := ok_law_rooms (base := base) (P := l.prog) (w := w) T C_law_take C_law_names C_law_sets F_law_rooms
  have B_law_rooms := F_law_rooms.binds (ps := ["_law_bag_here", "_law_kinds_here", "_law_most"]) fun _ _ _ _ _ _ us hl => match us, hl with | [_, _, _], _ => rfl
  have C_law_rooms : FnD l.prog w K mg base 3 "_law_rooms" 3 Law.f_law_rooms := ⟨f_law_rooms, _, _, O_law_rooms, PySem.W.mg_of X Gh a_law_rooms, k_law_rooms, B_law_rooms⟩
  have F_law_kinds := fun_mk (st := s_law_kinds) l_law_kinds c_law_kinds k_law_kinds
  have O_law_kinds := ok_law_kinds (base := base) (P := l.prog) (w := w) T C_law_take C_law_names F_law_kinds
  have B_law_kinds := F_law_kinds.binds (ps := ["_law_bag_here"]) fun _ _ _ _ _ _ us hl => match us, hl with | [_], _ => rfl
  have C_law_kinds : FnD l.prog w K mg base 3 "_law_kinds" 1 Law.f_law_kinds := ⟨f_law_kinds, _, _, O_law_kinds, PySem.W.mg_of X Gh a_law_kinds, k_law_kinds, B_law_kinds⟩
  have F_law_bag := fun_mk (st := s_law_bag) l_law_bag c_law_bag k_law_bag
  have O_law_bag := ok_law_bag (base := base) (P := l.prog) (w := w) T F_law_bag
  have B_law_bag := F_law_bag.binds (ps := ["_law_script", "_law_at"]) fun _ _ _ _ _ _ us hl => match us, hl with | [_, _], _ => rfl
  have C_law_bag : FnD l.prog w K mg base 1 "_law_bag" 2 Law.f_law_bag := ⟨f_law_bag, _, _, O_law_bag, PySem.W.mg_of X Gh a_law_bag, k_law_bag, B_law_bag⟩
  have F_law := fun_mk (st := s_law) l_law c_law k_law
  exact FnOkG.imp (ok_law T C_law_odd C_law_text_bent C_fX_serves C_law_share C_law_truths C_law_bent C_law_are_rooms C_are_rooms C_law_names C_law_sets C_law_rooms C_law_kinds C_law_bag RR (Dn.tabAt_of a_law l_law (hTab _ (by decide))).1 (Dn.tabAt_of a_law l_law (hTab _ (by decide))).2 (hTB _ (by decide)) F_law) (Dn.law_spT (Dn.tabsAt fun y hy => by
    simp only [lamTb, List.mem_cons, List.not_mem_nil, or_false] at hy
    rcases hy with rfl
    · exact (Dn.tabAt_of a_law l_law (hTab _ (by decide))).2) (Dn.ndB_ok nd_tabs) (by rw [Dn.tabM_of]; exact plain_law))
end Law
namespace Law
open PySem PyProof.Rows L2 Evl Dn
set_option maxHeartbeats 0 in
theorem facts {l : PySem.W.OpenLaw} {w : World} {K K0 : PySem.W.Frag} {h : Heap} {mg : Str → Option Value} {fa : Addr} (X : K.In h) (Gh : h.Ns mainGlobals mg) (hfa : mg "law" = some (.ref fa)) (c : Dh.SaysT Hd.pts w K K0) :
    ∃ fd : FuncData, (∀ (s : Shared) (v : Value), BindsTo s fd ⟨[v], []⟩ [("_law_script", v)]) ∧ ∀ base : Heap, K.In base → base.Ns mainGlobals mg → (∀ y ∈ lamTb, LamX.TabB base mg (Dh.cdA K y) (Dh.tbA K y)) → FnOkG l.prog w K mg base CX0 8 fa fd ["_law_script"] (Dn.spLawT K (lamTb.map fun y => (y, Dh.tbA K y))) := by
  have c0 : Hd.pt0.pt.obs K = Hd.pt0.pt.val w := (Dh.SaysT.pt c 0).1
  have f0 : Hd.fb0 K = true := Dh.facts_of c0
  have c1 : Hd.pt1.pt.obs K = Hd.pt1.pt.val w := (Dh.SaysT.pt c 1).1
  have f1 : Hd.fb1 K = true := Dh.facts_of c1
  have hTab : ∀ y ∈ lamTb, Dh.TabOk K K0 y (Dh.cdA K y) (Dh.tbA K y) := Dh.tabs_of (Dh.SaysT.pt c 1).2
  exact all_mk (l := l)  X Gh hfa hTab (He.eqO_ok (Hd.b_a_law_take f0))
    (Dh.l_of (d := Hd.d_law_take) (Dh.at_of c0 0) (Hd.b_cc_law_take f0)).1
    (Dh.l_of (d := Hd.d_law_take) (Dh.at_of c0 0) (Hd.b_cc_law_take f0)).2
    (Hd.b_k_law_take f0)
    (He.eqO_ok (Hd.b_a_law_odd f0))
    (Dh.l_of (d := Hd.d_law_odd) (Dh.at_of c0 1) (Hd.b_cc_law_odd f0)).1
    (Dh.l_of (d := Hd.d_law_odd) (Dh.at_of c0 1) (Hd.b_cc_law_odd f0)).2
    (Hd.b_k_law_odd f0)
    (He.eqO_ok (Hd.b_a_law_text_bent f0))
    (Dh.l_of (d := Hd.d_law_text_bent) (Dh.at_of c0 2) (Hd.b_cc_law_text_bent f0)).1
    (Dh.l_of (d := Hd.d_law_text_bent) (Dh.at_of c0 2) (Hd.b_cc_law_text_bent f0)).2
    (Hd.b_k_law_text_bent f0)
    (He.eqO_ok (Hd.b_a_takes_of_room f0))
    (Dh.l_of (d := Hd.d_takes_of_room) (Dh.at_of c0 3) (Hd.b_cc_takes_of_room f0)).1
    (Dh.l_of (d := Hd.d_takes_of_room) (Dh.at_of c0 3) (Hd.b_cc_takes_of_room f0)).2
    (Hd.b_k_takes_of_room f0)
    (He.eqO_ok (Hd.b_a_is_met f0))
    (Dh.l_of (d := Hd.d_is_met) (Dh.at_of c0 4) (Hd.b_cc_is_met f0)).1
    (Dh.l_of (d := Hd.d_is_met) (Dh.at_of c0 4) (Hd.b_cc_is_met f0)).2
    (Hd.b_k_is_met f0)
    (He.eqO_ok (Hd.b_a_serves f0))
    (Dh.l_of (d := Hd.d_serves) (Dh.at_of c0 5) (Hd.b_cc_serves f0)).1
    (Dh.l_of (d := Hd.d_serves) (Dh.at_of c0 5) (Hd.b_cc_serves f0)).2
    (Hd.b_k_serves f0)
    (He.eqO_ok (Hd.b_a_law_share f0))
    (Dh.l_of (d := Hd.d_law_share) (Dh.at_of c0 6) (Hd.b_cc_law_share f0)).1
    (Dh.l_of (d := Hd.d_law_share) (Dh.at_of c0 6) (Hd.b_cc_law_share f0)).2
    (Hd.b_k_law_share f0)
    (He.eqO_ok (Hd.b_a_law_truths f0))
    (Dh.l_of (d := Hd.d_law_truths) (Dh.at_of c0 7) (Hd.b_cc_law_truths f0)).1
    (Dh.l_of (d := Hd.d_law_truths) (Dh.at_of c0 7) (Hd.b_cc_law_truths f0)).2
    (Hd.b_k_law_truths f0)
    (He.eqO_ok (Hd.b_a_law_row_bent f0))
    (Dh.l_of (d := Hd.d_law_row_bent) (Dh.at_of c0 8) (Hd.b_cc_law_row_bent f0)).1
    (Dh.l_of (d := Hd.d_law_row_bent) (Dh.at_of c0 8) (Hd.b_cc_law_row_bent f0)).2
    (Hd.b_k_law_row_bent f0)
    (He.eqO_ok (Hd.b_a_law_bent f0))
    (Dh.l_of (d := Hd.d_law_bent) (Dh.at_of c0 9) (Hd.b_cc_law_bent f0)).1
    (Dh.l_of (d := Hd.d_law_bent) (Dh.at_of c0 9) (Hd.b_cc_law_bent f0)).2
    (Hd.b_k_law_bent f0)
    (He.eqO_ok (Hd.b_a_law_rises f0))
    (Dh.l_of (d := Hd.d_law_rises) (Dh.at_of c0 10) (Hd.b_cc_law_rises f0)).1
    (Dh.l_of (d := Hd.d_law_rises) (Dh.at_of c0 10) (Hd.b_cc_law_rises f0)).2
    (Hd.b_k_law_rises f0)
    (He.eqO_ok (Hd.b_a_law_is_name f0))
    (Dh.l_of (d := Hd.d_law_is_name) (Dh.at_of c0 11) (Hd.b_cc_law_is_name f0)).1
    (Dh.l_of (d := Hd.d_law_is_name) (Dh.at_of c0 11) (Hd.b_cc_law_is_name f0)).2
    (Hd.b_k_law_is_name f0)
    (He.eqO_ok (Hd.b_a_law_sets f0))
    (Dh.l_of (d := Hd.d_law_sets) (Dh.at_of c0 12) (Hd.b_cc_law_sets f0)).1
    (Dh.l_of (d := Hd.d_law_sets) (Dh.at_of c0 12) (Hd.b_cc_law_sets f0)).2
    (Hd.b_k_law_sets f0)
    (He.eqO_ok (Hd.b_a_law_is_set f0))
    (Dh.l_of (d := Hd.d_law_is_set) (Dh.at_of c0 13) (Hd.b_cc_law_is_set f0)).1
    (Dh.l_of (d := Hd.d_law_is_set) (Dh.at_of c0 13) (Hd.b_cc_law_is_set f0)).2
    (Hd.b_k_law_is_set f0)
    (He.eqO_ok (Hd.b_a_law_is_room f0))
    (Dh.l_of (d := Hd.d_law_is_room) (Dh.at_of c0 14) (Hd.b_cc_law_is_room f0)).1
    (Dh.l_of (d := Hd.d_law_is_room) (Dh.at_of c0 14) (Hd.b_cc_law_is_room f0)).2
    (Hd.b_k_law_is_room f0)
    (He.eqO_ok (Hd.b_a_law_are_rooms f0))
    (Dh.l_of (d := Hd.d_law_are_rooms) (Dh.at_of c1 0) (Hd.b_cc_law_are_rooms f1)).1
    (Dh.l_of (d := Hd.d_law_are_rooms) (Dh.at_of c1 0) (Hd.b_cc_law_are_rooms f1)).2
    (Hd.b_k_law_are_rooms f0)
    (He.eqO_ok (Hd.b_a_is_name f0))
    (Dh.l_of (d := Hd.d_is_name) (Dh.at_of c1 1) (Hd.b_cc_is_name f1)).1
    (Dh.l_of (d := Hd.d_is_name) (Dh.at_of c1 1) (Hd.b_cc_is_name f1)).2
    (Hd.b_k_is_name f0)
    (He.eqO_ok (Hd.b_a_is_rising f0))
    (Dh.l_of (d := Hd.d_is_rising) (Dh.at_of c1 2) (Hd.b_cc_is_rising f1)).1
    (Dh.l_of (d := Hd.d_is_rising) (Dh.at_of c1 2) (Hd.b_cc_is_rising f1)).2
    (Hd.b_k_is_rising f0)
    (He.eqO_ok (Hd.b_a_is_set f0))
    (Dh.l_of (d := Hd.d_is_set) (Dh.at_of c1 3) (Hd.b_cc_is_set f1)).1
    (Dh.l_of (d := Hd.d_is_set) (Dh.at_of c1 3) (Hd.b_cc_is_set f1)).2
    (Hd.b_k_is_set f0)
    (He.eqO_ok (Hd.b_a_is_room f0))
    (Dh.l_of (d := Hd.d_is_room) (Dh.at_of c1 4) (Hd.b_cc_is_room f1)).1
    (Dh.l_of (d := Hd.d_is_room) (Dh.at_of c1 4) (Hd.b_cc_is_room f1)).2
    (Hd.b_k_is_room f0)
    (He.eqO_ok (Hd.b_a_are_rooms f0))
    (Dh.l_of (d := Hd.d_are_rooms) (Dh.at_of c1 5) (Hd.b_cc_are_rooms f1)).1
    (Dh.l_of (d := Hd.d_are_rooms) (Dh.at_of c1 5) (Hd.b_cc_are_rooms f1)).2
    (Hd.b_k_are_rooms f0)
    (He.eqO_ok (Hd.b_a_law_names f0))
    (Dh.l_of (d := Hd.d_law_names) (Dh.at_of c1 6) (Hd.b_cc_law_names f1)).1
    (Dh.l_of (d := Hd.d_law_names) (Dh.at_of c1 6) (Hd.b_cc_law_names f1)).2
    (Hd.b_k_law_names f0)
    (He.eqO_ok (Hd.b_a_law_rooms f1))
    (Dh.l_of (d := Hd.d_law_rooms) (Dh.at_of c1 7) (Hd.b_cc_law_rooms f1)).1
    (Dh.l_of (d := Hd.d_law_rooms) (Dh.at_of c1 7) (Hd.b_cc_law_rooms f1)).2
    (Hd.b_k_law_rooms f1)
    (He.eqO_ok (Hd.b_a_law_kinds f1))
    (Dh.l_of (d := Hd.d_law_kinds) (Dh.at_of c1 8) (Hd.b_cc_law_kinds f1)).1
    (Dh.l_of (d := Hd.d_law_kinds) (Dh.at_of c1 8) (Hd.b_cc_law_kinds f1)).2
    (Hd.b_k_law_kinds f1)
    (He.eqO_ok (Hd.b_a_law_bag f1))
    (Dh.l_of (d := Hd.d_law_bag) (Dh.at_of c1 9) (Hd.b_cc_law_bag f1)).1
    (Dh.l_of (d := Hd.d_law_bag) (Dh.at_of c1 9) (Hd.b_cc_law_bag f1)).2
    (Hd.b_k_law_bag f1)
    (He.eqO_ok (Hd.b_a_law f1))
    (Dh.l_of (d := Hd.d_law) (Dh.at_of c1 10) (Hd.b_cc_law f1)).1
    (Dh.l_of (d := Hd.d_law) (Dh.at_of c1 10) (Hd.b_cc_law f1)).2
    (Hd.b_k_law f1)
    (He.eqO_ok (Hd.b_aE_NoRoom f1))
    (Hd.b_rg f1)
    (Hd.b_rf_NoRoom f1)
    (He.eqO_ok (Hd.b_a_law_which f1))
    (Dh.l_of (d := Hd.d_law_which) (Dh.at_of c1 11) (Hd.b_cc_law_which f1)).1
    (Dh.l_of (d := Hd.d_law_which) (Dh.at_of c1 11) (Hd.b_cc_law_which f1)).2
    (Hd.b_k_law_which f1)
    (He.eqO_ok (Hd.b_a_law_refusal f1))
    (Dh.l_of (d := Hd.d_law_refusal) (Dh.at_of c1 12) (Hd.b_cc_law_refusal f1)).1
    (Dh.l_of (d := Hd.d_law_refusal) (Dh.at_of c1 12) (Hd.b_cc_law_refusal f1)).2
    (Hd.b_k_law_refusal f1)
    (He.eqO_ok (Hd.b_a_NoRoom_init f1))
    (Dh.l_of (d := Hd.d_NoRoom_init) (Dh.at_of c1 13) (Hd.b_cc_NoRoom_init f1)).1
    (Dh.l_of (d := Hd.d_NoRoom_init) (Dh.at_of c1 13) (Hd.b_cc_NoRoom_init f1)).2
    (Hd.b_k_NoRoom_init f1)
    (Hd.b_xo_NoRoom f1)
    (Hd.b_xt_NoRoom f1)
    (He.eqO_ok (Hd.b_x1_NoRoom f1))
    (He.eqO_ok (Hd.b_x2_NoRoom f1))
    (Hd.b_xv_NoRoom f1)
    (He.eqO_ok (Hd.b_xz_NoRoom f1))
    (Hd.b_nd_tabs f1)
    (Dh.st_of (Hd.b_q_SIGNS f1))
    (Dh.in_of (Hd.b_q_MOST_SIGNS f1))
    (Dh.in_of (Hd.b_q_MOST_ROOMS f1))
    (He.eqO_ok (Hd.b_z_abs f1))
    (He.eqO_ok (Hd.b_z_all f1))
    (He.eqO_ok (Hd.b_z_any f1))
    (He.eqO_ok (Hd.b_z_bool f1))
    (He.eqO_ok (Hd.b_z_int f1))
    (He.eqO_ok (Hd.b_z_isinstance f1))
    (He.eqO_ok (Hd.b_z_len f1))
    (He.eqO_ok (Hd.b_z_list f1))
    (He.eqO_ok (Hd.b_z_max f1))
    (He.eqO_ok (Hd.b_z_min f1))
    (He.eqO_ok (Hd.b_z_range f1))
    (He.eqO_ok (Hd.b_z_repr f1))
    (He.eqO_ok (Hd.b_z_sorted f1))
    (He.eqO_ok (Hd.b_z_str f1))
    (He.eqO_ok (Hd.b_z_sum f1))
    (He.eqO_ok (Hd.b_z_tuple f1))
    (He.eqO_ok (Hd.b_z_zip f1))
end Law
open PySem PySem.W PyProof.Rows in
set_option maxHeartbeats 0 in
theorem PySem.Challenge.cw_crowdpurse_k05_rooms_and_serving_holds : PySem.Challenge.rw_crowdpurse_k05_rooms_and_serving.Holds := by
  w_on; o_law
  refine HandSHeadRun.head_any (r := OpenLaw.row PySem.Challenge.rw_crowdpurse_k05_rooms_and_serving) (q := Law.Hd.qv) (H := Dh.hookT Law.Hd.pts) (ob := Dh.obT Law.Hd.pts) (M := 17000) (loose := Law.Hd.names) (d := HandSHeadRun.topDef (OpenLaw.row PySem.Challenge.rw_crowdpurse_k05_rooms_and_serving).prog 55) (kwd := []) (Dh.obT_eq Law.Hd.pts)
    (by kernel_rfl) (fun s => by kernel_rfl) Law.Hd.run (by kernel_rfl) (by kernel_rfl) (by kernel_rfl) (by rfl) (by first | assumption | decide +kernel) (by decide +kernel) ⟨rfl, rfl, rfl, rfl, rfl, by decide +kernel⟩ ?hw ?hc
  case hw => w_witness2
  case hc =>
    refine Dh.law_walkETG (l := PySem.Challenge.rw_crowdpurse_k05_rooms_and_serving) (k := 8) (x := "_law_script") rfl (by kernel_rfl) ⟨rfl, by decide, by decide⟩ ?F
    intro w mg fa h Y Gh hmg0
    obtain ⟨K, K0, KX, KX0, c⟩ := Y
    have hmg : mg ("law" : PySem.Str) = some (.ref fa) := by
      have e : (HandSHeadRun.topDef (OpenLaw.row PySem.Challenge.rw_crowdpurse_k05_rooms_and_serving).prog 55).name = ("law" : PySem.Str) := by kernel_rfl
      rw [← e]
      exact hmg0
    obtain ⟨fd, hb, hF⟩ := Law.facts KX Gh hmg c
    exact ⟨K, K0, Law.lamTb, KX, KX0, Dh.tabs_of (tb := Law.lamTb) (Dh.SaysT.pt c 1).2, fd, hb, hF⟩
#print axioms PySem.Challenge.cw_crowdpurse_k05_rooms_and_serving_holds
