import PyProof.Rows.All
import Wide.All
import OpenK.AllK
import Wide.FinOn
import HandS.ForMost
import KE.KStateDown
import KE.KSuper
import HandS.Head0
import HandS.Head1
import HandS.Head2
import HandS.HeadEnd
import HandS.HeadHook1
import HandS.HeadHook2
import HandS.Words
import HandS.ExcSuper
import KE.KExcLine
import KE.RegKSuper
import PySem.Challenge.RW_moonfall_k65_whole_surveys
import KE.KDictKeyed
import HandS.TupAny
import HandS.Style
import KE.SortData
import KE.DataCmp
import KE.DatumOrd
import PyProof.P3In
import HandS.TupLen
import HandS.Iter
import KE.KDictWalk
import HandS.DictComp
import KE.KDictPairs
import HandS.More
import KE.KDictCopyH
import KE.KDictSum
import HandS.Zip
import HandS.IsInst
import KE.GoesMore
import HandS.DictTup
import HandS.Star
import KE.KDictItemsList
import PyProof.Transfer
import HandS.Dict
import PyProof.MaxThree
import PyProof.EqAt
import PyProof.EqKinds
import HandS.Remove
import KE.KDictList
import KE.KDictDisplayH
import PyProof.TupleOfSeq
import HandS.Conv
import HandS.OwnEq
import HandS.TupSets
import HandS.Comp
import HandS.SetFor
import HandS.Strs
import KE.KSortAsk
import KE.SortCalls
import KE.LtData
import KE.KSortTup
import HandS.ForExc
import HandS.ExcField
import KE.KExcInit
import KE.KExcSuper
import HandS.ExcIs
set_option Elab.async false
set_option linter.all false
set_option maxRecDepth 100000
set_option maxHeartbeats 4000000
namespace HB
open PySem PySem.Spec PyProof.Rows L2
/-- a list of addresses worked out ahead -/
def frA {α : Type} : List Addr → (List Addr → α) → α
  | [], k => k []
  | a :: r, k => HandSHeadRun.frNat a fun a => frA r fun r => k (a :: r)
def nx1 (o : Obj) : List Addr := match o.data with
  | .cls cd => [cd.ns]
  | .dict es _ => es.toList.flatMap fun e => He.refV e.val
  | .func fd => He.refV fd.code ++ fd.closure.map (·.2)
  | _ => []
def lv (g : Addr → Option Obj) (as : List Addr) : List Addr := as.flatMap fun a => match g a with
  | some o => nx1 o
  | none => []
def isCl (g : Addr → Option Obj) (a : Addr) : Bool := match g a with
  | some ⟨_, _, .cls _, _⟩ => true
  | _ => false
/-- the classes and what they hold stand first: most looks go there -/
def asB (g : Addr → Option Obj) : List Addr :=
  frA (lv g [mainGlobals]) fun l1 => frA (l1.filter (isCl g)) fun c1 => frA (lv g c1) fun n1 => frA (lv g n1) fun m1 => frA (l1.filter fun a => !isCl g a) fun r1 =>
    [mainGlobals, cStatics] ++ (c1 ++ (n1 ++ (m1 ++ (r1 ++ (lv g m1 ++ lv g r1)))))
def frO {α : Type} (o : Obj) (k : Obj → α) : α := match o with
  | ⟨c, d, dt, sl⟩ => k ⟨c, d, dt, sl⟩
theorem zae3 {α : Type} (o : Obj) (k : Obj → α) : frO o k = k o := by cases o; rfl
def frL {α : Type} : PySem.W.Frag → (PySem.W.Frag → α) → α
  | [], k => k []
  | (a, o) :: r, k => HandSHeadRun.frNat a fun a => frO o fun o => frL r fun r => k ((a, o) :: r)
theorem z1d {α : Type} : ∀ (K : PySem.W.Frag) (k : PySem.W.Frag → α), frL K k = k K
  | [], _ => rfl
  | (a, o) :: r, k => by
    show HandSHeadRun.frNat a (fun a => frO o fun o => frL r fun r => k ((a, o) :: r)) = _
    rw [HandSHeadRun.frNat_eq, zae3, z1d r]
structure DefB where
  at_ : Str × Option Str
  name : Str
  qual : Str
  params : Arguments
  body : List Stmt
  scope : Scope
  clo : List Str := []
abbrev FnV : Type := Option (Str × Str × Arguments × FuncBody × Scope × Addr × List Str × Value × Addr)
def fnO (K : PySem.W.Frag) (p : Str × Option Str) : FnV := match K.lookup (He.fAd K p) with
  | some ⟨_, _, .func fd, _⟩ => some (fd.name, fd.qualname, fd.params, fd.body, fd.scope, fd.globals, fd.closure.map (·.1), fd.defaults, fd.builtins)
  | _ => none
def DefB.val (d : DefB) : FnV := some (d.name, d.qual, d.params, .stmts d.body, d.scope, mainGlobals, d.clo, .none, builtinsNs)
/-- the code of a function -/
def cdV (K : PySem.W.Frag) (f : Addr) : Value := match K.lookup f with
  | some ⟨_, _, .func fd, _⟩ => fd.code
  | _ => .none
def cdA (K : PySem.W.Frag) (f : Addr) : Addr := match cdV K f with
  | .ref c => c
  | _ => 0
/-- the first cell of a function -/
def clA (K : PySem.W.Frag) (f : Addr) : Addr := match K.lookup f with
  | some ⟨_, _, .func fd, _⟩ => (match fd.closure with
    | (_, c) :: _ => c
    | _ => 0)
  | _ => 0
theorem zafr {K : PySem.W.Frag} {d : DefB} (hc : d.clo = []) (e : fnO K d.at_ = d.val) :
    ∃ oc od osl kV doc pm an ct, K.lookup (He.fAd K d.at_) = some ⟨oc, od, .func (PySem.W.fnOf d.name d.qual d.params d.body d.scope .none kV doc pm an (cdV K (He.fAd K d.at_)) ct), osl⟩ := by
  unfold fnO at e
  unfold cdV
  cases q : K.lookup (He.fAd K d.at_) with
  | none => rw [q] at e; cases e
  | some o =>
    obtain ⟨oc, od, dt, osl⟩ := o
    rw [q] at e
    cases dt with
    | func fd =>
      obtain ⟨n1, n2, n3, n4, n5, n6, n7, n8, n9, n10, n11, n12, n13, n14, n15⟩ := fd
      have e2 : (some (n1, n2, n3, n4, n5, n6, n7.map (·.1), n8, n15) : FnV) = some (d.name, d.qual, d.params, .stmts d.body, d.scope, mainGlobals, d.clo, .none, builtinsNs) := e
      simp only [Option.some.injEq, Prod.mk.injEq] at e2
      obtain ⟨h1, h2, h3, h4, h5, h6, h7, h8, h9⟩ := e2
      rw [hc] at h7
      have h7' : n7 = [] := by cases n7 with
        | nil => rfl
        | cons a b => cases h7
      subst h1 h2 h3 h4 h5 h6 h7' h8 h9
      exact ⟨oc, od, osl, n9, n10, n11, n12, n14, rfl⟩
    | _ => cases e
theorem z5u {K : PySem.W.Frag} {d : DefB} (hc : d.clo = ([("__class__" : Str)] : List Str)) (e : fnO K d.at_ = d.val) (hr : PySem.W.codeIn K (cdV K (He.fAd K d.at_)) d.qual = true) :
    ∃ oc od osl kV doc pm an ct, K.lookup (He.fAd K d.at_) = some ⟨oc, od, .func (PySem.W.ksFn d.name d.qual d.params d.body d.scope .none kV doc pm an (.ref (cdA K (He.fAd K d.at_))) ct (clA K (He.fAd K d.at_))), osl⟩ := by
  have hr' : cdV K (He.fAd K d.at_) = .ref (cdA K (He.fAd K d.at_)) := by
    unfold cdA
    cases q : cdV K (He.fAd K d.at_) with
    | ref c => rfl
    | _ => rw [q] at hr; cases hr
  rw [← hr']
  unfold fnO at e
  unfold cdV clA
  cases q : K.lookup (He.fAd K d.at_) with
  | none => rw [q] at e; cases e
  | some o =>
    obtain ⟨oc, od, dt, osl⟩ := o
    rw [q] at e
    cases dt with
    | func fd =>
      obtain ⟨n1, n2, n3, n4, n5, n6, n7, n8, n9, n10, n11, n12, n13, n14, n15⟩ := fd
      have e2 : (some (n1, n2, n3, n4, n5, n6, n7.map (·.1), n8, n15) : FnV) = some (d.name, d.qual, d.params, .stmts d.body, d.scope, mainGlobals, d.clo, .none, builtinsNs) := e
      simp only [Option.some.injEq, Prod.mk.injEq] at e2
      obtain ⟨h1, h2, h3, h4, h5, h6, h7, h8, h9⟩ := e2
      rw [hc] at h7
      match n7, h7 with
      | [(x, c)], h7 =>
        have hx : x = "__class__" := by simpa using h7
        subst h1 h2 h3 h4 h5 h6 hx h8 h9
        exact ⟨oc, od, osl, n9, n10, n11, n12, n14, rfl⟩
    | _ => cases e
def decB {α : Type} [DecidableEq α] (a b : α) : Bool := decide (a = b)
theorem zabz {α : Type} [DecidableEq α] {a b : α} (h : decB a b = true) : a = b := of_decide_eq_true h
/-- the code record at a: fields, the third is the file -/
def zx1 (K : PySem.W.Frag) (a : Addr) (file : Str) : Bool := match K.lookup a with
  | some ⟨_, _, .fields vs, _⟩ => (match (vs[2]? : Option Value) with
    | some (.str f _) => file == f
    | _ => false)
  | _ => false
theorem zu7 {K : PySem.W.Frag} {a : Addr} {file : Str} (h : zx1 K a file = true) :
    ∃ (ccl : Value) (cdd : Option Addr) (vs : Array Value) (ccs : Array (Option Value)) (f : Str) (tf : Tok), K.lookup a = some ⟨ccl, cdd, .fields vs, ccs⟩ ∧ vs[2]? = some (.str f tf) ∧ (file == f) = true := by
  unfold zx1 at h
  cases q : K.lookup a with
  | none => rw [q] at h; cases h
  | some o =>
    obtain ⟨oc, od, dt, osl⟩ := o
    rw [q] at h
    cases dt with
    | fields vs =>
      have h1 : (match (vs[2]? : Option Value) with
        | some (.str f _) => file == f
        | _ => false) = true := h
      cases e : vs[2]? with
      | none => rw [e] at h1; cases h1
      | some v =>
        rw [e] at h1
        cases v with
        | str f t => exact ⟨oc, od, vs, osl, f, t, rfl, e, h1⟩
        | _ => cases h1
    | _ => cases h
def zxj (K : PySem.W.Frag) (a c : Addr) : Bool := match K.lookup a with
  | some ⟨_, _, .cell (some (.ref b)), _⟩ => Nat.beq b c
  | _ => false
theorem zvc {K : PySem.W.Frag} {a c : Addr} (h : zxj K a c = true) : ∃ (cl : Value) (cld : Option Addr) (csl : Array (Option Value)), K.lookup a = some ⟨cl, cld, .cell (some (.ref c)), csl⟩ := by
  unfold zxj at h
  cases q : K.lookup a with
  | none => rw [q] at h; cases h
  | some o =>
    obtain ⟨oc, od, dt, osl⟩ := o
    rw [q] at h
    cases dt with
    | cell v =>
      cases v with
      | none => cases h
      | some v =>
        cases v with
        | ref b =>
          have e : b = c := Nat.eq_of_beq_eq_true h
          subst e
          exact ⟨oc, od, osl, rfl⟩
        | _ => cases h
    | _ => cases h
def intB (K : PySem.W.Frag) (x : Str) (i : Int) : Bool := match PySem.W.nsIn K mainGlobals x with
  | some (some (.int j _)) => decide (j = i)
  | _ => false
theorem zw9 {K : PySem.W.Frag} {x : Str} {i : Int} (h : intB K x i = true) : ∃ t, PySem.W.nsIn K mainGlobals x = some (some (.int i t)) := by
  unfold intB at h
  split at h
  · rename_i j t e
    have := of_decide_eq_true h
    subst this
    exact ⟨t, e⟩
  · cases h
abbrev Fs : Type := List (PySem.W.Frag → Bool)
abbrev Al : Type := Bool × List FnV
def obsB (fs : Fs) (fn : List DefB) (K : PySem.W.Frag) : Al := (fs.all fun f => f K, fn.map fun d => fnO K d.at_)
def valB (fn : List DefB) : Al := (true, fn.map DefB.val)
def zacp (fs : Fs) (fn : List DefB) (g : Addr → Option Obj) : Al := frL (He.frG g (asB g)) (obsB fs fn)
def zuk (fs : Fs) (fn : List DefB) (K : PySem.W.Frag) : Prop := obsB fs fn K = valB fn
def zxb (fs : Fs) (fn : List DefB) : PySem.W.Hook where
  α := Al
  obs := fun s => zacp fs fn s.heap.get?
  val := fun _ => valB fn
  says := fun _ h => ∃ K : PySem.W.Frag, K.In h ∧ zuk fs fn K
  of := fun _ _ e => ⟨_, He.frG_in, (z1d _ _).symm.trans e⟩
  keeps := fun _ _ _ ⟨K, hK, c⟩ k => ⟨K, PySem.W.Frag.In.keeps hK k, c⟩
theorem zaat {fs : Fs} {fn : List DefB} {g : Addr → Option Obj} {s : Shared} (h : ∀ a, g a = s.heap.get? a) : zacp fs fn g = (zxb fs fn).obs s := by
  have e : g = s.heap.get? := funext h
  rw [e] <;> rfl
theorem zuk.fact {fs : Fs} {fn : List DefB} {K : PySem.W.Frag} (c : zuk fs fn K) (i : Nat) {f : PySem.W.Frag → Bool} (h : fs[i]? = some f) : f K = true :=
  List.all_eq_true.mp (show (fs.all fun f => f K) = true from congrArg (fun z : Al => z.1) c) f (List.mem_of_getElem? h)
theorem zuk.fn {fs : Fs} {fn : List DefB} {K : PySem.W.Frag} (c : zuk fs fn K) (i : Nat) {d : DefB} (h : fn[i]? = some d) : fnO K d.at_ = d.val := by
  have e : fn.map (fun d => fnO K d.at_) = fn.map DefB.val := congrArg (fun z : Al => z.2) c
  have e2 : (fn.map fun d => fnO K d.at_)[i]? = (fn.map DefB.val)[i]? := by rw [e]
  rw [List.getElem?_map, List.getElem?_map, h] at e2
  exact Option.some.inj e2
theorem zuk.q {fs : Fs} {fn : List DefB} {K : PySem.W.Frag} {b : Bool} (c : zuk fs fn K) (i : Nat) (h : (fs[i]?.map fun f => f K) = some b := by kernel_rfl) : b = true := by
  cases e : fs[i]? with
  | none => rw [e] at h; cases h
  | some f =>
    rw [e] at h
    rw [← Option.some.inj h]
    exact c.fact i e
theorem zuk.d {α : Type} [DecidableEq α] {fs : Fs} {fn : List DefB} {K : PySem.W.Frag} {x y : α} (c : zuk fs fn K) (i : Nat) (h : (fs[i]?.map fun f => f K) = some (decB x y) := by kernel_rfl) : x = y := zabz (c.q i h)
theorem zuk.f {fs : Fs} {fn : List DefB} {K : PySem.W.Frag} (c : zuk fs fn K) (d : DefB) (i : Nat) (hc : d.clo = [] := by rfl) (h : fn[i]? = some d := by kernel_rfl) :
    ∃ oc od osl kV doc pm an ct, K.lookup (He.fAd K d.at_) = some ⟨oc, od, .func (PySem.W.fnOf d.name d.qual d.params d.body d.scope .none kV doc pm an (cdV K (He.fAd K d.at_)) ct), osl⟩ := zafr hc (c.fn i h)
/-- the run, looked at piece by piece -/
def obB (fs : Fs) (fn : List DefB) (s : PySem.W.SharedT) : Al := zacp fs fn (HandSHeadRun.getT s)
theorem z7a (fs : Fs) (fn : List DefB) (s : PySem.W.SharedT) : obB fs fn s = (zxb fs fn).obs s.abs := zaat (HandSHeadRun.getT_eq s)
theorem z3e {r : PySem.W.OpenRow} {q : Program} {M : Nat} {loose : List Str} {w : World} {f1 f2 : Fs} {n1 n2 : List DefB} (h1 : HandSHeadRun.RunEq r q (zxb f1 n1) (obB f1 n1) M loose w) (h2 : HandSHeadRun.RunEq r q (zxb f2 n2) (obB f2 n2) M loose w) : HandSHeadRun.RunEq r q (zxb (f1 ++ f2) (n1 ++ n2)) (obB (f1 ++ f2) (n1 ++ n2)) M loose w := by
  intro os
  have a := h1 os
  have b := h2 os
  revert a b
  generalize HandSHeadRun.endF _ _ _ _ _ = e
  intro a b
  cases e with
  | none => cases a
  | some s =>
    have a := Option.some.inj a
    have b := Option.some.inj b
    injection a with a1 a2
    injection a2 with a2 a3
    injection b with _ b2
    injection b2 with _ b3
    have e1 : obsB f1 n1 (He.frG (HandSHeadRun.getT s) (asB (HandSHeadRun.getT s))) = valB n1 := (z1d _ _).symm.trans a3
    have e2 : obsB f2 n2 (He.frG (HandSHeadRun.getT s) (asB (HandSHeadRun.getT s))) = valB n2 := (z1d _ _).symm.trans b3
    have e3 : obB (f1 ++ f2) (n1 ++ n2) s = valB (n1 ++ n2) := by
      show frL _ _ = _
      rw [z1d]
      unfold obsB valB at e1 e2 ⊢
      injection e1 with p1 p2
      injection e2 with q1 q2
      rw [List.all_append, p1, q1, List.map_append, List.map_append, p2, q2]
      rfl
    exact congrArg some (Prod.ext a1 (Prod.ext a2 e3))
end HB
namespace DL
open PySem PySem.Spec PyProof.Rows L2
end DL
namespace M
open PySem PySem.Spec PyProof.Rows L2 DL
def top (i : Nat) : Stmt := PySem.Challenge.pw_moonfall_k65_whole_surveys.main.body.getD i (.Pass ⟨0, 0, 0, 0⟩)
abbrev zet : Stmt := top 14
abbrev zey : Stmt := top 15
abbrev za0 : Stmt := inClass (top 17) 0
abbrev za3 : Stmt := inClass (top 18) 0
abbrev za6 : Stmt := inClass (top 19) 0
abbrev zat : Stmt := inClass (top 18) 3
abbrev zq : Stmt := inClass (top 18) 6
abbrev z6 : Stmt := inClass (top 30) 0
abbrev zci : Stmt := top 35
abbrev zdv : Stmt := top 36
abbrev zck : Stmt := top 40
abbrev zh7 : Stmt := top 16
abbrev zdx : Stmt := inClass (top 19) 5
abbrev zcv : Stmt := inClass (top 19) 6
abbrev zeu : Stmt := top 26
abbrev zah : Stmt := inClass (top 30) 4
abbrev zc2 : Stmt := inClass (top 30) 1
abbrev zjj : Stmt := top 22
abbrev zdt : Stmt := top 21
abbrev zec : Stmt := top 23
abbrev zu : Stmt := inClass (top 30) 3
abbrev zbn : Stmt := top 24
abbrev zbc : Stmt := inClass (top 18) 4
abbrev zaj : Stmt := inClass (top 19) 7
abbrev zp : Stmt := inClass (top 30) 5
abbrev zcj : Stmt := top 31
abbrev zao : Stmt := top 31
abbrev zcu : Stmt := top 32
abbrev zaz : Stmt := top 33
abbrev zcm : Stmt := top 38
abbrev zdu : Stmt := top 37
abbrev zb2 : Stmt := top 44
abbrev zdb : Stmt := top 45
abbrev zc5 : Stmt := top 42
abbrev zb1 : Stmt := top 43
abbrev zcl : Stmt := top 46
abbrev zcg : Stmt := top 39
abbrev zbi : Stmt := top 47
abbrev zpm : Stmt := top 48
def dB0 : HB.DefB := ⟨(("is_whole", none)), "is_whole", "is_whole", defArgs zet, defBody zet, defScope zet, []⟩
def dB1 : HB.DefB := ⟨(("is_point", none)), "is_point", "is_point", defArgs zey, defBody zey, defScope zey, []⟩
def dB2 : HB.DefB := ⟨(("Ground", some "__init__")), "__init__", "Ground.__init__", defArgs za0, defBody za0, defScope za0, []⟩
def dB3 : HB.DefB := ⟨(("Camera", some "__init__")), "__init__", "Camera.__init__", defArgs za3, defBody za3, defScope za3, []⟩
def dB4 : HB.DefB := ⟨(("Sky", some "__init__")), "__init__", "Sky.__init__", defArgs za6, defBody za6, defScope za6, []⟩
def dB5 : HB.DefB := ⟨(("Camera", some "is_within")), "is_within", "Camera.is_within", defArgs zat, defBody zat, defScope zat, []⟩
def dB6 : HB.DefB := ⟨(("Camera", some "check_picture")), "check_picture", "Camera.check_picture", defArgs zq, defBody zq, defScope zq, []⟩
def dB7 : HB.DefB := ⟨(("Survey", some "__init__")), "__init__", "Survey.__init__", defArgs z6, defBody z6, defScope z6, []⟩
def dB8 : HB.DefB := ⟨(("_law_number", none)), "_law_number", "_law_number", defArgs zci, defBody zci, defScope zci, []⟩
def dB9 : HB.DefB := ⟨(("_law_take", none)), "_law_take", "_law_take", defArgs zdv, defBody zdv, defScope zdv, []⟩
def dB10 : HB.DefB := ⟨(("_law_camera", none)), "_law_camera", "_law_camera", defArgs zck, defBody zck, defScope zck, []⟩
def dB11 : HB.DefB := ⟨(("turned", none)), "turned", "turned", defArgs zh7, defBody zh7, defScope zh7, []⟩
def dB12 : HB.DefB := ⟨(("Sky", some "place")), "place", "Sky.place", defArgs zdx, defBody zdx, defScope zdx, []⟩
def dB13 : HB.DefB := ⟨(("Sky", some "places")), "places", "Sky.places", defArgs zcv, defBody zcv, defScope zcv, []⟩
def dB14 : HB.DefB := ⟨(("are_near", none)), "are_near", "are_near", defArgs zeu, defBody zeu, defScope zeu, []⟩
def dB15 : HB.DefB := ⟨(("Survey", some "places_for")), "places_for", "Survey.places_for", defArgs zah, defBody zah, defScope zah, []⟩
def dB16 : HB.DefB := ⟨(("Survey", some "sky")), "sky", "Survey.sky", defArgs zc2, defBody zc2, defScope zc2, []⟩
def dB17 : HB.DefB := ⟨(("along", none)), "along", "along", defArgs zjj, defBody zjj, defScope zjj, []⟩
def dB18 : HB.DefB := ⟨(("augmented", none)), "augmented", "augmented", defArgs zdt, defBody zdt, defScope zdt, []⟩
def dB19 : HB.DefB := ⟨(("greatest", none)), "greatest", "greatest", defArgs zec, defBody zec, defScope zec, []⟩
def dB20 : HB.DefB := ⟨(("Survey", some "are_points_told")), "are_points_told", "Survey.are_points_told", defArgs zu, defBody zu, defScope zu, []⟩
def dB21 : HB.DefB := ⟨(("turned_round", none)), "turned_round", "turned_round", defArgs zbn, defBody zbn, defScope zbn, []⟩
def dB22 : HB.DefB := ⟨(("Camera", some "is_sure")), "is_sure", "Camera.is_sure", defArgs zbc, defBody zbc, defScope zbc, []⟩
def dB23 : HB.DefB := ⟨(("Sky", some "sure_craters")), "sure_craters", "Sky.sure_craters", defArgs zaj, defBody zaj, defScope zaj, []⟩
def dB24 : HB.DefB := ⟨(("Survey", some "are_craters_seen")), "are_craters_seen", "Survey.are_craters_seen", defArgs zp, defBody zp, defScope zp, []⟩
def dB25 : HB.DefB := ⟨(("grounds_for", none)), "grounds_for", "grounds_for", defArgs zcj, defBody zcj, defScope zcj, []⟩
def dB26 : HB.DefB := ⟨(("grounds_for", none)), "grounds_for", "grounds_for", defArgs zao, defBody zao, defScope zao, []⟩
def dB27 : HB.DefB := ⟨(("sure_sites", none)), "sure_sites", "sure_sites", defArgs zcu, defBody zcu, defScope zcu, []⟩
def dB28 : HB.DefB := ⟨(("possible_sites", none)), "possible_sites", "possible_sites", defArgs zaz, defBody zaz, defScope zaz, []⟩
def dB29 : HB.DefB := ⟨(("_law_unlike", none)), "_law_unlike", "_law_unlike", defArgs zcm, defBody zcm, defScope zcm, []⟩
def dB30 : HB.DefB := ⟨(("_law_pick", none)), "_law_pick", "_law_pick", defArgs zdu, defBody zdu, defScope zdu, []⟩
def dB31 : HB.DefB := ⟨(("_law_shares", none)), "_law_shares", "_law_shares", defArgs zb2, defBody zb2, defScope zb2, []⟩
def dB32 : HB.DefB := ⟨(("_law_fits", none)), "_law_fits", "_law_fits", defArgs zdb, defBody zdb, defScope zdb, []⟩
def dB33 : HB.DefB := ⟨(("_law_spots", none)), "_law_spots", "_law_spots", defArgs zc5, defBody zc5, defScope zc5, []⟩
def dB34 : HB.DefB := ⟨(("_law_picture", none)), "_law_picture", "_law_picture", defArgs zb1, defBody zb1, defScope zb1, []⟩
def dB35 : HB.DefB := ⟨(("_law_sky_at", none)), "_law_sky_at", "_law_sky_at", defArgs zcl, defBody zcl, defScope zcl, []⟩
def dB36 : HB.DefB := ⟨(("_law_ground", none)), "_law_ground", "_law_ground", defArgs zcg, defBody zcg, defScope zcg, []⟩
def dB37 : HB.DefB := ⟨(("_law_asked", none)), "_law_asked", "_law_asked", defArgs zbi, defBody zbi, defScope zbi, []⟩
def dB38 : HB.DefB := ⟨(("law", none)), "law", "law", defArgs zpm, defBody zpm, defScope zpm, []⟩
def dB39 : HB.DefB := ⟨("BadPicture", some "__init__"), "__init__", "BadPicture.__init__", defArgs (inClass (top 6) 0), defBody (inClass (top 6) 0), defScope (inClass (top 6) 0), ["__class__"]⟩
def dB40 : HB.DefB := ⟨("BadGround", some "__init__"), "__init__", "BadGround.__init__", defArgs (inClass (top 3) 0), defBody (inClass (top 3) 0), defScope (inClass (top 3) 0), ["__class__"]⟩
def dB41 : HB.DefB := ⟨("BadStanding", some "__init__"), "__init__", "BadStanding.__init__", defArgs (inClass (top 7) 0), defBody (inClass (top 7) 0), defScope (inClass (top 7) 0), ["__class__"]⟩
def dB42 : HB.DefB := ⟨("TooMany", some "__init__"), "__init__", "TooMany.__init__", defArgs (inClass (top 28) 0), defBody (inClass (top 28) 0), defScope (inClass (top 28) 0), ["__class__"]⟩
def fsB0 : HB.Fs := [
  fun K => PySem.W.codeIn K (HB.cdV K (He.fAd K ("BadPicture", some "__init__"))) "BadPicture.__init__",
  fun K => HB.zx1 K (HB.cdA K (He.fAd K ("BadPicture", some "__init__"))) (PySem.Challenge.rw_moonfall_k65_whole_surveys.prog.main.file : Str),
  fun K => HB.zxj K (HB.clA K (He.fAd K ("BadPicture", some "__init__"))) (He.ga K "BadPicture"),
  fun K => PySem.W.codeIn K (HB.cdV K (He.fAd K ("BadGround", some "__init__"))) "BadGround.__init__",
  fun K => HB.zx1 K (HB.cdA K (He.fAd K ("BadGround", some "__init__"))) (PySem.Challenge.rw_moonfall_k65_whole_surveys.prog.main.file : Str),
  fun K => HB.zxj K (HB.clA K (He.fAd K ("BadGround", some "__init__"))) (He.ga K "BadGround"),
  fun K => PySem.W.codeIn K (HB.cdV K (He.fAd K ("BadStanding", some "__init__"))) "BadStanding.__init__",
  fun K => HB.zx1 K (HB.cdA K (He.fAd K ("BadStanding", some "__init__"))) (PySem.Challenge.rw_moonfall_k65_whole_surveys.prog.main.file : Str),
  fun K => HB.zxj K (HB.clA K (He.fAd K ("BadStanding", some "__init__"))) (He.ga K "BadStanding"),
  fun K => PySem.W.codeIn K (HB.cdV K (He.fAd K ("TooMany", some "__init__"))) "TooMany.__init__",
  fun K => HB.zx1 K (HB.cdA K (He.fAd K ("TooMany", some "__init__"))) (PySem.Challenge.rw_moonfall_k65_whole_surveys.prog.main.file : Str),
  fun K => HB.zxj K (HB.clA K (He.fAd K ("TooMany", some "__init__"))) (He.ga K "TooMany"),
  fun K => HB.decB (PySem.W.nsIn K mainGlobals "BadGround") (some (some (.ref (He.ga K "BadGround")))),
  fun K => HB.decB (PySem.W.nsIn K mainGlobals "BadPicture") (some (some (.ref (He.ga K "BadPicture")))),
  fun K => HB.decB (PySem.W.nsIn K mainGlobals "BadStanding") (some (some (.ref (He.ga K "BadStanding")))),
  fun K => HB.decB (PySem.W.nsIn K mainGlobals "Ground") (some (some (.ref (He.ga K "Ground")))),
  fun K => HB.decB (PySem.W.nsIn K mainGlobals "Camera") (some (some (.ref (He.ga K "Camera")))),
  fun K => HB.decB (PySem.W.nsIn K mainGlobals "Sky") (some (some (.ref (He.ga K "Sky")))),
  fun K => HB.decB (PySem.W.nsIn K mainGlobals "TooMany") (some (some (.ref (He.ga K "TooMany")))),
  fun K => HB.decB (PySem.W.nsIn K mainGlobals "Survey") (some (some (.ref (He.ga K "Survey")))),
  fun K => HB.decB (PySem.W.nsIn K mainGlobals "is_whole") (some (some (.ref (He.fAd K ("is_whole", none))))),
  fun K => PySem.W.codeIn K (HB.cdV K (He.fAd K ("is_whole", none))) "is_whole",
  fun K => PySem.W.keepIn K (.ref (He.fAd K ("is_whole", none))),
  fun K => HB.decB (PySem.W.nsIn K mainGlobals "is_point") (some (some (.ref (He.fAd K ("is_point", none))))),
  fun K => PySem.W.codeIn K (HB.cdV K (He.fAd K ("is_point", none))) "is_point",
  fun K => PySem.W.keepIn K (.ref (He.fAd K ("is_point", none))),
  fun K => HB.decB (PySem.W.findIn K (.ref (He.ga K "Ground")) "__init__") (some (some (.ref (He.fAd K ("Ground", some "__init__"))))),
  fun K => PySem.W.isFn K (.ref (He.fAd K ("Ground", some "__init__"))),
  fun K => PySem.W.codeIn K (HB.cdV K (He.fAd K ("Ground", some "__init__"))) "Ground.__init__",
  fun K => PySem.W.keepIn K (.ref (He.fAd K ("Ground", some "__init__")))]
def fsB1 : HB.Fs := [
  fun K => HB.decB (PySem.W.findIn K (.ref (He.ga K "Camera")) "__init__") (some (some (.ref (He.fAd K ("Camera", some "__init__"))))),
  fun K => PySem.W.isFn K (.ref (He.fAd K ("Camera", some "__init__"))),
  fun K => PySem.W.codeIn K (HB.cdV K (He.fAd K ("Camera", some "__init__"))) "Camera.__init__",
  fun K => PySem.W.keepIn K (.ref (He.fAd K ("Camera", some "__init__"))),
  fun K => HB.decB (PySem.W.findIn K (.ref (He.ga K "Sky")) "__init__") (some (some (.ref (He.fAd K ("Sky", some "__init__"))))),
  fun K => PySem.W.isFn K (.ref (He.fAd K ("Sky", some "__init__"))),
  fun K => PySem.W.codeIn K (HB.cdV K (He.fAd K ("Sky", some "__init__"))) "Sky.__init__",
  fun K => PySem.W.keepIn K (.ref (He.fAd K ("Sky", some "__init__"))),
  fun K => HB.decB (PySem.W.findIn K (.ref (He.ga K "Camera")) "is_within") (some (some (.ref (He.fAd K ("Camera", some "is_within"))))),
  fun K => PySem.W.isFn K (.ref (He.fAd K ("Camera", some "is_within"))),
  fun K => PySem.W.codeIn K (HB.cdV K (He.fAd K ("Camera", some "is_within"))) "Camera.is_within",
  fun K => PySem.W.keepIn K (.ref (He.fAd K ("Camera", some "is_within"))),
  fun K => HB.decB (PySem.W.findIn K (.ref (He.ga K "Camera")) "check_picture") (some (some (.ref (He.fAd K ("Camera", some "check_picture"))))),
  fun K => PySem.W.isFn K (.ref (He.fAd K ("Camera", some "check_picture"))),
  fun K => PySem.W.codeIn K (HB.cdV K (He.fAd K ("Camera", some "check_picture"))) "Camera.check_picture",
  fun K => PySem.W.keepIn K (.ref (He.fAd K ("Camera", some "check_picture"))),
  fun K => HB.decB (PySem.W.findIn K (.ref (He.ga K "Survey")) "__init__") (some (some (.ref (He.fAd K ("Survey", some "__init__"))))),
  fun K => PySem.W.isFn K (.ref (He.fAd K ("Survey", some "__init__"))),
  fun K => PySem.W.codeIn K (HB.cdV K (He.fAd K ("Survey", some "__init__"))) "Survey.__init__",
  fun K => PySem.W.keepIn K (.ref (He.fAd K ("Survey", some "__init__"))),
  fun K => HB.decB (PySem.W.nsIn K mainGlobals "_law_number") (some (some (.ref (He.fAd K ("_law_number", none))))),
  fun K => PySem.W.codeIn K (HB.cdV K (He.fAd K ("_law_number", none))) "_law_number",
  fun K => PySem.W.keepIn K (.ref (He.fAd K ("_law_number", none))),
  fun K => HB.decB (PySem.W.nsIn K mainGlobals "_law_take") (some (some (.ref (He.fAd K ("_law_take", none))))),
  fun K => PySem.W.codeIn K (HB.cdV K (He.fAd K ("_law_take", none))) "_law_take",
  fun K => PySem.W.keepIn K (.ref (He.fAd K ("_law_take", none))),
  fun K => HB.decB (PySem.W.nsIn K mainGlobals "_law_camera") (some (some (.ref (He.fAd K ("_law_camera", none))))),
  fun K => PySem.W.codeIn K (HB.cdV K (He.fAd K ("_law_camera", none))) "_law_camera",
  fun K => PySem.W.keepIn K (.ref (He.fAd K ("_law_camera", none))),
  fun K => HB.decB (PySem.W.nsIn K mainGlobals "turned") (some (some (.ref (He.fAd K ("turned", none)))))]
def fsB2 : HB.Fs := [
  fun K => PySem.W.codeIn K (HB.cdV K (He.fAd K ("turned", none))) "turned",
  fun K => PySem.W.keepIn K (.ref (He.fAd K ("turned", none))),
  fun K => HB.decB (PySem.W.findIn K (.ref (He.ga K "Sky")) "place") (some (some (.ref (He.fAd K ("Sky", some "place"))))),
  fun K => PySem.W.isFn K (.ref (He.fAd K ("Sky", some "place"))),
  fun K => PySem.W.codeIn K (HB.cdV K (He.fAd K ("Sky", some "place"))) "Sky.place",
  fun K => PySem.W.keepIn K (.ref (He.fAd K ("Sky", some "place"))),
  fun K => HB.decB (PySem.W.findIn K (.ref (He.ga K "Sky")) "places") (some (some (.ref (He.fAd K ("Sky", some "places"))))),
  fun K => PySem.W.isFn K (.ref (He.fAd K ("Sky", some "places"))),
  fun K => PySem.W.codeIn K (HB.cdV K (He.fAd K ("Sky", some "places"))) "Sky.places",
  fun K => PySem.W.keepIn K (.ref (He.fAd K ("Sky", some "places"))),
  fun K => HB.decB (PySem.W.nsIn K mainGlobals "are_near") (some (some (.ref (He.fAd K ("are_near", none))))),
  fun K => PySem.W.codeIn K (HB.cdV K (He.fAd K ("are_near", none))) "are_near",
  fun K => PySem.W.keepIn K (.ref (He.fAd K ("are_near", none))),
  fun K => HB.decB (PySem.W.findIn K (.ref (He.ga K "Survey")) "places_for") (some (some (.ref (He.fAd K ("Survey", some "places_for"))))),
  fun K => PySem.W.isFn K (.ref (He.fAd K ("Survey", some "places_for"))),
  fun K => PySem.W.codeIn K (HB.cdV K (He.fAd K ("Survey", some "places_for"))) "Survey.places_for",
  fun K => PySem.W.keepIn K (.ref (He.fAd K ("Survey", some "places_for"))),
  fun K => HB.decB (PySem.W.findIn K (.ref (He.ga K "Survey")) "sky") (some (some (.ref (He.fAd K ("Survey", some "sky"))))),
  fun K => PySem.W.isFn K (.ref (He.fAd K ("Survey", some "sky"))),
  fun K => PySem.W.codeIn K (HB.cdV K (He.fAd K ("Survey", some "sky"))) "Survey.sky",
  fun K => PySem.W.keepIn K (.ref (He.fAd K ("Survey", some "sky"))),
  fun K => HB.decB (PySem.W.nsIn K mainGlobals "along") (some (some (.ref (He.fAd K ("along", none))))),
  fun K => PySem.W.codeIn K (HB.cdV K (He.fAd K ("along", none))) "along",
  fun K => PySem.W.keepIn K (.ref (He.fAd K ("along", none))),
  fun K => HB.decB (PySem.W.nsIn K mainGlobals "augmented") (some (some (.ref (He.fAd K ("augmented", none))))),
  fun K => PySem.W.codeIn K (HB.cdV K (He.fAd K ("augmented", none))) "augmented",
  fun K => PySem.W.keepIn K (.ref (He.fAd K ("augmented", none))),
  fun K => HB.decB (PySem.W.nsIn K mainGlobals "greatest") (some (some (.ref (He.fAd K ("greatest", none))))),
  fun K => PySem.W.codeIn K (HB.cdV K (He.fAd K ("greatest", none))) "greatest",
  fun K => PySem.W.keepIn K (.ref (He.fAd K ("greatest", none)))]
def fsB3 : HB.Fs := [
  fun K => HB.decB (PySem.W.findIn K (.ref (He.ga K "Survey")) "are_points_told") (some (some (.ref (He.fAd K ("Survey", some "are_points_told"))))),
  fun K => PySem.W.isFn K (.ref (He.fAd K ("Survey", some "are_points_told"))),
  fun K => PySem.W.codeIn K (HB.cdV K (He.fAd K ("Survey", some "are_points_told"))) "Survey.are_points_told",
  fun K => PySem.W.keepIn K (.ref (He.fAd K ("Survey", some "are_points_told"))),
  fun K => HB.decB (PySem.W.nsIn K mainGlobals "turned_round") (some (some (.ref (He.fAd K ("turned_round", none))))),
  fun K => PySem.W.codeIn K (HB.cdV K (He.fAd K ("turned_round", none))) "turned_round",
  fun K => PySem.W.keepIn K (.ref (He.fAd K ("turned_round", none))),
  fun K => HB.decB (PySem.W.findIn K (.ref (He.ga K "Camera")) "is_sure") (some (some (.ref (He.fAd K ("Camera", some "is_sure"))))),
  fun K => PySem.W.isFn K (.ref (He.fAd K ("Camera", some "is_sure"))),
  fun K => PySem.W.codeIn K (HB.cdV K (He.fAd K ("Camera", some "is_sure"))) "Camera.is_sure",
  fun K => PySem.W.keepIn K (.ref (He.fAd K ("Camera", some "is_sure"))),
  fun K => HB.decB (PySem.W.findIn K (.ref (He.ga K "Sky")) "sure_craters") (some (some (.ref (He.fAd K ("Sky", some "sure_craters"))))),
  fun K => PySem.W.isFn K (.ref (He.fAd K ("Sky", some "sure_craters"))),
  fun K => PySem.W.codeIn K (HB.cdV K (He.fAd K ("Sky", some "sure_craters"))) "Sky.sure_craters",
  fun K => PySem.W.keepIn K (.ref (He.fAd K ("Sky", some "sure_craters"))),
  fun K => HB.decB (PySem.W.findIn K (.ref (He.ga K "Survey")) "are_craters_seen") (some (some (.ref (He.fAd K ("Survey", some "are_craters_seen"))))),
  fun K => PySem.W.isFn K (.ref (He.fAd K ("Survey", some "are_craters_seen"))),
  fun K => PySem.W.codeIn K (HB.cdV K (He.fAd K ("Survey", some "are_craters_seen"))) "Survey.are_craters_seen",
  fun K => PySem.W.keepIn K (.ref (He.fAd K ("Survey", some "are_craters_seen"))),
  fun K => HB.decB (PySem.W.nsIn K mainGlobals "grounds_for") (some (some (.ref (He.fAd K ("grounds_for", none))))),
  fun K => PySem.W.codeIn K (HB.cdV K (He.fAd K ("grounds_for", none))) "grounds_for",
  fun K => PySem.W.keepIn K (.ref (He.fAd K ("grounds_for", none))),
  fun K => HB.decB (PySem.W.nsIn K mainGlobals "sure_sites") (some (some (.ref (He.fAd K ("sure_sites", none))))),
  fun K => PySem.W.codeIn K (HB.cdV K (He.fAd K ("sure_sites", none))) "sure_sites",
  fun K => PySem.W.keepIn K (.ref (He.fAd K ("sure_sites", none))),
  fun K => HB.decB (PySem.W.nsIn K mainGlobals "possible_sites") (some (some (.ref (He.fAd K ("possible_sites", none))))),
  fun K => PySem.W.codeIn K (HB.cdV K (He.fAd K ("possible_sites", none))) "possible_sites",
  fun K => PySem.W.keepIn K (.ref (He.fAd K ("possible_sites", none))),
  fun K => HB.decB (PySem.W.nsIn K mainGlobals "_law_unlike") (some (some (.ref (He.fAd K ("_law_unlike", none))))),
  fun K => PySem.W.codeIn K (HB.cdV K (He.fAd K ("_law_unlike", none))) "_law_unlike"]
def fsB4 : HB.Fs := [
  fun K => PySem.W.keepIn K (.ref (He.fAd K ("_law_unlike", none))),
  fun K => HB.decB (PySem.W.nsIn K mainGlobals "_law_pick") (some (some (.ref (He.fAd K ("_law_pick", none))))),
  fun K => PySem.W.codeIn K (HB.cdV K (He.fAd K ("_law_pick", none))) "_law_pick",
  fun K => PySem.W.keepIn K (.ref (He.fAd K ("_law_pick", none))),
  fun K => HB.decB (PySem.W.nsIn K mainGlobals "_law_shares") (some (some (.ref (He.fAd K ("_law_shares", none))))),
  fun K => PySem.W.codeIn K (HB.cdV K (He.fAd K ("_law_shares", none))) "_law_shares",
  fun K => PySem.W.keepIn K (.ref (He.fAd K ("_law_shares", none))),
  fun K => HB.decB (PySem.W.nsIn K mainGlobals "_law_fits") (some (some (.ref (He.fAd K ("_law_fits", none))))),
  fun K => PySem.W.codeIn K (HB.cdV K (He.fAd K ("_law_fits", none))) "_law_fits",
  fun K => PySem.W.keepIn K (.ref (He.fAd K ("_law_fits", none))),
  fun K => HB.decB (PySem.W.nsIn K mainGlobals "_law_spots") (some (some (.ref (He.fAd K ("_law_spots", none))))),
  fun K => PySem.W.codeIn K (HB.cdV K (He.fAd K ("_law_spots", none))) "_law_spots",
  fun K => PySem.W.keepIn K (.ref (He.fAd K ("_law_spots", none))),
  fun K => HB.decB (PySem.W.nsIn K mainGlobals "_law_picture") (some (some (.ref (He.fAd K ("_law_picture", none))))),
  fun K => PySem.W.codeIn K (HB.cdV K (He.fAd K ("_law_picture", none))) "_law_picture",
  fun K => PySem.W.keepIn K (.ref (He.fAd K ("_law_picture", none))),
  fun K => HB.decB (PySem.W.nsIn K mainGlobals "_law_sky_at") (some (some (.ref (He.fAd K ("_law_sky_at", none))))),
  fun K => PySem.W.codeIn K (HB.cdV K (He.fAd K ("_law_sky_at", none))) "_law_sky_at",
  fun K => PySem.W.keepIn K (.ref (He.fAd K ("_law_sky_at", none))),
  fun K => HB.decB (PySem.W.nsIn K mainGlobals "_law_ground") (some (some (.ref (He.fAd K ("_law_ground", none))))),
  fun K => PySem.W.codeIn K (HB.cdV K (He.fAd K ("_law_ground", none))) "_law_ground",
  fun K => PySem.W.keepIn K (.ref (He.fAd K ("_law_ground", none))),
  fun K => HB.decB (PySem.W.nsIn K mainGlobals "_law_asked") (some (some (.ref (He.fAd K ("_law_asked", none))))),
  fun K => PySem.W.codeIn K (HB.cdV K (He.fAd K ("_law_asked", none))) "_law_asked",
  fun K => PySem.W.keepIn K (.ref (He.fAd K ("_law_asked", none))),
  fun K => HB.decB (PySem.W.nsIn K mainGlobals "law") (some (some (.ref (He.fAd K ("law", none))))),
  fun K => PySem.W.codeIn K (HB.cdV K (He.fAd K ("law", none))) "law",
  fun K => PySem.W.keepIn K (.ref (He.fAd K ("law", none))),
  fun K => PySem.W.plainGet K (He.ga K "Ground") Str.empty,
  fun K => PySem.W.hasDictIn K (He.ga K "Ground")]
def fsB5 : HB.Fs := [
  fun K => PySem.W.plainOver K (He.ga K "Ground"),
  fun K => HB.decB (PySem.W.findIn K (.ref (He.ga K "Ground")) "__setattr__") (some (some (.builtin "object.__setattr__"))),
  fun K => HB.decB (PySem.W.findIn K (.ref (He.ga K "Ground")) "__class__") (some (some (.builtin "object.__class__"))),
  fun K => HB.decB (PySem.W.mroIn K (He.ga K "Ground") (.type "object")) (some true),
  fun K => PySem.W.makesIn K (He.ga K "Ground"),
  fun K => PySem.W.keepIn K (.ref (He.ga K "Ground")),
  fun K => PySem.W.plainGet K (He.ga K "Camera") Str.empty,
  fun K => PySem.W.hasDictIn K (He.ga K "Camera"),
  fun K => PySem.W.plainOver K (He.ga K "Camera"),
  fun K => HB.decB (PySem.W.findIn K (.ref (He.ga K "Camera")) "__setattr__") (some (some (.builtin "object.__setattr__"))),
  fun K => PySem.W.makesIn K (He.ga K "Camera"),
  fun K => PySem.W.keepIn K (.ref (He.ga K "Camera")),
  fun K => PySem.W.plainGet K (He.ga K "Sky") Str.empty,
  fun K => PySem.W.hasDictIn K (He.ga K "Sky"),
  fun K => PySem.W.plainOver K (He.ga K "Sky"),
  fun K => HB.decB (PySem.W.findIn K (.ref (He.ga K "Sky")) "__setattr__") (some (some (.builtin "object.__setattr__"))),
  fun K => PySem.W.makesIn K (He.ga K "Sky"),
  fun K => PySem.W.keepIn K (.ref (He.ga K "Sky")),
  fun K => PySem.W.plainGet K (He.ga K "Survey") Str.empty,
  fun K => PySem.W.hasDictIn K (He.ga K "Survey"),
  fun K => PySem.W.plainOver K (He.ga K "Survey"),
  fun K => HB.decB (PySem.W.findIn K (.ref (He.ga K "Survey")) "__setattr__") (some (some (.builtin "object.__setattr__"))),
  fun K => PySem.W.makesIn K (He.ga K "Survey"),
  fun K => PySem.W.keepIn K (.ref (He.ga K "Survey")),
  fun K => HB.decB (PySem.W.specialIn K (.builtin "object.__class__") "__get__") (some (some (.builtin "getset_descriptor.__get__"))),
  fun K => HB.decB (PySem.W.takesIn K (.builtin "object.__class__")) (some true),
  fun K => HB.decB (PySem.W.findIn K (.ref (He.ga K "Ground")) "craters") (some none),
  fun K => HB.decB (PySem.W.findIn K (.ref (He.ga K "Camera")) "width") (some none),
  fun K => HB.decB (PySem.W.findIn K (.ref (He.ga K "Camera")) "height") (some none),
  fun K => HB.decB (PySem.W.findIn K (.ref (He.ga K "Camera")) "error") (some none)]
def fsB6 : HB.Fs := [
  fun K => HB.decB (PySem.W.findIn K (.ref (He.ga K "Camera")) "false") (some none),
  fun K => HB.decB (PySem.W.findIn K (.ref (He.ga K "Camera")) "lost") (some none),
  fun K => HB.decB (PySem.W.findIn K (.ref (He.ga K "Sky")) "ground") (some none),
  fun K => HB.decB (PySem.W.findIn K (.ref (He.ga K "Sky")) "camera") (some none),
  fun K => HB.decB (PySem.W.findIn K (.ref (He.ga K "Sky")) "turns") (some none),
  fun K => HB.decB (PySem.W.findIn K (.ref (He.ga K "Sky")) "area") (some none),
  fun K => HB.decB (PySem.W.findIn K (.ref (He.ga K "Survey")) "sites") (some none),
  fun K => HB.decB (PySem.W.findIn K (.ref (He.ga K "Survey")) "camera") (some none),
  fun K => HB.decB (PySem.W.findIn K (.ref (He.ga K "Survey")) "looks") (some none),
  fun K => PySem.W.hasDictIn K (He.ga K "BadPicture"),
  fun K => HB.decB (PySem.W.subIn K (.ref (He.ga K "BadPicture")) (.type "BaseException")) (some true),
  fun K => HB.decB (PySem.W.typeIn K (.ref (He.ga K "BadPicture"))) (some (.type "type")),
  fun K => PySem.W.hasDictIn K (He.ga K "BadGround"),
  fun K => HB.decB (PySem.W.subIn K (.ref (He.ga K "BadGround")) (.type "BaseException")) (some true),
  fun K => HB.decB (PySem.W.typeIn K (.ref (He.ga K "BadGround"))) (some (.type "type")),
  fun K => PySem.W.hasDictIn K (He.ga K "BadStanding"),
  fun K => HB.decB (PySem.W.subIn K (.ref (He.ga K "BadStanding")) (.type "BaseException")) (some true),
  fun K => HB.decB (PySem.W.typeIn K (.ref (He.ga K "BadStanding"))) (some (.type "type")),
  fun K => PySem.W.hasDictIn K (He.ga K "TooMany"),
  fun K => HB.decB (PySem.W.subIn K (.ref (He.ga K "TooMany")) (.type "BaseException")) (some true),
  fun K => HB.decB (PySem.W.typeIn K (.ref (He.ga K "TooMany"))) (some (.type "type")),
  fun K => HB.decB (PySem.W.findIn K (.ref (He.ga K "BadGround")) "__getattribute__") (some (some (.builtin "BaseException.__getattribute__"))),
  fun K => HB.decB (PySem.W.findIn K (.ref (He.ga K "BadGround")) "__getattr__") (some none),
  fun K => HB.decB (PySem.W.findIn K (.ref (He.ga K "BadStanding")) "__getattribute__") (some (some (.builtin "BaseException.__getattribute__"))),
  fun K => HB.decB (PySem.W.findIn K (.ref (He.ga K "BadStanding")) "__getattr__") (some none),
  fun K => HB.decB (PySem.W.findIn K (.ref (He.ga K "BadPicture")) "__getattribute__") (some (some (.builtin "BaseException.__getattribute__"))),
  fun K => HB.decB (PySem.W.findIn K (.ref (He.ga K "BadPicture")) "__getattr__") (some none),
  fun K => HB.decB (PySem.W.findIn K (.ref (He.ga K "TooMany")) "__getattribute__") (some (some (.builtin "BaseException.__getattribute__"))),
  fun K => HB.decB (PySem.W.findIn K (.ref (He.ga K "TooMany")) "__getattr__") (some none),
  fun K => HB.decB (PySem.W.subIn K (.ref (He.ga K "BadGround")) (.ref (He.ga K "BadGround"))) (some true)]
def fsB7 : HB.Fs := [
  fun K => HB.decB (PySem.W.findIn K (.ref (He.ga K "BadGround")) "number") (some none),
  fun K => HB.decB (PySem.W.subIn K (.ref (He.ga K "BadStanding")) (.ref (He.ga K "BadStanding"))) (some true),
  fun K => HB.decB (PySem.W.findIn K (.ref (He.ga K "BadStanding")) "standing") (some none),
  fun K => HB.decB (PySem.W.subIn K (.ref (He.ga K "BadPicture")) (.ref (He.ga K "BadPicture"))) (some true),
  fun K => HB.decB (PySem.W.findIn K (.ref (He.ga K "BadPicture")) "number") (some none),
  fun K => HB.decB (PySem.W.subIn K (.ref (He.ga K "TooMany")) (.ref (He.ga K "TooMany"))) (some true),
  fun K => HB.decB (PySem.W.findIn K (.ref (He.ga K "TooMany")) "most") (some none),
  fun K => PySem.W.excInitIn K (He.ga K "BadPicture") PySem.ESX.exTail "Exception.__new__",
  fun K => PySem.W.excOver K (He.ga K "BadPicture") PySem.ESX.exTail,
  fun K => HB.decB (PySem.W.takerIn K (He.ga K "BadPicture") "number") (some none),
  fun K => HB.decB (PySem.W.findIn K (.ref (He.ga K "BadPicture")) "__setattr__") (some (some (.builtin "object.__setattr__"))),
  fun K => HB.decB (PySem.W.findIn K (.ref (He.ga K "BadPicture")) "__init__") (some (some (.ref (He.fAd K ("BadPicture", some "__init__"))))),
  fun K => PySem.W.isFn K (.ref (He.fAd K ("BadPicture", some "__init__"))),
  fun K => PySem.W.keepIn K (.ref (He.ga K "BadPicture")),
  fun K => HB.decB (PySem.W.subIn K (.ref (He.ga K "BadPicture")) (.type "Exception")) (some true),
  fun K => HB.decB (PySem.W.mroIn K (He.ga K "BadPicture") (.ref (He.ga K "BadPicture"))) (some true),
  fun K => HB.decB (PySem.W.ks_superIn K (He.ga K "BadPicture") (He.ga K "BadPicture") "__init__") (some (some (.builtin "Exception.__init__"))),
  fun K => PySem.W.codeIn K (.ref (HB.cdA K (He.fAd K ("BadPicture", some "__init__")))) "BadPicture.__init__",
  fun K => PySem.W.excInitIn K (He.ga K "BadGround") PySem.ESX.exTail "Exception.__new__",
  fun K => PySem.W.excOver K (He.ga K "BadGround") PySem.ESX.exTail,
  fun K => HB.decB (PySem.W.takerIn K (He.ga K "BadGround") "number") (some none),
  fun K => HB.decB (PySem.W.findIn K (.ref (He.ga K "BadGround")) "__setattr__") (some (some (.builtin "object.__setattr__"))),
  fun K => HB.decB (PySem.W.findIn K (.ref (He.ga K "BadGround")) "__init__") (some (some (.ref (He.fAd K ("BadGround", some "__init__"))))),
  fun K => PySem.W.isFn K (.ref (He.fAd K ("BadGround", some "__init__"))),
  fun K => PySem.W.keepIn K (.ref (He.ga K "BadGround")),
  fun K => HB.decB (PySem.W.subIn K (.ref (He.ga K "BadGround")) (.type "Exception")) (some true),
  fun K => HB.decB (PySem.W.mroIn K (He.ga K "BadGround") (.ref (He.ga K "BadGround"))) (some true),
  fun K => HB.decB (PySem.W.ks_superIn K (He.ga K "BadGround") (He.ga K "BadGround") "__init__") (some (some (.builtin "Exception.__init__"))),
  fun K => PySem.W.codeIn K (.ref (HB.cdA K (He.fAd K ("BadGround", some "__init__")))) "BadGround.__init__",
  fun K => PySem.W.excInitIn K (He.ga K "BadStanding") PySem.ESX.exTail "Exception.__new__"]
def fsB8 : HB.Fs := [
  fun K => PySem.W.excOver K (He.ga K "BadStanding") PySem.ESX.exTail,
  fun K => HB.decB (PySem.W.takerIn K (He.ga K "BadStanding") "standing") (some none),
  fun K => HB.decB (PySem.W.findIn K (.ref (He.ga K "BadStanding")) "__setattr__") (some (some (.builtin "object.__setattr__"))),
  fun K => HB.decB (PySem.W.findIn K (.ref (He.ga K "BadStanding")) "__init__") (some (some (.ref (He.fAd K ("BadStanding", some "__init__"))))),
  fun K => PySem.W.isFn K (.ref (He.fAd K ("BadStanding", some "__init__"))),
  fun K => PySem.W.keepIn K (.ref (He.ga K "BadStanding")),
  fun K => HB.decB (PySem.W.subIn K (.ref (He.ga K "BadStanding")) (.type "Exception")) (some true),
  fun K => HB.decB (PySem.W.mroIn K (He.ga K "BadStanding") (.ref (He.ga K "BadStanding"))) (some true),
  fun K => HB.decB (PySem.W.ks_superIn K (He.ga K "BadStanding") (He.ga K "BadStanding") "__init__") (some (some (.builtin "Exception.__init__"))),
  fun K => PySem.W.codeIn K (.ref (HB.cdA K (He.fAd K ("BadStanding", some "__init__")))) "BadStanding.__init__",
  fun K => PySem.W.excInitIn K (He.ga K "TooMany") PySem.ESX.exTail "Exception.__new__",
  fun K => PySem.W.excOver K (He.ga K "TooMany") PySem.ESX.exTail,
  fun K => HB.decB (PySem.W.takerIn K (He.ga K "TooMany") "most") (some none),
  fun K => HB.decB (PySem.W.findIn K (.ref (He.ga K "TooMany")) "__setattr__") (some (some (.builtin "object.__setattr__"))),
  fun K => HB.decB (PySem.W.findIn K (.ref (He.ga K "TooMany")) "__init__") (some (some (.ref (He.fAd K ("TooMany", some "__init__"))))),
  fun K => PySem.W.isFn K (.ref (He.fAd K ("TooMany", some "__init__"))),
  fun K => PySem.W.keepIn K (.ref (He.ga K "TooMany")),
  fun K => HB.decB (PySem.W.subIn K (.ref (He.ga K "TooMany")) (.type "Exception")) (some true),
  fun K => HB.decB (PySem.W.mroIn K (He.ga K "TooMany") (.ref (He.ga K "TooMany"))) (some true),
  fun K => HB.decB (PySem.W.ks_superIn K (He.ga K "TooMany") (He.ga K "TooMany") "__init__") (some (some (.builtin "Exception.__init__"))),
  fun K => PySem.W.codeIn K (.ref (HB.cdA K (He.fAd K ("TooMany", some "__init__")))) "TooMany.__init__",
  fun K => HB.decB (PySem.W.nsIn K cStatics "thirdparty.any") (some none),
  fun K => HB.decB (PySem.W.nsIn K mainGlobals "super") (some none),
  fun K => HB.decB (PySem.W.nsIn K mainGlobals "bool") (some none),
  fun K => HB.decB (PySem.W.nsIn K mainGlobals "isinstance") (some none),
  fun K => HB.decB (PySem.W.nsIn K mainGlobals "int") (some none),
  fun K => HB.decB (PySem.W.nsIn K mainGlobals "len") (some none),
  fun K => HB.decB (PySem.W.nsIn K mainGlobals "tuple") (some none),
  fun K => HB.decB (PySem.W.nsIn K mainGlobals "enumerate") (some none),
  fun K => HB.decB (PySem.W.nsIn K mainGlobals "sorted") (some none)]
def fsB9 : HB.Fs := [
  fun K => HB.decB (PySem.W.nsIn K mainGlobals "all") (some none),
  fun K => HB.decB (PySem.W.nsIn K mainGlobals "zip") (some none),
  fun K => HB.decB (PySem.W.nsIn K mainGlobals "range") (some none),
  fun K => HB.decB (PySem.W.nsIn K mainGlobals "abs") (some none),
  fun K => HB.decB (PySem.W.nsIn K mainGlobals "dict") (some none),
  fun K => HB.decB (PySem.W.nsIn K mainGlobals "any") (some none),
  fun K => HB.decB (PySem.W.nsIn K mainGlobals "list") (some none),
  fun K => HB.intB K "MOST_SIZE" 99,
  fun K => HB.intB K "MOST_PLACE" 1000000,
  fun K => HB.intB K "MOST_COUNT" 100,
  fun K => HB.intB K "MOST_SIDE" 1000,
  fun K => HB.intB K "MOST_STANDINGS" 40000]
def fpB0 : HB.Fs := fsB0 ++ (fsB1)
def fpB1 : HB.Fs := fsB2 ++ (fsB3 ++ (fsB4))
def fpB2 : HB.Fs := fsB5 ++ (fsB6)
def fpB3 : HB.Fs := fsB7 ++ (fsB8 ++ (fsB9))
def fnB0 : List HB.DefB := [dB0, dB1, dB2, dB3, dB4, dB5, dB6, dB7, dB8, dB9]
def fnB1 : List HB.DefB := [dB10, dB11, dB12, dB13, dB14, dB15, dB16, dB17, dB18, dB19, dB20]
def fnB2 : List HB.DefB := [dB21, dB22, dB23, dB24, dB25, dB26, dB27, dB28, dB29, dB30, dB31]
def fnB3 : List HB.DefB := [dB32, dB33, dB34, dB35, dB36, dB37, dB38, dB39, dB40, dB41, dB42]
def fsB : HB.Fs := fpB0 ++ (fpB1 ++ (fpB2 ++ (fpB3)))
def fnB : List HB.DefB := fnB0 ++ (fnB1 ++ (fnB2 ++ (fnB3)))
def zyw : List Str := (["_wall", "__name__", "MoonError", "BadGround", "BadCamera", "BadSky", "BadPicture", "BadStanding", "MOST_PLACE", "MOST_SIZE", "MOST_SIDE", "MOST_COUNT", "MOST_STANDINGS", "is_whole", "is_point", "turned", "Ground", "Camera", "Sky", "augmented", "along", "greatest", "turned_round", "are_near", "TooMany"] : List Str) ++ ((["Survey", "grounds_for", "sure_sites", "possible_sites", "_law_number", "_law_take", "_law_pick", "_law_unlike", "_law_ground", "_law_camera", "_law_sky", "_law_spots", "_law_picture", "_law_shares", "_law_fits", "_law_sky_at", "_law_asked"] : List Str))
abbrev hkB : PySem.W.Hook := HB.zxb fsB fnB
abbrev obB : PySem.W.SharedT → HB.Al := HB.obB fsB fnB
theorem z7a (s : PySem.W.SharedT) : obB s = hkB.obs s.abs := HB.z7a fsB fnB s
theorem zaf2 (w : World) : HandSHeadRun.RunEq (PySem.W.OpenLaw.row PySem.Challenge.rw_moonfall_k65_whole_surveys) (PySem.W.view (PySem.W.OpenLaw.row PySem.Challenge.rw_moonfall_k65_whole_surveys).prog [48]) (HB.zxb fpB0 fnB0) (HB.obB fpB0 fnB0) 20000 zyw w := by
  intro os
  kernel_rfl
theorem zafp (w : World) : HandSHeadRun.RunEq (PySem.W.OpenLaw.row PySem.Challenge.rw_moonfall_k65_whole_surveys) (PySem.W.view (PySem.W.OpenLaw.row PySem.Challenge.rw_moonfall_k65_whole_surveys).prog [48]) (HB.zxb fpB1 fnB1) (HB.obB fpB1 fnB1) 20000 zyw w := by
  intro os
  kernel_rfl
theorem zaft (w : World) : HandSHeadRun.RunEq (PySem.W.OpenLaw.row PySem.Challenge.rw_moonfall_k65_whole_surveys) (PySem.W.view (PySem.W.OpenLaw.row PySem.Challenge.rw_moonfall_k65_whole_surveys).prog [48]) (HB.zxb fpB2 fnB2) (HB.obB fpB2 fnB2) 20000 zyw w := by
  intro os
  kernel_rfl
theorem zafl (w : World) : HandSHeadRun.RunEq (PySem.W.OpenLaw.row PySem.Challenge.rw_moonfall_k65_whole_surveys) (PySem.W.view (PySem.W.OpenLaw.row PySem.Challenge.rw_moonfall_k65_whole_surveys).prog [48]) (HB.zxb fpB3 fnB3) (HB.obB fpB3 fnB3) 20000 zyw w := by
  intro os
  kernel_rfl
theorem runB (w : World) : HandSHeadRun.RunEq (PySem.W.OpenLaw.row PySem.Challenge.rw_moonfall_k65_whole_surveys) (PySem.W.view (PySem.W.OpenLaw.row PySem.Challenge.rw_moonfall_k65_whole_surveys).prog [48]) hkB obB 20000 zyw w :=
  HB.z3e (zaf2 w) (HB.z3e (zafp w) (HB.z3e (zaft w) (zafl w)))
end M
namespace DL
open PySem PySem.Spec PyProof.Rows L2
inductive Kd where
  | tup | lst | scr | ins (C : Addr) (fs : List Str) | dK (ks : List Key) | dN (ks : List NestedKey)
/-- a value as a tree; ref: an object that is tracked by its address (or one of the text) -/
inductive D where
  | non | bl (b : Bool) | int (i : Int) | str (x : Str) | ty (n : String) | ref (a : Addr)
  | nd (k : Kd) (ds : List D)
abbrev D.tup (ds : List D) : D := .nd .tup ds
abbrev D.lst (ds : List D) : D := .nd .lst ds
/-- what may change: it is held by its address -/
inductive DO where
  | lst (ds : List D) | dK (kvs : List (Key × D)) | dN (kvs : List (NestedKey × D)) | ins (C : Addr) (fs : List (Str × D)) | rw (es : Array DictEntry) (ep : Nat) (kvs : List (NestedKey × D))
abbrev DHp := Addr → Option DO
def up (G : DHp) (a : Addr) (o : DO) : DHp := fun b => if b = a then some o else G b
def dl (G : DHp) (a : Addr) : DHp := fun b => if b = a then none else G b
theorem zi {G : DHp} {a : Addr} {o : DO} : up G a o a = some o := by unfold up; rw [if_pos rfl]
theorem zj2 {G : DHp} {a b : Addr} {o : DO} (h : b ≠ a) : up G a o b = G b := by unfold up; rw [if_neg h]
theorem zrc {G : DHp} {a : Addr} : dl G a a = none := by unfold dl; rw [if_pos rfl]
theorem zaap {G : DHp} {a b : Addr} (h : b ≠ a) : dl G a b = G b := by unfold dl; rw [if_neg h]
theorem zft {G : DHp} {a : Addr} {o u : DO} : up (up G a o) a u = up G a u := by funext b; unfold up; split <;> rfl
theorem zbv {G : DHp} {a : Addr} {o : DO} (h : G a = none) : dl (up G a o) a = G := by
  funext b
  unfold dl up
  by_cases e : b = a
  · subst e; rw [if_pos rfl, h]
  · rw [if_neg e, if_neg e]
theorem zl3 {G : DHp} {a b : Addr} {o u : DO} (h : a ≠ b) : up (up G a o) b u = up (up G b u) a o := by
  funext c; simp only [up]
  by_cases e : c = a
  · subst e; simp [h]
  · simp [e]
theorem zaa2 {G : DHp} {a b : Addr} {o : DO} (h : a ≠ b) : dl (up G a o) b = up (dl G b) a o := by
  funext c; simp only [up, dl]
  by_cases e : c = a
  · subst e; simp [h]
  · simp [e]
/-- what is fixed: the written part, the world -/
structure Ml where
  K : PySem.W.Frag
  w : World
abbrev _root_.L2.Cx.ml (X : Cx) : Ml := ⟨X.K, X.w⟩
mutual
def nkD : NestedKey → D
  | .none => .non
  | .num i => .int i
  | .text x => .str x
  | .tup ks => .nd .tup (nkDs ks)
def nkDs : List NestedKey → List D
  | [] => []
  | k :: ks => nkD k :: nkDs ks
end
mutual
def D.key : D → Option NestedKey
  | .non => some .none
  | .int i => some (.num i)
  | .str x => some (.text x)
  | .nd .tup ds => (D.keys ds).map .tup
  | _ => none
def D.keys : List D → Option (List NestedKey)
  | [] => some []
  | d :: ds => match D.key d, D.keys ds with
    | some k, some ks => some (k :: ks)
    | _, _ => none
end
/-- an entry of a dict with nested keys -/
def entN (w : World) (x : NestedKey × Addr × Value) : DictEntry := ⟨x.1.hash w, .ref x.2.1, x.2.2⟩
/-- the object at a is a dict with just these entries -/
def rawO (a : Addr) (es : Array DictEntry) (ep : Nat) : HO := .ext fun h => h.DictRaw a es ep
section
variable (K : Ml) (H : Hp) (G : DHp)
mutual
def zgb : NestedKey → V → Prop
  | .none, v => v = .non
  | .num i, v => v = .int i
  | .text x, v => v = .str x
  | .tup ks, v => ∃ a vs, v = .ref a ∧ SqT K.K H a vs ∧ KeysAt ks vs
def KeysAt : List NestedKey → List V → Prop
  | [], vs => vs = []
  | k :: ks, vs => ∃ v r, vs = v :: r ∧ zgb k v ∧ KeysAt ks r
end
/-- a dict with nested keys ks and values vs at a -/
def DnAt (a : Addr) (ks : List NestedKey) (vs : List V) : Prop :=
  ∃ (xs : List (NestedKey × Addr × Value)) (es : Array DictEntry) (ep : Nat), H a = some (rawO a es ep) ∧ (a == sysModules) = false ∧ es.toList = xs.map (entN K.w) ∧ xs.map (·.1) = ks ∧ ks.Nodup ∧ ks.length ≤ sizeLine ∧
    (∀ x ∈ xs, zgb K H x.1 (.ref x.2.1) ∧ x.1.depth ≤ 8) ∧ Vals vs (xs.map (·.2.2))
/-- the same, the entries told -/
def DnE (a : Addr) (es : Array DictEntry) (ep : Nat) (ks : List NestedKey) (vs : List V) : Prop :=
  ∃ (xs : List (NestedKey × Addr × Value)), H a = some (rawO a es ep) ∧ (a == sysModules) = false ∧ es.toList = xs.map (entN K.w) ∧ xs.map (·.1) = ks ∧ ks.Nodup ∧ ks.length ≤ sizeLine ∧
    (∀ x ∈ xs, zgb K H x.1 (.ref x.2.1) ∧ x.1.depth ≤ 8) ∧ Vals vs (xs.map (·.2.2))
/-- at a stands an object of the kind with the items vs -/
def Held : Kd → Addr → List V → Prop
  | .tup, a, vs => SqT K.K H a vs
  | .lst, a, vs => G a = none ∧ H a = some (.lst vs)
  | .scr, a, vs => (∃ o, H a = some (.frz o (.lst vs))) ∨
      ∃ (o : Obj) (its : Array Value) (n : Nat), K.K.lookup a = some o ∧ o.cls = .type "list" ∧ o.dict = none ∧ o.data = .seq its n ∧ its.size ≤ sizeLine ∧ Vals vs its.toList
  | .ins C fs, a, vs => G a = none ∧ fs.length = vs.length ∧ ∃ dx, H a = some (.ins C dx (fs.zip vs))
  | .dK ks, a, vs => ks.length = vs.length ∧ ∃ o, H a = some (.frz o (.dK (ks.zip vs)))
  | .dN ks, a, vs => G a = none ∧ DnAt K H a ks vs
mutual
def VR : D → V → Prop
  | .non, v => v = .non
  | .bl b, v => v = .bl b
  | .int i, v => v = .int i
  | .str x, v => v = .str x
  | .ty n, v => v = .ty n
  | .ref a, v => v = .ref a
  | .nd k ds, v => ∃ a vs, v = .ref a ∧ Held K H G k a vs ∧ VRs ds vs
def VRs : List D → List V → Prop
  | [], vs => vs = []
  | d :: ds, vs => ∃ v r, vs = v :: r ∧ VR d v ∧ VRs ds r
end
/-- a tracked object -/
def OR (a : Addr) : DO → Prop
  | .lst ds => ∃ vs, H a = some (.lst vs) ∧ VRs K H G ds vs
  | .dK kvs => ∃ ws, H a = some (.dK ws) ∧ ws.map (·.1) = kvs.map (·.1) ∧ VRs K H G (kvs.map (·.2)) (ws.map (·.2))
  | .dN kvs => ∃ ws, DnAt K H a (kvs.map (·.1)) ws ∧ VRs K H G (kvs.map (·.2)) ws
  | .ins C fs => ∃ dx ws, H a = some (.ins C dx ws) ∧ ws.map (·.1) = fs.map (·.1) ∧ VRs K H G (fs.map (·.2)) (ws.map (·.2))
  | .rw es ep kvs => ∃ ws, DnE K H a es ep (kvs.map (·.1)) ws ∧ VRs K H G (kvs.map (·.2)) ws
def HR : Prop := ∀ a o, G a = some o → OR K H G a o
end
structure Ext (H : Hp) (G : DHp) (H' : Hp) (G' : DHp) : Prop where
  ex : ∀ a u, H a = some u → G a = none → H' a = some u ∧ G' a = none
theorem Ext.refl (H : Hp) (G : DHp) : Ext H G H G := ⟨fun _ _ h n => ⟨h, n⟩⟩
theorem Ext.trans {H G H1 G1 H2 G2} (a : Ext H G H1 G1) (b : Ext H1 G1 H2 G2) : Ext H G H2 G2 :=
  ⟨fun c u h n => let ⟨h1, n1⟩ := a.ex c u h n; b.ex c u h1 n1⟩
section
variable {K : Ml} {H H' : Hp} {G G' : DHp}
theorem OR.not_tup {a : Addr} {o : DO} (h : OR K H G a o) {vs : List V} : ¬ Rd H a (.tup vs) := by
  intro r
  cases o with
  | lst ds =>
    obtain ⟨_, e, _⟩ := h
    rcases r with r | ⟨_, r⟩ <;> rw [e] at r <;> cases r
  | dK ds =>
    obtain ⟨_, e, _⟩ := h
    rcases r with r | ⟨_, r⟩ <;> rw [e] at r <;> cases r
  | dN ds =>
    obtain ⟨_, ⟨_, _, _, e, _⟩, _⟩ := h
    rcases r with r | ⟨_, r⟩ <;> rw [e] at r <;> cases r
  | ins C fs =>
    obtain ⟨_, _, e, _⟩ := h
    rcases r with r | ⟨_, r⟩ <;> rw [e] at r <;> cases r
  | rw es ep kvs =>
    obtain ⟨_, ⟨_, e, _⟩, _⟩ := h
    rcases r with r | ⟨_, r⟩ <;> rw [e] at r <;> cases r
theorem OR.not_frz {a : Addr} {o : DO} (h : OR K H G a o) {ob : Obj} {u : HO} : H a ≠ .some (.frz ob u) := by
  intro r
  cases o with
  | lst ds =>
    obtain ⟨_, e, _⟩ := h
    rw [e] at r; cases r
  | dK ds =>
    obtain ⟨_, e, _⟩ := h
    rw [e] at r; cases r
  | dN ds =>
    obtain ⟨_, ⟨_, _, _, e, _⟩, _⟩ := h
    rw [e] at r; cases r
  | ins C fs =>
    obtain ⟨_, _, e, _⟩ := h
    rw [e] at r; cases r
  | rw es ep kvs =>
    obtain ⟨_, ⟨_, e, _⟩, _⟩ := h
    rw [e] at r; cases r
theorem OR.some {a : Addr} {o : DO} (h : OR K H G a o) : ∃ u, H a = .some u := by
  cases o with
  | lst ds => obtain ⟨_, e, _⟩ := h; exact ⟨_, e⟩
  | dK ds => obtain ⟨_, e, _⟩ := h; exact ⟨_, e⟩
  | dN ds => obtain ⟨_, ⟨_, _, _, e, _⟩, _⟩ := h; exact ⟨_, e⟩
  | ins C fs => obtain ⟨_, _, e, _⟩ := h; exact ⟨_, e⟩
  | rw es ep kvs => obtain ⟨_, ⟨_, e, _⟩, _⟩ := h; exact ⟨_, e⟩
theorem HR.tup (h : HR K H G) {a : Addr} {vs : List V} (r : Rd H a (.tup vs)) : G a = none := by
  cases e : G a with
  | none => rfl
  | some o => exact absurd r (OR.not_tup (h a o e))
theorem HR.frz (h : HR K H G) {a : Addr} {ob : Obj} {u : HO} (r : H a = some (.frz ob u)) : G a = none := by
  cases e : G a with
  | none => rfl
  | some o => exact absurd r (OR.not_frz (h a o e))
theorem HR.free (h : HR K H G) {a : Addr} (r : H a = none) : G a = none := by
  cases e : G a with
  | none => rfl
  | some o => obtain ⟨u, q⟩ := OR.some (h a o e); rw [q] at r; cases r
mutual
theorem zgb.ext (hr : HR K H G) (x : Ext H G H' G') : ∀ {k : NestedKey} {v : V}, zgb K H k v → zgb K H' k v
  | .none, _, h => by rw [zgb] at h ⊢; exact h
  | .num _, _, h => by rw [zgb] at h ⊢; exact h
  | .text _, _, h => by rw [zgb] at h ⊢; exact h
  | .tup ks, _, h => by
    rw [zgb] at h ⊢
    obtain ⟨a, vs, e, q, r⟩ := h
    refine ⟨a, vs, e, ?_, KeysAt.ext hr x r⟩
    rcases q with (h | ⟨o, h⟩) | h
    · exact .inl (.inl (x.ex _ _ h (hr.tup (.inl h))).1)
    · exact .inl (.inr ⟨o, (x.ex _ _ h (hr.frz h)).1⟩)
    · exact .inr h
theorem KeysAt.ext (hr : HR K H G) (x : Ext H G H' G') : ∀ {k : List NestedKey} {v : List V}, KeysAt K H k v → KeysAt K H' k v
  | [], _, h => by rw [KeysAt] at h ⊢; exact h
  | k :: ks, _, h => by
    rw [KeysAt] at h ⊢
    obtain ⟨v, r, e, q, t⟩ := h
    exact ⟨v, r, e, zgb.ext hr x q, KeysAt.ext hr x t⟩
end
theorem DnAt.ext (hr : HR K H G) (x : Ext H G H' G') {a : Addr} {ks : List NestedKey} {vs : List V} (h : DnAt K H a ks vs) (e : H' a = H a) : DnAt K H' a ks vs := by
  obtain ⟨xs, es, ep, h1, h2, h3, h4, h5, h6, h7, h8⟩ := h
  exact ⟨xs, es, ep, e.trans h1, h2, h3, h4, h5, h6, fun y hy => ⟨(h7 y hy).1.ext hr x, (h7 y hy).2⟩, h8⟩
theorem DnE.ext (hr : HR K H G) (x : Ext H G H' G') {a : Addr} {es : Array DictEntry} {ep : Nat} {ks : List NestedKey} {vs : List V} (h : DnE K H a es ep ks vs) (e : H' a = H a) : DnE K H' a es ep ks vs := by
  obtain ⟨xs, h1, h2, h3, h4, h5, h6, h7, h8⟩ := h
  exact ⟨xs, e.trans h1, h2, h3, h4, h5, h6, fun y hy => ⟨(h7 y hy).1.ext hr x, (h7 y hy).2⟩, h8⟩
theorem DnE.at {a : Addr} {es : Array DictEntry} {ep : Nat} {ks : List NestedKey} {vs : List V} (h : DnE K H a es ep ks vs) : DnAt K H a ks vs := by
  obtain ⟨xs, h⟩ := h
  exact ⟨xs, es, ep, h⟩
theorem DnAt.e {a : Addr} {ks : List NestedKey} {vs : List V} (h : DnAt K H a ks vs) : ∃ es ep, DnE K H a es ep ks vs := by
  obtain ⟨xs, es, ep, h⟩ := h
  exact ⟨es, ep, xs, h⟩
theorem Held.ext (hr : HR K H G) (x : Ext H G H' G') {k : Kd} {a : Addr} {vs : List V} (h : Held K H G k a vs) : Held K H' G' k a vs := by
  cases k with
  | tup =>
    rcases h with (h | ⟨o, h⟩) | h
    · exact .inl (.inl (x.ex _ _ h (hr.tup (.inl h))).1)
    · exact .inl (.inr ⟨o, (x.ex _ _ h (hr.frz h)).1⟩)
    · exact .inr h
  | lst =>
    obtain ⟨n, r⟩ := h
    obtain ⟨r', n'⟩ := x.ex _ _ r n
    exact ⟨n', r'⟩
  | scr =>
    rcases h with ⟨o, h⟩ | h
    · exact .inl ⟨o, (x.ex _ _ h (hr.frz h)).1⟩
    · exact .inr h
  | ins C fs =>
    obtain ⟨n, l, dx, r⟩ := h
    obtain ⟨r', n'⟩ := x.ex _ _ r n
    exact ⟨n', l, dx, r'⟩
  | dK ks =>
    obtain ⟨l, o, r⟩ := h
    exact ⟨l, o, (x.ex _ _ r (hr.frz r)).1⟩
  | dN ks =>
    obtain ⟨n, r⟩ := h
    obtain ⟨xs, es, ep, h1, _⟩ := id r
    obtain ⟨e, n'⟩ := x.ex _ _ h1 n
    exact ⟨n', r.ext hr x (e.trans h1.symm)⟩
mutual
theorem VR.ext (hr : HR K H G) (x : Ext H G H' G') : ∀ {d : D} {v : V}, VR K H G d v → VR K H' G' d v
  | .non, _, h => by rw [VR] at h ⊢; exact h
  | .bl _, _, h => by rw [VR] at h ⊢; exact h
  | .int _, _, h => by rw [VR] at h ⊢; exact h
  | .str _, _, h => by rw [VR] at h ⊢; exact h
  | .ty _, _, h => by rw [VR] at h ⊢; exact h
  | .ref _, _, h => by rw [VR] at h ⊢; exact h
  | .nd k ds, _, h => by
    rw [VR] at h ⊢
    obtain ⟨a, vs, e, q, r⟩ := h
    exact ⟨a, vs, e, q.ext hr x, VRs.ext hr x r⟩
theorem VRs.ext (hr : HR K H G) (x : Ext H G H' G') : ∀ {ds : List D} {vs : List V}, VRs K H G ds vs → VRs K H' G' ds vs
  | [], _, h => by rw [VRs] at h ⊢; exact h
  | d :: ds, _, h => by
    rw [VRs] at h ⊢
    obtain ⟨v, r, e, q, t⟩ := h
    exact ⟨v, r, e, VR.ext hr x q, VRs.ext hr x t⟩
end
theorem VRs.nil : VRs K H G [] [] := by rw [VRs]
theorem VRs.cons {d : D} {ds : List D} {v : V} {vs : List V} (h : VR K H G d v) (t : VRs K H G ds vs) : VRs K H G (d :: ds) (v :: vs) := by
  rw [VRs]; exact ⟨v, vs, rfl, h, t⟩
theorem VRs.uncons {d : D} {ds : List D} {vs : List V} (h : VRs K H G (d :: ds) vs) : ∃ v r, vs = v :: r ∧ VR K H G d v ∧ VRs K H G ds r := by
  rw [VRs] at h; exact h
theorem VRs.nil_of {vs : List V} (h : VRs K H G [] vs) : vs = [] := by rw [VRs] at h; exact h
theorem VRs.length : ∀ {ds : List D} {vs : List V}, VRs K H G ds vs → vs.length = ds.length
  | [], _, h => by rw [h.nil_of]; rfl
  | d :: ds, _, h => by
    obtain ⟨v, r, rfl, _, t⟩ := h.uncons
    rw [List.length_cons, List.length_cons, VRs.length t]
theorem VRs.append : ∀ {ds es : List D} {vs ws : List V}, VRs K H G ds vs → VRs K H G es ws → VRs K H G (ds ++ es) (vs ++ ws)
  | [], _, _, _, h, q => by rw [h.nil_of]; exact q
  | d :: ds, _, _, _, h, q => by
    obtain ⟨v, r, rfl, x, t⟩ := h.uncons
    exact .cons x (VRs.append t q)
theorem VRs.get : ∀ {ds : List D} {vs : List V} {i : Nat} {d : D}, VRs K H G ds vs → ds[i]? = some d → ∃ v, vs[i]? = some v ∧ VR K H G d v
  | [], _, _, _, _, e => by simp at e
  | d :: ds, _, 0, _, h, e => by
    obtain ⟨v, r, rfl, x, t⟩ := h.uncons
    simp at e; subst e
    exact ⟨v, rfl, x⟩
  | d :: ds, _, i + 1, _, h, e => by
    obtain ⟨v, r, rfl, x, t⟩ := h.uncons
    obtain ⟨u, e1, q⟩ := VRs.get (i := i) t (by simpa using e)
    exact ⟨u, by simpa using e1, q⟩
theorem VRs.take : ∀ {ds : List D} {vs : List V} (n : Nat), VRs K H G ds vs → VRs K H G (ds.take n) (vs.take n)
  | _, _, 0, _ => by rw [List.take_zero, List.take_zero]; exact .nil
  | [], _, n + 1, h => by rw [h.nil_of]; exact .nil
  | d :: ds, _, n + 1, h => by
    obtain ⟨v, r, rfl, x, t⟩ := h.uncons
    exact .cons x (VRs.take n t)
theorem VRs.drop : ∀ {ds : List D} {vs : List V} (n : Nat), VRs K H G ds vs → VRs K H G (ds.drop n) (vs.drop n)
  | _, _, 0, h => by rw [List.drop_zero, List.drop_zero]; exact h
  | [], _, n + 1, h => by rw [h.nil_of]; exact .nil
  | d :: ds, _, n + 1, h => by
    obtain ⟨v, r, rfl, x, t⟩ := h.uncons
    exact VRs.drop n t
theorem VRs.set : ∀ {ds : List D} {vs : List V} {d : D} {v : V} (i : Nat), VRs K H G ds vs → VR K H G d v → VRs K H G (ds.set i d) (vs.set i v)
  | [], _, _, _, i, h, _ => by rw [h.nil_of]; exact .nil
  | d :: ds, _, _, _, 0, h, q => by
    obtain ⟨v, r, rfl, x, t⟩ := h.uncons
    exact .cons q t
  | d :: ds, _, _, _, i + 1, h, q => by
    obtain ⟨v, r, rfl, x, t⟩ := h.uncons
    exact .cons x (VRs.set i t q)
theorem VRs.eraseIdx : ∀ {ds : List D} {vs : List V} (i : Nat), VRs K H G ds vs → VRs K H G (ds.eraseIdx i) (vs.eraseIdx i)
  | [], _, i, h => by rw [h.nil_of]; exact .nil
  | d :: ds, _, 0, h => by
    obtain ⟨v, r, rfl, x, t⟩ := h.uncons
    exact t
  | d :: ds, _, i + 1, h => by
    obtain ⟨v, r, rfl, x, t⟩ := h.uncons
    exact .cons x (VRs.eraseIdx i t)
theorem VRs.dropLast {ds : List D} {vs : List V} (h : VRs K H G ds vs) : VRs K H G ds.dropLast vs.dropLast := by
  rw [List.dropLast_eq_take, List.dropLast_eq_take, h.length]
  exact h.take _
theorem VRs.reverse : ∀ {ds : List D} {vs : List V}, VRs K H G ds vs → VRs K H G ds.reverse vs.reverse
  | [], _, h => by rw [h.nil_of]; exact .nil
  | d :: ds, _, h => by
    obtain ⟨v, r, rfl, x, t⟩ := h.uncons
    rw [List.reverse_cons, List.reverse_cons]
    exact (VRs.reverse t).append (.cons x .nil)
/-- ints, texts, bools: what they stand for -/
theorem VRs.of_map {α : Type} (f : α → D) (g : α → V) (h : ∀ a, VR K H G (f a) (g a)) : ∀ xs : List α, VRs K H G (xs.map f) (xs.map g)
  | [] => .nil
  | x :: xs => .cons (h x) (VRs.of_map f g h xs)
theorem VRs.map_eq {α : Type} (f : α → D) (g : α → V) (h : ∀ a v, VR K H G (f a) v → v = g a) : ∀ {xs : List α} {vs : List V}, VRs K H G (xs.map f) vs → vs = xs.map g
  | [], _, q => q.nil_of
  | x :: xs, _, q => by
    obtain ⟨v, r, rfl, a, t⟩ := VRs.uncons q
    rw [List.map_cons, h x v a, VRs.map_eq f g h t]
theorem VRs.of_ints (ns : List Int) : VRs K H G (ns.map D.int) (ns.map V.int) := VRs.of_map _ _ (fun a => by rw [VR]) ns
/-- a new object that is not tracked -/
theorem Ext.laid {p : Addr} {o : HO} (hp : H p = none) : Ext H G (upd H p o) G :=
  ⟨fun a u h n => ⟨by rw [upd_ne (ne_of_none h hp)]; exact h, n⟩⟩
theorem OR.ext (hr : HR K H G) (x : Ext H G H' G') {a : Addr} {o : DO} (e : H' a = H a) (h : OR K H G a o) : OR K H' G' a o := by
  cases o with
  | lst ds => obtain ⟨vs, q, r⟩ := h; exact ⟨vs, e.trans q, r.ext hr x⟩
  | dK ds => obtain ⟨vs, q, z, r⟩ := h; exact ⟨vs, e.trans q, z, r.ext hr x⟩
  | dN ds => obtain ⟨vs, q, r⟩ := h; exact ⟨vs, q.ext hr x e, r.ext hr x⟩
  | ins C fs => obtain ⟨dx, vs, q, z, r⟩ := h; exact ⟨dx, vs, e.trans q, z, r.ext hr x⟩
  | rw es ep kvs => obtain ⟨vs, q, r⟩ := h; exact ⟨vs, q.ext hr x e, r.ext hr x⟩
theorem HR.laid (hr : HR K H G) {p : Addr} {o : HO} (hp : H p = none) : HR K (upd H p o) G := fun a u e => by
  have h := hr a u e
  obtain ⟨z, hz⟩ := h.some
  exact h.ext hr (.laid hp) (upd_ne (ne_of_none hz hp))
/-- a new tracked object -/
theorem Ext.new {p : Addr} {o : HO} {u : DO} (hp : H p = none) : Ext H G (upd H p o) (up G p u) :=
  ⟨fun a v h n => ⟨by rw [upd_ne (ne_of_none h hp)]; exact h, by rw [zj2 (ne_of_none h hp)]; exact n⟩⟩
theorem HR.new (hr : HR K H G) {p : Addr} {o : HO} {u : DO} (hp : H p = none) (h : OR K (upd H p o) (up G p u) p u) : HR K (upd H p o) (up G p u) := fun a w e => by
  by_cases q : a = p
  · subst q; rw [zi] at e; cases e; exact h
  · rw [zj2 q] at e
    exact (hr a w e).ext hr (.new hp) (upd_ne q)
/-- a tracked object changes -/
theorem Ext.write {p : Addr} {o : HO} {u w : DO} (hp : G p = some w) : Ext H G (upd H p o) (up G p u) :=
  ⟨fun a v h n => by
    have e : a ≠ p := fun e => by rw [e, hp] at n; cases n
    exact ⟨by rw [upd_ne e]; exact h, by rw [zj2 e]; exact n⟩⟩
theorem HR.write (hr : HR K H G) {p : Addr} {o : HO} {u w : DO} (hp : G p = some w) (h : OR K (upd H p o) (up G p u) p u) : HR K (upd H p o) (up G p u) := fun a z e => by
  by_cases q : a = p
  · subst q; rw [zi] at e; cases e; exact h
  · rw [zj2 q] at e
    exact (hr a z e).ext hr (.write hp) (upd_ne q)
/-- tracked no more: from now on it is read alone -/
theorem Ext.freeze {p : Addr} : Ext H G H (dl G p) :=
  ⟨fun a v h n => ⟨h, by
    by_cases e : a = p
    · rw [e, zrc]
    · rw [zaap e]; exact n⟩⟩
theorem HR.freeze (hr : HR K H G) (p : Addr) : HR K H (dl G p) := fun a z e => by
  by_cases q : a = p
  · subst q; rw [zrc] at e; cases e
  · rw [zaap q] at e
    exact (hr a z e).ext hr .freeze rfl
/-- .. a dict: locked -/
theorem Ext.freezeD {p : Addr} {o : HO} {w : DO} (hp : G p = some w) : Ext H G (upd H p o) (dl G p) :=
  ⟨fun a v h n => by
    have e : a ≠ p := fun e => by rw [e, hp] at n; cases n
    exact ⟨by rw [upd_ne e]; exact h, by rw [zaap e]; exact n⟩⟩
theorem HR.freezeD (hr : HR K H G) {p : Addr} {o : HO} {w : DO} (hp : G p = some w) : HR K (upd H p o) (dl G p) := fun a z e => by
  by_cases q : a = p
  · subst q; rw [zrc] at e; cases e
  · rw [zaap q] at e
    exact (hr a z e).ext hr (.freezeD hp) (upd_ne q)
/-- the tree of an object that is tracked no more -/
def DO.tree : DO → D
  | .lst ds => .lst ds
  | .dK kvs => .nd (.dK (kvs.map (·.1))) (kvs.map (·.2))
  | .dN kvs => .nd (.dN (kvs.map (·.1))) (kvs.map (·.2))
  | .ins C fs => .nd (.ins C (fs.map (·.1))) (fs.map (·.2))
  | .rw _ _ kvs => .nd (.dN (kvs.map (·.1))) (kvs.map (·.2))
theorem zsh {α β : Type} : ∀ l : List (α × β), (l.map (·.1)).zip (l.map (·.2)) = l
  | [] => rfl
  | (a, b) :: l => by simp [zsh l]
/-- what stands at p behind the freezing: a dict is locked -/
def Fz (H H' : Hp) (p : Addr) : DO → Prop
  | .dK _ => ∃ u od, H p = some u ∧ Mut (some u) ∧ H' = upd H p (.frz od u)
  | _ => H' = H
theorem HR.tree (hr : HR K H G) {p : Addr} {o : DO} (h : G p = some o) (f : Fz H H' p o) : VR K H' (dl G p) o.tree (.ref p) ∧ Ext H G H' (dl G p) ∧ HR K H' (dl G p) := by
  have q := hr p o h
  cases o with
  | lst ds =>
    obtain rfl : H' = H := f
    obtain ⟨vs, e, r⟩ := q
    refine ⟨?_, .freeze, hr.freeze p⟩
    show VR K H' (dl G p) (.nd .lst ds) _
    rw [VR]
    exact ⟨p, vs, rfl, ⟨zrc, e⟩, r.ext hr .freeze⟩
  | dK kvs =>
    obtain ⟨ws, e, z, r⟩ := q
    obtain ⟨u, od, hu, _, rfl⟩ := f
    rw [e] at hu; cases hu
    refine ⟨?_, .freezeD h, hr.freezeD h⟩
    show VR K _ (dl G p) (.nd (.dK _) _) _
    rw [VR]
    refine ⟨p, _, rfl, ⟨by rw [← z]; simp, od, ?_⟩, r.ext hr (.freezeD h)⟩
    rw [← z, zsh, upd_same]
  | dN kvs =>
    obtain rfl : H' = H := f
    obtain ⟨ws, e, r⟩ := q
    refine ⟨?_, .freeze, hr.freeze p⟩
    show VR K H' (dl G p) (.nd (.dN _) _) _
    rw [VR]
    exact ⟨p, ws, rfl, ⟨zrc, e⟩, r.ext hr .freeze⟩
  | ins C fs =>
    obtain rfl : H' = H := f
    obtain ⟨dx, ws, e, z, r⟩ := q
    refine ⟨?_, .freeze, hr.freeze p⟩
    show VR K H' (dl G p) (.nd (.ins C _) _) _
    rw [VR]
    refine ⟨p, _, rfl, ⟨zrc, by rw [← z]; simp, dx, ?_⟩, r.ext hr .freeze⟩
    rw [← z, zsh]; exact e
  | rw es ep kvs =>
    obtain rfl : H' = H := f
    obtain ⟨ws, e, r⟩ := q
    refine ⟨?_, .freeze, hr.freeze p⟩
    show VR K H' (dl G p) (.nd (.dN _) _) _
    rw [VR]
    exact ⟨p, ws, rfl, ⟨zrc, e.at⟩, r.ext hr .freeze⟩
end
abbrev DSt := List (Option D)
/-- where one set out: the objects then -/
class Bs where
  H0 : Hp
  G0 : DHp
structure SR [Bs] (K : Ml) (H : Hp) (G : DHp) (σ : L2.St) (η : DSt) : Prop where
  len : η.length = σ.length
  get : ∀ (i : Nat) (d : D), η[i]? = some (some d) → ∃ v, σ[i]? = some (some v) ∧ VR K H G d v
  base : Ext Bs.H0 Bs.G0 H G
section
variable {K : Ml} {H H' : Hp} {G G' : DHp} {σ : L2.St} {η η' : DSt}
theorem SR.ext [Bs] (hr : HR K H G) (x : Ext H G H' G') (h : SR K H G σ η) : SR K H' G' σ η :=
  ⟨h.len, fun i d e => let ⟨v, q, r⟩ := h.get i d e; ⟨v, q, r.ext hr x⟩, h.base.trans x⟩
theorem SR.set [Bs] (h : SR K H G σ η) {d : D} {v : V} (i : Nat) (r : VR K H G d v) : SR K H G (σ.set i (some v)) (η.set i (some d)) := by
  refine ⟨by rw [List.length_set, List.length_set, h.len], fun j e q => ?_, h.base⟩
  by_cases hj : i = j
  · subst hj
    by_cases hl : i < η.length
    · rw [List.getElem?_set_self hl] at q
      cases q
      exact ⟨v, by rw [List.getElem?_set_self (by rw [← h.len]; exact hl)], r⟩
    · rw [List.getElem?_eq_none (by rw [List.length_set]; omega)] at q; cases q
  · rw [List.getElem?_set_ne hj] at q
    obtain ⟨u, a, b⟩ := h.get j e q
    exact ⟨u, by rw [List.getElem?_set_ne hj]; exact a, b⟩
/-- less is known -/
def Le (η η' : DSt) : Prop := η.length = η'.length ∧ ∀ (i : Nat) (d : D), η[i]? = some (some d) → η'[i]? = some (some d)
theorem Le.refl (η : DSt) : Le η η := ⟨rfl, fun _ _ h => h⟩
theorem SR.le [Bs] (h : SR K H G σ η') (l : Le η η') : SR K H G σ η := ⟨l.1.trans h.len, fun i d e => h.get i d (l.2 i d e), h.base⟩
theorem SR.none [Bs] (h : SR K H G σ η) (i : Nat) (o : Option V) : SR K H G (σ.set i o) (η.set i Option.none) := by
  refine ⟨by rw [List.length_set, List.length_set, h.len], fun j e q => ?_, h.base⟩
  by_cases hj : i = j
  · subst hj
    by_cases hl : i < η.length
    · rw [List.getElem?_set_self hl] at q; cases q
    · rw [List.getElem?_eq_none (by rw [List.length_set]; omega)] at q; cases q
  · rw [List.getElem?_set_ne hj] at q
    obtain ⟨u, a, b⟩ := h.get j e q
    exact ⟨u, by rw [List.getElem?_set_ne hj]; exact a, b⟩
theorem Le.nil : Le [] [] := Le.refl _
theorem Le.keep {o : Option D} {η η' : DSt} (h : Le η η') : Le (o :: η) (o :: η') :=
  ⟨by rw [List.length_cons, List.length_cons, h.1], fun i d e => by
    cases i with
    | zero => simpa using e
    | succ i => simpa using h.2 i d (by simpa using e)⟩
theorem Le.drop {o : Option D} {η η' : DSt} (h : Le η η') : Le (none :: η) (o :: η') :=
  ⟨by rw [List.length_cons, List.length_cons, h.1], fun i d e => by
    cases i with
    | zero => simp at e
    | succ i => simpa using h.2 i d (by simpa using e)⟩
end
end DL
namespace DL
open PySem PySem.Spec PyProof.Rows L2
abbrev DVK := D → DHp → Prop
abbrev DTE := DSt → DHp → DVK → Prop
abbrev DTT := DSt → DHp → (Bool → DHp → Prop) → Prop
abbrev DTA := DSt → DHp → (List D → DHp → Prop) → Prop
structure zmh where
  nx : DSt → DHp → Prop
  rt : DVK
  bk : DSt → DHp → Prop := fun _ _ => False
  ct : DSt → DHp → Prop := fun _ _ => False
abbrev DTS := zmh → DSt → DHp → Prop
abbrev DTG := D → DSt → DHp → (DSt → DHp → Prop) → Prop
abbrev DTGs := List D → DSt → DHp → (DSt → DHp → Prop) → Prop
def zqy [Bs] (K : Ml) (T : DTE) : TE := fun σ H Q => ∃ η G P, SR K H G σ η ∧ HR K H G ∧ T η G P ∧ ∀ d G' v H', P d G' → Ext H G H' G' → HR K H' G' → VR K H' G' d v → Q v H'
def z50 [Bs] (K : Ml) (T : DTT) : TT := fun σ H Q => ∃ η G P, SR K H G σ η ∧ HR K H G ∧ T η G P ∧ ∀ b G' H', P b G' → Ext H G H' G' → HR K H' G' → Q b H'
def zae7 [Bs] (K : Ml) (T : DTA) : TA := fun σ H Q => ∃ η G P, SR K H G σ η ∧ HR K H G ∧ T η G P ∧ ∀ ds G' vs H', P ds G' → Ext H G H' G' → HR K H' G' → VRs K H' G' ds vs → Q vs H'
structure zk8 [Bs] (K : Ml) (H : Hp) (G : DHp) (F : zmh) (E : Ends) : Prop where
  nx : ∀ η G' σ H', F.nx η G' → Ext H G H' G' → SR K H' G' σ η → HR K H' G' → E.nx σ H'
  rt : ∀ d G' v H', F.rt d G' → Ext H G H' G' → HR K H' G' → VR K H' G' d v → E.rt v H'
  bk : ∀ η G' σ H', F.bk η G' → Ext H G H' G' → SR K H' G' σ η → HR K H' G' → E.bk σ H'
  ct : ∀ η G' σ H', F.ct η G' → Ext H G H' G' → SR K H' G' σ η → HR K H' G' → E.ct σ H'
theorem zk8.ext [Bs] {K H G H1 G1 F E} (h : zk8 K H G F E) (x : Ext H G H1 G1) : zk8 K H1 G1 F E :=
  ⟨fun η G' σ H' p y s r => h.nx η G' σ H' p (x.trans y) s r, fun d G' v H' p y r q => h.rt d G' v H' p (x.trans y) r q, fun η G' σ H' p y s r => h.bk η G' σ H' p (x.trans y) s r, fun η G' σ H' p y s r => h.ct η G' σ H' p (x.trans y) s r⟩
def z6c [Bs] (K : Ml) (T : DTS) : TS := fun E σ H => ∃ η G F, SR K H G σ η ∧ HR K H G ∧ T F η G ∧ zk8 K H G F E
/-- is: the slots that a target may change -/
def zabv [Bs] (K : Ml) (is : List Nat) (T : DTG) : TG := fun v σ H Q => ∃ d η G P, VR K H G d v ∧ SR K H G σ η ∧ HR K H G ∧ T d η G P ∧ ∀ η' G' σ' H', P η' G' → Ext H G H' G' → SR K H' G' σ' η' → HR K H' G' → wipe σ' is = wipe σ is → Q σ' H'
def zaes [Bs] (K : Ml) (is : List Nat) (T : DTGs) : TGs := fun vs σ H Q => ∃ ds η G P, VRs K H G ds vs ∧ SR K H G σ η ∧ HR K H G ∧ T ds η G P ∧ ∀ η' G' σ' H', P η' G' → Ext H G H' G' → SR K H' G' σ' η' → HR K H' G' → wipe σ' is = wipe σ is → Q σ' H'
abbrev PED [Bs] (X : Cx) (e : Expr) (T : DTE) : Prop := PE X e (zqy X.ml T)
abbrev PTD [Bs] (X : Cx) (e : Expr) (T : DTT) : Prop := PT X e (z50 X.ml T)
abbrev PWD [Bs] (X : Cx) (e : Expr) (T : DTT) : Prop := PW X e (z50 X.ml T)
abbrev PAD [Bs] (X : Cx) (es : List Expr) (T : DTA) : Prop := PA X es (zae7 X.ml T)
abbrev PSD [Bs] (X : Cx) (st : Stmt) (T : DTS) : Prop := PS X st (z6c X.ml T)
abbrev PSsD [Bs] (X : Cx) (st : List Stmt) (T : DTS) : Prop := PSs X st (z6c X.ml T)
abbrev PGD [Bs] (X : Cx) (e : Expr) (is : List Nat) (T : DTG) : Prop := PG X e (zabv X.ml is T)
abbrev PGsD [Bs] (X : Cx) (es : List Expr) (is : List Nat) (T : DTGs) : Prop := PGs X es (zaes X.ml is T)
section
variable {X : Cx}
theorem PE.impI {e : Expr} {t t' : TE} (h : PE X e t) (i : ∀ pins s σ H Q, Inv X pins σ H s → t' σ H Q → t σ H Q) : PE X e t' := ⟨fun pins s σ H Q I q => h.run pins s σ H Q I (i _ _ _ _ _ I q)⟩
theorem PT.impI {e : Expr} {t t' : TT} (h : PT X e t) (i : ∀ pins s σ H Q, Inv X pins σ H s → t' σ H Q → t σ H Q) : PT X e t' := ⟨fun pins s σ H Q I q => h.run pins s σ H Q I (i _ _ _ _ _ I q)⟩
theorem PW.impI {e : Expr} {t t' : TT} (h : PW X e t) (i : ∀ pins s σ H Q, Inv X pins σ H s → t' σ H Q → t σ H Q) : PW X e t' := ⟨fun w pins s σ H Q I q => h.run w pins s σ H Q I (i _ _ _ _ _ I q)⟩
theorem PA.impI {es : List Expr} {t t' : TA} (h : PA X es t) (i : ∀ pins s σ H Q, Inv X pins σ H s → t' σ H Q → t σ H Q) : PA X es t' := ⟨fun w pins s σ H Q I q => h.run w pins s σ H Q I (i _ _ _ _ _ I q)⟩
theorem PS.impI {e : Stmt} {t t' : TS} (h : PS X e t) (i : ∀ pins s σ H E, Inv X pins σ H s → t' E σ H → t E σ H) : PS X e t' := ⟨fun pins s σ H E I q => h.run pins s σ H E I (i _ _ _ _ _ I q)⟩
theorem PSs.impI {e : List Stmt} {t t' : TS} (h : PSs X e t) (i : ∀ pins s σ H E, Inv X pins σ H s → t' E σ H → t E σ H) : PSs X e t' := ⟨fun pins s σ H E I q => h.run pins s σ H E I (i _ _ _ _ _ I q)⟩
theorem PG.impI {e : Expr} {t t' : TG} (h : PG X e t) (i : ∀ pins s σ H v Q, Inv X pins σ H s → t' v σ H Q → t v σ H Q) : PG X e t' := ⟨fun pins s σ H v u Q I r q => h.run pins s σ H v u Q I r (i _ _ _ _ _ _ I q)⟩
theorem PGs.impI {e : List Expr} {t t' : TGs} (h : PGs X e t) (i : ∀ pins s σ H v Q, Inv X pins σ H s → t' v σ H Q → t v σ H Q) : PGs X e t' := ⟨fun pins s σ H v u Q I r q => h.run pins s σ H v u Q I r (i _ _ _ _ _ _ I q)⟩
def zd (i : Nat) : DTE := fun η G Q => match η[i]? with
  | some (some d) => Q d G
  | _ => False
theorem za [Bs] (i : Nat) {x : Str} {pos : Pos} (hN : X.N[i]? = some x := by rfl) (hv : Vis X.env.scope x := by first | exact Or.inl rfl | exact Or.inr (Or.inl rfl) | exact Or.inr (Or.inr rfl)) (hd : (x == ("__debug__" : Str)) = false := by decide)
    (hcd : (x == ("__classdict__" : Str)) = false := by decide) : PED X (.Name x pos) (zd i) :=
  PE.impI (pe_var hN hv hd hcd) fun pins s σ H Q I ⟨η, G, P, hs, hr, t, k⟩ => by
    unfold zd at t
    split at t
    · rename_i d e
      obtain ⟨v, q, r⟩ := hs.2 i d e
      exact ⟨v, q, k d G v H t (.refl _ _) hr r⟩
    · exact t.elim
def dC (d : D) : DTE := fun _ G Q => Q d G
theorem z59 [Bs] {e : Expr} {d : D} {v : V} (h : PE X e (tC v)) (r : ∀ H G, VR X.ml H G d v) : PED X e (dC d) :=
  PE.impI h fun pins s σ H Q I ⟨η, G, P, hs, hr, t, k⟩ => k d G v H t (.refl _ _) hr (r H G)
theorem zf [Bs] {i : Int} {j pos} : PED X (.Constant (.int i) j pos) (dC (.int i)) := z59 pe_int fun _ _ => by rw [VR]
theorem zh1 [Bs] {i : Bool} {j pos} : PED X (.Constant (.bool i) j pos) (dC (.bl i)) := z59 pe_bl fun _ _ => by rw [VR]
theorem zvx [Bs] {i : Str} {j pos} : PED X (.Constant (.str i) j pos) (dC (.str i)) := z59 pe_str fun _ _ => by rw [VR]
theorem zwu [Bs] {j pos} : PED X (.Constant .none j pos) (dC .non) := z59 pe_non fun _ _ => by rw [VR]
theorem zen [Bs] {x : Str} {i : Int} {t : Tok} {pos : Pos} (hm : X.mg x = some (.int i t)) (hg : Gl X x := by rfl) (hd : (x == ("__debug__" : Str)) = false := by decide) : PED X (.Name x pos) (dC (.int i)) :=
  z59 (pe_glob (v := .int i) hg hm ⟨t, rfl⟩ hd) fun _ _ => by rw [VR]
theorem znp [Bs] {x : Str} {n : String} {pos : Pos} (hm : X.mg x = none) (hv : bootBuiltins x = some (.type n)) (hg : Gl X x := by rfl) (hn : x ≠ "__name__" := by decide) (hd : (x == ("__debug__" : Str)) = false := by decide) : PED X (.Name x pos) (dC (.ty n)) :=
  z59 (pe_bltn (v := .ty n) hg hm hv rfl hn hd) fun _ _ => by rw [VR]
def dNil : DTA := fun _ G Q => Q [] G
def ze (T : DTE) (R : DTA) : DTA := fun η G Q => T η G fun d G1 => R η G1 fun ds G2 => Q (d :: ds) G2
theorem zc [Bs] : PAD X [] dNil := PA.impI pa_nil fun pins s σ H Q I ⟨η, G, P, hs, hr, t, k⟩ => k [] G [] H t (.refl _ _) hr .nil
theorem zb [Bs] {e : Expr} {es : List Expr} {T : DTE} {R : DTA} (ha : PED X e T) (hb : PAD X es R) (hs : starEach (e :: es) X.env = (false, eval e X.env) :: starEach es X.env := by rfl) : PAD X (e :: es) (ze T R) :=
  PA.impI (pa_cons ha hb hs) fun pins s σ H Q I ⟨η, G, P, hs, hr, t, k⟩ =>
    ⟨η, G, _, hs, hr, t, fun d1 G1 v1 H1 p1 x1 r1 q1 => ⟨η, G1, _, hs.ext hr x1, r1, p1, fun ds G2 vs H2 p2 x2 r2 q2 => k (d1 :: ds) G2 (v1 :: vs) H2 p2 (x1.trans x2) r2 (.cons (q1.ext r1 x2) q2)⟩⟩
/-- a tuple -/
def dTup (T : DTA) : DTE := fun η G Q => T η G fun ds G1 => ds.length ≤ 1000 ∧ Q (.nd .tup ds) G1
theorem z9h {n : Nat} (h : n ≤ 1000) : n ≤ sizeLine := Nat.le_trans h (by decide)
theorem z7 [Bs] {es : List Expr} {x1 : Nat} {pos : Pos} {T : DTA} (h : PAD X es T) : PED X (.Tuple es x1 pos) (dTup T) :=
  PE.impI (pe_tup h) fun pins s σ H Q I ⟨η, G, P, hs, hr, t, k⟩ =>
    ⟨η, G, _, hs, hr, t, fun ds G1 vs H1 ⟨pl, p1⟩ x1 r1 q1 => ⟨by rw [q1.length]; exact z9h pl, fun p hp => by
      have x2 : Ext H1 G1 (upd H1 p (.tup vs)) G1 := .laid hp
      refine k _ G1 (.ref p) _ p1 (x1.trans x2) (r1.laid hp) ?_
      rw [VR]
      exact ⟨p, vs, rfl, .inl (.inl upd_same), q1.ext r1 x2⟩⟩⟩
/-- a new list that is not changed later -/
def zjq (T : DTA) : DTE := fun η G Q => T η G fun ds G1 => ds.length ≤ 1000 ∧ Q (.nd .lst ds) G1
theorem zgp [Bs] {es : List Expr} {pos : Pos} {T : DTA} (h : PAD X es T) : PED X (.List es pos) (zjq T) :=
  PE.impI (pe_lst h) fun pins s σ H Q I ⟨η, G, P, hs, hr, t, k⟩ =>
    ⟨η, G, _, hs, hr, t, fun ds G1 vs H1 ⟨pl, p1⟩ x1 r1 q1 => ⟨by rw [q1.length]; exact z9h pl, fun p hp => by
      have x2 : Ext H1 G1 (upd H1 p (.lst vs)) G1 := .laid hp
      refine k _ G1 (.ref p) _ p1 (x1.trans x2) (r1.laid hp) ?_
      rw [VR]
      exact ⟨p, vs, rfl, ⟨r1.free hp, upd_same⟩, q1.ext r1 x2⟩⟩⟩
/-- a new list that is changed later -/
def zjn (T : DTA) : DTE := fun η G Q => T η G fun ds G1 => ds.length ≤ 1000 ∧ ∀ p, G1 p = none → Q (.ref p) (up G1 p (.lst ds))
theorem zgs [Bs] {es : List Expr} {pos : Pos} {T : DTA} (h : PAD X es T) : PED X (.List es pos) (zjn T) :=
  PE.impI (pe_lst h) fun pins s σ H Q I ⟨η, G, P, hs, hr, t, k⟩ =>
    ⟨η, G, _, hs, hr, t, fun ds G1 vs H1 ⟨pl, p1⟩ x1 r1 q1 => ⟨by rw [q1.length]; exact z9h pl, fun p hp => by
      have x2 : Ext H1 G1 (upd H1 p (.lst vs)) (up G1 p (.lst ds)) := .new hp
      refine k _ _ (.ref p) _ (p1 p (r1.free hp)) (x1.trans x2) (r1.new hp ⟨vs, upd_same, q1.ext r1 x2⟩) ?_
      rw [VR]⟩⟩
abbrev DR2 := D → D → DHp → DVK → Prop
def zt9 (K : Ml) (r : DR2) : R2 := fun x y H Q => ∃ dx dy G P, HR K H G ∧ VR K H G dx x ∧ VR K H G dy y ∧ r dx dy G P ∧ ∀ d G' v H', P d G' → Ext H G H' G' → HR K H' G' → VR K H' G' d v → Q v H'
abbrev OpD (X : Cx) (f : Value → Value → Sem Value) (r : DR2) : Prop := OpR X f (zt9 X.ml r)
def dOp (r : DR2) (Ta Tb : DTE) : DTE := fun η G Q => Ta η G fun x G1 => Tb η G1 fun y G2 => r x y G2 Q
theorem z0u [Bs] {r : DR2} {Ta Tb : DTE} {K : Ml} {σ : L2.St} {H : Hp} {Q : VK} (h : zqy K (dOp r Ta Tb) σ H Q) : tOp (zt9 K r) (zqy K Ta) (zqy K Tb) σ H Q :=
  let ⟨η, G, P, hs, hr, t, k⟩ := h
  ⟨η, G, _, hs, hr, t, fun d1 G1 v1 H1 p1 x1 r1 q1 => ⟨η, G1, _, hs.ext hr x1, r1, p1, fun d2 G2 v2 H2 p2 x2 r2 q2 =>
    ⟨d1, d2, G2, P, r2, q1.ext r1 x2, q2, p2, fun d G' v H' p x r q => k d G' v H' p ((x1.trans x2).trans x) r q⟩⟩⟩
theorem zw [Bs] {a b : Expr} {op : Operator} {pos : Pos} {r : DR2} {Ta Tb : DTE} (ho : OpD X (binaryOp op) r) (ha : PED X a Ta) (hb : PED X b Tb) : PED X (.BinOp a op b pos) (dOp r Ta Tb) :=
  PE.impI (pe_op ho ha hb) fun _ _ _ _ _ _ h => z0u h
theorem zm6 [Bs] {a b : Expr} {op : CmpOp} {pos : Pos} {r : DR2} {Ta Tb : DTE} (ho : OpD X (compareOp op) r) (ha : PED X a Ta) (hb : PED X b Tb) (hm : behindInMarks op b = false) : PED X (.Compare a [op] [b] pos) (dOp r Ta Tb) :=
  PE.impI (pe_cmpR ho ha hb hm) fun _ _ _ _ _ _ h => z0u h
/-- a test by a truth value -/
def zau (T : DTE) : DTT := fun η G Q => T η G fun d G1 => match d with
  | .bl b => Q b G1
  | _ => False
theorem zwr [Bs] {T : DTE} {K : Ml} {σ : L2.St} {H : Hp} {Q : Bool → Hp → Prop} (h : z50 K (zau T) σ H Q) : tB (zqy K T) σ H Q := by
  obtain ⟨η, G, P, hs, hr, t, k⟩ := h
  refine ⟨η, G, _, hs, hr, t, fun d1 G1 v1 H1 p1 x1 r1 q1 => ?_⟩
  cases d1 with
  | bl b => rw [VR] at q1; exact ⟨b, q1, k b G1 H1 p1 x1 r1⟩
  | _ => exact p1.elim
theorem zaq [Bs] {a b : Expr} {op : CmpOp} {pos : Pos} {r : DR2} {Ta Tb : DTE} (ho : OpD X (compareOp op) r) (ha : PED X a Ta) (hb : PED X b Tb) (hm : behindInMarks op b = false) : PTD X (.Compare a [op] [b] pos) (zau (dOp r Ta Tb)) :=
  PT.impI (pt_cmpR ho ha hb hm) fun _ _ σ H Q _ h => by
    have h2 := zwr h
    obtain ⟨η, G, P, hs, hr, t, k⟩ := h2
    exact z0u ⟨η, G, P, hs, hr, t, k⟩
theorem zdo [Bs] {e : Expr} {T : DTE} (h : PED X e T) (he : ∀ whole, isTrue e X.env whole = (do let v ← whole; standAt e.pos; holding [v] (truthy v)) := by intro _; rfl) : PTD X e (zau T) :=
  PT.impI (pt_val h he) fun _ _ σ H Q _ h => zwr h
def dAnd (t u : DTT) : DTT := fun η G Q => t η G fun c G1 => if c = true then u η G1 Q else Q false G1
def dOr (t u : DTT) : DTT := fun η G Q => t η G fun c G1 => if c = true then Q true G1 else u η G1 Q
def dNot (t : DTT) : DTT := fun η G Q => t η G fun c G1 => Q (!c) G1
theorem zq4 [Bs] {e : Expr} {T : DTT} (h : PWD X e T) : PTD X e T := h.pt
theorem zrx [Bs] {a : Expr} {T : DTT} {pos : Pos} (h : PTD X a T) : PWD X (.BoolOp .And [a] pos) T := pw_and1 h
theorem zmd [Bs] {a : Expr} {T : DTT} {pos : Pos} (h : PTD X a T) : PWD X (.BoolOp .Or [a] pos) T := pw_or1 h
theorem zqq [Bs] {a b : Expr} {rest : List Expr} {t u : DTT} {pos : Pos} (ha : PTD X a t) (hb : PWD X (.BoolOp .And (b :: rest) pos) u) : PWD X (.BoolOp .And (a :: b :: rest) pos) (dAnd t u) :=
  PW.impI (pw_and ha hb) fun _ _ σ H Q _ ⟨η, G, P, hs, hr, t, k⟩ => ⟨η, G, _, hs, hr, t, fun c G1 H1 p1 x1 r1 => by
    by_cases hc : c = true
    · subst hc
      rw [if_pos rfl] at p1 ⊢
      exact ⟨η, G1, P, hs.ext hr x1, r1, p1, fun b G2 H2 p2 x2 r2 => k b G2 H2 p2 (x1.trans x2) r2⟩
    · rw [if_neg hc] at p1 ⊢
      exact k false G1 H1 p1 x1 r1⟩
theorem zml [Bs] {a b : Expr} {rest : List Expr} {t u : DTT} {pos : Pos} (ha : PTD X a t) (hb : PWD X (.BoolOp .Or (b :: rest) pos) u) : PWD X (.BoolOp .Or (a :: b :: rest) pos) (dOr t u) :=
  PW.impI (pw_or ha hb) fun _ _ σ H Q _ ⟨η, G, P, hs, hr, t, k⟩ => ⟨η, G, _, hs, hr, t, fun c G1 H1 p1 x1 r1 => by
    by_cases hc : c = true
    · subst hc
      rw [if_pos rfl] at p1 ⊢
      exact k true G1 H1 p1 x1 r1
    · rw [if_neg hc] at p1 ⊢
      exact ⟨η, G1, P, hs.ext hr x1, r1, p1, fun b G2 H2 p2 x2 r2 => k b G2 H2 p2 (x1.trans x2) r2⟩⟩
theorem zf7 [Bs] {a : Expr} {T : DTT} {pos : Pos} (h : PTD X a T) : PTD X (.UnaryOp .Not a pos) (dNot T) :=
  PT.impI (pt_not h) fun _ _ σ H Q _ ⟨η, G, P, hs, hr, t, k⟩ => ⟨η, G, _, hs, hr, t, fun c G1 H1 p1 x1 r1 => k (!c) G1 H1 p1 x1 r1⟩
/-- as values; all but the last are truth values -/
def zmu (Ta Tb : DTE) : DTE := fun η G Q => Ta η G fun d G1 => match d with
  | .bl c => if c = true then Tb η G1 Q else Q (.bl false) G1
  | _ => False
def dOrV (Ta Tb : DTE) : DTE := fun η G Q => Ta η G fun d G1 => match d with
  | .bl c => if c = true then Q (.bl true) G1 else Tb η G1 Q
  | _ => False
def zrp (Ta : DTE) : DTE := fun η G Q => Ta η G fun d G1 => match d with
  | .bl c => Q (.bl (!c)) G1
  | _ => False
theorem z0f [Bs] {op : BoolOp} {a : Expr} {T : DTE} {pos : Pos} (h : PED X a T) : PED X (.BoolOp op [a] pos) T := pe_one h
theorem zq6 [Bs] {a b : Expr} {rest : List Expr} {Ta Tb : DTE} {pos : Pos} (ha : PED X a Ta) (hb : PED X (.BoolOp .And (b :: rest) pos) Tb) : PED X (.BoolOp .And (a :: b :: rest) pos) (zmu Ta Tb) :=
  PE.impI (pe_and ha hb) fun _ _ σ H Q _ ⟨η, G, P, hs, hr, t, k⟩ => ⟨η, G, _, hs, hr, t, fun d G1 v H1 p1 x1 r1 q1 => by
    cases d with
    | bl c =>
      rw [VR] at q1
      refine ⟨c, q1, ?_⟩
      by_cases hc : c = true
      · subst hc
        have p1 : Tb η G1 P := by simpa using p1
        rw [if_pos rfl]
        exact ⟨η, G1, P, hs.ext hr x1, r1, p1, fun d G2 v H2 p2 x2 r2 q => k d G2 v H2 p2 (x1.trans x2) r2 q⟩
      · have p1 : P (.bl false) G1 := by simpa [hc] using p1
        rw [if_neg hc]
        exact k _ G1 _ H1 p1 x1 r1 (by rw [VR])
    | _ => exact p1.elim⟩
theorem zaca [Bs] {a : Expr} {Ta : DTE} {pos : Pos} (ha : PED X a Ta) : PED X (.UnaryOp .Not a pos) (zrp Ta) :=
  PE.impI (pe_not ha) fun _ _ σ H Q _ ⟨η, G, P, hs, hr, t, k⟩ => ⟨η, G, _, hs, hr, t, fun d G1 v H1 p1 x1 r1 q1 => by
    cases d with
    | bl c =>
      rw [VR] at q1
      exact ⟨c, q1, k _ G1 _ H1 p1 x1 r1 (by rw [VR])⟩
    | _ => exact p1.elim⟩
def dIf (t : DTT) (Ta Tb : DTE) : DTE := fun η G Q => t η G fun c G1 => if c = true then Ta η G1 Q else Tb η G1 Q
theorem z4c [Bs] {c a b : Expr} {t : DTT} {Ta Tb : DTE} {pos : Pos} (hc : PTD X c t) (ha : PED X a Ta) (hb : PED X b Tb) : PED X (.IfExp c a b pos) (dIf t Ta Tb) :=
  PE.impI (pe_ifExp hc ha hb) fun _ _ σ H Q _ ⟨η, G, P, hs, hr, t, k⟩ => ⟨η, G, _, hs, hr, t, fun c G1 H1 p1 x1 r1 => by
    by_cases hc : c = true
    · subst hc
      rw [if_pos rfl] at p1 ⊢
      exact ⟨η, G1, P, hs.ext hr x1, r1, p1, fun d G2 v H2 p2 x2 r2 q => k d G2 v H2 p2 (x1.trans x2) r2 q⟩
    · rw [if_neg hc] at p1 ⊢
      exact ⟨η, G1, P, hs.ext hr x1, r1, p1, fun d G2 v H2 p2 x2 r2 q => k d G2 v H2 p2 (x1.trans x2) r2 q⟩⟩
def zdh : DTS := fun F η G => F.nx η G
def dSeq (t u : DTS) : DTS := fun F η G => t { F with nx := u F } η G
theorem zan [Bs] : PSsD X [] zdh := PSs.impI pss_nil fun _ _ σ H E _ ⟨η, G, F, hs, hr, t, k⟩ => k.nx η G σ H t (.refl _ _) hs hr
theorem zg [Bs] {st : Stmt} {rest : List Stmt} {t u : DTS} (h1 : PSD X st t) (h2 : PSsD X rest u) : PSsD X (st :: rest) (dSeq t u) :=
  PSs.impI (pss_cons h1 h2) fun _ _ σ H E _ ⟨η, G, F, hs, hr, t, k⟩ => ⟨η, G, _, hs, hr, t,
    ⟨fun η' G' σ' H' p x s r => ⟨η', G', F, s, r, p, k.ext x⟩, k.rt, k.bk, k.ct⟩⟩
theorem zh [Bs] {st : Stmt} {t : DTS} (h1 : PSD X st t) : PSsD X [st] t := pss_one h1
def zn9 : DTS := fun F η G => F.bk η G
def zqk : DTS := fun F η G => F.ct η G
theorem zt7 [Bs] {pos} : PSD X (.Continue pos) zqk := PS.impI ps_continue fun _ _ σ H E _ ⟨η, G, F, hs, hr, t, k⟩ => k.ct η G σ H t (.refl _ _) hs hr
def zhu (T : DTE) : DTS := fun F η G => T η G fun _ G1 => F.nx η G1
theorem zdp [Bs] {e : Expr} {T : DTE} {pos : Pos} (he : PED X e T) (hs : swapsWith e none pos.line X.env = pure false := by rfl) : PSD X (.Expr e pos) (zhu T) :=
  PS.impI (ps_expr he hs) fun _ _ σ H E _ ⟨η, G, F, hs, hr, t, k⟩ => ⟨η, G, _, hs, hr, t, fun d G1 v H1 p1 x1 r1 q1 => k.nx η G1 σ H1 p1 x1 (hs.ext hr x1) r1⟩
def dRet (T : DTE) : DTS := fun F η G => T η G F.rt
theorem zak [Bs] {e : Expr} {T : DTE} {pos : Pos} (he : PED X e T) : PSD X (.Return (some e) pos) (dRet T) :=
  PS.impI (ps_ret he) fun _ _ σ H E _ ⟨η, G, F, hs, hr, t, k⟩ => ⟨η, G, _, hs, hr, t, fun d G1 v H1 p1 x1 r1 q1 => k.rt d G1 v H1 p1 x1 r1 q1⟩
theorem Inv.fz {pins : List (Addr × Obj)} {σ : L2.St} {H : Hp} {G : DHp} {s : Shared} {p : Addr} {o : DO} (I : Inv X pins σ H s) (hr : HR X.ml H G) (h : G p = some o) : ∃ H', Fz H H' p o ∧ Inv X pins σ H' s := by
  have q := hr p o h
  cases o with
  | lst ds => exact ⟨H, rfl, I⟩
  | ins C fs => exact ⟨H, rfl, I⟩
  | rw es ep kvs => exact ⟨H, rfl, I⟩
  | dK kvs =>
    obtain ⟨ws, e, _⟩ := q
    obtain ⟨od, I'⟩ := I.lock e trivial
    exact ⟨_, ⟨_, od, e, trivial, rfl⟩, I'⟩
  | dN kvs => exact ⟨H, rfl, I⟩
/-- what is made is changed no more -/
def dFz (T : DTE) : DTE := fun η G Q => T η G fun d G1 => match d with
  | .ref a => match G1 a with
    | some o => Q o.tree (dl G1 a)
    | none => False
  | d => Q d G1
theorem zbs [Bs] {e : Expr} {T : DTE} (h : PED X e T) : PED X e (dFz T) := ⟨fun pins s σ H Q I ⟨η, G, P, hs, hr, t, k⟩ => by
  refine thn (h.run pins s σ H (fun v H1 => ∃ d G1, (match d with | .ref a => (match G1 a with | some o => P o.tree (dl G1 a) | none => False) | d => P d G1) ∧ Ext H G H1 G1 ∧ HR X.ml H1 G1 ∧ VR X.ml H1 G1 d v) I ⟨η, G, _, hs, hr, t, fun d G1 v H1 p x r q => ⟨d, G1, p, x, r, q⟩⟩) fun u s1 ⟨v, H1, I1, rv, d, G1, p, x, r, q⟩ => ?_
  cases d with
  | ref a =>
    rw [VR] at q
    subst q
    cases e : G1 a with
    | none =>
      have p : (match G1 a with | some o => P o.tree (dl G1 a) | none => False) := p
      rw [e] at p; exact p.elim
    | some o =>
      have p : (match G1 a with | some o => P o.tree (dl G1 a) | none => False) := p
      rw [e] at p
      obtain ⟨H2, f, I2⟩ := Inv.fz I1 r e
      obtain ⟨t1, t2, t3⟩ := r.tree e f
      exact ⟨_, H2, I2, rv, k _ _ _ _ p (x.trans t2) t3 t1⟩
  | _ => exact ⟨v, H1, I1, rv, k _ G1 v H1 p x r q⟩⟩
def zpu (T : DTE) : DTS := dRet (dFz T)
theorem z0k [Bs] {e : Expr} {T : DTE} {pos : Pos} (he : PED X e T) : PSD X (.Return (some e) pos) (zpu T) := zak (zbs he)
def zuv : DTS := fun F _ G => F.rt .non G
def dIfS (c : DTT) (t u : DTS) : DTS := fun F η G => c η G fun b G1 => if b = true then t F η G1 else u F η G1
theorem zco [Bs] {c : Expr} {a b : List Stmt} {tc : DTT} {t u : DTS} {pos : Pos} (hc : PTD X c tc) (ha : PSsD X a t) (hb : PSsD X b u) : PSD X (.If c a b pos) (dIfS tc t u) :=
  PS.impI (ps_if hc ha hb) fun _ _ σ H E _ ⟨η, G, F, hs, hr, t, k⟩ => ⟨η, G, _, hs, hr, t, fun c G1 H1 p1 x1 r1 => by
    by_cases hc : c = true
    · subst hc
      rw [if_pos rfl] at p1 ⊢
      exact ⟨η, G1, F, hs.ext hr x1, r1, p1, k.ext x1⟩
    · rw [if_neg hc] at p1 ⊢
      exact ⟨η, G1, F, hs.ext hr x1, r1, p1, k.ext x1⟩⟩
def zn8 : DTS := fun _ _ _ => False
theorem zi1 [Bs] {st : Stmt} : PSD X st zn8 := PS.impI ps_never fun _ _ σ H E _ ⟨η, G, F, hs, hr, t, k⟩ => t
def zk (i : Nat) : DTG := fun d η G Q => Q (η.set i (some d)) G
theorem zaak (σ : L2.St) (i : Nat) (o : Option V) : wipe (σ.set i o) [i] = wipe σ [i] := by
  unfold wipe wipe
  rw [List.set_set]
theorem zj [Bs] {i : Nat} {x : Str} {pos : Pos} (hN : X.N.Nodup) (hi : X.N[i]? = some x) (hx : Loc X.env.scope x) (hf : X.fn x = true ∨ X.env.scope.names.lookup x = some .local := by first | exact .inl rfl | exact .inr rfl | assumption) : PGD X (.Name x pos) [i] (zk i) :=
  PG.impI (pg_name hN hi hx hf) fun _ _ σ H v Q _ ⟨d, η, G, P, q, hs, hr, t, k⟩ => k _ G _ H t (.refl _ _) (hs.set i q) hr (zaak _ _ _)
def zgc : DTGs := fun ds η G Q => match ds with
  | [] => Q η G
  | _ => False
def zam (t : DTG) (u : DTGs) : DTGs := fun ds η G Q => match ds with
  | d :: r => t d η G fun η' G' => u r η' G' Q
  | [] => False
theorem zch [Bs] : PGsD X [] [] zgc := PGs.impI pgs_nil fun _ _ σ H vs Q _ ⟨ds, η, G, P, q, hs, hr, t, k⟩ => by
  cases ds with
  | nil => exact ⟨q.nil_of, k η G σ H t (.refl _ _) hs hr rfl⟩
  | cons d ds => exact t.elim
theorem z0s (σ : L2.St) (js : List Nat) : ∀ is : List Nat, wipe σ (is ++ js) = wipe (wipe σ js) is
  | [] => rfl
  | i :: is => by
    show (wipe σ (is ++ js)).set i none = (wipe (wipe σ js) is).set i none
    rw [z0s σ js is]
theorem zyo (σ : L2.St) (i : Nat) : ∀ js : List Nat, wipe (σ.set i none) js = (wipe σ js).set i none
  | [] => rfl
  | j :: js => by
    show (wipe (σ.set i none) js).set j none = ((wipe σ js).set j none).set i none
    rw [zyo σ i js]
    by_cases h : i = j
    · subst h; rfl
    · rw [List.set_comm _ _ h]
theorem zwk (σ : L2.St) (js : List Nat) : ∀ is : List Nat, wipe (wipe σ js) is = wipe (wipe σ is) js
  | [] => rfl
  | i :: is => by
    show (wipe (wipe σ js) is).set i none = wipe ((wipe σ is).set i none) js
    rw [zwk σ js is, zyo]
theorem z6r {a b c : L2.St} {is js : List Nat} (h1 : wipe b is = wipe a is) (h2 : wipe c js = wipe b js) : wipe c (is ++ js) = wipe a (is ++ js) := by
  rw [z0s, z0s, h2, zwk b, h1, zwk]
theorem zo [Bs] {e : Expr} {es : List Expr} {is js : List Nat} {t : DTG} {u : DTGs} (h1 : PGD X e is t) (h2 : PGsD X es js u)
    (hs : (assignEach (e :: es) X.env).map (·.2) = assign e X.env :: (assignEach es X.env).map (·.2) := by rfl) : PGsD X (e :: es) (is ++ js) (zam t u) :=
  PGs.impI (pgs_cons h1 h2 hs) fun _ _ σ H vs Q _ ⟨ds, η, G, P, q, hs, hr, t, k⟩ => by
    cases ds with
    | nil => exact t.elim
    | cons d ds =>
      obtain ⟨v, r, rfl, q1, q2⟩ := q.uncons
      exact ⟨v, r, rfl, d, η, G, _, q1, hs, hr, t, fun η1 G1 σ1 H1 p1 x1 s1 r1 w1 => ⟨ds, η1, G1, P, q2.ext hr x1, s1, r1, p1, fun η2 G2 σ2 H2 p2 x2 s2 r2 w2 => k η2 G2 σ2 H2 p2 (x1.trans x2) s2 r2 (z6r w1 w2)⟩⟩
def zgd (t : DTGs) (n : Nat) : DTG := fun d η G Q => match d with
  | .nd .tup ds => ds.length = n ∧ t ds η G Q
  | _ => False
theorem zdy [Bs] {es : List Expr} {is : List Nat} {k : Nat} {t : DTGs} {n : Nat} {pos : Pos} (hc : X.calm = true) (h : PGsD X es is t)
    (hn : (assignEach es X.env).length = n := by rfl) (hst : (assignEach es X.env).findIdx? (·.1) = none := by rfl) : PGD X (.Tuple es k pos) is (zgd t n) :=
  PG.impI (pg_tup hc h hn hst) fun _ _ σ H v Q _ ⟨d, η, G, P, q, hs, hr, t, k⟩ => by
    cases d with
    | nd kd ds =>
      cases kd with
      | tup =>
        rw [VR] at q
        obtain ⟨a, vs, rfl, hh, q⟩ := q
        obtain ⟨hl, t⟩ := t
        exact ⟨a, vs, rfl, hh, q.length.trans hl, ds, η, G, P, q, hs, hr, t, k⟩
      | _ => exact t.elim
    | _ => exact t.elim
def dAsg (T : DTE) (g : DTG) : DTS := fun F η G => T η G fun d G1 => g d η G1 F.nx
theorem zj6 [Bs] {tg e : Expr} {T : DTE} {is : List Nat} {g : DTG} {pos : Pos} (he : PED X e T) (hg : PGD X tg is g) (hs : swapsWithSole [tg] e pos.line X.env = pure false := by rfl) (hw : swappedStores [tg] e X.env = pure none := by rfl)
    (h1 : (assignEach [tg] X.env).map (·.2) = [assign tg X.env] := by rfl) : PSD X (.Assign [tg] e pos) (dAsg T g) :=
  PS.impI (ps_asg he hg hs hw h1) fun _ _ σ H E _ ⟨η, G, F, hs, hr, t, k⟩ => ⟨η, G, _, hs, hr, t, fun d G1 v H1 p1 x1 r1 q1 =>
    ⟨d, η, G1, _, q1, hs.ext hr x1, r1, p1, fun η2 G2 σ2 H2 p2 x2 s2 r2 w2 => k.nx η2 G2 σ2 H2 p2 (x1.trans x2) s2 r2⟩⟩
theorem zbu [Bs] {i : Nat} {x : Str} {e : Expr} {T : DTE} {pos pos' : Pos} (hN : X.N.Nodup) (hi : X.N[i]? = some x) (hx : Loc X.env.scope x) (he : PED X e T) (hs : swapsWith e (some (.Name x pos')) pos.line X.env = pure false := by rfl) (hf : X.fn x = true ∨ X.env.scope.names.lookup x = some .local := by first | exact .inl rfl | exact .inr rfl | assumption) :
    PSD X (.Assign [.Name x pos'] e pos) (dAsg T (zk i)) :=
  PS.impI (ps_set hN hi hx he hs hf) fun _ _ σ H E _ ⟨η, G, F, hs, hr, t, k⟩ => ⟨η, G, _, hs, hr, t, fun d G1 v H1 p1 x1 r1 q1 =>
    k.nx _ G1 _ H1 p1 x1 ((hs.ext hr x1).set i q1) r1⟩
/-- a, b = x, y -/
def dPar (i j : Nat) (T : DTA) : DTS := fun F η G => T η G fun ds G1 => match ds with
  | [d, e] => F.nx ((η.set i (some d)).set j (some e)) G1
  | _ => False
theorem zvk [Bs] {i j : Nat} {x y : Str} {a b : Expr} {T : DTA} {px py pt pos : Pos} {kt k2 pt2} (hc : X.calm = true) (hN : X.N.Nodup) (hi : X.N[i]? = some x) (hj : X.N[j]? = some y) (hij : i ≠ j)
    (hx : X.env.scope.names.lookup x = some .local) (hy : X.env.scope.names.lookup y = some .local) (ha : PAD X [a, b] T)
    (hw : swappedStores [.Tuple [.Name x px, .Name y py] kt pt] (.Tuple [a, b] k2 pt2) X.env = pure (some [x, y]))
    (hs : swapsWithSole [.Tuple [.Name x px, .Name y py] kt pt] (.Tuple [a, b] k2 pt2) pos.line X.env = pure false := by rfl) :
    PSD X (.Assign [.Tuple [.Name x px, .Name y py] kt pt] (.Tuple [a, b] k2 pt2) pos) (dPar i j T) :=
  PS.impI (ps_par hc hN hi hj hij hx hy ha hw hs) fun _ _ σ H E _ ⟨η, G, F, hs, hr, t, k⟩ => ⟨η, G, _, hs, hr, t, fun ds G1 vs H1 p1 x1 r1 q1 => by
    match ds, p1, q1 with
    | [d, e], p1, q1 =>
      obtain ⟨v, r, rfl, a1, q2⟩ := q1.uncons
      obtain ⟨w, r', rfl, a2, q3⟩ := q2.uncons
      rw [q3.nil_of]
      exact ⟨v, w, rfl, k.nx _ G1 _ H1 p1 x1 (((hs.ext hr x1).set i a1).set j a2) r1⟩
    | [], p1, _ => exact p1.elim
    | [_], p1, _ => exact p1.elim
    | _ :: _ :: _ :: _, p1, _ => exact p1.elim⟩
/-- the object in a slot is changed no more -/
def dFrz (i : Nat) (t : DTS) : DTS := fun F η G => match η[i]? with
  | some (some (.ref a)) => match G a with
    | some o => t F (η.set i (some o.tree)) (dl G a)
    | none => False
  | _ => False
theorem zde [Bs] {sts : List Stmt} {t : DTS} (i : Nat) (h : PSsD X sts t) : PSsD X sts (dFrz i t) := ⟨fun pins s σ H E I ⟨η, G, F, hs, hr, t, k⟩ => by
    unfold dFrz at t
    split at t
    · rename_i a e
      split at t
      · rename_i o ho
        obtain ⟨v, q, r⟩ := hs.2 i _ e
        rw [VR] at r
        subst r
        obtain ⟨H2, f, I2⟩ := Inv.fz I hr ho
        obtain ⟨t1, t2, t3⟩ := hr.tree ho f
        have s2 : SR X.ml H2 (dl G a) σ (η.set i (some o.tree)) := by
          have z := (hs.ext hr t2).set i t1
          have e2 : σ.set i (some (V.ref a)) = σ := by
            refine List.ext_getElem? fun j => ?_
            by_cases hj : i = j
            · subst hj
              rw [List.getElem?_set_self (List.getElem?_eq_some_iff.mp q).1, q]
            · rw [List.getElem?_set_ne hj]
          rw [e2] at z; exact z
        exact h.run pins s σ H2 E I2 ⟨_, _, F, s2, t3, t, k.ext t2⟩
      · exact t.elim
    · exact t.elim⟩
end
end DL
namespace DL
open PySem PySem.Spec PyProof.Rows L2
abbrev DTI := DSt → DHp → (List D → (DHp → Prop) → DHp → Prop) → Prop
/-- the walk J gives the items ds, as long as ok holds -/
def ItD (K : Ml) (H1 : Hp) (G1 : DHp) (J : It) (ds : List D) (ok : DHp → Prop) : Prop :=
  ∀ i H G, Ext H1 G1 H G → HR K H G → ok G →
    (∀ d, ds[i]? = some d → J.go i H ∧ ∀ x H', J.yld i H x H' → Ext H G H' G ∧ HR K H' G ∧ VR K H' G d x) ∧ (ds.length ≤ i → J.stop i H)
def zabw [Bs] (K : Ml) (T : DTI) : TI := fun σ H R => ∃ η G P, SR K H G σ η ∧ HR K H G ∧ T η G P ∧
  ∀ ds ok G' J H', P ds ok G' → Ext H G H' G' → HR K H' G' → ItD K H' G' J ds ok → R J H'
abbrev PID [Bs] (X : Cx) (tg it : Expr) (T : DTI) : Prop := PI X tg it (zabw X.ml T)
def zdd : DHp → Prop := fun _ => True
section
variable {X : Cx} {tg : Expr}
theorem Itl.itD {K : Ml} {H1 : Hp} {G1 : DHp} {a : Addr} {ds : List D} {ok : DHp → Prop} (h : ∀ H G, Ext H1 G1 H G → HR K H G → ok G → ∃ vs, SqL K.K H a vs ∧ VRs K H G ds vs) : ItD K H1 G1 (Itl K.K a) ds ok := by
  intro i H G x r o
  obtain ⟨vs, q, v⟩ := h H G x r o
  refine ⟨fun d e => ?_, fun l => ⟨vs, q, by rw [v.length]; exact l⟩⟩
  obtain ⟨u, e2, q2⟩ := v.get e
  refine ⟨⟨vs, u, q, e2⟩, fun y H' ⟨e3, e4⟩ => ?_⟩
  subst e3
  have e5 := e4 vs q
  rw [e2] at e5; cases e5
  exact ⟨.refl _ _, r, q2⟩
theorem Itt.itD {K : Ml} {H1 : Hp} {G1 : DHp} {a : Addr} {ds : List D} {ok : DHp → Prop} (h : ∀ H G, Ext H1 G1 H G → HR K H G → ok G → ∃ vs, SqT K.K H a vs ∧ VRs K H G ds vs) : ItD K H1 G1 (Itt K.K a) ds ok := by
  intro i H G x r o
  obtain ⟨vs, q, v⟩ := h H G x r o
  refine ⟨fun d e => ?_, fun l => ⟨vs, q, by rw [v.length]; exact l⟩⟩
  obtain ⟨u, e2, q2⟩ := v.get e
  refine ⟨⟨vs, u, q, e2⟩, fun y H' ⟨e3, e4⟩ => ?_⟩
  subst e3
  have e5 := e4 vs q
  rw [e2] at e5; cases e5
  exact ⟨.refl _ _, r, q2⟩
/-- a list or a tuple -/
def zb5 (T : DTE) : DTI := fun η G R => T η G fun d G1 => match d with
  | .nd .tup ds => R ds zdd G1
  | .nd .lst ds => R ds zdd G1
  | .nd .scr ds => R ds zdd G1
  | .ref a => (match G1 a with
    | some (.lst ds) => R ds (fun G => G a = some (.lst ds)) G1
    | _ => False)
  | _ => False
theorem zeo {K : Ml} {H : Hp} {G : DHp} {k : Kd} {a : Addr} {vs : List V} (h : Held K H G k a vs) (hk : k = .lst ∨ k = .scr) : SqL K.K H a vs := by
  rcases hk with rfl | rfl
  · exact .inl (.inl h.2)
  · rcases h with ⟨o, h⟩ | h
    · exact .inl (.inr ⟨o, h⟩)
    · exact .inr h
theorem zb8 [Bs] {l : Expr} {T : DTE} (hl : PED X l T) : PID X tg l (zb5 T) := by
  refine ⟨fun pins s σ H R I ⟨η, G, P, hs, hr, t, k⟩ => ?_⟩
  refine thn (hl.run pins s σ H (fun v H1 => ∃ d G1, (match d with
    | .nd .tup ds => P ds zdd G1
    | .nd .lst ds => P ds zdd G1
    | .nd .scr ds => P ds zdd G1
    | .ref a => (match G1 a with
      | some (.lst ds) => P ds (fun G => G a = some (.lst ds)) G1
      | _ => False)
    | _ => False) ∧ Ext H G H1 G1 ∧ HR X.ml H1 G1 ∧ VR X.ml H1 G1 d v) I ⟨η, G, _, hs, hr, t, fun d G1 v H1 p x r q => ⟨d, G1, p, x, r, q⟩⟩) fun u s1 ⟨v, H1, I1, rv, d, G1, p, x, r, q⟩ => ?_
  have doL : ∀ (a : Addr) (ds : List D) (ok : DHp → Prop), v = .ref a → P ds ok G1 → ok G1 → (∀ H G, Ext H1 G1 H G → HR X.ml H G → ok G → ∃ vs, SqL X.K H a vs ∧ VRs X.ml H G ds vs) →
      wpAny (model X.prog X.w) X.A (pyIter u) (PIE X pins σ tg R) X.xe s1 := by
    intro a ds ok e p1 o1 hh
    subst e
    cases rv
    obtain ⟨vs, hq, _⟩ := hh H1 G1 (.refl _ _) r o1
    have hp : PI X tg (.Constant .none 0 ⟨0, 0, 0, 0⟩) (fun σ H R => R (Itl X.K a) H) → True := fun _ => trivial
    obtain ⟨its, rv2, p2, hz⟩ := I1.list hq
    refine wpAny_pyIter_list p2.isList ?_
    refine ⟨s1.heap.objs.size, [s1.heap.objs.size], _, _, H1, rfl, I1.kept (t' := s1.toks) fun b o e => Heap.get?_push_of_some _ e, turn_list a _, ⟨_, Heap.get?_push_size _ rfl, rfl, rfl⟩, fun b hb => ?_, k ds ok G1 _ H1 p1 x r (Itl.itD hh)⟩
    have e : b = s1.heap.objs.size := by simpa using hb
    subst e
    exact I1.fpOk (Nat.le_refl _) (I1.hok.fresh (Nat.le_refl _))
  cases d with
  | nd kd ds =>
    cases kd with
    | tup =>
      rw [VR] at q
      obtain ⟨a, vs, rfl, hq, vr⟩ := q
      cases rv
      obtain ⟨its, rv2, p2, hz⟩ := I1.tuple hq
      refine wpAny_pyIter_tuple (show s1.heap.IsTuple a its.toArray from p2) ?_
      refine ⟨s1.heap.objs.size, [s1.heap.objs.size], _, _, H1, rfl, I1.kept (t' := s1.toks) fun b o e => Heap.get?_push_of_some _ e, turn_tuple a _, ⟨_, Heap.get?_push_size _ rfl, rfl, rfl⟩, fun b hb => ?_,
        k ds zdd G1 _ H1 p x r (Itt.itD fun H' G' x' r' _ => ⟨vs, Held.ext (k := .tup) r x' hq, vr.ext r x'⟩)⟩
      have e : b = s1.heap.objs.size := by simpa using hb
      subst e
      exact I1.fpOk (Nat.le_refl _) (I1.hok.fresh (Nat.le_refl _))
    | lst =>
      rw [VR] at q
      obtain ⟨a, vs, e, hq, vr⟩ := q
      exact doL a ds zdd e p trivial fun H' G' x' r' _ => ⟨vs, zeo (hq.ext r x') (.inl rfl), vr.ext r x'⟩
    | scr =>
      rw [VR] at q
      obtain ⟨a, vs, e, hq, vr⟩ := q
      exact doL a ds zdd e p trivial fun H' G' x' r' _ => ⟨vs, zeo (hq.ext r x') (.inr rfl), vr.ext r x'⟩
    | _ => exact p.elim
  | ref a =>
    rw [VR] at q
    cases e : G1 a with
    | none =>
      have p : (match G1 a with | some (.lst ds) => P ds (fun G => G a = some (.lst ds)) G1 | _ => False) := p
      rw [e] at p; exact p.elim
    | some o =>
      have p : (match G1 a with | some (.lst ds) => P ds (fun G => G a = some (.lst ds)) G1 | _ => False) := p
      rw [e] at p
      cases o with
      | lst ds => exact doL a ds _ q p e fun H' G' x' r' o => let ⟨vs, z, w⟩ := r' a _ o; ⟨vs, .inl (.inl z), w⟩
      | _ => exact p.elim
  | _ => exact p.elim
/-- lo, lo + 1, .. below hi -/
def ze9 (lo hi : Int) : List Int := (List.range (hi - lo).toNat).map fun (k : Nat) => lo + (k : Int)
theorem Itr.itD {K : Ml} {H1 : Hp} {G1 : DHp} {lo hi : Int} : ItD K H1 G1 (Itr lo (hi - lo).toNat) ((ze9 lo hi).map D.int) zdd := by
  intro i H G x r o
  have hl : ((ze9 lo hi).map D.int).length = (hi - lo).toNat := by simp [ze9]
  refine ⟨fun d e => ?_, fun l => by rw [hl] at l; exact l⟩
  have hi' : i < (hi - lo).toNat := by rw [← hl]; exact (List.getElem?_eq_some_iff.mp e).1
  refine ⟨hi', fun y H' ⟨e3, e4⟩ => ?_⟩
  subst e3 e4
  refine ⟨.refl _ _, r, ?_⟩
  have : d = D.int (lo + (i : Int)) := by
    simp only [ze9, List.map_map, List.getElem?_map, List.getElem?_range hi', Option.map_some, Function.comp, Option.some.injEq] at e
    exact e.symm
  subst this
  rw [VR]
def ze7 (T : DTA) : DTI := fun η G R => T η G fun ds G1 => match ds with
  | [.int j] => (-(2 ^ 62) ≤ j ∧ j < 2 ^ 62) ∧ R ((ze9 0 j).map D.int) zdd G1
  | _ => False
theorem zhi [Bs] {a : Expr} {T : DTA} {p pos : Pos} (hm : X.mg "range" = none) (ha : PAD X [a] T) (hg : Gl X "range" := by rfl) (hs : starEach [a] X.env = [(false, eval a X.env)] := by rfl) : PID X tg (.Call (.Name "range" p) [a] [] pos) (ze7 T) := by
  refine ⟨fun pins s σ H R I ⟨η, G, P, hs', hr, t, k⟩ => (pi_range1 hg hm ha hs).run pins s σ H R I ⟨η, G, _, hs', hr, t, fun ds G1 vs H1 p x r q => ?_⟩⟩
  match ds, p, q with
  | [.int j], ⟨⟨h1, h2⟩, p⟩, q =>
    obtain ⟨v, w, rfl, q1, q2⟩ := q.uncons
    rw [VR] at q1; subst q1
    rw [q2.nil_of]
    refine ⟨j, rfl, h1, h2, ?_⟩
    have := k _ zdd G1 (Itr 0 (j - 0).toNat) H1 p x r Itr.itD
    simpa using this
/-- what is known may be less -/
def Wk (W : DSt → DHp → Prop) : DSt → DHp → Prop := fun η G => ∃ η0, Le η0 η ∧ W η0 G
def dFor (wi : DTI) (g : DTG) (tb : DTS) : DTS := fun F η G => wi η G fun ds ok G1 => ∃ W : Nat → DSt → DHp → Prop, W 0 η G1 ∧ (∀ i η G, W i η G → ok G) ∧
  (∀ i d η G, ds[i]? = some d → W i η G → g d η G fun η2 G2 => tb { F with nx := Wk (W (i + 1)), ct := Wk (W (i + 1)), bk := F.nx } η2 G2) ∧ ∀ η G, W ds.length η G → F.nx η G
theorem zdm [Bs] {iter : Expr} {body : List Stmt} {wi : DTI} {is : List Nat} {g : DTG} {tb : DTS} {pos : Pos} (hp : PassesOwn (model X.prog X.w) X.A X.env X.xe) (hc : X.calm = true) (hi : PID X tg iter wi) (hg : PGD X tg is g) (hb : PSsD X body tb)
    (hs : ∀ x, foldedSetIterable iter X.env x = pure x := by intro _; rfl) : PSD X (.For tg iter body [] pos) (dFor wi g tb) :=
  PS.impI (ps_for hp hc hi hg hb hs) fun _ _ σ H E _ ⟨η, G, F, hs, hr, t, k⟩ => ⟨η, G, _, hs, hr, t, fun ds ok G1 J H1 p x r it => by
    obtain ⟨W, w0, wok, step, fin⟩ := p
    refine ⟨fun i m σ' H' => m = ds.length - i ∧ i ≤ ds.length ∧ ∃ η' G', W i η' G' ∧ Ext H1 G1 H' G' ∧ SR X.ml H' G' σ' η' ∧ HR X.ml H' G',
      ⟨ds.length, by simp, Nat.zero_le _, η, G1, w0, .refl _ _, hs.ext hr x, r⟩, ?_⟩
    rintro i m σ1 H2 ⟨rfl, hle, η1, G2, w1, x1, s1, r1⟩
    obtain ⟨a1, a2⟩ := it i H2 G2 x1 r1 (wok _ _ _ w1)
    by_cases hlt : i < ds.length
    · have e : ds[i]? = some ds[i] := by simp [hlt]
      obtain ⟨go, yl⟩ := a1 _ e
      refine .inr ⟨go, fun σ' H' => ∃ η' G', Wk (W (i + 1)) η' G' ∧ Ext H1 G1 H' G' ∧ SR X.ml H' G' σ' η' ∧ HR X.ml H' G', fun σ' H' ⟨η', G', ⟨η0, l, w⟩, x', s', r'⟩ => ⟨_, by omega, rfl, hlt, η0, G', w, x', s'.le l, r'⟩, fun y H3 hy => ?_⟩
      obtain ⟨x3, r3, v3⟩ := yl y H3 hy
      refine ⟨_, η1, G2, _, v3, s1.ext r1 x3, r3, step i _ η1 G2 e w1, fun η4 G4 σ4 H4 p4 x4 s4 r4 _ => ⟨η4, G4, _, s4, r4, p4, ?_⟩⟩
      have x5 : Ext H1 G1 H4 G4 := (x1.trans x3).trans x4
      exact ⟨fun η' G' σ' H' p y s r => ⟨η', G', p, x5.trans y, s, r⟩, fun d G' v H' p y r q => k.rt d G' v H' p ((x.trans x5).trans y) r q, fun η' G' σ' H' p y s r => k.nx η' G' σ' H' p ((x.trans x5).trans y) s r,
        fun η' G' σ' H' p y s r => ⟨η', G', p, x5.trans y, s, r⟩⟩
    · have e : i = ds.length := by omega
      subst e
      exact .inl ⟨a2 (Nat.le_refl _), k.nx η1 G2 σ1 H2 (fin _ _ w1) (x.trans x1) s1 r1⟩⟩
def zv0 (c : DTT) (tb : DTS) : DTS := fun F η G => ∃ W : Nat → DSt → DHp → Prop, (∃ m, W m η G) ∧ ∀ m η G, W m η G →
  c η G fun b G1 => if b = true then tb { F with nx := fun η' G' => ∃ m', m' < m ∧ Wk (W m') η' G', ct := fun η' G' => ∃ m', m' < m ∧ Wk (W m') η' G', bk := F.nx } η G1 else F.nx η G1
theorem zry [Bs] {c : Expr} {body : List Stmt} {tc : DTT} {tb : DTS} {pos : Pos} (hp : PassesOwn (model X.prog X.w) X.A X.env X.xe) (hc : PTD X c tc) (hb : PSsD X body tb) : PSD X (.While c body [] pos) (zv0 tc tb) :=
  PS.impI (ps_while hp hc hb) fun _ _ σ H E _ ⟨η, G, F, hs, hr, t, k⟩ => by
    obtain ⟨W, ⟨m0, w0⟩, step⟩ := t
    refine ⟨fun m σ' H' => ∃ η' G', W m η' G' ∧ Ext H G H' G' ∧ SR X.ml H' G' σ' η' ∧ HR X.ml H' G', ⟨m0, η, G, w0, .refl _ _, hs, hr⟩, ?_⟩
    rintro m σ1 H1 ⟨η1, G1, w1, x1, s1, r1⟩
    refine ⟨η1, G1, _, s1, r1, step m η1 G1 w1, fun b G2 H2 p2 x2 r2 => ?_⟩
    cases b with
    | true =>
      rw [if_pos rfl] at p2 ⊢
      refine ⟨fun σ' H' => ∃ m', m' < m ∧ ∃ η' G', Wk (W m') η' G' ∧ Ext H G H' G' ∧ SR X.ml H' G' σ' η' ∧ HR X.ml H' G', fun σ' H' ⟨m', hm, η', G', ⟨η0, l, w⟩, x', s', r'⟩ => ⟨m', hm, η0, G', w, x', s'.le l, r'⟩, ?_⟩
      refine ⟨η1, G2, _, s1.ext r1 x2, r2, p2, ?_⟩
      have x3 := x1.trans x2
      exact ⟨fun η' G' σ' H' ⟨m', hm, p⟩ y s r => ⟨m', hm, η', G', p, x3.trans y, s, r⟩, fun d G' v H' p y r q => k.rt d G' v H' p (x3.trans y) r q, fun η' G' σ' H' p y s r => k.nx η' G' σ' H' p (x3.trans y) s r,
        fun η' G' σ' H' ⟨m', hm, p⟩ y s r => ⟨m', hm, η', G', p, x3.trans y, s, r⟩⟩
    | false =>
      rw [if_neg Bool.false_ne_true] at p2 ⊢
      exact k.nx η1 G2 σ1 H2 p2 (x1.trans x2) (s1.ext r1 x2) r2
end
def zjv (η : DSt) : List Nat → DSt
  | [] => η
  | v :: vs => (zjv η vs).set v none
section
variable {X : Cx} {tg : Expr}
theorem SR.wipe [Bs] {K : Ml} {H : Hp} {G : DHp} {σ : L2.St} {η : DSt} (h : SR K H G σ η) : ∀ vs : List Nat, SR K H G (wipe σ vs) (zjv η vs)
  | [] => h
  | v :: vs => SR.none (SR.wipe h vs) v Option.none
/-- a clause's tests -/
abbrev PTsD [Bs] (X : Cx) (ifs : List Expr) (T : DTT) : Prop := PTs X ifs (z50 X.ml T)
def dYes : DTT := fun _ G Q => Q true G
theorem zem [Bs] : PTsD X [] dYes := ⟨fun pins s σ H Q I ⟨η, G, P, hs, hr, t, k⟩ => pts_nil.run pins s σ H Q I (k true G H t (.refl _ _) hr)⟩
theorem zkf [Bs] {c : Expr} {T : DTT} (h : PTD X c T) : PTsD X [c] T := pts_one h
/-- [elt for tg in iter if ..] -/
def dLc (wi : DTI) (g : DTG) (tt : DTT) (te : DTE) (own : List Nat) : DTE := fun η G Q => wi η G fun ds ok G1 => ∀ p, G1 p = none → ∃ W : Nat → List D → DHp → Prop, W 0 [] (up G1 p (.lst [])) ∧ (∀ i acc G, W i acc G → ok G ∧ G p = some (.lst acc)) ∧
  (∀ i d acc G, ds[i]? = some d → W i acc G → g d (zjv η own) G fun η2 G2 => tt η2 G2 fun b G3 => if b = true then te η2 G3 fun y G4 => acc.length < sizeLine ∧ G4 p = some (.lst acc) ∧ W (i + 1) (acc ++ [y]) (up G4 p (.lst (acc ++ [y]))) else W (i + 1) acc G3) ∧
  ∀ acc G, W ds.length acc G → Q (.ref p) G
theorem z4t {a b : L2.St} {is vs : List Nat} (h : wipe b is = wipe a is) (hl : ∀ i ∈ is, i ∈ vs) (ha : a.length = b.length) : wipe b vs = wipe a vs := by
  have get : ∀ (σ : L2.St) (vs : List Nat) (j : Nat), (wipe σ vs)[j]? = if j ∈ vs then (if j < σ.length then some none else none) else σ[j]? := by
    intro σ vs j
    induction vs with
    | nil => simp [wipe]
    | cons v vs ih =>
      unfold wipe
      by_cases hj : v = j
      · subst hj
        by_cases hlt : v < σ.length
        · rw [List.getElem?_set_self (by rw [wipe_length]; exact hlt)]
          simp [hlt]
        · rw [List.getElem?_eq_none (by rw [List.length_set, wipe_length]; omega)]
          simp [hlt]
      · rw [List.getElem?_set_ne hj, ih]
        have : j ≠ v := Ne.symm hj
        simp [this]
  refine List.ext_getElem? fun j => ?_
  rw [get, get]
  by_cases hj : j ∈ vs
  · simp [hj, ha]
  · have hi : j ∉ is := fun q => hj (hl j q)
    have e := congrArg (fun l => l[j]?) h
    simp only [get, hi, if_false] at e
    simp [hj, e]
theorem z1l (σ : L2.St) (own : List Nat) : wipe (wipe σ own) own = wipe σ own := by
  refine List.ext_getElem? fun j => ?_
  by_cases hj : j ∈ own
  · have h1 : ∀ (vs : List Nat) (s : L2.St), j ∈ vs → (wipe s vs)[j]? = if j < s.length then some none else none := by
      intro vs s hm
      induction vs with
      | nil => cases hm
      | cons v vs ih =>
        unfold wipe
        by_cases e : v = j
        · subst e
          by_cases hlt : v < s.length
          · rw [List.getElem?_set_self (by rw [wipe_length]; exact hlt), if_pos hlt]
          · rw [List.getElem?_eq_none (by rw [List.length_set, wipe_length]; omega), if_neg hlt]
        · rw [List.getElem?_set_ne e, ih ((List.mem_cons.mp hm).resolve_left fun q => e q.symm)]
    rw [h1 own _ hj, h1 own _ hj, wipe_length]
  · rw [wipe_out hj]
theorem z7t [Bs] {K : Ml} {wi : DTI} {g : DTG} {tt : DTT} {te : DTE} {own is : List Nat} {σ : L2.St} {H : Hp} {Q : VK} (hsub : ∀ i ∈ is, i ∈ own) (h : zqy K (dLc wi g tt te own) σ H Q) :
    tLc (zabw K wi) (zabv K is g) (z50 K tt) (zqy K te) own σ H Q := by
  obtain ⟨η, G, P, hs, hr, t, k⟩ := h
  refine ⟨η, G, _, hs, hr, t, fun ds ok G1 J H1 pp x r it => ?_⟩
  intro D hD
  have gD : G1 D = none := r.free hD
  obtain ⟨W, w0, wok, step, fin⟩ := pp D gD
  have xD : Ext H1 G1 (upd H1 D (.lst [])) (up G1 D (.lst [])) := .new hD
  have rD : HR K (upd H1 D (.lst [])) (up G1 D (.lst [])) := r.new hD ⟨[], upd_same, .nil⟩
  refine ⟨fun i m H' => m = ds.length - i ∧ i ≤ ds.length ∧ ∃ acc G', W i acc G' ∧ Ext H1 G1 H' G' ∧ HR K H' G',
    ⟨ds.length, by simp, Nat.zero_le _, [], _, w0, xD, rD⟩, ?_⟩
  rintro i m H2 ⟨rfl, hle, acc, G2, w1, x1, r1⟩
  obtain ⟨a1, a2⟩ := it i H2 G2 x1 r1 (wok _ _ _ w1).1
  by_cases hlt : i < ds.length
  · have e : ds[i]? = some ds[i] := by simp [hlt]
    obtain ⟨go, yl⟩ := a1 _ e
    refine .inr ⟨go, fun H' => ∃ acc G', W (i + 1) acc G' ∧ Ext H1 G1 H' G' ∧ HR K H' G', fun H' ⟨acc', G', z⟩ => ⟨_, by omega, rfl, hlt, acc', G', z⟩, fun y H3 hy => ?_⟩
    obtain ⟨x3, r3, v3⟩ := yl y H3 hy
    have s3 : SR K H3 G2 (wipe σ own) (zjv η own) := ((hs.ext hr x).ext r (x1.trans x3)).wipe own
    refine ⟨_, zjv η own, G2, _, v3, s3, r3, step i _ acc G2 e w1, fun η4 G4 σ4 H4 p4 x4 s4 r4 wp => ⟨?_, η4, G4, _, s4, r4, p4, fun b G5 H5 p5 x5 r5 => ?_⟩⟩
    · have hlen : (wipe σ own).length = σ4.length := by
        have := congrArg List.length wp
        rw [wipe_length, wipe_length] at this
        exact this.symm
      rw [z4t (vs := own) wp hsub hlen]
      exact z1l _ _
    · by_cases hb : b = true
      · subst hb
        rw [if_pos rfl] at p5 ⊢
        refine ⟨η4, G5, _, s4.ext r4 x5, r5, p5, fun dy G6 vy H6 ⟨hz, hp6, w6⟩ x6 r6 q6 => ?_⟩
        obtain ⟨vs, hv6, ha⟩ := r6 D _ hp6
        have xx : Ext H2 G2 H6 G6 := ((x3.trans x4).trans x5).trans x6
        have xw : Ext H6 G6 (upd H6 D (.lst (vs ++ [vy]))) (up G6 D (.lst (acc ++ [dy]))) := .write hp6
        refine ⟨vs, hv6, by rw [ha.length]; exact hz, acc ++ [dy], _, w6, (x1.trans xx).trans xw, r6.write hp6 ⟨_, upd_same, ?_⟩⟩
        exact (ha.ext r6 xw).append (.cons (q6.ext r6 xw) .nil)
      · rw [if_neg hb] at p5 ⊢
        exact ⟨acc, G5, p5, x1.trans ((x3.trans x4).trans x5), r5⟩
  · have e : i = ds.length := by omega
    subst e
    exact .inl ⟨a2 (Nat.le_refl _), k (.ref D) G2 (.ref D) H2 (fin _ _ w1) (x.trans x1) r1 (by rw [VR])⟩
theorem zhy [Bs] {elt tg iter : Expr} {ifs : List Expr} {scope : Scope} {own : List (Str × Nat)} {is : List Nat} {pos : Pos} {wi : DTI} {g : DTG} {tt : DTT} {te : DTE} (hc : X.calm = true) (hN : X.N.Nodup) (hi : PID X tg iter wi) (ok : BlkOk X.N X.env.scope scope own)
    (hg : ∀ (s : Shared) (H : Hp) (C : Addr) (cl : List (Str × Addr)) (fp : List Addr), PGD (X.blk s H scope (compEnvC scope cl C X.env) fp) tg is g) (ht : ∀ (s : Shared) (H : Hp) (C : Addr) (cl : List (Str × Addr)) (fp : List Addr), PTsD (X.blk s H scope (compEnvC scope cl C X.env) fp) ifs tt)
    (he : ∀ (s : Shared) (H : Hp) (C : Addr) (cl : List (Str × Addr)) (fp : List Addr), PED (X.blk s H scope (compEnvC scope cl C X.env) fp) elt te) (hsub : ∀ i ∈ is, i ∈ own.map (·.2) := by decide) (hs : ∀ x, foldedSetIterable iter X.env x = pure x := by intro _; rfl) :
    PED X (.ListComp elt [⟨tg, iter, ifs, 0⟩] scope pos) (dLc wi g tt te (own.map (·.2))) :=
  PE.impI (pe_lc hc hN hi ok hg ht he hs) fun _ _ _ _ _ _ h => z7t hsub h
/-- name = [..] on one line -/
theorem zrn [Bs] {i : Nat} {y : Str} {py : Pos} {elt tg iter : Expr} {ifs : List Expr} {scope : Scope} {own : List (Str × Nat)} {is : List Nat} {pos spos : Pos} {wi : DTI} {g : DTG} {tt : DTT} {te : DTE} (hc : X.calm = true) (hN : X.N.Nodup) (hy : X.N[i]? = some y) (hyl : X.env.scope.names.lookup y = some .local)
    (hsw : swapsWith (.ListComp elt [⟨tg, iter, ifs, 0⟩] scope pos) (some (.Name y py)) spos.line X.env = pure true) (hi : PID X tg iter wi) (ok : BlkOk X.N X.env.scope scope own)
    (hg : ∀ (s : Shared) (H : Hp) (C : Addr) (cl : List (Str × Addr)) (fp : List Addr), PGD (X.blk s H scope (compEnvC scope cl C X.env) fp) tg is g) (ht : ∀ (s : Shared) (H : Hp) (C : Addr) (cl : List (Str × Addr)) (fp : List Addr), PTsD (X.blk s H scope (compEnvC scope cl C X.env) fp) ifs tt)
    (he : ∀ (s : Shared) (H : Hp) (C : Addr) (cl : List (Str × Addr)) (fp : List Addr), PED (X.blk s H scope (compEnvC scope cl C X.env) fp) elt te) (hsub : ∀ i ∈ is, i ∈ own.map (·.2) := by decide) (hs : ∀ x, foldedSetIterable iter X.env x = pure x := by intro _; rfl) :
    PSD X (.Assign [.Name y py] (.ListComp elt [⟨tg, iter, ifs, 0⟩] scope pos) spos) (dAsg (dLc wi g tt te (own.map (·.2))) (zk i)) :=
  PS.impI (ps_setLc hc hN hy hyl hsw hi ok hg ht he hs) fun _ _ σ H E _ ⟨η, G, F, hs, hr, t, k⟩ =>
    show tLc _ _ _ _ _ σ H _ from z7t hsub ⟨η, G, _, hs, hr, t, fun d G1 v H1 p1 x1 r1 q1 => k.nx _ G1 _ H1 p1 x1 ((hs.ext hr x1).set i q1) r1⟩
end
end DL
namespace DL
open PySem PySem.Spec PyProof.Rows L2
mutual
def py : D → PyData
  | .non => .none
  | .bl b => .bool b
  | .int i => .int i
  | .str x => .str x
  | .ty _ => .none
  | .ref _ => .none
  | .nd .tup ds => .tuple (pys ds)
  | .nd .lst ds => .list (pys ds)
  | .nd .scr ds => .list (pys ds)
  | .nd _ _ => .none
def pys : List D → List PyData
  | [] => []
  | d :: ds => py d :: pys ds
end
mutual
def zek : D → Bool
  | .non => true
  | .bl _ => true
  | .int _ => true
  | .str _ => true
  | .nd .tup ds => plainDs ds
  | .nd .lst ds => plainDs ds
  | .nd .scr ds => plainDs ds
  | _ => false
def plainDs : List D → Bool
  | [] => true
  | d :: ds => zek d && plainDs ds
end
section
variable {K : Ml} {H : Hp} {G : DHp}
mutual
theorem VR.dp : ∀ {d : D} {v : V}, VR K H G d v → zek d = true → Dp K.K H v (py d)
  | .non, _, h, _ => by rw [VR] at h; subst h; exact .non
  | .bl _, _, h, _ => by rw [VR] at h; subst h; exact .bl _
  | .int _, _, h, _ => by rw [VR] at h; subst h; exact .int _
  | .str _, _, h, _ => by rw [VR] at h; subst h; exact .str _
  | .ty _, _, _, p => by simp [zek] at p
  | .ref _, _, _, p => by simp [zek] at p
  | .nd .tup ds, _, h, p => by
    rw [VR] at h
    obtain ⟨a, vs, rfl, q, r⟩ := h
    rw [py]
    exact .tup q (VRs.dp r (by rw [zek] at p; exact p))
  | .nd .lst ds, _, h, p => by
    rw [VR] at h
    obtain ⟨a, vs, rfl, q, r⟩ := h
    rw [py]
    exact .lst (zeo q (.inl rfl)) (VRs.dp r (by rw [zek] at p; exact p))
  | .nd .scr ds, _, h, p => by
    rw [VR] at h
    obtain ⟨a, vs, rfl, q, r⟩ := h
    rw [py]
    exact .lst (zeo q (.inr rfl)) (VRs.dp r (by rw [zek] at p; exact p))
  | .nd (.ins _ _) ds, _, _, p => by simp [zek] at p
  | .nd (.dK _) ds, _, _, p => by simp [zek] at p
  | .nd (.dN _) ds, _, _, p => by simp [zek] at p
theorem VRs.dp : ∀ {ds : List D} {vs : List V}, VRs K H G ds vs → plainDs ds = true → DpAll K.K H vs (pys ds)
  | [], _, h, _ => by rw [h.nil_of, pys]; exact .nil
  | d :: ds, _, h, p => by
    obtain ⟨v, r, rfl, q, t⟩ := h.uncons
    rw [plainDs, Bool.and_eq_true] at p
    rw [pys]
    exact .cons (VR.dp q p.1) (VRs.dp t p.2)
end
/-- what is read at a value: a tracked list by its items -/
def der (d : D) (G : DHp) : D := match d with
  | .ref a => (match G a with
    | some (.lst ds) => .nd .lst ds
    | _ => .ref a)
  | d => d
theorem ztb {a : Addr} {G : DHp} : der (.ref a) G = (match G a with | some (.lst ds) => .nd .lst ds | _ => .ref a) := rfl
theorem zsd {a : Addr} {G : DHp} {ds : List D} (h : G a = some (.lst ds)) : der (.ref a) G = .nd .lst ds := by rw [ztb, h]
theorem zuf (hr : HR K H G) {d : D} {v : V} (h : VR K H G d v) (p : zek (der d G) = true) : Dp K.K H v (py (der d G)) := by
  cases d with
  | ref a =>
    rw [VR] at h
    subst h
    rw [ztb] at p ⊢
    cases e : G a with
    | none => rw [e] at p; simp [zek] at p
    | some o =>
      cases o with
      | lst ds =>
        rw [e] at p
        simp only at p ⊢
        obtain ⟨vs, q, r⟩ := hr a _ e
        rw [py]
        exact .lst (.inl (.inl q)) (r.dp (by rw [zek] at p; exact p))
      | _ => rw [e] at p; simp [zek] at p
  | _ => exact h.dp p
/-- a list, whatever way it is held -/
theorem zo4 (hr : HR K H G) {d : D} {v : V} {ds : List D} (h : VR K H G d v) (e : der d G = .nd .lst ds) : ∃ a vs, v = .ref a ∧ H a = some (.lst vs) ∧ VRs K H G ds vs := by
  cases d with
  | ref a =>
    rw [VR] at h
    subst h
    rw [ztb] at e
    cases g : G a with
    | none => rw [g] at e; cases e
    | some o =>
      cases o with
      | lst ds' =>
        rw [g] at e
        simp only [D.nd.injEq, true_and] at e
        subst e
        obtain ⟨vs, q, r⟩ := hr a _ g
        exact ⟨a, vs, rfl, q, r⟩
      | _ => rw [g] at e; cases e
  | nd k ds' =>
    have e : D.nd k ds' = .nd .lst ds := e
    cases e
    rw [VR] at h
    obtain ⟨a, vs, rfl, q, r⟩ := h
    exact ⟨a, vs, rfl, q.2, r⟩
  | _ => cases e
end
section
variable {X : Cx}
/-- an operator by cases -/
theorem zoy {f : Value → Value → Sem Value} {r : DR2} (h : ∀ pins s σ H G x y v u dx dy P, Inv X pins σ H s → RelV x v → RelV y u → HR X.ml H G → VR X.ml H G dx x → VR X.ml H G dy y → r dx dy G P →
    wpAny (model X.prog X.w) X.A (f v u) (fun w s' => ∃ z d H' G', Inv X pins σ H' s' ∧ RelV z w ∧ P d G' ∧ Ext H G H' G' ∧ HR X.ml H' G' ∧ VR X.ml H' G' d z) X.xe s) : OpD X f r := by
  intro pins s σ H x y v u Q I rx ry ⟨dx, dy, G, P, hr, q1, q2, t, k⟩
  exact thn (h pins s σ H G x y v u dx dy P I rx ry hr q1 q2 t) fun w s' ⟨z, d, H', G', I', rz, p, x', r', q'⟩ => ⟨z, H', I', rz, k d G' z H' p x' r' q'⟩
/-- the end where nothing is made -/
theorem zb4 {pins : List (Addr × Obj)} {σ : L2.St} {H : Hp} {G : DHp} {s : Shared} {P : D → DHp → Prop} {d : D} {z : V} {w : Value} (I : Inv X pins σ H s) (rz : RelV z w) (hr : HR X.ml H G) (q : VR X.ml H G d z) (p : P d G) :
    ∃ z d H' G', Inv X pins σ H' s ∧ RelV z w ∧ P d G' ∧ Ext H G H' G' ∧ HR X.ml H' G' ∧ VR X.ml H' G' d z := ⟨z, d, H, G, I, rz, p, .refl _ _, hr, q⟩
def i2 (C : Int → Int → Prop) (g : Int → Int → D) : DR2 := fun x y G Q => match x, y with
  | .int i, .int j => C i j ∧ Q (g i j) G
  | _, _ => False
theorem z0z {f : Value → Value → Sem Value} {C : Int → Int → Prop} {g : Int → Int → D} {gv : Int → Int → V} (hg : ∀ i j H G, VR X.ml H G (g i j) (gv i j)) (h : OpR X f (rI C gv)) : OpD X f (i2 C g) := zoy fun pins s σ H G x y v u dx dy P I rx ry hr q1 q2 t => by
  unfold i2 at t
  split at t
  · rename_i i j
    rw [VR] at q1 q2
    subst q1 q2
    refine thn (h pins s σ H _ _ v u (fun z H' => z = gv i j ∧ H' = H) I rx ry ⟨i, j, rfl, rfl, t.1, rfl, rfl⟩) fun w s' ⟨z, H', I', rz, e1, e2⟩ => ?_
    subst e1 e2
    exact zb4 I' rz hr (hg i j H' G) t.2
  · exact t.elim
theorem zafd {f : Value → Value → Sem Value} {g : Int → Int → V} (h : OpR X f (rI0 g)) : OpR X f (rI (fun _ _ => True) g) := fun pins s σ H x y v u Q I rx ry ⟨i, j, e1, e2, _, q⟩ => h pins s σ H x y v u Q I rx ry ⟨i, j, e1, e2, q⟩
theorem zeq : OpD X (binaryOp .Sub) (i2 (fun _ _ => True) fun i j => .int (i - j)) := z0z (fun _ _ _ _ => by rw [VR]) (zafd op_sub)
theorem zpw : OpD X (binaryOp .Mult) (i2 CMul fun i j => .int (i * j)) := z0z (fun _ _ _ _ => by rw [VR]) op_mul
/-- a divisor below 2 ^ 30 -/
theorem z2w : OpD X (binaryOp .FloorDiv) (i2 CDiv fun i j => .int (i / j)) := z0z (fun _ _ _ _ => by rw [VR]) op_fdiv
theorem zwq : OpD X (binaryOp .Mod) (i2 (fun _ j => 0 < j) fun i j => .int (i % j)) := z0z (fun _ _ _ _ => by rw [VR]) op_mod
theorem z5v : OpD X (binaryOp .Pow) (i2 CPow fun i j => .int (i ^ j.toNat)) := z0z (fun _ _ _ _ => by rw [VR]) op_pow
/-- + of ints, texts, tuples, lists (a new list that is changed no more) -/
def dAdd : DR2 := fun x y G Q => match der x G, der y G with
  | .int i, .int j => Q (.int (i + j)) G
  | .str a, .str b => a.length + b.length ≤ sizeLine ∧ Q (.str (a ++ b)) G
  | .nd .tup xs, .nd .tup ys => xs.length + ys.length ≤ sizeLine ∧ Q (.nd .tup (xs ++ ys)) G
  | .nd .lst xs, .nd .lst ys => xs.length + ys.length ≤ sizeLine ∧ Q (.nd .lst (xs ++ ys)) G
  | _, _ => False
theorem zob {G : DHp} {x d : D} (e : der x G = d) (hl : ∀ ds, d ≠ .nd .lst ds) : x = d := by
  cases x with
  | ref a =>
    rw [ztb] at e
    cases g : G a with
    | none => rw [g] at e; exact e
    | some o =>
      cases o with
      | lst ds => rw [g] at e; exact absurd e.symm (hl ds)
      | _ => rw [g] at e; exact e
  | _ => exact e
theorem zd4 : OpD X (binaryOp .Add) dAdd := zoy fun pins s σ H G x y v u dx dy P I rx ry hr q1 q2 t => by
  unfold dAdd at t
  split at t
  · rename_i i j e1 e2
    have e1 := zob e1 (fun _ h => nomatch h)
    have e2 := zob e2 (fun _ h => nomatch h)
    subst e1 e2
    rw [VR] at q1 q2
    subst q1 q2
    obtain ⟨t1, rfl⟩ := rx
    obtain ⟨t2, rfl⟩ := ry
    exact add_int (zb4 (z := .int (i + j)) (I.tok _) ⟨_, rfl⟩ hr (by rw [VR]) t)
  · rename_i i j e1 e2
    have e1 := zob e1 (fun _ h => nomatch h)
    have e2 := zob e2 (fun _ h => nomatch h)
    subst e1 e2
    rw [VR] at q1 q2
    subst q1 q2
    exact thn (op_add_str pins s σ H _ _ v u (fun z H' => z = .str (i ++ j) ∧ H' = H) I rx ry ⟨i, j, rfl, rfl, t.1, rfl, rfl⟩) fun w s' ⟨z, H', I', rz, e1, e2⟩ => by
      subst e1 e2
      exact zb4 I' rz hr (by rw [VR]) t.2
  · rename_i xs ys e1 e2
    have e1 := zob e1 (fun _ h => nomatch h)
    have e2 := zob e2 (fun _ h => nomatch h)
    subst e1 e2
    rw [VR] at q1 q2
    obtain ⟨a, vs, rfl, h1, r1⟩ := q1
    obtain ⟨b, ws, rfl, h2, r2⟩ := q2
    refine thn (op_catA pins s σ H _ _ v u (fun z H' => Ext H G H' G ∧ HR X.ml H' G ∧ VR X.ml H' G (.nd .tup (xs ++ ys)) z) I rx ry ⟨a, b, vs, ws, rfl, rfl, h1, h2, by rw [r1.length, r2.length]; exact t.1, fun e => ?_, fun _ e => ?_, fun _ _ p hp => ?_⟩) fun w s' ⟨z, H', I', rz, x', r', q'⟩ => ⟨z, _, H', G, I', rz, t.2, x', r', q'⟩
    · have : xs = [] := by have := r1.length; rw [e] at this; exact List.length_eq_zero_iff.mp this.symm
      subst this
      refine ⟨.refl _ _, hr, ?_⟩
      rw [VR]
      exact ⟨b, ws, rfl, h2, r2⟩
    · have : ys = [] := by have := r2.length; rw [e] at this; exact List.length_eq_zero_iff.mp this.symm
      subst this
      refine ⟨.refl _ _, hr, ?_⟩
      rw [VR, List.append_nil]
      exact ⟨a, vs, rfl, h1, r1⟩
    · have x2 : Ext H G (upd H p (.tup (vs ++ ws))) G := .laid hp
      refine ⟨x2, hr.laid hp, ?_⟩
      rw [VR]
      exact ⟨p, _, rfl, .inl (.inl upd_same), (r1.append r2).ext hr x2⟩
  · rename_i xs ys e1 e2
    obtain ⟨a, vs, rfl, h1, r1⟩ := zo4 hr q1 e1
    obtain ⟨b, ws, rfl, h2, r2⟩ := zo4 hr q2 e2
    refine thn (op_cat pins s σ H _ _ v u (fun z H' => Ext H G H' G ∧ HR X.ml H' G ∧ VR X.ml H' G (.nd .lst (xs ++ ys)) z) I rx ry ⟨a, b, vs, ws, rfl, rfl, h1, h2, by rw [r1.length, r2.length]; exact t.1, fun p hp => ?_⟩) fun w s' ⟨z, H', I', rz, x', r', q'⟩ => ⟨z, _, H', G, I', rz, t.2, x', r', q'⟩
    have x2 : Ext H G (upd H p (.lst (vs ++ ws))) G := .laid hp
    refine ⟨x2, hr.laid hp, ?_⟩
    rw [VR]
    exact ⟨p, _, rfl, ⟨hr.free hp, upd_same⟩, (r1.append r2).ext hr x2⟩
  · exact t.elim
/-- equality of plain data -/
def dEq : DR2 := fun x y G Q => (zek (der x G) = true ∧ zek (der y G) = true ∧ SeqAt.shaped (py (der x G)) = true ∧ SeqAt.shaped (py (der y G)) = true) ∧ Q (.bl (PyData.eqv (py (der x G)) (py (der y G)))) G
def dNe : DR2 := fun x y G Q => (zek (der x G) = true ∧ zek (der y G) = true ∧ SeqAt.shaped (py (der x G)) = true ∧ SeqAt.shaped (py (der y G)) = true) ∧ Q (.bl (!PyData.eqv (py (der x G)) (py (der y G)))) G
theorem ztw (hu : X.A.units + 64 < cLine) : OpD X (compareOp .Eq) dEq := zoy fun pins s σ H G x y v u dx dy P I rx ry hr q1 q2 ⟨⟨p1, p2, s1, s2⟩, t⟩ =>
  thn (op_eqD hu pins s σ H _ _ v u (fun z H' => z = .bl (PyData.eqv (py (der dx G)) (py (der dy G))) ∧ H' = H) I rx ry ⟨_, _, zuf hr q1 p1, zuf hr q2 p2, s1, s2, rfl, rfl⟩) fun w s' ⟨z, H', I', rz, e1, e2⟩ => by
    subst e1 e2
    exact zb4 I' rz hr (by rw [VR]) t
theorem zrh (hu : X.A.units + 64 < cLine) : OpD X (compareOp .NotEq) dNe := zoy fun pins s σ H G x y v u dx dy P I rx ry hr q1 q2 ⟨⟨p1, p2, s1, s2⟩, t⟩ =>
  thn (op_neD hu pins s σ H _ _ v u (fun z H' => z = .bl (!PyData.eqv (py (der dx G)) (py (der dy G))) ∧ H' = H) I rx ry ⟨_, _, zuf hr q1 p1, zuf hr q2 p2, s1, s2, rfl, rfl⟩) fun w s' ⟨z, H', I', rz, e1, e2⟩ => by
    subst e1 e2
    exact zb4 I' rz hr (by rw [VR]) t
/-- an order of plain data -/
def dOrd (g : PyData → PyData → Bool) : DR2 := fun x y G Q => (zek x = true ∧ zek y = true ∧ PySem.W.alike (py x) (py y) = true ∧ py x ≠ .none ∧ (py x).depth ≤ 64) ∧ Q (.bl (g (py x) (py y))) G
abbrev dLt : DR2 := dOrd PySem.W.dataLt
abbrev dLe : DR2 := dOrd fun a b => !PySem.W.dataLt b a
abbrev dGt : DR2 := dOrd fun a b => PySem.W.dataLt b a
abbrev dGe : DR2 := dOrd fun a b => !PySem.W.dataLt a b
theorem z5m {f : Value → Value → Sem Value} {g : PyData → PyData → Bool} (hu : X.A.units + 64 < cLine)
    (h : ∀ {s : Shared} {a b : Value} {da db : PyData} {as bs : List Addr} {Q : Value → Shared → Prop}, Reads s.heap a da as → Reads s.heap b db bs → PySem.W.alike da db = true → da ≠ .none → X.A.units + min da.depth db.depth < cLine → Q (.bool (g da db)) s → wpAny (model X.prog X.w) X.A (f a b) Q X.xe s) : OpD X f (dOrd g) :=
  zoy fun pins s σ H G x y v u dx dy P I rx ry hr q1 q2 ⟨⟨p1, p2, al, nn, dp⟩, t⟩ => by
    obtain ⟨as, r1⟩ := Dp.reads I _ _ v (q1.dp p1) rx
    obtain ⟨bs, r2⟩ := Dp.reads I _ _ u (q2.dp p2) ry
    exact h r1 r2 al nn (by have := Nat.min_le_left (py dx).depth (py dy).depth; omega) (zb4 (z := .bl _) I rfl hr (by rw [VR]) t)
theorem z02 (hu : X.A.units + 64 < cLine) : OpD X (compareOp .Lt) dLt := z5m hu fun r1 r2 h n u q => PySem.W.lt_data r1 r2 h n u q
theorem zsg (hu : X.A.units + 64 < cLine) : OpD X (compareOp .LtE) dLe := z5m hu fun r1 r2 h n u q => PySem.W.le_data r1 r2 h n u q
theorem z3r (hu : X.A.units + 64 < cLine) : OpD X (compareOp .Gt) dGt := z5m hu fun r1 r2 h n u q => PySem.W.gt_data r1 r2 h n u q
theorem zaee (hu : X.A.units + 64 < cLine) : OpD X (compareOp .GtE) dGe := z5m hu fun r1 r2 h n u q => PySem.W.ge_data r1 r2 h n u q
/-- is None -/
def zac9 : D → Bool
  | .non => true
  | _ => false
def dIsN (b : Bool) : DR2 := fun x y G Q => match y with
  | .non => Q (.bl (b != zac9 x)) G
  | _ => False
theorem zacj {K : Ml} {H : Hp} {G : DHp} {d : D} {v : V} (h : VR K H G d v) : zac9 d = decide (v = .non) := by
  cases d with
  | nd k ds => rw [VR] at h; obtain ⟨a, vs, rfl, _⟩ := h; rfl
  | _ => rw [VR] at h; subst h; rfl
theorem z45 : OpD X (compareOp .IsNot) (dIsN true) := zoy fun pins s σ H G x y v u dx dy P I rx ry hr q1 q2 t => by
  cases dy with
  | non =>
    rw [VR] at q2; subst q2
    refine thn (op_notN pins s σ H _ _ v u (fun z H' => z = .bl (!decide (x = .non)) ∧ H' = H) I rx ry ⟨rfl, rfl, rfl⟩) fun w s' ⟨z, H', I', rz, e1, e2⟩ => ?_
    subst e1 e2
    refine zb4 I' rz hr (d := .bl (!decide (x = .non))) (by rw [VR]) ?_
    rw [← zacj q1]
    have t : P (.bl (true != zac9 dx)) G := t
    simpa using t
  | _ => exact t.elim
end
end DL
namespace DL
open PySem PySem.Spec PyProof.Rows L2
def dicN (y : D) (G : DHp) : Option (List (NestedKey × D)) := match y with
  | .nd (.dN ks) vs => some (ks.zip vs)
  | .ref a => (match G a with
    | some (.dN kvs) => some kvs
    | _ => none)
  | _ => none
def dicK (y : D) (G : DHp) : Option (List (Key × D)) := match y with
  | .nd (.dK ks) vs => some (ks.zip vs)
  | .ref a => (match G a with
    | some (.dK kvs) => some kvs
    | _ => none)
  | _ => none
def D.kK : D → Option Key
  | .int i => some (.inl i)
  | .str x => some (.inr x)
  | _ => none
/-- what stands at a key -/
def dval {κ : Type} [DecidableEq κ] (kvs : List (κ × D)) (k : κ) : Option D := (kvs.find? fun p => decide (p.1 = k)).map (·.2)
/-- d[k] = v -/
def dput {κ : Type} [DecidableEq κ] (kvs : List (κ × D)) (k : κ) (v : D) : List (κ × D) :=
  if kvs.any fun p => decide (p.1 = k) then kvs.map fun p => if p.1 = k then (p.1, v) else p else kvs ++ [(k, v)]
theorem zo0 {α β : Type} : ∀ {l : List α} {m : List β}, l.length = m.length → (l.zip m).map (·.1) = l
  | [], _, _ => rfl
  | _ :: _, [], h => by simp at h
  | a :: l, b :: m, h => by simp [zo0 (l := l) (m := m) (by simpa using h)]
theorem z0w {α β : Type} : ∀ {l : List α} {m : List β}, l.length = m.length → (l.zip m).map (·.2) = m
  | [], [], _ => rfl
  | [], _ :: _, h => by simp at h
  | _ :: _, [], h => by simp at h
  | a :: l, b :: m, h => by simp [z0w (l := l) (m := m) (by simpa using h)]
section
variable {K : Ml} {H : Hp} {G : DHp}
theorem zqv (hr : HR K H G) {d : D} {v : V} {kvs : List (NestedKey × D)} (h : VR K H G d v) (e : dicN d G = some kvs) : ∃ a ws, v = .ref a ∧ DnAt K H a (kvs.map (·.1)) ws ∧ VRs K H G (kvs.map (·.2)) ws := by
  cases d with
  | ref a =>
    rw [VR] at h
    have e : (match G a with | some (.dN kvs) => some kvs | _ => none) = some kvs := e
    cases g : G a with
    | none => rw [g] at e; cases e
    | some o =>
      cases o with
      | dN kvs' =>
        rw [g] at e
        cases e
        obtain ⟨ws, q, r⟩ := hr a _ g
        exact ⟨a, ws, h, q, r⟩
      | _ => rw [g] at e; cases e
  | nd k ds =>
    cases k with
    | dN ks =>
      cases e
      rw [VR] at h
      obtain ⟨a, vs, ev, ⟨_, q⟩, r⟩ := h
      have hl : ks.length = ds.length := by
        obtain ⟨xs, _, _, _, _, _, h4, _, _, _, h8⟩ := id q
        rw [← r.length, h8.length, ← h4, List.length_map, List.length_map]
      exact ⟨a, vs, ev, by rw [zo0 hl]; exact q, by rw [z0w hl]; exact r⟩
    | _ => cases e
  | _ => cases e
theorem zqw (hr : HR K H G) {d : D} {v : V} {kvs : List (Key × D)} (h : VR K H G d v) (e : dicK d G = some kvs) : ∃ a ws, v = .ref a ∧ Rd H a (.dK ws) ∧ ws.map (·.1) = kvs.map (·.1) ∧ VRs K H G (kvs.map (·.2)) (ws.map (·.2)) := by
  cases d with
  | ref a =>
    rw [VR] at h
    have e : (match G a with | some (.dK kvs) => some kvs | _ => none) = some kvs := e
    cases g : G a with
    | none => rw [g] at e; cases e
    | some o =>
      cases o with
      | dK kvs' =>
        rw [g] at e
        cases e
        obtain ⟨ws, q, z, r⟩ := hr a _ g
        exact ⟨a, ws, h, .inl q, z, r⟩
      | _ => rw [g] at e; cases e
  | nd k ds =>
    cases k with
    | dK ks =>
      cases e
      rw [VR] at h
      obtain ⟨a, vs, ev, ⟨l, o, q⟩, r⟩ := h
      have hl : ks.length = ds.length := by rw [l, r.length]
      exact ⟨a, ks.zip vs, ev, .inr ⟨o, q⟩, by rw [zo0 l, zo0 hl], by rw [z0w l, z0w hl]; exact r⟩
    | _ => cases e
  | _ => cases e
/-- the values found by keys are the same -/
theorem zw0 {κ : Type} [DecidableEq κ] (k : κ) : ∀ {ws : List (κ × V)} {kvs : List (κ × D)}, ws.map (·.1) = kvs.map (·.1) → VRs K H G (kvs.map (·.2)) (ws.map (·.2)) → (dval kvs k = none ∧ valV ws k = none) ∨ ∃ d v, dval kvs k = some d ∧ valV ws k = some v ∧ VR K H G d v
  | [], [], _, _ => .inl ⟨rfl, rfl⟩
  | [], _ :: _, h, _ => by simp at h
  | _ :: _, [], h, _ => by simp at h
  | (k1, v) :: ws, (k2, d) :: kvs, h, r => by
    simp only [List.map_cons, List.cons.injEq] at h
    obtain ⟨h1, h2⟩ := h
    subst h1
    obtain ⟨v', r', e, q, t⟩ := VRs.uncons r
    simp only [List.map_cons, List.cons.injEq] at e
    obtain ⟨rfl, rfl⟩ := e
    by_cases hk : k1 = k
    · exact .inr ⟨d, v, by simp [dval, hk], by simp [valV, hk], q⟩
    · have := zw0 k h2 t
      simpa [dval, valV, hk] using this
mutual
theorem zt8 : ∀ {d : D} {v : V} {k : NestedKey}, VR K H G d v → D.key d = some k → zgb K H k v
  | .non, _, _, h, e => by rw [D.key] at e; cases e; rw [VR] at h; rw [zgb]; exact h
  | .bl _, _, _, h, e => by simp [D.key] at e
  | .int _, _, _, h, e => by rw [D.key] at e; cases e; rw [VR] at h; rw [zgb]; exact h
  | .str _, _, _, h, e => by rw [D.key] at e; cases e; rw [VR] at h; rw [zgb]; exact h
  | .ty _, _, _, h, e => by simp [D.key] at e
  | .ref _, _, _, h, e => by simp [D.key] at e
  | .nd .tup ds, _, _, h, e => by
    rw [D.key] at e
    cases q : D.keys ds with
    | none => rw [q] at e; cases e
    | some ks =>
      rw [q] at e
      cases e
      rw [VR] at h
      obtain ⟨a, vs, rfl, hh, r⟩ := h
      rw [zgb]
      exact ⟨a, vs, rfl, hh, keys_at r q⟩
  | .nd .lst _, _, _, h, e => by simp [D.key] at e
  | .nd .scr _, _, _, h, e => by simp [D.key] at e
  | .nd (.ins _ _) _, _, _, h, e => by simp [D.key] at e
  | .nd (.dK _) _, _, _, h, e => by simp [D.key] at e
  | .nd (.dN _) _, _, _, h, e => by simp [D.key] at e
theorem keys_at : ∀ {ds : List D} {vs : List V} {ks : List NestedKey}, VRs K H G ds vs → D.keys ds = some ks → KeysAt K H ks vs
  | [], _, _, h, e => by rw [D.keys] at e; cases e; rw [KeysAt]; exact h.nil_of
  | d :: ds, _, _, h, e => by
    obtain ⟨v, r, rfl, q, t⟩ := h.uncons
    rw [D.keys] at e
    cases e1 : D.key d with
    | none => rw [e1] at e; cases e
    | some k =>
      cases e2 : D.keys ds with
      | none => rw [e1, e2] at e; cases e
      | some ks' =>
        rw [e1, e2] at e
        cases e
        rw [KeysAt]
        exact ⟨v, r, rfl, zt8 q e1, keys_at t e2⟩
end
mutual
/-- a key that is held, as a tree -/
theorem z8k : ∀ {k : NestedKey} {v : V}, zgb K H k v → VR K H G (nkD k) v
  | .none, _, h => by rw [zgb] at h; rw [nkD, VR]; exact h
  | .num _, _, h => by rw [zgb] at h; rw [nkD, VR]; exact h
  | .text _, _, h => by rw [zgb] at h; rw [nkD, VR]; exact h
  | .tup ks, _, h => by
    rw [zgb] at h
    obtain ⟨a, vs, rfl, q, r⟩ := h
    rw [nkD, VR]
    exact ⟨a, vs, rfl, q, nkDs_vr r⟩
theorem nkDs_vr : ∀ {ks : List NestedKey} {vs : List V}, KeysAt K H ks vs → VRs K H G (nkDs ks) vs
  | [], _, h => by rw [KeysAt] at h; rw [nkDs, VRs]; exact h
  | k :: ks, _, h => by
    rw [KeysAt] at h
    obtain ⟨v, r, rfl, q, t⟩ := h
    rw [nkDs]
    exact .cons (z8k q) (nkDs_vr t)
end
end
section
variable {X : Cx}
mutual
theorem zio {pins : List (Addr × Obj)} {σ : L2.St} {H : Hp} {s : Shared} (I : Inv X pins σ H s) : ∀ {k : NestedKey} {v : V} {u : Value}, zgb X.ml H k v → RelV v u → NestedIs s.heap k u
  | .none, _, _, h, r => by rw [zgb] at h; subst h; cases (show _ = Value.none from r); exact .none
  | .num i, _, _, h, r => by rw [zgb] at h; subst h; obtain ⟨t, rfl⟩ := r; exact .int i t
  | .text x, _, _, h, r => by rw [zgb] at h; subst h; obtain ⟨t, rfl⟩ := r; exact .text x t
  | .tup ks, _, _, h, r => by
    rw [zgb] at h
    obtain ⟨a, vs, rfl, q, t⟩ := h
    cases (show _ = Value.ref a from r)
    obtain ⟨its, rv, ⟨o, ho, hc, n, hd⟩, _⟩ := I.tuple q
    exact .tup ho hc hd (nested_all I t rv)
theorem nested_all {pins : List (Addr × Obj)} {σ : L2.St} {H : Hp} {s : Shared} (I : Inv X pins σ H s) : ∀ {ks : List NestedKey} {vs : List V} {us : List Value}, KeysAt X.ml H ks vs → Vals vs us → NestedAll s.heap ks us
  | [], _, _, h, r => by rw [KeysAt] at h; subst h; cases r; exact .nil
  | k :: ks, _, _, h, r => by
    rw [KeysAt] at h
    obtain ⟨v, w, rfl, q, t⟩ := h
    cases r with
    | cons r1 r2 => exact .cons (zio I q r1) (nested_all I t r2)
end
/-- a dict with nested keys at the library's level -/
theorem DnAt.of {pins : List (Addr × Obj)} {σ : L2.St} {H : Hp} {s : Shared} {a : Addr} {ks : List NestedKey} {vs : List V} (I : Inv X pins σ H s) (h : DnAt X.ml H a ks vs) :
    ∃ xs es ep, H a = some (rawO a es ep) ∧ s.heap.DictRaw a es ep ∧ es.toList = xs.map (entryOfKey (nestedKind X.prog X.w)) ∧ s.heap.DictOfH (nestedKind X.prog X.w) a xs ∧ (a == sysModules) = false ∧ xs.map (·.1) = ks ∧ ks.length ≤ sizeLine ∧ (∀ x ∈ xs, zgb X.ml H x.1 (.ref x.2.1) ∧ x.1.depth ≤ 8) ∧ Vals vs (xs.map (·.2.2)) := by
  obtain ⟨xs, es, ep, h1, h2, h3, h4, h5, h6, h7, h8⟩ := h
  obtain ⟨φ, _, _⟩ := (show ObjOk X.prog X.w H s.heap a (rawO a es ep) from I.hok a _ h1)
  refine ⟨xs, es, ep, h1, φ, h3, ?_, h2, h4, h6, h7, h8⟩
  obtain ⟨o, ho, hc, hd⟩ := φ
  exact ⟨o, es, ep, ho, hc, hd, h3, fun x hx => ⟨zio I (h7 x hx).1 rfl, (h7 x hx).2⟩, by rw [h4]; exact h5⟩
theorem zvz {A : Around} (hu : A.units + 64 < cLine) : (nestedKind X.prog X.w).room A.in1 := by
  show A.units + 1 + 8 < cLine
  omega
/-- the dict at a has been written -/
theorem zaah {pins : List (Addr × Obj)} {σ : L2.St} {H : Hp} {s : Shared} {a : Addr} {es es' : Array DictEntry} {ep ep' t' : Nat} {h' : Heap} (I : Inv X pins σ H s) (hH : H a = some (rawO a es ep)) (hs : Heap.SameBut a s.heap h') (hr : h'.DictRaw a es' ep') :
    Inv X pins σ (upd H a (rawO a es' ep')) { s with heap := h', toks := t' } := by
  obtain ⟨o, ho, hc, hd⟩ := id hr
  exact I.write (by rw [hH]; trivial) (.inl rfl) (fun b u hb e => (hs.2 b hb).trans e) ⟨o, ho⟩ ⟨hr, ⟨o, ho⟩, fun h1 h2 φ k => φ.at k⟩
theorem zor {K : Type} {xs : List (NestedKey × Addr × Value)} {k : NestedKey} {vs : List V} (r : Vals vs (xs.map (·.2.2))) : ∀ (kvs : List (NestedKey × D)) (H : Hp) (G : DHp) (M : Ml), xs.map (·.1) = kvs.map (·.1) → VRs M H G (kvs.map (·.2)) vs →
    (dval kvs k = none ∧ atKey xs k = none) ∨ ∃ d v p, dval kvs k = some d ∧ atKey xs k = some p ∧ RelV v p.2 ∧ VR M H G d v := by
  induction xs generalizing vs with
  | nil =>
    intro kvs H G M h1 h2
    cases kvs with
    | nil => exact .inl ⟨rfl, rfl⟩
    | cons _ _ => simp at h1
  | cons x xs ih =>
    intro kvs H G M h1 h2
    cases kvs with
    | nil => simp at h1
    | cons y kvs =>
      obtain ⟨k2, d⟩ := y
      simp only [List.map_cons, List.cons.injEq] at h1
      obtain ⟨v, w, rfl, q, t⟩ := VRs.uncons h2
      cases r with
      | cons r1 r2 =>
        by_cases hk : k2 = k
        · exact .inr ⟨d, v, x.2, by simp [dval, hk], by simp [atKey, h1.1, hk], r1, q⟩
        · have hk' : ¬ x.1 = k := by rw [h1.1]; exact hk
          have := ih r2 kvs H G M h1.2 t
          simpa [dval, atKey, hk, hk'] using this
theorem zu1 {κ : Type} [DecidableEq κ] (k : κ) : ∀ kvs : List (κ × D), (kvs.any fun p => decide (p.1 = k)) = (dval kvs k).isSome
  | [] => rfl
  | (a, d) :: kvs => by
    by_cases h : a = k
    · simp [dval, h]
    · have := zu1 k kvs
      simp only [List.any_cons, h, decide_false, Bool.false_or, this]
      simp [dval, h]
def dIn (neg : Bool) : DR2 := fun x y G Q => match der y G with
  | .nd .lst ds => (zek x = true ∧ plainDs ds = true ∧ SeqAt.shaped (py x) = true ∧ PyData.canLayAll0 (pys ds) = true) ∧ Q (.bl (neg != (pys ds).any fun z => PyData.eqv z (py x))) G
  | .nd .tup ds => (zek x = true ∧ plainDs ds = true ∧ SeqAt.shaped (py x) = true ∧ PyData.canLayAll0 (pys ds) = true) ∧ Q (.bl (neg != (pys ds).any fun z => PyData.eqv z (py x))) G
  | _ => match dicN y G with
    | some kvs => (match x with
      | .nd .tup _ => (match x.key with
        | some k => k.depth ≤ 8 ∧ Q (.bl (neg != (dval kvs k).isSome)) G
        | none => False)
      | _ => False)
    | none => match dicK y G with
      | some kvs => (match x.kK with
        | some k => Q (.bl (neg != (dval kvs k).isSome)) G
        | none => False)
      | none => False
theorem z6p {K : Ml} {H : Hp} {G : DHp} {d : D} {v : V} {k : Key} (h : VR K H G d v) (e : d.kK = some k) : v = kV k := by
  cases d with
  | int i => rw [VR] at h; cases e; exact h
  | str i => rw [VR] at h; cases e; exact h
  | _ => cases e
theorem z69 (hu : X.A.units + 65 < cLine) : OpD X (compareOp .In) (dIn false) := zoy fun pins s σ H G x y v u dx dy P I rx ry hr q1 q2 t => by
  unfold dIn at t
  split at t
  · rename_i ds e
    obtain ⟨⟨p1, p2, s1, s2⟩, t⟩ := t
    have hp := zuf hr q2 (by rw [e, zek]; exact p2)
    rw [e, py] at hp
    obtain ⟨as, r1⟩ := Dp.reads I _ _ v (q1.dp p1) rx
    obtain ⟨bs, r2⟩ := Dp.reads I _ _ u hp ry
    exact SeqAt.in_list_reads r2 r1 s2 (SeqAt.canLay_of_shaped s1) (room_in_shaped s1 hu) (zb4 (z := .bl _) I rfl hr (d := .bl ((pys ds).any fun z => PyData.eqv z (py dx))) (by rw [VR]) (by simpa using t))
  · rename_i ds e
    obtain ⟨⟨p1, p2, s1, s2⟩, t⟩ := t
    have hp := zuf hr q2 (by rw [e, zek]; exact p2)
    rw [e, py] at hp
    obtain ⟨as, r1⟩ := Dp.reads I _ _ v (q1.dp p1) rx
    obtain ⟨bs, r2⟩ := Dp.reads I _ _ u hp ry
    exact SeqAt.in_tuple_reads r2 r1 s2 (SeqAt.canLay_of_shaped s1) (room_in_shaped s1 hu) (zb4 (z := .bl _) I rfl hr (d := .bl ((pys ds).any fun z => PyData.eqv z (py dx))) (by rw [VR]) (by simpa using t))
  · split at t
    · rename_i kvs e
      cases dx with
      | nd kd ds =>
        cases kd with
        | tup =>
          have t : (match D.key (.nd .tup ds) with | some k => k.depth ≤ 8 ∧ P (.bl (false != (dval kvs k).isSome)) G | none => False) := t
          cases ek : D.key (.nd .tup ds) with
          | none => rw [ek] at t; exact t.elim
          | some k =>
            rw [ek] at t
            obtain ⟨hd8, t⟩ := (show k.depth ≤ 8 ∧ P (.bl (false != (dval kvs k).isSome)) G from t)
            have ka := zt8 q1 ek
            obtain ⟨a, ws, rfl, dn, vr⟩ := zqv hr q2 e
            obtain ⟨xs, es, ep, h1, h2, h3, h4, h5, h6, h7, h8, h9⟩ := DnAt.of I dn
            rw [VR] at q1
            obtain ⟨b, vs, rfl, hb, rb⟩ := q1
            cases (show v = Value.ref b from rx)
            cases (show u = Value.ref a from ry)
            refine wpAny_in_heap (zvz (by omega)) ⟨zio I ka rfl, hd8⟩ h5 h4 (zb4 (z := .bl _) (I.tok _) rfl hr (d := .bl (atKey xs k).isSome) (by rw [VR]) ?_)
            rcases zor (K := Unit) (k := k) h9 kvs H G X.ml h6 vr with ⟨e1, e2⟩ | ⟨d, w, p, e1, e2, _, _⟩
            · rw [e2]; rw [e1] at t; simpa using t
            · rw [e2]; rw [e1] at t; simpa using t
        | _ => exact t.elim
      | _ => exact t.elim
    · split at t
      · rename_i kvs e
        cases ek : dx.kK with
        | none => rw [ek] at t; exact t.elim
        | some k =>
          rw [ek] at t
          have t : P (.bl (false != (dval kvs k).isSome)) G := t
          obtain ⟨a, ws, rfl, rd, e1, vr⟩ := zqw hr q2 e
          cases (show u = Value.ref a from ry)
          have ex := z6p q1 ek
          subst ex
          have g : DGet H a (kV k) (valV ws k) := .inl ⟨ws, k, rd, rfl, rfl⟩
          refine d_in (by omega) I g rx fun s' I' => zb4 (z := .bl _) I' rfl hr (d := .bl (valV ws k).isSome) (by rw [VR]) ?_
          rcases zw0 k e1 vr with ⟨e2, e3⟩ | ⟨d, w, e2, e3, _⟩
          · rw [e3]; rw [e2] at t; simpa using t
          · rw [e3]; rw [e2] at t; simpa using t
      · exact t.elim
theorem zrm (hu : X.A.units + 65 < cLine) : OpD X (compareOp .NotIn) (dIn true) := zoy fun pins s σ H G x y v u dx dy P I rx ry hr q1 q2 t => by
  unfold dIn at t
  split at t
  · rename_i ds e
    obtain ⟨⟨p1, p2, s1, s2⟩, t⟩ := t
    have hp := zuf hr q2 (by rw [e, zek]; exact p2)
    rw [e, py] at hp
    obtain ⟨as, r1⟩ := Dp.reads I _ _ v (q1.dp p1) rx
    obtain ⟨bs, r2⟩ := Dp.reads I _ _ u hp ry
    exact SeqAt.notIn_list_reads r2 r1 s2 (SeqAt.canLay_of_shaped s1) (room_in_shaped s1 hu) (zb4 (z := .bl _) I rfl hr (d := .bl (!(pys ds).any fun z => PyData.eqv z (py dx))) (by rw [VR]) (by simpa using t))
  · rename_i ds e
    obtain ⟨⟨p1, p2, s1, s2⟩, t⟩ := t
    have hp := zuf hr q2 (by rw [e, zek]; exact p2)
    rw [e, py] at hp
    obtain ⟨as, r1⟩ := Dp.reads I _ _ v (q1.dp p1) rx
    obtain ⟨bs, r2⟩ := Dp.reads I _ _ u hp ry
    exact SeqAt.notIn_tuple_reads r2 r1 s2 (SeqAt.canLay_of_shaped s1) (room_in_shaped s1 hu) (zb4 (z := .bl _) I rfl hr (d := .bl (!(pys ds).any fun z => PyData.eqv z (py dx))) (by rw [VR]) (by simpa using t))
  · split at t
    · rename_i kvs e
      cases dx with
      | nd kd ds =>
        cases kd with
        | tup =>
          have t : (match D.key (.nd .tup ds) with | some k => k.depth ≤ 8 ∧ P (.bl (true != (dval kvs k).isSome)) G | none => False) := t
          cases ek : D.key (.nd .tup ds) with
          | none => rw [ek] at t; exact t.elim
          | some k =>
            rw [ek] at t
            obtain ⟨hd8, t⟩ := (show k.depth ≤ 8 ∧ P (.bl (true != (dval kvs k).isSome)) G from t)
            have ka := zt8 q1 ek
            obtain ⟨a, ws, rfl, dn, vr⟩ := zqv hr q2 e
            obtain ⟨xs, es, ep, h1, h2, h3, h4, h5, h6, h7, h8, h9⟩ := DnAt.of I dn
            rw [VR] at q1
            obtain ⟨b, vs, rfl, hb, rb⟩ := q1
            cases (show v = Value.ref b from rx)
            cases (show u = Value.ref a from ry)
            show wpAny _ _ (do return Value.bool (!(← contains (.ref a) (.ref b)))) _ X.xe s
            refine wpAny_bind (wpAny_contains_heap (zvz (X := X) (A := X.A) (by omega)) ⟨zio I ka rfl, hd8⟩ h5 h4 (wpAny_pure (zb4 (z := .bl _) (I.tok _) rfl hr (d := .bl (!(atKey xs k).isSome)) (by rw [VR]) ?_)))
            rcases zor (K := Unit) (k := k) h9 kvs H G X.ml h6 vr with ⟨e1, e2⟩ | ⟨d, w, p, e1, e2, _, _⟩
            · rw [e2]; rw [e1] at t; simpa using t
            · rw [e2]; rw [e1] at t; simpa using t
        | _ => exact t.elim
      | _ => exact t.elim
    · split at t
      · rename_i kvs e
        cases ek : dx.kK with
        | none => rw [ek] at t; exact t.elim
        | some k =>
          rw [ek] at t
          have t : P (.bl (true != (dval kvs k).isSome)) G := t
          obtain ⟨a, ws, rfl, rd, e1, vr⟩ := zqw hr q2 e
          cases (show u = Value.ref a from ry)
          have ex := z6p q1 ek
          subst ex
          have g : DGet H a (kV k) (valV ws k) := .inl ⟨ws, k, rd, rfl, rfl⟩
          refine d_notIn (by omega) I g rx fun s' I' => zb4 (z := .bl _) I' rfl hr (d := .bl (!(valV ws k).isSome)) (by rw [VR]) ?_
          rcases zw0 k e1 vr with ⟨e2, e3⟩ | ⟨d, w, e2, e3, _⟩
          · rw [e3]; rw [e2] at t; simpa using t
          · rw [e3]; rw [e2] at t; simpa using t
      · exact t.elim
end
end DL
namespace DL
open PySem PySem.Spec PyProof.Rows L2
section
variable {K : Ml} {H : Hp} {G : DHp}
theorem z44 {κ : Type} [DecidableEq κ] (kvs : List (κ × D)) (k : κ) (v : D) : (dput kvs k v).map (·.1) = if (dval kvs k).isSome then kvs.map (·.1) else kvs.map (·.1) ++ [k] := by
  unfold dput
  rw [zu1]
  split
  · rw [List.map_map]
    refine List.map_congr_left fun x _ => ?_
    simp only [Function.comp]
    split <;> rfl
  · simp
theorem zadb {κ : Type} [DecidableEq κ] (kvs : List (κ × V)) (k : κ) (v : V) : (putK kvs k v).map (·.1) = if (valV kvs k).isSome then kvs.map (·.1) else kvs.map (·.1) ++ [k] := by
  unfold putK
  rw [valV_any]
  split
  · rw [List.map_map]
    refine List.map_congr_left fun x _ => ?_
    simp only [Function.comp]
    split <;> rfl
  · simp
theorem zv4 {κ : Type} [DecidableEq κ] {k : κ} : ∀ {ws : List (κ × V)} {kvs : List (κ × D)}, ws.map (·.1) = kvs.map (·.1) → (valV ws k).isSome = (dval kvs k).isSome
  | [], [], _ => rfl
  | [], _ :: _, h => by simp at h
  | _ :: _, [], h => by simp at h
  | (k1, v) :: ws, (k2, d) :: kvs, h => by
    simp only [List.map_cons, List.cons.injEq] at h
    obtain ⟨h1, h2⟩ := h
    subst h1
    by_cases hk : k1 = k
    · simp [dval, valV, hk]
    · have := zv4 (k := k) h2
      simpa [dval, valV, hk] using this
theorem z36 {κ : Type} [DecidableEq κ] (k : κ) {d : D} {v : V} (hv : VR K H G d v) : ∀ {ws : List (κ × V)} {kvs : List (κ × D)}, ws.map (·.1) = kvs.map (·.1) → VRs K H G (kvs.map (·.2)) (ws.map (·.2)) →
    VRs K H G ((kvs.map fun p => if p.1 = k then (p.1, d) else p).map (·.2)) ((ws.map fun p => if p.1 = k then (p.1, v) else p).map (·.2))
  | [], [], _, _ => .nil
  | [], _ :: _, h, _ => by simp at h
  | _ :: _, [], h, _ => by simp at h
  | (k1, w) :: ws, (k2, e) :: kvs, h, r => by
    simp only [List.map_cons, List.cons.injEq] at h
    obtain ⟨h1, h2⟩ := h
    subst h1
    obtain ⟨v', r', eq, q, t⟩ := VRs.uncons r
    simp only [List.map_cons, List.cons.injEq] at eq
    obtain ⟨rfl, rfl⟩ := eq
    by_cases hk : k1 = k
    · simp only [List.map_cons, hk, if_true]
      exact .cons hv (z36 k hv h2 t)
    · simp only [List.map_cons, hk, if_false]
      exact .cons q (z36 k hv h2 t)
theorem zabq {κ : Type} [DecidableEq κ] (k : κ) {d : D} {v : V} (hv : VR K H G d v) {ws : List (κ × V)} {kvs : List (κ × D)} (h : ws.map (·.1) = kvs.map (·.1)) (r : VRs K H G (kvs.map (·.2)) (ws.map (·.2))) :
    (putK ws k v).map (·.1) = (dput kvs k d).map (·.1) ∧ VRs K H G ((dput kvs k d).map (·.2)) ((putK ws k v).map (·.2)) := by
  refine ⟨by rw [zadb, z44, h, zv4 h], ?_⟩
  unfold dput putK
  rw [zu1, valV_any, zv4 h]
  split
  · exact z36 k hv h r
  · rw [List.map_append, List.map_append]
    exact r.append (.cons hv .nil)
theorem zaaq {κ : Type} [DecidableEq κ] (kvs : List (κ × D)) (k : κ) (v : D) : (dput kvs k v).length ≤ kvs.length + 1 := by
  unfold dput
  split <;> simp
end
section
variable {X : Cx}
/-- the entries that stand behind a store in a dict with nested keys -/
theorem z8m {pins : List (Addr × Obj)} {σ : L2.St} {H : Hp} {G : DHp} {s : Shared} {a b : Addr} {kvs : List (NestedKey × D)} {k : NestedKey} {d : D} {v : V} {u : Value} {h' : Heap} {t' : Nat} {es : Array DictEntry} {ep : Nat} {ws : List V} {xs : List (NestedKey × Addr × Value)}
    (I : Inv X pins σ H s) (hr : HR X.ml H G) (hG : G a = some (.dN kvs)) (hH : H a = some (rawO a es ep)) (hsm : (a == sysModules) = false) (hm : s.heap.DictOfH (nestedKind X.prog X.w) a xs) (hks : xs.map (·.1) = kvs.map (·.1)) (hat : ∀ x ∈ xs, zgb X.ml H x.1 (.ref x.2.1) ∧ x.1.depth ≤ 8)
    (hvs : Vals ws (xs.map (·.2.2))) (vr : VRs X.ml H G (kvs.map (·.2)) ws) (hk : zgb X.ml H k (.ref b)) (h8 : k.depth ≤ 8) (hv : VR X.ml H G d v) (ru : RelV v u) (hlen : kvs.length < sizeLine) (hm' : h'.DictOfH (nestedKind X.prog X.w) a (storedH xs k b u)) (hs : Heap.SameBut a s.heap h') :
    ∃ H', Inv X pins σ H' { s with heap := h', toks := t' } ∧ Ext H G H' (up G a (.dN (dput kvs k d))) ∧ HR X.ml H' (up G a (.dN (dput kvs k d))) := by
  obtain ⟨o', es', ep', ho', hc', hd', he', _, hn'⟩ := hm'
  have raw : h'.DictRaw a es' ep' := ⟨o', ho', hc', hd'⟩
  have x : Ext H G (upd H a (rawO a es' ep')) (up G a (.dN (dput kvs k d))) := .write hG
  refine ⟨_, zaah (t' := t') I hH hs raw, x, hr.write hG ?_⟩
  have some_eq : (atKey xs k).isSome = (dval kvs k).isSome := by
    rcases zor (K := Unit) (k := k) hvs kvs H G X.ml hks vr with ⟨e1, e2⟩ | ⟨_, _, _, e1, e2, _, _⟩ <;> rw [e1, e2] <;> rfl
  have keys : (storedH xs k b u).map (·.1) = (dput kvs k d).map (·.1) := by
    rw [z44, ← some_eq, ← hks]
    unfold storedH
    split
    · rw [List.map_map]
      refine List.map_congr_left fun x _ => ?_
      simp only [Function.comp, putAt]
      split <;> rfl
    · simp
  have vals : ∃ ws', Vals ws' ((storedH xs k b u).map (·.2.2)) ∧ VRs X.ml H G ((dput kvs k d).map (·.2)) ws' := by
    have go : ∀ {xs : List (NestedKey × Addr × Value)} {kvs : List (NestedKey × D)} {ws : List V}, xs.map (·.1) = kvs.map (·.1) → Vals ws (xs.map (·.2.2)) → VRs X.ml H G (kvs.map (·.2)) ws →
        ∃ ws', Vals ws' ((xs.map (putAt k u)).map (·.2.2)) ∧ VRs X.ml H G ((kvs.map fun p => if p.1 = k then (p.1, d) else p).map (·.2)) ws' := by
      intro xs
      induction xs with
      | nil =>
        intro kvs ws h1 h2 h3
        cases kvs with
        | nil => exact ⟨[], .nil, .nil⟩
        | cons _ _ => simp at h1
      | cons y xs ih =>
        intro kvs ws h1 h2 h3
        cases kvs with
        | nil => simp at h1
        | cons z kvs =>
          obtain ⟨k2, e⟩ := z
          simp only [List.map_cons, List.cons.injEq] at h1
          obtain ⟨v0, w0, rfl, q0, t0⟩ := VRs.uncons h3
          cases h2 with
          | cons r1 r2 =>
            obtain ⟨ws', a1, a2⟩ := ih h1.2 r2 t0
            by_cases hkk : k2 = k
            · refine ⟨v :: ws', ?_, ?_⟩
              · rw [List.map_cons, List.map_cons]
                have : (putAt k u y).2.2 = u := by simp [putAt, h1.1, hkk]
                rw [this]
                exact .cons ru a1
              · simp only [List.map_cons, hkk, if_true]
                exact .cons hv a2
            · refine ⟨v0 :: ws', ?_, ?_⟩
              · rw [List.map_cons, List.map_cons]
                have : (putAt k u y).2.2 = y.2.2 := by simp [putAt, h1.1, hkk]
                rw [this]
                exact .cons r1 a1
              · simp only [List.map_cons, hkk, if_false]
                exact .cons q0 a2
    unfold storedH dput
    rw [zu1, some_eq]
    split
    · exact go hks hvs vr
    · refine ⟨ws ++ [v], ?_, ?_⟩
      · rw [List.map_append]
        exact hvs.append (.cons ru .nil)
      · rw [List.map_append]
        exact vr.append (.cons hv .nil)
  obtain ⟨ws', v1, v2⟩ := vals
  refine ⟨ws', ⟨storedH xs k b u, es', ep', upd_same, hsm, he', keys, by rw [← keys]; exact hn', by rw [List.length_map]; have := zaaq kvs k d; omega, fun y hy => ?_, v1⟩, v2.ext hr x⟩
  have old : ∀ y ∈ xs, zgb X.ml (upd H a (rawO a es' ep')) y.1 (.ref y.2.1) ∧ y.1.depth ≤ 8 := fun y hy => ⟨(hat y hy).1.ext hr x, (hat y hy).2⟩
  unfold storedH at hy
  split at hy
  · obtain ⟨z, hz, rfl⟩ := List.mem_map.mp hy
    have e1 : (putAt k u z).1 = z.1 := by unfold putAt; split <;> rfl
    have e2 : (putAt k u z).2.1 = z.2.1 := by unfold putAt; split <;> rfl
    rw [e1, e2]
    exact old z hz
  · rcases List.mem_append.mp hy with hy | hy
    · exact old y hy
    · have : y = (k, b, u) := by simpa using hy
      subst this
      exact ⟨hk.ext hr x, h8⟩
abbrev DSet := D → D → D → DHp → (DHp → Prop) → Prop
def zzi (K : Ml) (r : DSet) : TSet := fun o i v H Q => ∃ do_ di dv G P, HR K H G ∧ VR K H G do_ o ∧ VR K H G di i ∧ VR K H G dv v ∧ r do_ di dv G P ∧ ∀ G' H', P G' → Ext H G H' G' → HR K H' G' → Q H'
def dSet : DSet := fun o i v G Q => match o with
  | .ref a => (match G a with
    | some (.lst ds) => (match i with
      | .int k => (match ixN ds.length k with
        | some j => Q (up G a (.lst (ds.set j v)))
        | none => False)
      | _ => False)
    | some (.dN kvs) => (match i with
      | .nd .tup ks => (match D.key (.nd .tup ks) with
        | some k => (k.depth ≤ 8 ∧ kvs.length < sizeLine) ∧ Q (up G a (.dN (dput kvs k v)))
        | none => False)
      | _ => False)
    | some (.dK kvs) => (match i.kK with
      | some k => kvs.length < sizeLine ∧ Q (up G a (.dK (dput kvs k v)))
      | none => False)
    | _ => False)
  | _ => False
theorem zyp (hu : X.A.units + 64 < cLine) : PSet X (zzi X.ml dSet) := by
  intro pins s σ H o i v ov iv u Q I ro ri rv ⟨do_, di, dv, G, P, hr, q1, q2, q3, t, k⟩
  cases do_ with
  | ref a =>
    rw [VR] at q1
    subst q1
    cases (show ov = Value.ref a from ro)
    cases hG : G a with
    | none =>
      have : False := by simpa [dSet, hG] using t
      exact this.elim
    | some ob =>
      cases ob with
      | rw _ _ _ =>
        have : False := by simpa [dSet, hG] using t
        exact this.elim
      | ins C fs =>
        have : False := by simpa [dSet, hG] using t
        exact this.elim
      | lst ds =>
        cases di with
        | int kk =>
          rw [VR] at q2; subst q2
          obtain ⟨vs, hv, r⟩ := hr a _ hG
          cases hj : ixN ds.length kk with
          | none =>
            have : False := by simpa [dSet, hG, hj] using t
            exact this.elim
          | some j =>
            have t : P (up G a (.lst (ds.set j dv))) := by simpa [dSet, hG, hj] using t
            have x : Ext H G (upd H a (.lst (vs.set j v))) (up G a (.lst (ds.set j dv))) := .write hG
            exact set_list pins s σ H (.ref a) _ v _ _ u Q I rfl ri rv ⟨a, vs, kk, j, rfl, rfl, hv, by rw [r.length]; exact hj, k _ _ t x (hr.write hG ⟨_, upd_same, (r.set j q3).ext hr x⟩)⟩
        | _ =>
          have : False := by simpa [dSet, hG] using t
          exact this.elim
      | dK kvs =>
        cases ek : di.kK with
        | none =>
          have : False := by simpa [dSet, hG, ek] using t
          exact this.elim
        | some kk =>
          have t : kvs.length < sizeLine ∧ P (up G a (.dK (dput kvs kk dv))) := by simpa [dSet, hG, ek] using t
          obtain ⟨ws, hw, hks, r⟩ := hr a _ hG
          have e := z6p q2 ek
          subst e
          have x : Ext H G (upd H a (.dK (putK ws kk v))) (up G a (.dK (dput kvs kk dv))) := .write hG
          obtain ⟨p1, p2⟩ := zabq kk q3 hks r
          have hl : ws.length < sizeLine := by
            have := congrArg List.length hks
            rw [List.length_map, List.length_map] at this
            rw [this]; exact t.1
          exact d_setItem (by omega) I (.inl ⟨ws, kk, hw, rfl, hl, rfl⟩) ri rv fun s' I' => ⟨_, I', k _ _ t.2 x (hr.write hG ⟨_, upd_same, p1, p2.ext hr x⟩)⟩
      | dN kvs =>
        cases di with
        | nd kd ks =>
          cases kd with
          | tup =>
            cases ek : D.key (.nd .tup ks) with
            | none =>
              have : False := by simpa [dSet, hG, ek] using t
              exact this.elim
            | some kk =>
              have t : (kk.depth ≤ 8 ∧ kvs.length < sizeLine) ∧ P (up G a (.dN (dput kvs kk dv))) := by simpa [dSet, hG, ek] using t
              obtain ⟨⟨h8, hl⟩, t⟩ := t
              have ka := zt8 q2 ek
              rw [VR] at q2
              obtain ⟨b, vs, rfl, hb, rb⟩ := q2
              cases (show iv = Value.ref b from ri)
              obtain ⟨ws, dn, vr⟩ := hr a _ hG
              obtain ⟨xs, es, ep, h1, h2, h3, h4, h5, h6, h7, h9, h10⟩ := DnAt.of I dn
              refine wpAny_setItem_heap (hsz := by have := congrArg List.length h6; rw [List.length_map] at this; rw [this]; exact h7) (zvz hu) ⟨zio I ka rfl, h8⟩ h4 fun h' hm' hs => ?_
              obtain ⟨H', I', x, r'⟩ := z8m (t' := s.toks + (nestedKind X.prog X.w).draws kk) I hr hG h1 h5 h4 h6 h9 h10 vr ka h8 q3 rv hl hm' hs
              exact ⟨H', I', k _ _ t x r'⟩
          | _ =>
            have : False := by simpa [dSet, hG] using t
            exact this.elim
        | _ =>
          have : False := by simpa [dSet, hG] using t
          exact this.elim
  | _ => exact t.elim
def zok (To Ti : DTE) (r : DSet) : DTG := fun v η G Q => To η G fun o G1 => Ti η G1 fun i G2 => r o i v G2 fun G3 => Q η G3
theorem zvn [Bs] {o i : Expr} {To Ti : DTE} {r : DSet} {pos : Pos} (ho : PED X o To) (hi : PED X i Ti) (hs : PSet X (zzi X.ml r))
    (ha : ∀ v, assign (.Subscript o i pos) X.env v = (do
      let ov ← holding [v] (eval o X.env)
      let iv ← holding [v, ov] (eval i X.env)
      standAt pos
      holding [v, ov, iv] (setItem ov iv v)
      release [v, ov, iv] []) := by intro _; rfl) : PGD X (.Subscript o i pos) [] (zok To Ti r) :=
  PG.impI (pg_sub ho hi hs ha) fun _ _ σ H v Q _ ⟨d, η, G, P, q, hs', hr, t, k⟩ =>
    ⟨η, G, _, hs', hr, t, fun d1 G1 v1 H1 p1 x1 r1 q1 => ⟨η, G1, _, hs'.ext hr x1, r1, p1, fun d2 G2 v2 H2 p2 x2 r2 q2 =>
      ⟨d1, d2, d, G2, _, r2, q1.ext r1 x2, q2, (q.ext hr x1).ext r1 x2, p2, fun G3 H3 p3 x3 r3 => k η G3 σ H3 p3 ((x1.trans x2).trans x3) (hs'.ext hr ((x1.trans x2).trans x3)) r3 rfl⟩⟩⟩
abbrev IxD (X : Cx) (r : DR2) : Prop := IxR X (zt9 X.ml r)
/-- the item at a place -/
def atD (ds : List D) (y : D) (Q : D → Prop) : Prop := match y with
  | .int i => (match atI ds i with
    | some d => Q d
    | none => False)
  | _ => False
def dIx : DR2 := fun x y G Q => match der x G with
  | .nd .lst ds => atD ds y fun d => Q d G
  | .nd .scr ds => atD ds y fun d => Q d G
  | .nd .tup ds => atD ds y fun d => Q d G
  | _ => match dicN x G with
    | some kvs => (match y with
      | .nd .tup ks => (match D.key (.nd .tup ks) with
        | some k => k.depth ≤ 8 ∧ (match dval kvs k with
          | some d => Q d G
          | none => False)
        | none => False)
      | _ => False)
    | none => match dicK x G with
      | some kvs => (match y.kK with
        | some k => (match dval kvs k with
          | some d => Q d G
          | none => False)
        | none => False)
      | none => False
theorem z67 {K : Ml} {H : Hp} {G : DHp} {ds : List D} {vs : List V} {i : Int} {d : D} (r : VRs K H G ds vs) (e : atI ds i = some d) : ∃ v, atI vs i = some v ∧ VR K H G d v := by
  unfold atI at e ⊢
  rw [r.length]
  cases h : ixN ds.length i with
  | none => rw [h] at e; cases e
  | some j =>
    rw [h] at e
    obtain ⟨v, e1, q⟩ := r.get (show ds[j]? = some d from e)
    exact ⟨v, e1, q⟩
theorem z0p {K : Ml} {H : Hp} {G : DHp} {P : D → DHp → Prop} {Q : VK} {d : D} {v : V} (k : ∀ d G' v H', P d G' → Ext H G H' G' → HR K H' G' → VR K H' G' d v → Q v H') (hr : HR K H G) (p : P d G) (q : VR K H G d v) : Q v H := k d G v H p (.refl _ _) hr q
theorem ixd (hu : X.A.units + 64 < cLine) : IxD X dIx := by
  intro value slice pins s σ H x y v u Q I rx ry ⟨dx, dy, G, P, hr, q1, q2, t, k⟩ hs
  have doL : ∀ (a : Addr) (ds : List D) (vs : List V), x = .ref a → SqL X.K H a vs → VRs X.ml H G ds vs → (atD ds dy fun d => P d G) → wpAny (model X.prog X.w) X.A (subscriptTail value slice v u) (EP X pins σ Q) X.xe s := by
    intro a ds vs e hq r t
    cases dy with
    | int i =>
      rw [VR] at q2; subst q2
      cases ea : atI ds i with
      | none =>
        have : False := by simpa [atD, ea] using t
        exact this.elim
      | some d =>
        have t : P d G := by simpa [atD, ea] using t
        obtain ⟨z, e2, q⟩ := z67 r ea
        exact ix_list value slice pins s σ H x _ v u Q I rx ry ⟨a, vs, i, z, e, rfl, hq, e2, z0p k hr t q⟩ hs
    | _ => exact t.elim
  unfold dIx at t
  split at t
  · rename_i ds e
    obtain ⟨a, vs, e1, h1, r1⟩ := zo4 hr q1 e
    exact doL a ds vs e1 (.inl (.inl h1)) r1 t
  · rename_i ds e
    have e := zob e (fun _ h => nomatch h)
    rw [e, VR] at q1
    obtain ⟨a, vs, e1, h1, r1⟩ := q1
    exact doL a ds vs e1 (zeo h1 (.inr rfl)) r1 t
  · rename_i ds e
    have e := zob e (fun _ h => nomatch h)
    rw [e, VR] at q1
    obtain ⟨a, vs, e1, h1, r1⟩ := q1
    cases dy with
    | int i =>
      rw [VR] at q2; subst q2
      cases ea : atI ds i with
      | none =>
        have : False := by simpa [atD, ea] using t
        exact this.elim
      | some d =>
        have t : P d G := by simpa [atD, ea] using t
        obtain ⟨z, e2, q⟩ := z67 r1 ea
        exact ix_tup value slice pins s σ H x _ v u Q I rx ry ⟨a, vs, i, z, e1, rfl, h1, e2, z0p k hr t q⟩ hs
    | _ => exact t.elim
  · split at t
    · rename_i kvs e
      cases dy with
      | nd kd ds =>
        cases kd with
        | tup =>
          cases ek : D.key (.nd .tup ds) with
          | none =>
            have : False := by simpa [ek] using t
            exact this.elim
          | some kk =>
            simp only [ek] at t
            obtain ⟨h8, t⟩ := t
            have ka := zt8 q2 ek
            obtain ⟨a, ws, rfl, dn, vr⟩ := zqv hr q1 e
            obtain ⟨xs, es, ep, h1, h2, h3, h4, h5, h6, h7, h9, h10⟩ := DnAt.of I dn
            rw [VR] at q2
            obtain ⟨b, vs, rfl, hb, rb⟩ := q2
            cases (show v = Value.ref a from rx)
            cases (show u = Value.ref b from ry)
            rcases zor (K := Unit) (k := kk) h10 kvs H G X.ml h6 vr with ⟨e1, e2⟩ | ⟨d, w, p, e1, e2, rw', qw⟩
            · rw [e1] at t; exact t.elim
            · rw [e1] at t
              exact tail_any h4.typeIs PySem.F.slot_dict_getitem.lookup (wpAny_getItem_heap (zvz hu) ⟨zio I ka rfl, h8⟩ h4 e2 ⟨w, H, I.tok _, rw', z0p k hr t qw⟩) hs
        | _ => exact t.elim
      | _ => exact t.elim
    · split at t
      · rename_i kvs e
        cases ek : dy.kK with
        | none => rw [ek] at t; exact t.elim
        | some kk =>
          rw [ek] at t
          simp only at t
          obtain ⟨a, ws, rfl, rd, e1, vr⟩ := zqw hr q1 e
          cases (show v = Value.ref a from rx)
          have ex := z6p q2 ek
          subst ex
          rcases zw0 kk e1 vr with ⟨e2, e3⟩ | ⟨d, w, e2, e3, qw⟩
          · rw [e2] at t; exact t.elim
          · rw [e2] at t
            have g : DGet H a (kV kk) (some w) := .inl ⟨ws, kk, rd, rfl, e3.symm⟩
            exact tail_any (dict_typeIs I g) PySem.F.slot_dict_getitem.lookup (d_getItem (by omega) I g ry fun w' s' I' rw' => ⟨w, H, I', rw', z0p k hr t qw⟩) hs
      · exact t.elim
theorem zbd [Bs] {a b : Expr} {pos : Pos} {r : DR2} {Ta Tb : DTE} (hr : IxD X r) (ha : PED X a Ta) (hb : PED X b Tb) (hs : PlainIx b := by intro _ _; rfl) : PED X (.Subscript a b pos) (dOp r Ta Tb) :=
  PE.impI (pe_ix hr ha hb hs) fun _ _ _ _ _ _ h => z0u h
abbrev DTO := DSt → DHp → (Option Int → DHp → Prop) → Prop
def zafk [Bs] (K : Ml) (T : DTO) : TO := fun σ H Q => ∃ η G P, SR K H G σ η ∧ HR K H G ∧ T η G P ∧ ∀ o G' H', P o G' → Ext H G H' G' → HR K H' G' → Q o H'
abbrev POD [Bs] (X : Cx) (e : Option Expr) (T : DTO) : Prop := PO X e (zafk X.ml T)
theorem PO.impI {e : Option Expr} {t t' : TO} (h : PO X e t) (i : ∀ pins s σ H Q, Inv X pins σ H s → t' σ H Q → t σ H Q) : PO X e t' := ⟨fun pins s σ H Q I q => h.run pins s σ H Q I (i _ _ _ _ _ I q)⟩
def zc7 : DTO := fun _ G Q => Q none G
def zjh (T : DTE) : DTO := fun η G Q => T η G fun d G1 => match d with
  | .int i => Q (some i) G1
  | _ => False
theorem zh9 [Bs] : POD X none zc7 := PO.impI po_none fun _ _ _ H Q _ ⟨η, G, P, hs, hr, t, k⟩ => k none G H t (.refl _ _) hr
theorem zh6 [Bs] {e : Expr} {T : DTE} (h : PED X e T) : POD X (some e) (zjh T) := PO.impI (po_some h) fun _ _ _ H Q _ ⟨η, G, P, hs, hr, t, k⟩ => ⟨η, G, _, hs, hr, t, fun d G1 v H1 p x r q => by
  cases d with
  | int i => rw [VR] at q; exact ⟨i, q, k (some i) G1 H1 p x r⟩
  | _ => exact p.elim⟩
def cutD (xs : List D) (lo hi : Option Int) : List D := (xs.drop (HT.sIx xs.length 0 lo)).take (HT.sIx xs.length xs.length hi - HT.sIx xs.length 0 lo)
theorem zabf {K : Ml} {H : Hp} {G : DHp} {ds : List D} {vs : List V} (r : VRs K H G ds vs) (lo hi : Option Int) : VRs K H G (cutD ds lo hi) (cutV vs lo hi) := by
  unfold cutD cutV
  rw [r.length]
  exact (r.drop _).take _
abbrev DSl := D → Option Int → Option Int → DHp → DVK → Prop
def zabb (K : Ml) (r : DSl) : V → Option Int → Option Int → Hp → VK → Prop := fun x lo hi H Q => ∃ d G P, HR K H G ∧ VR K H G d x ∧ r d lo hi G P ∧ ∀ d G' v H', P d G' → Ext H G H' G' → HR K H' G' → VR K H' G' d v → Q v H'
def dSl : DSl := fun x lo hi G Q => match der x G with
  | .nd .lst ds => Q (.nd .lst (cutD ds lo hi)) G
  | .nd .tup ds => Q (.nd .tup (cutD ds lo hi)) G
  | _ => False
theorem sld : SlR X (zabb X.ml dSl) := by
  intro pins s σ H x v vl vu lo hi sl Q I rx hs pl pu ⟨dx, G, P, hr, q1, t, k⟩
  unfold dSl at t
  split at t
  · rename_i ds e
    obtain ⟨a, vs, e1, h1, r1⟩ := zo4 hr q1 e
    refine sl_list pins s σ H x v vl vu lo hi sl Q I rx hs pl pu ⟨a, vs, e1, .inl (.inl h1), fun p hp => ?_⟩
    have x2 : Ext H G (upd H p (.lst (cutV vs lo hi))) G := .laid hp
    refine k _ G _ _ t x2 (hr.laid hp) ?_
    rw [VR]
    exact ⟨p, _, rfl, ⟨hr.free hp, upd_same⟩, (zabf r1 lo hi).ext hr x2⟩
  · rename_i ds e
    have e := zob e (fun _ h => nomatch h)
    subst e
    rw [VR] at q1
    obtain ⟨a, vs, e1, h1, r1⟩ := q1
    refine sl_tupA pins s σ H x v vl vu lo hi sl Q I rx hs pl pu ⟨a, vs, e1, h1, fun hw => ?_, fun _ p hp => ?_⟩
    · refine k _ G _ H t (.refl _ _) hr ?_
      rw [VR]
      have e2 : cutD ds lo hi = ds := by
        unfold cutD
        have hw' : HT.sIx ds.length 0 lo = 0 ∧ HT.sIx ds.length ds.length hi = ds.length := by rw [← r1.length]; exact hw
        rw [hw'.1, hw'.2, List.drop_zero, Nat.sub_zero, List.take_length]
      rw [e2]
      exact ⟨a, vs, rfl, h1, r1⟩
    · have x2 : Ext H G (upd H p (.tup (cutV vs lo hi))) G := .laid hp
      refine k _ G _ _ t x2 (hr.laid hp) ?_
      rw [VR]
      exact ⟨p, _, rfl, .inl (.inl upd_same), (zabf r1 lo hi).ext hr x2⟩
  · exact t.elim
def zeh (r : DSl) (T : DTE) (Tl Th : DTO) : DTE := fun η G Q => T η G fun x G1 => Tl η G1 fun l G2 => Th η G2 fun u G3 => r x l u G3 Q
theorem zgi [Bs] {e : Expr} {lo hi : Option Expr} {p2 pos : Pos} {r : DSl} {T : DTE} {Tl Th : DTO} (hr : SlR X (zabb X.ml r)) (he : PED X e T) (hl : POD X lo Tl) (hu : POD X hi Th) : PED X (.Subscript e (.Slice lo hi none p2) pos) (zeh r T Tl Th) :=
  PE.impI (pe_slice hr he hl hu) fun _ _ σ H Q _ ⟨η, G, P, hs, hr, t, k⟩ =>
    ⟨η, G, _, hs, hr, t, fun d1 G1 v1 H1 p1 x1 r1 q1 => ⟨η, G1, _, hs.ext hr x1, r1, p1, fun l G2 H2 p2 x2 r2 => ⟨η, G2, _, (hs.ext hr x1).ext r1 x2, r2, p2, fun u G3 H3 p3 x3 r3 =>
      ⟨d1, G3, P, r3, (q1.ext r1 x2).ext r2 x3, p3, fun d G' v H' p x r q => k d G' v H' p (((x1.trans x2).trans x3).trans x) r q⟩⟩⟩⟩
def zhq (r r' : DR2) (Ta Tb Tc : DTE) : DTE := fun η G Q => Ta η G fun x G1 => Tb η G1 fun y G2 => r x y G2 fun z G3 => match z with
  | .bl k => if k = true then Tc η G3 fun w G4 => r' y w G4 Q else Q (.bl false) G3
  | _ => False
end
end DL
namespace DL
open PySem PySem.Spec PyProof.Rows L2
section
variable {X : Cx}
theorem zyq [Bs] {r r' : DR2} {Ta Tb Tc : DTE} {K : Ml} {σ : L2.St} {H : Hp} {Q : VK} (h : zqy K (zhq r r' Ta Tb Tc) σ H Q) : tChain (zt9 K r) (zt9 K r') (zqy K Ta) (zqy K Tb) (zqy K Tc) σ H Q :=
  let ⟨η, G, P, hs, hr, t, k⟩ := h
  ⟨η, G, _, hs, hr, t, fun d1 G1 v1 H1 p1 x1 r1 q1 => ⟨η, G1, _, hs.ext hr x1, r1, p1, fun d2 G2 v2 H2 p2 x2 r2 q2 =>
    ⟨d1, d2, G2, _, r2, q1.ext r1 x2, q2, p2, fun z G3 vz H3 p3 x3 r3 q3 => by
      cases z with
      | bl c =>
        rw [VR] at q3
        refine ⟨c, q3, ?_⟩
        cases c with
        | true =>
          rw [if_pos rfl]
          have p3 : Tc η G3 fun w G4 => r' d2 w G4 P := by simpa using p3
          exact ⟨η, G3, _, ((hs.ext hr x1).ext r1 x2).ext r2 x3, r3, p3, fun dw G4 vw H4 p4 x4 r4 q4 => ⟨d2, dw, G4, P, r4, ((q2.ext r2 x3).ext r3 x4), q4, p4, fun d G' v H' p x r q => k d G' v H' p ((((x1.trans x2).trans x3).trans x4).trans x) r q⟩⟩
        | false =>
          rw [if_neg Bool.false_ne_true]
          have p3 : P (.bl false) G3 := by simpa using p3
          exact k _ G3 _ H3 p3 ((x1.trans x2).trans x3) r3 (by rw [VR])
      | _ => exact p3.elim⟩⟩⟩
theorem zvt [Bs] {a b c : Expr} {op op' : CmpOp} {pos : Pos} {r r' : DR2} {Ta Tb Tc : DTE} (ho : OpD X (compareOp op) r) (ho' : OpD X (compareOp op') r') (ha : PED X a Ta) (hb : PED X b Tb) (hc : PED X c Tc)
    (hm : lastMarks [op, op'] [b, c] = false := by with_unfolding_all rfl) : PED X (.Compare a [op, op'] [b, c] pos) (zhq r r' Ta Tb Tc) :=
  PE.impI (pe_chain ho ho' ha hb hc hm) fun _ _ _ _ _ _ h => zyq h
theorem zsx [Bs] {a b c : Expr} {op op' : CmpOp} {pos : Pos} {r r' : DR2} {Ta Tb Tc : DTE} (ho : OpD X (compareOp op) r) (ho' : OpD X (compareOp op') r') (ha : PED X a Ta) (hb : PED X b Tb) (hc : PED X c Tc)
    (hm : lastMarks [op, op'] [b, c] = false := by with_unfolding_all rfl) : PTD X (.Compare a [op, op'] [b, c] pos) (zau (zhq r r' Ta Tb Tc)) :=
  PT.impI (pt_chain ho ho' ha hb hc hm) fun _ _ σ H Q _ h => by
    have h2 := zwr h
    obtain ⟨η, G, P, hs, hr, t, k⟩ := h2
    exact zyq ⟨η, G, P, hs, hr, t, k⟩
def dNeg (T : DTE) : DTE := fun η G Q => T η G fun d G1 => match d with
  | .int i => Q (.int (-i)) G1
  | _ => False
theorem zab4 [Bs] {a : Expr} {pos : Pos} {T : DTE} (h : PED X a T) : PED X (.UnaryOp .USub a pos) (dNeg T) :=
  PE.impI (pe_un un_neg h) fun _ _ σ H Q _ ⟨η, G, P, hs, hr, t, k⟩ => ⟨η, G, _, hs, hr, t, fun d G1 v H1 p x r q => by
    cases d with
    | int i =>
      rw [VR] at q
      exact ⟨i, q, k _ G1 _ H1 p x r (by rw [VR])⟩
    | _ => exact p.elim⟩
/-- what is done to a list of arguments -/
abbrev DRn := List D → DHp → DVK → Prop
def z3k (K : Ml) (r : DRn) : List V → Hp → VK → Prop := fun vs H Q => ∃ ds G P, VRs K H G ds vs ∧ HR K H G ∧ r ds G P ∧ ∀ d G' v H', P d G' → Ext H G H' G' → HR K H' G' → VR K H' G' d v → Q v H'
abbrev zj9 (X : Cx) (f : Value) (r : DRn) : Prop := CallR X f (z3k X.ml r)
def dCB (r : DRn) (T : DTA) : DTE := fun η G Q => T η G fun ds G1 => r ds G1 Q
theorem z3g [Bs] {r : DRn} {T : DTA} {K : Ml} {σ : L2.St} {H : Hp} {Q : VK} (h : zqy K (dCB r T) σ H Q) : tCB (z3k K r) (zae7 K T) σ H Q :=
  let ⟨η, G, P, hs, hr, t, k⟩ := h
  ⟨η, G, _, hs, hr, t, fun ds G1 vs H1 p1 x1 r1 q1 => ⟨ds, G1, P, q1, r1, p1, fun d G' v H' p x r q => k d G' v H' p (x1.trans x) r q⟩⟩
theorem zr [Bs] {id : String} {x : Str} {p pos : Pos} {e : Expr} {es : List Expr} {r : DRn} {T : DTA} (hc : zj9 X (.builtin id) r) (hm : X.mg x = none) (hv : bootBuiltins x = some (.builtin id)) (ha : PAD X (e :: es) T) (hg : Gl X x := by rfl) (hn : x ≠ "__name__" := by decide) (hdb : (x == ("__debug__" : Str)) = false := by decide)
    (he : starEach (e :: es) X.env = (false, eval e X.env) :: starEach es X.env := by rfl) (hpl : (backTo pos (starEach es X.env)).any (·.1) = false := by rfl) : PED X (.Call (.Name x p) (e :: es) [] pos) (dCB r T) :=
  PE.impI (pe_callB hc hg hm hv ha hn hdb he hpl) fun _ _ _ _ _ _ h => z3g h
theorem zbx [Bs] {id : String} {x : Str} {p pos : Pos} {e : Expr} {es : List Expr} {r : DRn} {T : DTA} (hc : zj9 X (.type id) r) (hm : X.mg x = none) (hv : bootBuiltins x = some (.type id)) (ha : PAD X (e :: es) T) (hg : Gl X x := by rfl) (hn : x ≠ "__name__" := by decide) (hdb : (x == ("__debug__" : Str)) = false := by decide)
    (he : starEach (e :: es) X.env = (false, eval e X.env) :: starEach es X.env := by rfl) (hpl : (backTo pos (starEach es X.env)).any (·.1) = false := by rfl) : PED X (.Call (.Name x p) (e :: es) [] pos) (dCB r T) :=
  PE.impI (pe_callTy hc hg hm hv ha hn hdb he hpl) fun _ _ _ _ _ _ h => z3g h
theorem zac3 : Passes CX0 X fun _ _ _ => False := fun _ _ _ _ _ _ _ h => h.elim
/-- a def of the text keeps the promise sp -/
abbrev FnD (P : Program) (w : World) (K : PySem.W.Frag) (mg : Str → Option Value) (base : Heap) (k : Nat) (f : Addr) (fd : FuncData) (ps : List Str) (sp : DRn) : Prop := FnOk P w K mg base CX0 k f fd ps fun vs H Q _ => z3k ⟨K, w⟩ sp vs H Q
theorem zt [Bs] {k : Nat} {f : Addr} {fd : FuncData} {ps : List Str} {sp : DRn} {x : Str} {p pos : Pos} {e : Expr} {es : List Expr} {T : DTA} (F : FnD X.prog X.w X.K X.mg X.base k f fd ps sp) (hr : Room k X.A) (hm : X.mg x = some (.ref f)) (hk : PySem.W.keepIn X.K (.ref f) = true) (hb : Binds X.K fd ps [])
    (ha : PAD X (e :: es) T) (hg : Gl X x := by rfl) (hdb : (x == ("__debug__" : Str)) = false := by decide) (he : starEach (e :: es) X.env = (false, eval e X.env) :: starEach es X.env := by rfl) (hpl : (backTo pos (starEach es X.env)).any (·.1) = false := by rfl) :
    PED X (.Call (.Name x p) (e :: es) [] pos) (dCB sp T) :=
  PE.impI (pe_call F hr hg hm hk hb .nil (zac3 (X := X)) ha hdb he hpl) fun _ _ _ _ _ _ h => by
    obtain ⟨η, G, P, hs, hr, t, k⟩ := z3g h
    exact ⟨η, G, P, hs, hr, t, fun ds G' vs H' p x r q => by
      show z3k X.ml sp (vs ++ []) H' _
      rw [List.append_nil]
      exact k ds G' vs H' p x r q⟩
def tyD (T : String) (d : D) (G : DHp) : Prop := match d with
  | .str _ => T = "str"
  | .ref a => (match G a with
    | some (.lst _) => T = "list"
    | some (.dK _) => T = "dict"
    | some (.dN _) => T = "dict"
    | _ => False)
  | .nd .lst _ => T = "list"
  | .nd .scr _ => T = "list"
  | .nd (.dK _) _ => T = "dict"
  | .nd (.dN _) _ => T = "dict"
  | _ => False
theorem zaeh {pins : List (Addr × Obj)} {σ : L2.St} {H : Hp} {s : Shared} {a : Addr} {ks : List NestedKey} {vs : List V} (I : Inv X pins σ H s) (h : DnAt X.ml H a ks vs) :
    s.TypeIs (.ref a) "dict" ∧ (∀ b, Value.ref a = .ref b → ∃ ob, s.heap.get? b = some ob ∧ ob.dict = none) ∧ (a == sysModules) = false := by
  obtain ⟨xs, es, ep, h1, h2, h3, h4, h5, _⟩ := DnAt.of I h
  refine ⟨h4.typeIs, fun b q => ?_, h5⟩
  cases q
  obtain ⟨ob, ho, hx, _⟩ := h2
  exact ⟨ob, ho, hx.2.1⟩
theorem z4n {pins : List (Addr × Obj)} {σ : L2.St} {H : Hp} {G : DHp} {s : Shared} {T : String} {d : D} {x : V} {v : Value} (I : Inv X pins σ H s) (hr : HR X.ml H G) (q : VR X.ml H G d x) (r : RelV x v) (ty : tyD T d G) :
    s.TypeIs v T ∧ ∀ a, v = .ref a → ∃ ob, s.heap.get? a = some ob ∧ ob.dict = none := by
  have doL : ∀ (a : Addr) (vs : List V), x = .ref a → SqL X.K H a vs → s.TypeIs v "list" ∧ ∀ a, v = .ref a → ∃ ob, s.heap.get? a = some ob ∧ ob.dict = none := fun a vs e hq => by
    subst e
    exact tyV_is (T := "list") I r (.inl ⟨rfl, vs, hq⟩)
  have doK : ∀ (a : Addr), x = .ref a → IsD H a → s.TypeIs v "dict" ∧ ∀ a, v = .ref a → ∃ ob, s.heap.get? a = some ob ∧ ob.dict = none := fun a e hq => by
    subst e
    cases (show v = Value.ref a from r)
    exact ⟨(isD_at I hq).1, (isD_at I hq).2.1⟩
  have doN : ∀ (a : Addr) (ks : List NestedKey) (vs : List V), x = .ref a → DnAt X.ml H a ks vs → s.TypeIs v "dict" ∧ ∀ a, v = .ref a → ∃ ob, s.heap.get? a = some ob ∧ ob.dict = none := fun a ks vs e hq => by
    subst e
    cases (show v = Value.ref a from r)
    exact ⟨(zaeh I hq).1, (zaeh I hq).2.1⟩
  cases d with
  | str z =>
    rw [VR] at q; subst q
    cases (show T = "str" from ty)
    exact tyV_is I r (show tyV X.K "str" (.str z) H from rfl)
  | ref a =>
    rw [VR] at q
    cases e : G a with
    | none =>
      have : False := by simpa [tyD, e] using ty
      exact this.elim
    | some o =>
      have u := hr a o e
      cases o with
      | lst ds =>
        have : T = "list" := by simpa [tyD, e] using ty
        subst this
        obtain ⟨vs, z, _⟩ := u
        exact doL a vs q (.inl (.inl z))
      | dK ds =>
        have : T = "dict" := by simpa [tyD, e] using ty
        subst this
        obtain ⟨ws, z, _⟩ := u
        exact doK a q (.inl ⟨ws, .inl z⟩)
      | dN ds =>
        have : T = "dict" := by simpa [tyD, e] using ty
        subst this
        obtain ⟨ws, z, _⟩ := u
        exact doN a _ ws q z
      | rw _ _ _ =>
        have : False := by simpa [tyD, e] using ty
        exact this.elim
      | ins C fs =>
        have : False := by simpa [tyD, e] using ty
        exact this.elim
  | nd k ds =>
    rw [VR] at q
    obtain ⟨a, vs, e, hh, _⟩ := q
    cases k with
    | lst =>
      cases (show T = "list" from ty)
      exact doL a vs e (zeo hh (.inl rfl))
    | scr =>
      cases (show T = "list" from ty)
      exact doL a vs e (zeo hh (.inr rfl))
    | dK ks =>
      cases (show T = "dict" from ty)
      obtain ⟨_, o, z⟩ := hh
      exact doK a e (.inl ⟨_, .inr ⟨o, z⟩⟩)
    | dN ks =>
      cases (show T = "dict" from ty)
      exact doN a ks vs e hh.2
    | _ => exact ty.elim
  | _ => exact ty.elim
abbrev MtD (X : Cx) (id : String) (r : DRn) : Prop := zj9 X (.builtin id) r
def dM0 (T : String) (r : DRn) (To : DTE) : DTE := fun η G Q => To η G fun x G1 => tyD T x G1 ∧ r [x] G1 Q
def dM (T : String) (r : DRn) (To : DTE) (Ta : DTA) : DTE := fun η G Q => To η G fun x G1 => tyD T x G1 ∧ Ta η G1 fun ds G2 => r (x :: ds) G2 Q
theorem zabk [Bs] {T id : String} {o : Expr} {name : Str} {apos cpos : Pos} {r : DRn} {To : DTE} (pa : PlainAttrs T) (slot : Slot T name id) (hty : typeOf (.builtin id) = pure (.type "method_descriptor")) (hm : MtD X id r) (ho : PED X o To)
    (hbase : attributeBase o name X.env (eval o X.env) = eval o X.env := by rfl) (hline : (apos.endLine == cpos.line) = true := by rfl) : PED X (.Call (.Attribute o name apos) [] [] cpos) (dM0 T r To) := by
  refine ⟨fun pins s σ H Q I ⟨η, G, P, hs, hr, t, k⟩ => ?_⟩
  refine wpAny_Call_method0_late hbase hline (thn (ho.run pins s σ H (fun v H1 => ∃ d G1, (tyD T d G1 ∧ r [d] G1 P) ∧ Ext H G H1 G1 ∧ HR X.ml H1 G1 ∧ VR X.ml H1 G1 d v) I ⟨η, G, _, hs, hr, t, fun d G1 v H1 p x r q => ⟨d, G1, p, x, r, q⟩⟩) fun v s1 ⟨x, H1, I1, r1, d, G1, ⟨ty, p⟩, x1, hr1, q1⟩ => ?_)
  obtain ⟨h1, h2⟩ := z4n I1 hr1 q1 r1 ty
  exact ⟨T, id, pa, slot, hty, h1, h2, Calls.callWith_builtin rfl (PySem.evalArgs_none (hm pins s1 σ H1 [x] [v] Q I1 (.cons r1 .nil) ⟨[d], G1, P, .cons q1 .nil, hr1, p, fun d G' v H' p x r q => k d G' v H' p (x1.trans x) r q⟩))⟩
theorem zon [Bs] {T id : String} {o e : Expr} {es : List Expr} {name : Str} {apos cpos : Pos} {r : DRn} {To : DTE} {Ta : DTA} (pa : PlainAttrs T) (slot : Slot T name id) (hty : typeOf (.builtin id) = pure (.type "method_descriptor")) (hm : MtD X id r) (ho : PED X o To) (ha : PAD X (e :: es) Ta)
    (hbase : attributeBase o name X.env (eval o X.env) = eval o X.env := by rfl)
    (hfew : ((backTo cpos (starEach (e :: es) X.env)).all (fun x => !x.1) && (backToKw cpos (keywordEach [] X.env)).all (fun x => x.1.isSome)
      && decide ((e :: es).length + ([] : List Keyword).length + (if ([] : List Keyword).isEmpty then 0 else 1) < 30)) = true := by rfl)
    (hline : (apos.endLine == cpos.line) = true := by rfl) (hs : starEach (e :: es) X.env = (false, eval e X.env) :: starEach es X.env := by rfl) (hplain : (backTo cpos (starEach es X.env)).any (·.1) = false := by rfl) :
    PED X (.Call (.Attribute o name apos) (e :: es) [] cpos) (dM T r To Ta) := by
  refine ⟨fun pins s σ H Q I ⟨η, G, P, hs', hr, t, k⟩ => ?_⟩
  refine wpAny_Call_method_late hbase hfew hline rfl (thn (ho.run pins s σ H (fun v H1 => ∃ d G1, (tyD T d G1 ∧ Ta η G1 fun ds G2 => r (d :: ds) G2 P) ∧ Ext H G H1 G1 ∧ HR X.ml H1 G1 ∧ VR X.ml H1 G1 d v) I ⟨η, G, _, hs', hr, t, fun d G1 v H1 p x r q => ⟨d, G1, p, x, r, q⟩⟩) fun v s1 ⟨x, H1, I1, r1, d, G1, ⟨ty, p⟩, x1, hr1, q1⟩ => ?_)
  obtain ⟨h1, h2⟩ := z4n I1 hr1 q1 r1 ty
  refine ⟨T, id, pa, slot, hty, h1, h2, ?_⟩
  have hA := ha.run cpos pins s1 σ H1 (fun vs H2 => ∃ ds G2, r (d :: ds) G2 P ∧ Ext H1 G1 H2 G2 ∧ HR X.ml H2 G2 ∧ VRs X.ml H2 G2 ds vs) I1 ⟨η, G1, _, hs'.ext hr x1, hr1, p, fun ds G2 vs H2 p x r q => ⟨ds, G2, p, x, r, q⟩⟩
  rw [hs] at hA ⊢
  refine Calls.callWith_builtin (by show (false || (backTo cpos (starEach es X.env)).any (·.1)) = false; rw [hplain] <;> rfl) (Calls.evalArgs_plain ?_)
  exact thn hA fun us s2 ⟨vs, H2, I2, r2, ds, G2, p2, x2, hr2, q2⟩ => hm pins s2 σ H2 (x :: vs) (v :: us) Q I2 (.cons r1 r2) ⟨d :: ds, G2, P, .cons (q1.ext hr1 x2) q2, hr2, p2, fun d G' v H' p x r q => k d G' v H' p ((x1.trans x2).trans x) r q⟩
theorem z5n {f : Value} {r : DRn} (h : ∀ pins s σ H G vs us ds P, Inv X pins σ H s → Vals vs us → HR X.ml H G → VRs X.ml H G ds vs → r ds G P →
    wpAny (model X.prog X.w) X.A (call f us) (fun w s' => ∃ z d H' G', Inv X pins σ H' s' ∧ RelV z w ∧ P d G' ∧ Ext H G H' G' ∧ HR X.ml H' G' ∧ VR X.ml H' G' d z) X.xe s) : zj9 X f r := by
  intro pins s σ H vs us Q I r ⟨ds, G, P, q, hr, t, k⟩
  exact thn (h pins s σ H G vs us ds P I r hr q t) fun w s' ⟨z, d, H', G', I', rz, p, x', r', q'⟩ => ⟨z, H', I', rz, k d G' z H' p x' r' q'⟩
/-- what is asked of one argument -/
def d1 (g : D → DHp → DVK → Prop) : DRn := fun ds G Q => match ds with
  | [d] => g d G Q
  | _ => False
def d2 (g : D → D → DHp → DVK → Prop) : DRn := fun ds G Q => match ds with
  | [d, e] => g d e G Q
  | _ => False
def d3 (g : D → D → D → DHp → DVK → Prop) : DRn := fun ds G Q => match ds with
  | [d, e, f] => g d e f G Q
  | _ => False
theorem zld {f : Value} {g : D → DHp → DVK → Prop} (h : ∀ pins s σ H G x v d P, Inv X pins σ H s → RelV x v → HR X.ml H G → VR X.ml H G d x → g d G P →
    wpAny (model X.prog X.w) X.A (call f [v]) (fun w s' => ∃ z d H' G', Inv X pins σ H' s' ∧ RelV z w ∧ P d G' ∧ Ext H G H' G' ∧ HR X.ml H' G' ∧ VR X.ml H' G' d z) X.xe s) : zj9 X f (d1 g) := z5n fun pins s σ H G vs us ds P I r hr q t => by
  match ds, q, t with
  | [d], q, t =>
    obtain ⟨x, vs, rfl, q1, q2⟩ := q.uncons
    cases q2.nil_of
    obtain ⟨u, rfl, r1⟩ := r.one
    exact h pins s σ H G x u d P I r1 hr q1 t
  | [], _, t => exact t.elim
  | _ :: _ :: _, _, t => exact t.elim
theorem z5a {f : Value} {g : D → D → DHp → DVK → Prop} (h : ∀ pins s σ H G x y v u d e P, Inv X pins σ H s → RelV x v → RelV y u → HR X.ml H G → VR X.ml H G d x → VR X.ml H G e y → g d e G P →
    wpAny (model X.prog X.w) X.A (call f [v, u]) (fun w s' => ∃ z d H' G', Inv X pins σ H' s' ∧ RelV z w ∧ P d G' ∧ Ext H G H' G' ∧ HR X.ml H' G' ∧ VR X.ml H' G' d z) X.xe s) : zj9 X f (d2 g) := z5n fun pins s σ H G vs us ds P I r hr q t => by
  match ds, q, t with
  | [d, e], q, t =>
    obtain ⟨x, vs, rfl, q1, q2⟩ := q.uncons
    obtain ⟨y, vs, rfl, q3, q4⟩ := q2.uncons
    cases q4.nil_of
    obtain ⟨u, v, rfl, r1, r2⟩ := r.two
    exact h pins s σ H G x y u v d e P I r1 r2 hr q1 q3 t
  | [], _, t => exact t.elim
  | [_], _, t => exact t.elim
  | _ :: _ :: _ :: _, _, t => exact t.elim
/-- the list tracked at d -/
def onL (d : D) (G : DHp) (g : Addr → List D → Prop) : Prop := match d with
  | .ref a => (match G a with
    | some (.lst ds) => g a ds
    | _ => False)
  | _ => False
theorem z5h {d : D} {G : DHp} {g : Addr → List D → Prop} (h : onL d G g) : ∃ a ds, d = .ref a ∧ G a = some (.lst ds) ∧ g a ds := by
  cases d with
  | ref a =>
    have h : (match G a with | some (.lst ds) => g a ds | _ => False) := h
    cases e : G a with
    | none => rw [e] at h; exact h.elim
    | some o =>
      rw [e] at h
      cases o with
      | lst ds => exact ⟨a, ds, rfl, e, h⟩
      | _ => exact h.elim
  | _ => exact h.elim
theorem zaa8 {a : Addr} {G : DHp} {ds : List D} {g : Addr → List D → Prop} (e : G a = some (.lst ds)) (h : g a ds) : onL (.ref a) G g := by
  show (match G a with | some (.lst ds) => g a ds | _ => False)
  rw [e]; exact h
def zg8 : DRn := d2 fun l y G Q => onL l G fun a ds => ds.length < sizeLine ∧ Q .non (up G a (.lst (ds ++ [y])))
theorem zei : MtD X "list.append" zg8 := z5a fun pins s σ H G x y v u d e P I rx ry hr q1 q2 t => by
  obtain ⟨a, ds, rfl, hG, hz, t⟩ := z5h t
  rw [VR] at q1; subst q1
  obtain ⟨vs, hv, r⟩ := hr a _ hG
  have x1 : Ext H G (upd H a (.lst (vs ++ [y]))) (up G a (.lst (ds ++ [e]))) := .write hG
  exact thn (mt_append pins s σ H _ [y] v [u] (fun z H' => z = .non ∧ H' = upd H a (.lst (vs ++ [y]))) I rx (.cons ry .nil) ⟨a, vs, y, rfl, rfl, hv, by rw [r.length]; exact hz, rfl, rfl⟩) fun w s' ⟨z, H', I', rz, e1, e2⟩ => by
    subst e1 e2
    exact ⟨.non, .non, _, _, I', rz, t, x1, hr.write hG ⟨_, upd_same, (r.append (.cons q2 .nil)).ext hr x1⟩, by rw [VR]⟩
def dPop : DRn := d1 fun l G Q => onL l G fun a ds => match ds[ds.length - 1]? with
  | some y => Q y (up G a (.lst ds.dropLast))
  | none => False
theorem zaba : MtD X "list.pop" dPop := zld fun pins s σ H G x v d P I rx hr q1 t => by
  obtain ⟨a, ds, rfl, hG, t⟩ := z5h t
  rw [VR] at q1; subst q1
  obtain ⟨vs, hv, r⟩ := hr a _ hG
  cases e : ds[ds.length - 1]? with
  | none => rw [e] at t; exact t.elim
  | some y =>
    rw [e] at t
    obtain ⟨z, e2, q2⟩ := r.get e
    have x1 : Ext H G (upd H a (.lst vs.dropLast)) (up G a (.lst ds.dropLast)) := .write hG
    exact thn (mt_pop pins s σ H _ [] v [] (fun z' H' => z' = z ∧ H' = upd H a (.lst vs.dropLast)) I rx .nil ⟨a, vs, z, rfl, rfl, hv, by rw [r.length]; exact e2, rfl, rfl⟩) fun w s' ⟨z', H', I', rz, e1, e3⟩ => by
      subst e1 e3
      exact ⟨_, y, _, _, I', rz, t, x1, hr.write hG ⟨_, upd_same, r.dropLast.ext hr x1⟩, q2.ext hr x1⟩
def z4z : DRn := d2 fun l i G Q => onL l G fun a ds => match i with
  | .int i => (match ixN ds.length i with
    | some k => (match ds[k]? with
      | some y => Q y (up G a (.lst (ds.eraseIdx k)))
      | none => False)
    | none => False)
  | _ => False
theorem zaaa : MtD X "list.pop" z4z := z5a fun pins s σ H G x y v u d e P I rx ry hr q1 q2 t => by
  obtain ⟨a, ds, rfl, hG, t⟩ := z5h t
  rw [VR] at q1; subst q1
  obtain ⟨vs, hv, r⟩ := hr a _ hG
  cases e with
  | int i =>
    rw [VR] at q2; subst q2
    simp only at t
    cases ek : ixN ds.length i with
    | none => rw [ek] at t; exact t.elim
    | some k =>
      rw [ek] at t
      simp only at t
      cases e : ds[k]? with
      | none => rw [e] at t; exact t.elim
      | some y =>
        rw [e] at t
        obtain ⟨z, e2, q2⟩ := r.get e
        obtain ⟨h1, h2, h3, h4⟩ := ixN_seq ek
        have hlen := (I.lstM hv).1
        have hn := line63
        have hl := r.length
        have x1 : Ext H G (upd H a (.lst (vs.eraseIdx k))) (up G a (.lst (ds.eraseIdx k))) := .write hG
        exact thn (mt_popAt pins s σ H _ [.int i] v [u] (fun z' H' => z' = z ∧ H' = upd H a (.lst (vs.eraseIdx k))) I rx (.cons ry .nil) ⟨a, vs, i, k, z, rfl, rfl, hv, by omega, by omega, by rw [hl]; exact h1, e2, rfl, rfl⟩) fun w s' ⟨z', H', I', rz, e1, e3⟩ => by
          subst e1 e3
          exact ⟨_, y, _, _, I', rz, t, x1, hr.write hG ⟨_, upd_same, (r.eraseIdx k).ext hr x1⟩, q2.ext hr x1⟩
  | _ => exact t.elim
def zy8 : DR2 := fun x y G Q => match x, y with
  | .int i, .int j => Q (.int (i + j)) G
  | .str a, .str b => a.length + b.length ≤ sizeLine ∧ Q (.str (a ++ b)) G
  | .ref a, y => onL (.ref a) G fun a ds => (match der y G with
    | .nd .lst es => ds.length + es.length ≤ sizeLine ∧ Q (.ref a) (up G a (.lst (ds ++ es)))
    | _ => False)
  | _, _ => False
theorem zwe : OpD X (inplaceOp .Add) zy8 := zoy fun pins s σ H G x y v u dx dy P I rx ry hr q1 q2 t => by
  unfold zy8 at t
  split at t
  · rename_i i j
    rw [VR] at q1 q2
    subst q1 q2
    obtain ⟨t1, rfl⟩ := rx
    obtain ⟨t2, rfl⟩ := ry
    exact iadd_int (zb4 (z := .int (i + j)) (I.tok _) ⟨_, rfl⟩ hr (by rw [VR]) t)
  · rename_i i j
    rw [VR] at q1 q2
    subst q1 q2
    exact thn (iop_add_str pins s σ H _ _ v u (fun z H' => z = .str (i ++ j) ∧ H' = H) I rx ry ⟨i, j, rfl, rfl, t.1, rfl, rfl⟩) fun w s' ⟨z, H', I', rz, e1, e2⟩ => by
      subst e1 e2
      exact zb4 I' rz hr (by rw [VR]) t.2
  · rename_i a
    obtain ⟨a, ds, e0, hG, t⟩ := z5h t
    cases e0
    rw [VR] at q1; subst q1
    obtain ⟨vs, hv, r⟩ := hr a _ hG
    split at t
    · rename_i es ed
      obtain ⟨b, ws, e1, h1, r1⟩ := zo4 hr q2 ed
      subst e1
      have x1 : Ext H G (upd H a (.lst (vs ++ ws))) (up G a (.lst (ds ++ es))) := .write hG
      exact thn (iop_ext pins s σ H _ _ v u (fun z H' => z = .ref a ∧ H' = upd H a (.lst (vs ++ ws))) I rx ry ⟨a, b, vs, ws, rfl, rfl, hv, h1, by rw [r.length, r1.length]; exact t.1, rfl, rfl⟩) fun w s' ⟨z, H', I', rz, e1, e2⟩ => by
        subst e1 e2
        exact ⟨.ref a, .ref a, _, _, I', rz, t.2, x1, hr.write hG ⟨_, upd_same, (r.append r1).ext hr x1⟩, by rw [VR]⟩
    · exact t.elim
  · exact t.elim
def dAug (i : Nat) (T : DTE) (r : DR2) : DTS := fun F η G => match η[i]? with
  | some (some x) => T η G fun y G1 => r x y G1 fun z G2 => F.nx (η.set i (some z)) G2
  | _ => False
theorem zz1 [Bs] {i : Nat} {x : Str} {e : Expr} {T : DTE} {op : Operator} {r : DR2} {pos' pos : Pos} (hN : X.N.Nodup) (hi : X.N[i]? = some x) (hx : Loc X.env.scope x) (he : PED X e T) (ho : OpD X (inplaceOp op) r) (hf : X.fn x = true ∨ X.env.scope.names.lookup x = some .local := by first | exact .inl rfl | exact .inr rfl | assumption) :
    PSD X (.AugAssign (.Name x pos') op e pos) (dAug i T r) :=
  PS.impI (ps_aug hN hi hx he (show PIp X op (zt9 X.ml r) from ho) hf) fun _ _ σ H E _ ⟨η, G, F, hs, hr, t, k⟩ => by
    unfold dAug at t
    split at t
    · rename_i d e
      obtain ⟨v, q, rv⟩ := hs.2 i d e
      exact ⟨v, q, η, G, _, hs, hr, t, fun y G1 vy H1 p1 x1 r1 q1 => ⟨d, y, G1, _, r1, rv.ext hr x1, q1, p1, fun z G2 vz H2 p2 x2 r2 q2 => k.nx _ G2 _ H2 p2 (x1.trans x2) ((hs.ext hr (x1.trans x2)).set i q2) r2⟩⟩
    · exact t.elim
/-- o[i], of a list -/
def z7q : DR2 := fun x y G Q => match der x G with
  | .nd .lst ds => atD ds y fun d => Q d G
  | _ => False
theorem zaax : OpD X getItem z7q := zoy fun pins s σ H G x y v u dx dy P I rx ry hr q1 q2 t => by
  unfold z7q at t
  split at t
  · rename_i ds e
    obtain ⟨a, vs, rfl, h1, r1⟩ := zo4 hr q1 e
    cases dy with
    | int i =>
      rw [VR] at q2; subst q2
      cases ea : atI ds i with
      | none =>
        have : False := by simpa [atD, ea] using t
        exact this.elim
      | some d =>
        have t : P d G := by simpa [atD, ea] using t
        obtain ⟨z, e2, q⟩ := z67 r1 ea
        cases rx
        obtain ⟨tk, rfl⟩ := ry
        obtain ⟨its, r, pl, hz⟩ := I.list (.inl (.inl h1))
        obtain ⟨j, g1, g2, g3, g4, g5⟩ := atI_get e2
        obtain ⟨w, ew, rw'⟩ := r.get g2
        have hl := r.length
        have fin : ∃ z d H' G', Inv X pins σ H' s ∧ RelV z w ∧ P d G' ∧ Ext H G H' G' ∧ HR X.ml H' G' ∧ VR X.ml H' G' d z := zb4 I rw' hr q t
        have hn := line63
        by_cases h0 : 0 ≤ i
        · have hj : i.toNat = j := by
            rw [seqIndex_of h0 g5] at g1
            exact Option.some.inj g1
          exact wpAny_getItem_list pl.isList h0 (by omega) (by rw [hj]; simpa using ew) fin
        · have hj : (i + (its.toArray.size : Int)).toNat = j := by
            rw [seqIndex_neg (by omega) g4] at g1
            rw [List.size_toArray, ← hl]
            exact Option.some.inj g1
          exact wpAny_getItem_list_neg pl.isList (by omega) (by rw [List.size_toArray] <;> omega) (by omega) (by rw [hj]; simpa using ew) fin
    | _ => exact t.elim
  · exact t.elim
def zr7 (To Ti Te : DTE) (rg rp : DR2) (rs : DSet) : DTS := fun F η G => To η G fun o G1 => Ti η G1 fun i G2 => rg o i G2 fun x G3 => Te η G3 fun y G4 => rp x y G4 fun z G5 => rs o i z G5 fun G6 => F.nx η G6
theorem zaaf [Bs] {o i e : Expr} {To Ti Te : DTE} {rg rp : DR2} {rs : DSet} {op : Operator} {tpos pos : Pos} (ho : PED X o To) (hi : PED X i Ti) (hg : OpD X getItem rg) (he : PED X e Te) (hp : OpD X (inplaceOp op) rp) (hs : PSet X (zzi X.ml rs))
    (ha : ∀ ov iv new, augStore i ov iv new = (do holding [new, ov, iv] (setItem ov iv new); release [new, ov, iv] []; pure .next) := by intros; rfl) : PSD X (.AugAssign (.Subscript o i tpos) op e pos) (zr7 To Ti Te rg rp rs) :=
  PS.impI (ps_augS ho hi (show PGet X (zt9 X.ml rg) from hg) he (show PIp X op (zt9 X.ml rp) from hp) hs ha) fun _ _ σ H E _ ⟨η, G, F, hs, hr, t, k⟩ =>
    ⟨η, G, _, hs, hr, t, fun d1 G1 v1 H1 p1 x1 r1 q1 => ⟨η, G1, _, hs.ext hr x1, r1, p1, fun d2 G2 v2 H2 p2 x2 r2 q2 =>
      ⟨d1, d2, G2, _, r2, q1.ext r1 x2, q2, p2, fun d3 G3 v3 H3 p3 x3 r3 q3 => ⟨η, G3, _, hs.ext hr ((x1.trans x2).trans x3), r3, p3, fun d4 G4 v4 H4 p4 x4 r4 q4 =>
        ⟨d3, d4, G4, _, r4, q3.ext r3 x4, q4, p4, fun d5 G5 v5 H5 p5 x5 r5 q5 => ⟨d1, d2, d5, G5, _, r5, q1.ext r1 (((x2.trans x3).trans x4).trans x5), q2.ext r2 ((x3.trans x4).trans x5), q5, p5, fun G6 H6 p6 x6 r6 =>
          k.nx η G6 σ H6 p6 (((((x1.trans x2).trans x3).trans x4).trans x5).trans x6) (hs.ext hr (((((x1.trans x2).trans x3).trans x4).trans x5).trans x6)) r6⟩⟩⟩⟩⟩⟩
end
end DL
namespace DL
open PySem PySem.Spec PyProof.Rows L2
section
variable {X : Cx}
def sqD (d : D) (G : DHp) : Option (List D) := match der d G with
  | .nd .lst ds => some ds
  | .nd .scr ds => some ds
  | .nd .tup ds => some ds
  | _ => none
/-- .. lists alone -/
def lsD (d : D) (G : DHp) : Option (List D) := match der d G with
  | .nd .lst ds => some ds
  | .nd .scr ds => some ds
  | _ => none
theorem zys {K : Ml} {H : Hp} {G : DHp} (hr : HR K H G) {d : D} {v : V} {ds : List D} (h : VR K H G d v) (e : lsD d G = some ds) : ∃ a vs, v = .ref a ∧ SqL K.K H a vs ∧ VRs K H G ds vs := by
  unfold lsD at e
  split at e
  · rename_i es e1
    cases e
    obtain ⟨a, vs, rfl, h1, r1⟩ := zo4 hr h e1
    exact ⟨a, vs, rfl, .inl (.inl h1), r1⟩
  · rename_i es e1
    cases e
    have e1 := zob e1 (fun _ h => nomatch h)
    subst e1
    rw [VR] at h
    obtain ⟨a, vs, rfl, h1, r1⟩ := h
    exact ⟨a, vs, rfl, zeo h1 (.inr rfl), r1⟩
  · cases e
theorem z7k {K : Ml} {H : Hp} {G : DHp} (hr : HR K H G) {d : D} {v : V} {ds : List D} (h : VR K H G d v) (e : sqD d G = some ds) : ∃ a vs, v = .ref a ∧ (SqL K.K H a vs ∨ SqT K.K H a vs) ∧ VRs K H G ds vs := by
  unfold sqD at e
  split at e
  · rename_i es e1
    cases e
    obtain ⟨a, vs, rfl, h1, r1⟩ := zo4 hr h e1
    exact ⟨a, vs, rfl, .inl (.inl (.inl h1)), r1⟩
  · rename_i es e1
    cases e
    have e1 := zob e1 (fun _ h => nomatch h)
    subst e1
    rw [VR] at h
    obtain ⟨a, vs, rfl, h1, r1⟩ := h
    exact ⟨a, vs, rfl, .inl (zeo h1 (.inr rfl)), r1⟩
  · rename_i es e1
    cases e
    have e1 := zob e1 (fun _ h => nomatch h)
    subst e1
    rw [VR] at h
    obtain ⟨a, vs, rfl, h1, r1⟩ := h
    exact ⟨a, vs, rfl, .inr h1, r1⟩
  · cases e
def dLen : DRn := d1 fun d G Q => match sqD d G with
  | some ds => Q (.int ds.length) G
  | none => match dicN d G with
    | some kvs => Q (.int kvs.length) G
    | none => match dicK d G with
      | some kvs => Q (.int kvs.length) G
      | none => match d with
        | .str x => x.length ≤ sizeLine ∧ Q (.int x.length) G
        | _ => False
theorem zh4 : zj9 X (.builtin "len") dLen := zld fun pins s σ H G x v d P I rx hr q1 t => by
  split at t
  · rename_i ds e
    obtain ⟨a, vs, rfl, hq, r⟩ := z7k hr q1 e
    exact thn (call_len_seq pins s σ H [.ref a] [v] (fun z H' => z = .int ds.length ∧ H' = H) I (.cons rx .nil) ⟨a, vs, rfl, hq, by rw [r.length], rfl⟩) fun w s' ⟨z, H', I', rz, e1, e2⟩ => by
      subst e1 e2
      exact zb4 I' rz hr (by rw [VR]) t
  · split at t
    · rename_i kvs e
      obtain ⟨a, ws, rfl, dn, vr⟩ := zqv hr q1 e
      obtain ⟨xs, es, ep, h1, h2, h3, h4, h5, h6, h7, _⟩ := DnAt.of I dn
      cases (show v = Value.ref a from rx)
      have hl : xs.length = kvs.length := by have := congrArg List.length h6; simpa using this
      have hn := line63
      refine call_len_dictH h5 h4 (by rw [List.length_map] at h7; omega) ?_
      rw [hl]
      exact zb4 (z := .int kvs.length) (I.tok _) ⟨_, rfl⟩ hr (by rw [VR]) t
    · split at t
      · rename_i kvs e
        obtain ⟨a, ws, rfl, rd, e1, vr⟩ := zqw hr q1 e
        cases (show v = Value.ref a from rx)
        have hl : ws.length = kvs.length := by have := congrArg List.length e1; simpa using this
        refine d_len I rd fun tk s' I' => ?_
        rw [hl]
        exact zb4 (z := .int kvs.length) I' ⟨_, rfl⟩ hr (by rw [VR]) t
      · split at t
        · rename_i z _ _ _
          rw [VR] at q1; subst q1
          exact thn (call_len_str pins s σ H [.str z] [v] (fun z' H' => z' = .int z.length ∧ H' = H) I (.cons rx .nil) ⟨z, rfl, t.1, rfl, rfl⟩) fun w s' ⟨z', H', I', rz, e1, e2⟩ => by
            subst e1 e2
            exact zb4 I' rz hr (by rw [VR]) t.2
        · exact t.elim
def dAbs : DRn := d1 fun d G Q => match d with
  | .int i => Q (.int (if i < 0 then -i else i)) G
  | _ => False
theorem z4l : zj9 X (.builtin "abs") dAbs := zld fun pins s σ H G x v d P I rx hr q1 t => by
  cases d with
  | int i =>
    rw [VR] at q1; subst q1
    exact thn (call_abs pins s σ H [.int i] [v] (fun z' H' => z' = .int (if i < 0 then -i else i) ∧ H' = H) I (.cons rx .nil) ⟨i, rfl, rfl, rfl⟩) fun w s' ⟨z', H', I', rz, e1, e2⟩ => by
      subst e1 e2
      exact zb4 I' rz hr (by rw [VR]) t
  | _ => exact t.elim
def dInt : DRn := d1 fun d G Q => match d with
  | .int i => Q (.int i) G
  | .bl b => Q (.int (if b then 1 else 0)) G
  | _ => False
theorem zy3 : zj9 X (.type "int") dInt := zld fun pins s σ H G x v d P I rx hr q1 t => by
  cases d with
  | int i =>
    rw [VR] at q1; subst q1
    exact thn (call_int1 pins s σ H [.int i] [v] (fun z' H' => z' = .int i ∧ H' = H) I (.cons rx .nil) (.inl ⟨i, rfl, rfl, rfl⟩)) fun w s' ⟨z', H', I', rz, e1, e2⟩ => by
      subst e1 e2
      exact zb4 I' rz hr (by rw [VR]) t
  | bl i =>
    rw [VR] at q1; subst q1
    exact thn (call_int1 pins s σ H [.bl i] [v] (fun z' H' => z' = .int (if i then 1 else 0) ∧ H' = H) I (.cons rx .nil) (.inr ⟨i, rfl, rfl, rfl⟩)) fun w s' ⟨z', H', I', rz, e1, e2⟩ => by
      subst e1 e2
      exact zb4 I' rz hr (by rw [VR]) t
  | _ => exact t.elim
theorem VRs.bls {K : Ml} {H : Hp} {G : DHp} {bs : List Bool} {vs : List V} (h : VRs K H G (bs.map D.bl) vs) : vs = bs.map V.bl :=
  h.map_eq _ _ fun a v q => by rw [VR] at q; exact q
def dAny : DRn := d1 fun d G Q => ∃ bs : List Bool, lsD d G = some (bs.map .bl) ∧ Q (.bl (bs.any id)) G
def dAll : DRn := d1 fun d G Q => ∃ bs : List Bool, lsD d G = some (bs.map .bl) ∧ Q (.bl (bs.all id)) G
theorem zabe (hc : X.calm = true) : zj9 X (.builtin "any") dAny := zld fun pins s σ H G x v d P I rx hr q1 ⟨ns, e, t⟩ => by
  obtain ⟨a, vs, rfl, hq, r⟩ := zys hr q1 e
  have e3 := r.bls; subst e3
  exact thn (cr_any hc pins s σ H [.ref a] [v] (fun z' H' => z' = .bl (ns.any id) ∧ H' = H) I (.cons rx .nil) ⟨a, ns, rfl, hq, rfl, rfl⟩) fun w s' ⟨z', H', I', rz, e1, e2⟩ => by
    subst e1 e2
    exact zb4 I' rz hr (by rw [VR]) t
theorem zue (hc : X.calm = true) : zj9 X (.builtin "all") dAll := zld fun pins s σ H G x v d P I rx hr q1 ⟨ns, e, t⟩ => by
  obtain ⟨a, vs, rfl, hq, r⟩ := zys hr q1 e
  have e3 := r.bls; subst e3
  exact thn (cr_all hc pins s σ H [.ref a] [v] (fun z' H' => z' = .bl (ns.all id) ∧ H' = H) I (.cons rx .nil) ⟨a, ns, rfl, hq, rfl, rfl⟩) fun w s' ⟨z', H', I', rz, e1, e2⟩ => by
    subst e1 e2
    exact zb4 I' rz hr (by rw [VR]) t
def zmr : DRn := d1 fun d G Q => match sqD d G with
  | some ds => Q (.nd .tup ds) G
  | none => False
theorem zkj : zj9 X (.type "tuple") zmr := zld fun pins s σ H G x v d P I rx hr q1 t => by
  split at t
  · rename_i ds e
    obtain ⟨a, vs, rfl, hq, r⟩ := z7k hr q1 e
    refine thn (call_tuple_of pins s σ H [.ref a] [v] (fun z H' => Ext H G H' G ∧ HR X.ml H' G ∧ VR X.ml H' G (.nd .tup ds) z) I (.cons rx .nil) ⟨a, vs, rfl, ?_⟩) fun w s' ⟨z, H', I', rz, x', r', q'⟩ => ⟨z, _, H', G, I', rz, t, x', r', q'⟩
    rcases hq with hq | hq
    · refine .inl ⟨hq, fun l hl => ?_⟩
      have x2 : Ext H G (upd H l (.tup vs)) G := .laid hl
      refine ⟨x2, hr.laid hl, ?_⟩
      rw [VR]
      exact ⟨l, vs, rfl, .inl (.inl upd_same), r.ext hr x2⟩
    · refine .inr ⟨hq, .refl _ _, hr, ?_⟩
      rw [VR]
      exact ⟨a, vs, rfl, hq, r⟩
  · exact t.elim
/-- a new list; it is tracked -/
def z6w : DRn := d1 fun d G Q => match sqD d G with
  | some ds => ∀ p, G p = none → Q (.ref p) (up G p (.lst ds))
  | none => False
theorem z60 : zj9 X (.type "list") z6w := zld fun pins s σ H G x v d P I rx hr q1 t => by
  split at t
  · rename_i ds e
    obtain ⟨a, vs, rfl, hq, r⟩ := z7k hr q1 e
    refine thn (call_list_of pins s σ H [.ref a] [v] (fun z H' => ∃ p, z = .ref p ∧ H p = none ∧ H' = upd H p (.lst vs)) I (.cons rx .nil) ⟨a, vs, rfl, hq, fun l hl => ⟨l, rfl, hl, rfl⟩⟩) fun w s' ⟨z, H', I', rz, p, e1, hp, e2⟩ => ?_
    subst e1 e2
    have x2 : Ext H G (upd H p (.lst vs)) (up G p (.lst ds)) := .new hp
    exact ⟨.ref p, .ref p, _, _, I', rz, t p (hr.free hp), x2, hr.new hp ⟨vs, upd_same, r.ext hr x2⟩, by rw [VR]⟩
  · exact t.elim
theorem zta {K : Ml} {H : Hp} {G : DHp} : ∀ {ds : List D} {vs : List V} {us : List Value}, VRs K H G ds vs → Vals vs us → PySem.W.EachIs (fun u d => ∃ v, RelV v u ∧ VR K H G d v) us ds
  | [], _, _, h, r => by rw [h.nil_of] at r; cases r; exact .nil
  | d :: ds, _, _, h, r => by
    obtain ⟨v, vs, rfl, q, t⟩ := h.uncons
    cases r with
    | cons r1 r2 => exact .cons ⟨v, r1, q⟩ (zta t r2)
theorem zmq {K : Ml} {H : Hp} {G : DHp} : ∀ {us : List Value} {ds : List D}, PySem.W.EachIs (fun u d => ∃ v, RelV v u ∧ VR K H G d v) us ds → ∃ vs, Vals vs us ∧ VRs K H G ds vs
  | _, _, .nil => ⟨[], .nil, .nil⟩
  | _, _, .cons ⟨v, r, q⟩ t => by
    obtain ⟨vs, a, b⟩ := zmq t
    exact ⟨v :: vs, .cons r a, .cons q b⟩
theorem zmt {pins : List (Addr × Obj)} {σ : L2.St} {H : Hp} {G : DHp} {s : Shared} (I : Inv X pins σ H s) : ∀ {ds : List D} {vs : List V} {us : List Value}, VRs X.ml H G ds vs → Vals vs us → plainDs ds = true → PySem.W.EachIs (fun u d => ∃ as, Reads s.heap u (py d) as) us ds
  | [], _, _, h, r, _ => by rw [h.nil_of] at r; cases r; exact .nil
  | d :: ds, _, _, h, r, p => by
    obtain ⟨v, vs, rfl, q, t⟩ := h.uncons
    rw [plainDs, Bool.and_eq_true] at p
    cases r with
    | cons r1 r2 => exact .cons (Dp.reads I _ _ _ (q.dp p.1) r1) (zmt I t r2 p.2)
def srt (ds : List D) : List D := ds.mergeSort (PySem.W.dataLe false py)
/-- a new list; it is tracked -/
def zty : DRn := d1 fun d G Q => match lsD d G with
  | some ds => (plainDs ds = true ∧ PySem.W.AllAlike (ds.map py) ∧ PySem.W.Sortable (ds.map py) ∧ ∀ d ∈ ds, (py d).depth ≤ 60) ∧ ∀ p, G p = none → Q (.ref p) (up G p (.lst (srt ds)))
  | none => False
theorem zsv (hu : X.A.units + 64 < cLine) : zj9 X (.builtin "sorted") zty := zld fun pins s σ H G x v d P I rx hr q1 t => by
  split at t
  · rename_i ds e
    obtain ⟨⟨p1, p2, p3, p4⟩, t⟩ := t
    obtain ⟨a, vs, rfl, hq, r⟩ := zys hr q1 e
    cases (show v = Value.ref a from rx)
    obtain ⟨its, rv, pl, hz⟩ := I.list hq
    refine PySem.W.sorted_data (R := fun u d => ∃ v, RelV v u ∧ VR X.ml H G d v) (enc := py) (bs := ds) pl.isList (zta r rv) (zmt I r rv p1) p2 p3 (by rw [← r.length]; exact hz) (fun b hb => by have := p4 b hb; omega) fun out ho eo => ?_
    obtain ⟨ws, rw', qs⟩ := zmq eo
    obtain ⟨ep, he'⟩ := PyProof.Rows.sortedAll_at s.heap its out.toArray
    have hp : H (s.heap.objs.size + 1) = none := I.hok.fresh (Nat.le_succ _)
    have x2 : Ext H G (upd H (s.heap.objs.size + 1) (.lst ws)) (up G (s.heap.objs.size + 1) (.lst (srt ds))) := .new hp
    have hlen : ws.length ≤ sizeLine := by rw [rw'.length, ho, ← r.length]; exact hz
    have I' : Inv X pins σ (upd H (s.heap.objs.size + 1) (.lst ws)) { s with heap := PyProof.Rows.sortedAll s.heap its (List.toArray out) } :=
      I.laid (t' := s.toks) (fun _ _ => PyProof.Rows.sortedAll_old) (Nat.le_succ _) ⟨hlen, out, ep, rw', he'⟩
    exact ⟨.ref _, .ref _, _, _, I', rfl, t _ (hr.free hp), x2, hr.new hp ⟨ws, upd_same, qs.ext hr x2⟩, by rw [VR]⟩
  · exact t.elim
def zabx : DRn := d2 fun x y G Q => match dicN x G with
  | some kvs => (match y with
    | .nd .tup ks => (match D.key (.nd .tup ks) with
      | some k => k.depth ≤ 8 ∧ Q ((dval kvs k).getD .non) G
      | none => False)
    | _ => False)
  | none => match dicK x G with
    | some kvs => (match y.kK with
      | some k => Q ((dval kvs k).getD .non) G
      | none => False)
    | none => False
theorem zadg (hu : X.A.units + 64 < cLine) : MtD X "dict.get" zabx := z5a fun pins s σ H G x y v u dx dy P I rx ry hr q1 q2 t => by
  split at t
  · rename_i kvs e
    split at t
    · rename_i ks
      split at t
      · rename_i k ek
        obtain ⟨h8, t⟩ := t
        have ka := zt8 q2 ek
        obtain ⟨c, ws, rfl, dn, vr⟩ := zqv hr q1 e
        obtain ⟨xs, es, ep, h1, h2, h3, h4, h5, h6, h7, h9, h10⟩ := DnAt.of I dn
        rw [VR] at q2
        obtain ⟨b', vs, rfl, hb, rb⟩ := q2
        cases (show v = Value.ref c from rx)
        cases (show u = Value.ref b' from ry)
        refine call_meetsIn PySem.F.slot_dict_get h4.typeIs PySem.F.entry_dict_get (PySem.F.args_dict_get_2 _ _) (meetsH_dict_get (nestedKind X.prog X.w) c b' h5) ⟨zvz hu, k, xs, ⟨zio I ka rfl, h8⟩, h4, ?_⟩
        rcases zor (K := Unit) (k := k) h10 kvs H G X.ml h6 vr with ⟨e1, e2⟩ | ⟨d, w, p, e1, e2, rw', qw⟩
        · rw [e1] at t; rw [e2]
          exact zb4 (z := .non) (I.tok _) rfl hr (by show VR _ _ _ .non .non; rw [VR]) t
        · rw [e1] at t; rw [e2]
          exact zb4 (I.tok _) rw' hr qw t
      · exact t.elim
    · exact t.elim
  · split at t
    · rename_i kvs e
      split at t
      · rename_i k ek
        obtain ⟨c, ws, rfl, rd, e1, vr⟩ := zqw hr q1 e
        cases (show v = Value.ref c from rx)
        have ex := z6p q2 ek
        subst ex
        refine d_get1 (by omega) I (.inl ⟨ws, k, rd, rfl, rfl⟩) ry fun w' s' I' rw' => ?_
        rcases zw0 k e1 vr with ⟨e2, e3⟩ | ⟨d, w, e2, e3, qw⟩
        · rw [e2] at t; rw [e3] at rw'
          exact zb4 I' rw' hr (by show VR _ _ _ .non .non; rw [VR]) t
        · rw [e2] at t; rw [e3] at rw'
          exact zb4 I' rw' hr qw t
      · exact t.elim
    · exact t.elim
def z89 : DTE := fun _ G Q => ∀ p, G p = none → Q (.ref p) (up G p (.dN []))
def z8u : DTE := fun _ G Q => ∀ p, G p = none → Q (.ref p) (up G p (.dK []))
theorem z5p [Bs] {pos : Pos} : PED X (.Dict [] [] pos) z8u := PE.impI pe_dnewK fun _ _ σ H Q _ ⟨η, G, P, hs, hr, t, k⟩ => fun p hp =>
  k (.ref p) _ (.ref p) _ (t p (hr.free hp)) (.new hp) (hr.new hp ⟨[], upd_same, rfl, .nil⟩) (by rw [VR])
theorem z1y {pins : List (Addr × Obj)} {σ : L2.St} {H : Hp} {s : Shared} (I : Inv X pins σ H s) : Inv X pins σ (upd H s.heap.objs.size (rawO s.heap.objs.size #[] 0)) { s with heap := s.heap.push { cls := .type "dict", data := .dict #[] } } := by
  have e := Heap.get?_push_size s.heap (o := { cls := .type "dict", data := .dict #[] }) rfl
  have hr : (s.heap.push { cls := .type "dict", data := .dict #[] }).DictRaw s.heap.objs.size #[] 0 := ⟨_, e, ⟨rfl, rfl, rfl⟩, rfl⟩
  exact I.laid (t' := s.toks) (fun _ _ q => Heap.get?_push_of_some _ q) (Nat.le_refl _) ⟨hr, ⟨_, e⟩, fun h1 h2 φ k => φ.at k⟩
theorem z4r {pins : List (Addr × Obj)} {σ : L2.St} {H : Hp} {s : Shared} (I : Inv X pins σ H s) : (s.heap.objs.size == sysModules) = false :=
  beq_eq_false_iff_ne.mpr (Ne.symm (Nat.ne_of_lt I.big))
theorem zyt {K : Ml} {H : Hp} {a : Addr} (h : H a = some (rawO a #[] 0)) (hs : (a == sysModules) = false) : DnAt K H a [] [] :=
  ⟨[], #[], 0, h, hs, rfl, rfl, List.nodup_nil, Nat.zero_le _, (fun _ hx => nomatch hx), .nil⟩
theorem z5e [Bs] {pos : Pos} : PED X (.Dict [] [] pos) z89 := ⟨fun pins s σ H Q I ⟨η, G, P, hs, hr, t, k⟩ => by
  have hp : H s.heap.objs.size = none := I.hok.fresh (Nat.le_refl _)
  exact wpAny_Dict_empty ⟨.ref s.heap.objs.size, _, z1y I, rfl, k _ _ _ _ (t _ (hr.free hp)) (.new hp) (hr.new hp ⟨[], zyt upd_same (z4r I), .nil⟩) (by rw [VR])⟩⟩
end
end DL
namespace DL
open PySem PySem.Spec PyProof.Rows L2
/-- at d a dict with just the entries es stays -/
def zx4 (H : Hp) (d : Addr) (es : Array DictEntry) (ep : Nat) : Prop := (H d = some (rawO d es ep) ∨ ∃ o kvs, H d = some (.frz o (.dK kvs)) ∧ o.ExactDict ∧ o.data = .dict es ep) ∧ (d == sysModules) = false
section
variable {X : Cx} {pins : List (Addr × Obj)} {σ : L2.St} {H : Hp} {s : Shared} {d : Addr} {es : Array DictEntry} {ep : Nat}
theorem zx4.raw (h : zx4 H d es ep) (I : Inv X pins σ H s) : s.heap.DictRaw d es ep := by
  rcases h.1 with h | ⟨o, kvs, h, hx, hd⟩
  · obtain ⟨φ, _, _⟩ := (show ObjOk X.prog X.w H s.heap d (rawO d es ep) from I.hok d _ h)
    exact φ
  · obtain ⟨hg, _⟩ := I.hok d _ h
    exact ⟨o, hg, hx, hd⟩
end
/-- the items of a walk over kv -/
def EntV (es : Array DictEntry) (kv : List (V × V)) : Prop := Paired (fun (p : V × V) (e : DictEntry) => RelV p.1 e.key ∧ RelV p.2 e.val) kv es.toList
theorem EntV.size {es : Array DictEntry} {kv : List (V × V)} (h : EntV es kv) : kv.length = es.size := by
  have := Paired.length h
  rw [Array.length_toList] at this
  exact this
theorem EntV.at {es : Array DictEntry} {kv : List (V × V)} (h : EntV es kv) {i : Nat} {p : V × V} (e : kv[i]? = some p) (hi : i < es.size) : RelV p.1 es[i].key ∧ RelV p.2 es[i].val := by
  obtain ⟨b, hb, r⟩ := paired_get h e
  rw [Array.getElem?_toList, Array.getElem?_eq_getElem hi] at hb
  cases hb
  exact r
def Itw (d : Addr) (es : Array DictEntry) (ep : Nat) (kv : List (V × V)) : It :=
  ⟨fun i H => zx4 H d es ep ∧ i < kv.length, fun i H x H' => ∃ T k v, kv[i]? = some (k, v) ∧ x = .ref T ∧ H T = none ∧ H' = upd H T (.tup [k, v]), fun i H => zx4 H d es ep ∧ kv.length ≤ i⟩
def Itwk (d : Addr) (es : Array DictEntry) (ep : Nat) (kv : List (V × V)) : It :=
  ⟨fun i H => zx4 H d es ep ∧ i < kv.length, fun i H x H' => H' = H ∧ ∃ v, kv[i]? = some (x, v), fun i H => zx4 H d es ep ∧ kv.length ≤ i⟩
section
variable {P : Program} {w : World} {K : PySem.W.Frag} {tg : Expr} {d : Addr} {es : Array DictEntry} {ep : Nat} {kv : List (V × V)}
theorem z92 {elts : List Expr} {kk : Nat} {tpos : Pos} (it : Addr) (hv : EntV es kv) : Turn P w K (.Tuple elts kk tpos) (Itw d es ep kv) [it] it (fun n_i g_ => ∃ k_o v_o, IsItemIter g_ it d n_i es.size ep k_o v_o) where
  mem := by simp
  obj := fun n_i g_ sit c_ hcb => by
    have eq_ : c_ = it := by simpa using hcb
    subst eq_
    obtain ⟨k_o, v_o, eq_⟩ := sit
    exact ⟨_, eq_, fun vv zz => nomatch zz⟩
  keep := fun n_i g_ g' sit kp => let ⟨k_o, v_o, eq_⟩ := sit; ⟨k_o, v_o, kp it (by simp) _ eq_⟩
  item := by
    intro Y eP ew eK cal n_i pn s_a τ M Ex Iv young sit can
    subst eP ew eK
    obtain ⟨raw_, lt_⟩ := can
    have dr := raw_.raw Iv
    obtain ⟨k_o, v_o, hit_⟩ := sit
    have low : it < s_a.heap.objs.size := Heap.lt_size hit_
    have lt' : n_i < es.size := by rw [← hv.size]; exact lt_
    have at_i : kv[n_i]? = some kv[n_i] := List.getElem?_eq_getElem lt_
    obtain ⟨r1, r2⟩ := hv.at at_i lt'
    refine wpAny_pyNext_items_item_raw hit_ dr lt' fun g' out_ hT_ hz_ kept_ => ?_
    refine ⟨_, rfl, wpAny_letOwnedTupleGo_items (s := { s_a with heap := g' }) out_ fun g'' hit' same_ => ?_⟩
    have hT3 : g''.get? s_a.heap.objs.size = some { cls := .type "tuple", data := .seq #[es[n_i].key, es[n_i].val] } := (same_.2 _ (Nat.ne_of_gt low)).trans hT_
    have new_ : ObjOk Y.prog Y.w (upd M s_a.heap.objs.size (.tup [kv[n_i].1, kv[n_i].2])) g'' s_a.heap.objs.size (.tup [kv[n_i].1, kv[n_i].2]) :=
      ⟨by show 2 ≤ sizeLine; decide, [es[n_i].key, es[n_i].val], .cons r1 (.cons r2 .nil), ⟨_, hT3, rfl, _, rfl⟩⟩
    have Iw : Inv Y pn τ (upd M s_a.heap.objs.size (.tup [kv[n_i].1, kv[n_i].2])) { s_a with heap := g'' } :=
      Iv.turnedNew (t' := s_a.toks) (ch := [it]) (fun c_ o_b hcb eq_ => (same_.2 c_ (by simpa using hcb)).trans (kept_ c_ o_b (by simpa using hcb) eq_)) young (Nat.le_refl _) new_
    refine ⟨.ref s_a.heap.objs.size, _, Iw, rfl, ⟨_, kv[n_i].1, kv[n_i].2, at_i, rfl, Iv.hok.fresh (Nat.le_refl _), rfl⟩, ⟨es[n_i].key, es[n_i].val, hit'⟩, fun c_ hcb => ?_⟩
    have eq_ : c_ = it := by simpa using hcb
    rw [eq_, upd_ne (Nat.ne_of_lt low)]
    exact (young it (by simp)).1
  done := by
    intro Y eP ew eK cal n_i pn s_a τ M Ex Iv young sit can
    subst eP ew eK
    obtain ⟨raw_, lt_⟩ := can
    obtain ⟨p0, p1, p2, p3, p4, p5⟩ := young it (by simp)
    have dr := raw_.raw Iv
    obtain ⟨k_o, v_o, hit_⟩ := sit
    exact wpAny_pyNext_items_end_raw (Iv.ok.hd cal) hit_ dr (by rw [← hv.size]; exact lt_) fun g' but_ => ⟨rfl, Iv.turned (t' := s_a.toks) (fun c_ o_b hcb eq_ => but_ c_ o_b hcb eq_) p0 p1 p3 p4 p5⟩
  self := fun A_ n_i s_a Q_ Ex sit g_ => let ⟨_, _, eq_⟩ := sit; PySem.W.kcp_self eq_ g_
theorem z8t (it : Addr) (hv : EntV es kv) : Turn P w K tg (Itwk d es ep kv) [it] it (fun n_i g_ => g_.IsKeyIter it d n_i es.size ep) where
  mem := by simp
  obj := fun n_i g_ sit c_ hcb => by
    have eq_ : c_ = it := by simpa using hcb
    subst eq_
    obtain ⟨o_i, eq_, cl_, dt_⟩ := sit
    exact ⟨o_i, eq_, fun vv zz => by rw [dt_] at zz; cases zz⟩
  keep := fun n_i g_ g' sit kp => sit.at fun o_i eq_ => kp it (by simp) o_i eq_
  item := by
    intro Y eP ew eK cal n_i pn s_a τ M Ex Iv young sit can
    subst eP ew eK
    obtain ⟨raw_, lt_⟩ := can
    obtain ⟨p0, p1, p2, p3, p4, p5⟩ := young it (by simp)
    have dr := raw_.raw Iv
    have lt' : n_i < es.size := by rw [← hv.size]; exact lt_
    have at_i : kv[n_i]? = some kv[n_i] := List.getElem?_eq_getElem lt_
    obtain ⟨r1, r2⟩ := hv.at at_i lt'
    refine wpAny_pyNext_keys_item_raw sit dr lt' fun g' sit' same_ => ?_
    have Iw : Inv Y pn τ M { s_a with heap := g' } := Iv.turned (t' := s_a.toks) (fun c_ o_b hcb eq_ => (same_.2 c_ hcb).trans eq_) p0 p1 p3 p4 p5
    obtain ⟨o_i, eq_, cl_, dt_⟩ := id sit'
    exact ⟨es[n_i].key, rfl, go_of (s := { s_a with heap := g' }) eq_ cl_ dt_ (by decide) ⟨kv[n_i].1, M, Iw, r1, ⟨rfl, _, at_i⟩, sit', fun c_ hcb => (young c_ hcb).1⟩⟩
  done := by
    intro Y eP ew eK cal n_i pn s_a τ M Ex Iv young sit can
    subst eP ew eK
    obtain ⟨raw_, lt_⟩ := can
    obtain ⟨p0, p1, p2, p3, p4, p5⟩ := young it (by simp)
    exact wpAny_pyNext_keys_end_raw (Iv.ok.hd cal) sit (raw_.raw Iv) (by rw [← hv.size]; exact lt_) fun g' but_ => ⟨rfl, Iv.turned (t' := s_a.toks) (fun c_ o_b hcb eq_ => but_ c_ o_b hcb eq_) p0 p1 p3 p4 p5⟩
  self := fun A_ n_i s_a Q_ Ex sit g_ => wpAny_pyIter_keyiter sit g_
end
/-- a key of either kind of dict, as a tree -/
def kD : Key → D
  | .inl i => .int i
  | .inr x => .str x
/-- keys and values of a dict that is changed no more -/
def dicP : D → Option (List (D × D))
  | .nd (.dN ks) ds => some ((ks.map nkD).zip ds)
  | .nd (.dK ks) ds => some ((ks.map kD).zip ds)
  | _ => none
theorem zafv {K : Ml} {H : Hp} {G : DHp} (k : Key) : VR K H G (kD k) (kV k) := by
  cases k with
  | inl i => show VR K H G (.int i) (.int i); rw [VR]
  | inr i => show VR K H G (.str i) (.str i); rw [VR]
/-- the walk's own pairs -/
def zt6 (K : Ml) (H : Hp) (G : DHp) (ps : List (D × D)) (kv : List (V × V)) : Prop := VRs K H G (ps.map (·.1)) (kv.map (·.1)) ∧ VRs K H G (ps.map (·.2)) (kv.map (·.2))
theorem z8d {K : Ml} {H : Hp} {G : DHp} : ∀ ks : List Key, VRs K H G (ks.map kD) (ks.map kV)
  | [] => .nil
  | k :: ks => .cons (zafv k) (z8d ks)
theorem z8g {P : Program} {w : World} {k : Key} {u : Value} (h : (mixKind P w).is k u = true) : RelV (kV k) u := relV_key (show keyIs k u = true from h)
section
variable {X : Cx}
/-- what is known of a dict that is changed no more -/
theorem z0t {pins : List (Addr × Obj)} {σ : L2.St} {H : Hp} {G : DHp} {s : Shared} {d : D} {v : V} {ps : List (D × D)} (I : Inv X pins σ H s) (hr : HR X.ml H G) (q : VR X.ml H G d v) (e : dicP d = some ps) :
    ∃ a es ep kv, v = .ref a ∧ EntV es kv ∧ zt6 X.ml H G ps kv ∧ ps.length = kv.length ∧ zx4 H a es ep ∧ ∀ H' G', Ext H G H' G' → zx4 H' a es ep := by
  cases d with
  | nd k ds =>
    cases k with
    | dN ks =>
      have e : some ((ks.map nkD).zip ds) = some ps := e
      cases e
      rw [VR] at q
      obtain ⟨a, vs, rfl, ⟨hn, dn⟩, r⟩ := q
      obtain ⟨xs, es, ep, h1, h2, h3, h4, h5, h6, h7, h8, h9⟩ := DnAt.of I dn
      have hl : ks.length = vs.length := by rw [← h6, List.length_map, h9.length, List.length_map]
      have hld : ks.length = ds.length := by rw [hl, r.length]
      have ent : ∀ (zs : List (NestedKey × Addr × Value)) (ws : List V), Vals ws (zs.map (·.2.2)) → Paired (fun (p : V × V) (e : DictEntry) => RelV p.1 e.key ∧ RelV p.2 e.val) ((zs.map fun z => V.ref z.2.1).zip ws) (zs.map (entryOfKey (nestedKind X.prog X.w))) := by
        intro zs
        induction zs with
        | nil => intro ws h; cases h; exact .nil
        | cons z zs ih =>
          intro ws h
          cases h with
          | cons r1 r2 => exact .cons ⟨rfl, r1⟩ (ih _ r2)
      refine ⟨a, es, ep, (xs.map fun z => V.ref z.2.1).zip vs, rfl, ?_, ⟨?_, ?_⟩, ?_, ⟨.inl h1, h5⟩, fun H' G' x => ⟨.inl (x.ex _ _ h1 hn).1, h5⟩⟩
      · unfold EntV
        rw [h3]
        exact ent xs vs h9
      · rw [zo0 (by rw [List.length_map]; exact hld), zo0 (by rw [List.length_map, ← hl, ← h6, List.length_map]), ← h6, List.map_map]
        have : ∀ zs : List (NestedKey × Addr × Value), (∀ x ∈ zs, zgb X.ml H x.1 (.ref x.2.1) ∧ x.1.depth ≤ 8) → VRs X.ml H G (zs.map (nkD ∘ (·.1))) (zs.map fun z => V.ref z.2.1) := by
          intro zs
          induction zs with
          | nil => intro _; exact .nil
          | cons z zs ih => intro h; exact .cons (z8k (h z (by simp)).1) (ih fun x hx => h x (by simp [hx]))
        exact this xs h8
      · rw [List.map_snd_zip (by rw [List.length_map, hld] <;> exact Nat.le_refl _), List.map_snd_zip (by rw [List.length_map, ← hl, ← h6, List.length_map] <;> exact Nat.le_refl _)]
        exact r
      · rw [List.length_zip, List.length_zip, List.length_map, List.length_map, ← hld, ← hl, ← h6, List.length_map]
    | dK ks =>
      have e : some ((ks.map kD).zip ds) = some ps := e
      cases e
      rw [VR] at q
      obtain ⟨a, vs, rfl, ⟨hl, o, ho⟩, r⟩ := q
      obtain ⟨hs, hgd, hx, es, ep, ws, hdt, hsz, kv, hm⟩ := I.frzK ho
      have hld : ks.length = ds.length := by rw [hl, r.length]
      obtain ⟨o', es', ho', hx', hdt', _, pr, _⟩ := hm
      rw [hgd] at ho'; cases ho'
      rw [hdt] at hdt'; cases hdt'
      have ent : ∀ (qs : List (Key × V)) (us : List (Key × Value)) (en : List DictEntry), KV qs us → Pairs (mixKind X.prog X.w) en us → Paired (fun (p : V × V) (e : DictEntry) => RelV p.1 e.key ∧ RelV p.2 e.val) (qs.map fun p => (kV p.1, p.2)) en := by
        intro qs
        induction qs with
        | nil => intro us en h1 h2; cases h1; cases h2; exact .nil
        | cons z zs ih =>
          intro us en h1 h2
          cases h1 with
          | cons r1 r2 =>
            cases h2 with
            | cons p1 p2 p3 => exact .cons ⟨z8g (by rw [r1.1]; exact p1), by rw [p2]; exact r1.2⟩ (ih _ _ r2 p3)
      refine ⟨a, es, ep, (ks.zip vs).map fun p => (kV p.1, p.2), rfl, ?_, ⟨?_, ?_⟩, ?_, ⟨.inr ⟨o, _, ho, hx, hdt⟩, hs⟩, fun H' G' x => ⟨.inr ⟨o, _, (x.ex _ _ ho (hr.frz ho)).1, hx, hdt⟩, hs⟩⟩
      · unfold EntV
        exact ent _ _ _ kv pr
      · rw [zo0 (by rw [List.length_map]; exact hld), List.map_map]
        have : ((ks.zip vs).map ((fun p : V × V => p.1) ∘ fun p : Key × V => (kV p.1, p.2))) = ks.map kV := by
          rw [show ((fun p : V × V => p.1) ∘ fun p : Key × V => (kV p.1, p.2)) = kV ∘ (·.1) from rfl, ← List.map_map, zo0 hl]
        rw [this]
        exact z8d ks
      · rw [List.map_snd_zip (by rw [List.length_map, hld] <;> exact Nat.le_refl _), List.map_map]
        rw [show ((fun p : V × V => p.2) ∘ fun p : Key × V => (kV p.1, p.2)) = (·.2) from rfl, List.map_snd_zip (by rw [hl] <;> exact Nat.le_refl _)]
        exact r
      · rw [List.length_zip, List.length_map, List.length_map, List.length_zip, ← hld, ← hl]
    | _ => cases e
  | _ => cases e
theorem zt6.get {K : Ml} {H : Hp} {G : DHp} {ps : List (D × D)} {kv : List (V × V)} (h : zt6 K H G ps kv) (hl : ps.length = kv.length) {i : Nat} {p : D × D} (e : ps[i]? = some p) : ∃ k v, kv[i]? = some (k, v) ∧ VR K H G p.1 k ∧ VR K H G p.2 v := by
  have hi : i < kv.length := by rw [← hl]; exact (List.getElem?_eq_some_iff.mp e).1
  obtain ⟨k, e1, q1⟩ := h.1.get (i := i) (d := p.1) (by rw [List.getElem?_map, e]; rfl)
  obtain ⟨v, e2, q2⟩ := h.2.get (i := i) (d := p.2) (by rw [List.getElem?_map, e]; rfl)
  rw [List.getElem?_map, List.getElem?_eq_getElem hi] at e1 e2
  cases e1; cases e2
  exact ⟨_, _, List.getElem?_eq_getElem hi, q1, q2⟩
theorem zt6.ext {K : Ml} {H H' : Hp} {G G' : DHp} {ps : List (D × D)} {kv : List (V × V)} (h : zt6 K H G ps kv) (hr : HR K H G) (x : Ext H G H' G') : zt6 K H' G' ps kv := ⟨h.1.ext hr x, h.2.ext hr x⟩
theorem Itw.itD {K : Ml} {H1 : Hp} {G1 : DHp} {d : Addr} {es : Array DictEntry} {ep : Nat} {kv : List (V × V)} {ps : List (D × D)} (hr1 : HR K H1 G1) (hp : zt6 K H1 G1 ps kv) (hl : ps.length = kv.length) (hra : ∀ H' G', Ext H1 G1 H' G' → zx4 H' d es ep) :
    ItD K H1 G1 (Itw d es ep kv) (ps.map fun p => .nd .tup [p.1, p.2]) zdd := by
  intro i H G x r o
  refine ⟨fun t e => ?_, fun l => ⟨hra _ _ x, by rw [← hl]; simpa using l⟩⟩
  rw [List.getElem?_map] at e
  cases ep' : ps[i]? with
  | none => rw [ep'] at e; cases e
  | some p =>
    rw [ep'] at e; cases e
    obtain ⟨k, v, e1, q1, q2⟩ := (hp.ext hr1 x).get hl ep'
    refine ⟨⟨hra _ _ x, by rw [← hl]; exact (List.getElem?_eq_some_iff.mp ep').1⟩, fun y H' ⟨T, k', v', e2, ey, hT, eH⟩ => ?_⟩
    rw [e1] at e2; cases e2
    subst ey eH
    have x2 : Ext H G (upd H T (.tup [k, v])) G := .laid hT
    refine ⟨x2, r.laid hT, ?_⟩
    rw [VR]
    exact ⟨T, _, rfl, .inl (.inl upd_same), .cons (q1.ext r x2) (.cons (q2.ext r x2) .nil)⟩
theorem Itwk.itD {K : Ml} {H1 : Hp} {G1 : DHp} {d : Addr} {es : Array DictEntry} {ep : Nat} {kv : List (V × V)} {ps : List (D × D)} (hr1 : HR K H1 G1) (hp : zt6 K H1 G1 ps kv) (hl : ps.length = kv.length) (hra : ∀ H' G', Ext H1 G1 H' G' → zx4 H' d es ep) :
    ItD K H1 G1 (Itwk d es ep kv) (ps.map (·.1)) zdd := by
  intro i H G x r o
  refine ⟨fun t e => ?_, fun l => ⟨hra _ _ x, by rw [← hl]; simpa using l⟩⟩
  rw [List.getElem?_map] at e
  cases ep' : ps[i]? with
  | none => rw [ep'] at e; cases e
  | some p =>
    rw [ep'] at e; cases e
    obtain ⟨k, v, e1, q1, q2⟩ := (hp.ext hr1 x).get hl ep'
    refine ⟨⟨hra _ _ x, by rw [← hl]; exact (List.getElem?_eq_some_iff.mp ep').1⟩, fun y H' ⟨eH, v', e2⟩ => ?_⟩
    rw [e1] at e2; cases e2
    subst eH
    exact ⟨.refl _ _, r, q1⟩
theorem z7b {d : D} {ps : List (D × D)} (e : dicP d = some ps) (G : DHp) : tyD "dict" d G := by
  cases d with
  | nd k ds =>
    cases k with
    | dN ks => exact rfl
    | dK ks => exact rfl
    | _ => cases e
  | _ => cases e
def z2u (T : DTE) : DTI := fun η G R => T η G fun d G1 => match dicP d with
  | some ps => R (ps.map fun p => .nd .tup [p.1, p.2]) zdd G1
  | none => False
def z82 (T : DTE) : DTI := fun η G R => T η G fun d G1 => match dicP d with
  | some ps => R (ps.map (·.1)) zdd G1
  | none => False
theorem z79 [Bs] {e : Expr} {T : DTE} {elts : List Expr} {kk : Nat} {tpos apos cpos : Pos} (he : PED X e T) (hbase : attributeBase e "items" X.env (eval e X.env) = eval e X.env := by rfl) (hline : (apos.endLine == cpos.line) = true := by rfl) :
    PID X (.Tuple elts kk tpos) (.Call (.Attribute e "items" apos) [] [] cpos) (z2u T) := by
  refine ⟨fun pins s σ H R I ⟨η, G, P, hs, hr, t, k⟩ => ?_⟩
  refine wpAny_Call_method (T := "dict") (id := "dict.items") hbase rfl hline F.plainAttrs_dict F.slot_dict_items F.type_dict_items (thn (he.run pins s σ H (fun v H1 => ∃ d G1, (match dicP d with | some ps => P (ps.map fun p => .nd .tup [p.1, p.2]) zdd G1 | none => False) ∧ Ext H G H1 G1 ∧ HR X.ml H1 G1 ∧ VR X.ml H1 G1 d v) I ⟨η, G, _, hs, hr, t, fun d G1 v H1 p x r q => ⟨d, G1, p, x, r, q⟩⟩) fun u s1 ⟨x, H1, I1, rx, d, G1, p, x1, r1, q1⟩ => ?_)
  split at p
  · rename_i ps e
    obtain ⟨h1, h2⟩ := z4n I1 r1 q1 rx (z7b e G1)
    obtain ⟨a, es, ep, kv, rfl, ent, pr, hl, ra, hra⟩ := z0t I1 r1 q1 e
    cases (show u = Value.ref a from rx)
    refine ⟨h1, h2, ?_⟩
    have hm := ra.raw I1
    have I2 : Inv X pins σ H1 { s1 with heap := s1.heap.push { cls := .type "dict_items", data := .fields #[.ref a] } } := I1.kept (t' := s1.toks) fun b ob q => Heap.get?_push_of_some _ q
    have fin : wpAny (model X.prog X.w) X.A (pyIter (.ref s1.heap.objs.size)) (PIE X pins σ (.Tuple elts kk tpos) R) X.xe { s1 with heap := s1.heap.push { cls := .type "dict_items", data := .fields #[.ref a] } } := by
      refine wpAny_pyIter_items_raw (d := a) ⟨_, Heap.get?_push_size _ rfl, rfl, rfl⟩ (hm.at fun o q => Heap.get?_push_of_some _ q) (pi_one (tk := s1.toks) I2 _ (z92 _ ent) ⟨.none, .none, ?_⟩ (k _ _ _ _ _ p x1 r1 (Itw.itD r1 pr hl hra)))
      exact Heap.get?_push_size _ rfl
    show wpAny _ _ (callWith cpos (.builtin "dict.items") [.ref a] [] []) _ X.xe s1
    exact method_meetsIn F.slot_dict_items F.entry_dict_items rfl (PySem.evalArgs_none ⟨rfl, h1, F.args_dict_items_1 _, _, meets_dict_items_raw a ra.2, ⟨es, ep, hm⟩, fin⟩)
  · exact p.elim
theorem z9o [Bs] {tg e : Expr} {T : DTE} (he : PED X e T) : PID X tg e (z82 T) := by
  refine ⟨fun pins s σ H R I ⟨η, G, P, hs, hr, t, k⟩ => ?_⟩
  refine thn (he.run pins s σ H (fun v H1 => ∃ d G1, (match dicP d with | some ps => P (ps.map (·.1)) zdd G1 | none => False) ∧ Ext H G H1 G1 ∧ HR X.ml H1 G1 ∧ VR X.ml H1 G1 d v) I ⟨η, G, _, hs, hr, t, fun d G1 v H1 p x r q => ⟨d, G1, p, x, r, q⟩⟩) fun u s1 ⟨x, H1, I1, rx, d, G1, p, x1, r1, q1⟩ => ?_
  split at p
  · rename_i ps e
    obtain ⟨a, es, ep, kv, rfl, ent, pr, hl, ra, hra⟩ := z0t I1 r1 q1 e
    cases (show u = Value.ref a from rx)
    exact wpAny_pyIter_dict_raw ra.2 (ra.raw I1) (pi_one (tk := s1.toks) I1 _ (z8t _ ent) ⟨_, Heap.get?_push_size _ rfl, rfl, rfl⟩ (k _ _ _ _ _ p x1 r1 (Itwk.itD r1 pr hl hra)))
  · exact p.elim
end
end DL
namespace DL
open PySem PySem.Spec PyProof.Rows L2
/-- a store of the dict at D by a comprehension -/
def StOk (Y : Cx) (St : Addr → V → V → Hp → (Hp → Prop) → Prop) : Prop := ∀ (D : Addr) (pins : List (Addr × Obj)) (σ : L2.St) (H : Hp) (s : Shared) (y z : V) (u r : Value) (Q : Hp → Prop) (E : Value → Shared → Prop), Inv Y pins σ H s → RelV y u → RelV z r → St D y z H Q →
  wpAny (model Y.prog Y.w) Y.A (dictSet D u r) (fun _ s' => ∃ H', Inv Y pins σ H' s' ∧ Q H') E s
section
variable {X : Cx}
def tDcG (o0 : Addr → HO) (St : Addr → V → V → Hp → (Hp → Prop) → Prop) (wi : TI) (g : TG) (tt : TT) (tk tv : TE) (vs : List Nat) : TE := fun σ H Q => wi σ H fun Jt M1 => ∀ D, M1 D = none → (D == sysModules) = false → ∃ Wi : Nat → Nat → Hp → Prop, (∃ n_m, Wi 0 n_m (upd M1 D (o0 D))) ∧ ∀ n_i n_m H, Wi n_i n_m H →
  (Jt.stop n_i H ∧ Q (.ref D) H) ∨ (Jt.go n_i H ∧ ∃ Nq : Hp → Prop, (∀ M', Nq M' → ∃ n_k, n_k < n_m ∧ Wi (n_i + 1) n_k M') ∧ ∀ v_x M', Jt.yld n_i H v_x M' → g v_x (wipe σ vs) M' fun τ M2 => wipe τ vs = wipe σ vs ∧ tt τ M2 fun ok_ M3 =>
    if ok_ = true then tk τ M3 fun ky M4 => tv τ M4 fun vz M5 => St D ky vz M5 Nq else Nq M3)
theorem z38 {pins : List (Addr × Obj)} {s : Shared} {σ : L2.St} {H : Hp} {Q : VK} {kx vx tg iter : Expr} {ifs : List Expr} {scope : Scope} {own : List (Str × Nat)} {pos pos' : Pos} {o0 : Addr → HO} {St : Addr → V → V → Hp → (Hp → Prop) → Prop} {tw : TI} {tg_ : TG} {tts : TT} {tkx tvx : TE} {use : Option (Value → Sem Unit)} {Qe : Value → Shared → Prop}
    (hc : X.calm = true) (hN : X.N.Nodup) (I : Inv X pins σ H s) (hi : PI X tg iter tw) (hbk : BlkOk X.N X.env.scope scope own)
    (hpg : ∀ (s : Shared) (H : Hp) (Cc : Addr) (cs_ : List (Str × Addr)) (ws : List Addr), PG (X.blk s H scope (compEnvC scope cs_ Cc X.env) ws) tg tg_) (hpt : ∀ (s : Shared) (H : Hp) (Cc : Addr) (cs_ : List (Str × Addr)) (ws : List Addr), PTs (X.blk s H scope (compEnvC scope cs_ Cc X.env) ws) ifs tts)
    (hpk : ∀ (s : Shared) (H : Hp) (Cc : Addr) (cs_ : List (Str × Addr)) (ws : List Addr), PE (X.blk s H scope (compEnvC scope cs_ Cc X.env) ws) kx tkx)
    (hpv : ∀ (s : Shared) (H : Hp) (Cc : Addr) (cs_ : List (Str × Addr)) (ws : List Addr), PE (X.blk s H scope (compEnvC scope cs_ Cc X.env) ws) vx tvx) (hfs : ∀ x, foldedSetIterable iter X.env x = pure x)
    (hnew : ∀ pins σ H s, Inv X pins σ H s → Inv X pins σ (upd H s.heap.objs.size (o0 s.heap.objs.size)) { s with heap := s.heap.push { cls := .type "dict", data := .dict #[] } }) (hst : ∀ (s : Shared) (H : Hp) (cenv : Env) (ws : List Addr), StOk (X.blk s H scope cenv ws) St)
    (h : tDcG o0 St tw tg_ tts tkx tvx (own.map (·.2)) σ H Q)
    (hend : ∀ Dd Cc s' n_m H', Inv X pins σ H' s' → Q (.ref Dd) H' → s'.heap.Ns Cc n_m → FpOk X pins H' Cc → compPost (model X.prog X.w) X.A X.xe use Qe (.ref Dd) Cc (.ok .next) s') :
    wpAny (model X.prog X.w) X.A (comprehension (.DictComp kx vx [⟨tg, iter, ifs, 0⟩] scope pos) scope X.env pos' newDict false (eval iter X.env) use) Qe X.xe s := by
  have hfr : ∀ y ∈ scope.names, y.2 = .free → ∃ c, X.env.cells.lookup y.1 = some c := fun y hy e => by
    rcases hbk.free y hy e with k | k
    · exact I.ok.has _ (.inl k)
    · exact I.ok.has _ (.inr k)
  refine wpAny_comprehension_free (use := use) rfl hfs (closure_ok hfr) hbk.kind (fun y hy e => by rw [hbk.uniq y hy, e])
    (thn (hi.run pins s σ H _ I h) fun xv1 t1 hx1 => thn hx1 fun iv1 t2 hh2 => ?_)
  obtain ⟨ia, ws, kd, Jt, M2, e, J2, Tu, u2, g2, q⟩ := hh2
  subst e
  refine wpAny_newObj_type
    (newEnv_comp ?_)
  generalize hd : t2.heap.objs.size = Dd
  have dn : M2 Dd = none := J2.hok.fresh (Nat.le_of_eq hd)
  obtain ⟨Wi, ⟨l0, z0⟩, trn⟩ := q Dd dn (by rw [← hd]; exact z4r J2)
  -- the new list
  generalize ht3 : ({ t2 with heap := t2.heap.push { cls := .type "dict", data := .dict #[] } } : Shared) = t3
  have J3 : Inv X pins σ (upd M2 Dd (o0 Dd)) t3 := by
    rw [← ht3]
    rw [← hd]
    exact hnew pins σ M2 t2 J2
  have h3 : t3.heap = t2.heap.push { cls := .type "dict", data := .dict #[] } := by rw [← ht3]
  have young : ∀ b ∈ ws, b < t2.heap.objs.size := fun b hb => by
    obtain ⟨o, e, _⟩ := Tu.obj _ _ u2 b hb
    exact Heap.lt_size e
  have g3 : ∀ b ∈ ws, FpOk X pins (upd M2 Dd (o0 Dd)) b ∧ b < t3.heap.objs.size := fun b hb => by
    have hlt := young b hb
    refine ⟨⟨?_, (g2 b hb).2⟩, by rw [h3, Heap.size_push]; exact Nat.lt_succ_of_lt hlt⟩
    rw [upd_ne (by rw [← hd]; exact Nat.ne_of_lt hlt)]
    exact (g2 b hb).1
  have u3 : kd 0 t3.heap := Tu.keep _ _ _ u2 fun b _ o e => by rw [h3]; exact Heap.get?_push_of_some _ e
  have J4 := block_start J3 hbk hN g3
  have pa1 := hpg t3 (upd M2 Dd (o0 Dd)) t3.heap.objs.size (cellsFrom (t3.heap.objs.size + 1) scope.names (cloFrom X.env.cells scope.names [])) ws
  have pa2 := hpt t3 (upd M2 Dd (o0 Dd)) t3.heap.objs.size (cellsFrom (t3.heap.objs.size + 1) scope.names (cloFrom X.env.cells scope.names [])) ws
  have pa3 := hpk t3 (upd M2 Dd (o0 Dd)) t3.heap.objs.size (cellsFrom (t3.heap.objs.size + 1) scope.names (cloFrom X.env.cells scope.names [])) ws
  have pa4 := hpv t3 (upd M2 Dd (o0 Dd)) t3.heap.objs.size (cellsFrom (t3.heap.objs.size + 1) scope.names (cloFrom X.env.cells scope.names [])) ws
  show codeAny _ _ (.compStart (.DictComp kx vx [⟨tg, iter, ifs, 0⟩] scope pos) 0 (.ref ia) (.ref Dd) (compEnvC scope (cellsFrom (t3.heap.objs.size + 1) scope.names (cloFrom X.env.cells scope.names [])) t3.heap.objs.size X.env)) (compPost (model X.prog X.w) X.A X.xe use Qe (.ref Dd) t3.heap.objs.size) { t3 with heap := pushCells (t3.heap.push { cls := .type "dict", data := .dict #[] }) scope.names }
  have gone : ∀ b ∈ ws, (upd M2 Dd (o0 Dd)) b = none := fun b hb => (g3 b hb).1.1
  generalize hcv : compEnvC scope (cellsFrom (t3.heap.objs.size + 1) scope.names (cloFrom X.env.cells scope.names [])) t3.heap.objs.size X.env = cv at J4 pa1 pa2 pa3 pa4 ⊢
  have cl_ : cv.locals = t3.heap.objs.size := by subst hcv; rfl
  generalize hM3 : upd M2 Dd (o0 Dd) = M3 at J3 J4 pa1 pa2 pa3 pa4 z0 gone g3
  generalize ht4 : ({ t3 with heap := pushCells (t3.heap.push { cls := .type "dict", data := .dict #[] }) scope.names } : Shared) = t4 at J4 ⊢
  have u4 : kd 0 t4.heap := Tu.keep _ _ _ u3 fun b _ o e => by rw [← ht4]; exact pushCells_keeps _ _ _ _ (Heap.get?_push_of_some _ e)
  have calm_ : ∀ {σ' : L2.St} {H' : Hp} {s' : Shared}, Inv (X.blk t3 M3 scope cv ws) [] σ' H' s' → (∀ b ∈ ws, H' b = none) → ∀ b ∈ ws, FpOk (X.blk t3 M3 scope cv ws) [] H' b := fun {σ' H' s'} J' hn b hb =>
    ⟨hn b hb, (J'.ok.exf b hb).1, J'.ok.exfs b hb, .inl hb, fun x c e => (J'.ok.exf b hb).2 x c e, fun p hp => absurd (show p ∈ ([] : List (Addr × Obj)) ++ [] from hp) (by simp)⟩
  have go_ : codeAny (model X.prog X.w) X.A (.compLoop (.DictComp kx vx [⟨tg, iter, ifs, 0⟩] scope pos) 0 (.ref ia) (.ref Dd) cv) (compPost (model X.prog X.w) X.A X.xe use Qe (.ref Dd) t3.heap.objs.size) t4 := by
    refine compLoop_anyD (fun n s' => ∃ n_i H', Inv (X.blk t3 M3 scope cv ws) [] (wipe σ (own.map (·.2))) H' s' ∧ kd n_i s'.heap ∧ (∀ b ∈ ws, H' b = none) ∧ Wi n_i n H') ?_ l0 ⟨0, M3, J4, u4, gone, z0⟩
    rintro n t5 ⟨n_i, M5, J5, u5, k5, z5⟩
    rcases trn n_i n M5 z5 with ⟨ends, q_⟩ | ⟨go, Nx, hnx, stp⟩
    · have e1 := Tu.done (X.blk t3 M3 scope cv ws) rfl rfl rfl hc n_i [] t5 _ M5 (fun _ _ => False) J5 (calm_ J5 k5) u5 ends
      refine thnF e1 fun r t6 ⟨hr, J6⟩ => ?_
      subst hr
      -- back in the def's context
      have J7 : Inv X pins σ M5 t6 := J3.call' (ch := ws) J6.os J6.base J6.hok J6.bare fun b hb => ⟨(g3 b hb).1.2.2.2.1, (g3 b hb).1.2.1, (g3 b hb).1.2.2.2.2.1, (g3 b hb).1.2.2.2.2.2⟩
      have cN : M5 t3.heap.objs.size = none := by
        have z : M5 cv.locals = none := J6.free
        rw [cl_] at z
        exact z
      obtain ⟨n_m, hn, _⟩ := J6.loc
      have hn : t6.heap.Ns cv.locals n_m := hn
      rw [cl_] at hn
      exact hend Dd t3.heap.objs.size t6 n_m M5 J7 q_ hn (J3.fpOk (Nat.le_refl _) cN)
    · have e2 := Tu.item (X.blk t3 M3 scope cv ws) rfl rfl rfl hc n_i [] t5 _ M5 (fun _ _ => False) J5 (calm_ J5 k5) u5 go
      refine thnF e2 fun r t6 ⟨u, hr, hh6⟩ => ?_
      subst hr
      refine thnF hh6 fun _ t7 ⟨x, M7, J7, r_7, y7, u7, k7⟩ => ?_
      have J7' := J7.pinned (calm_ J7 k7) (Tu.obj _ _ u7)
      refine thnF (pa1.run _ t7 _ M7 x u _ J7' r_7 (stp x M7 y7)) fun _ t8 ⟨σ8, M8, J8, hw8, p8⟩ => ?_
      refine thnF (pa2.run _ t8 σ8 M8 _ J8 p8) fun b t9 ⟨M9, J9, p9⟩ => ?_
      -- the turn's end
      have over : ∀ {s' : Shared} {H' : Hp}, Inv (X.blk t3 M3 scope cv ws) ([] ++ pinsAt ws t7.heap) σ8 H' s' → Nx H' → ∃ n_m, n_m < n ∧ ∃ n_i H', Inv (X.blk t3 M3 scope cv ws) [] (wipe σ (own.map (·.2))) H' s' ∧ kd n_i s'.heap ∧ (∀ b ∈ ws, H' b = none) ∧ Wi n_i n_m H' := fun {s' H'} J' nx => by
        obtain ⟨m', hm_, z'⟩ := hnx H' nx
        have pin1 : ∀ b ∈ ws, ∀ o, t7.heap.get? b = some o → s'.heap.get? b = some o ∧ H' b = none := fun b hb o e =>
          let z := J'.pin (b, o) (List.mem_append_right _ (List.mem_append_right _ (mem_pinsAt hb e)))
          ⟨z.1, z.2.1⟩
        have hlen8 : (wipe σ (own.map (·.2))).length = σ8.length := by
          rw [← hw8, wipe_length]
        refine ⟨m', hm_, n_i + 1, H', (J'.unpinned (pins := [])).weak hlen8 (fun j v e => ?_), Tu.keep _ _ _ u7 fun b hb o e => (pin1 b hb o e).1, fun b hb => ?_, z'⟩
        · rw [← hw8] at e
          exact (wipe_some e).1
        · obtain ⟨o, e, _⟩ := Tu.obj _ _ u7 b hb
          exact (pin1 b hb o e).2
      cases b with
      | false =>
        simp only [Bool.false_eq_true, if_false] at p9 ⊢
        exact over J9 p9
      | true =>
        simp only [if_true] at p9 ⊢
        refine thnF (pa3.run _ t9 σ8 M9 _ J9 p9) fun z ta ⟨k_y, Ma, Ja, ra, p10⟩ => ?_
        refine thnF (pa4.run _ ta σ8 Ma _ Ja p10) fun zz tb ⟨v_y, Mb, Jb, rb, nx⟩ => ?_
        exact thnF (hst t3 M3 cv ws Dd _ _ _ _ _ _ _ _ _ (fun _ _ => False) Jb ra rb nx) fun _ tc ⟨Mc, Jc, nx12⟩ => over Jc nx12
  exact codeAny_compStart_dict go_ (Tu.self X.A 0 _ _ _ u4 go_)
/-- as a value -/
theorem zadv {o0 : Addr → HO} {St : Addr → V → V → Hp → (Hp → Prop) → Prop} {kx vx tg iter : Expr} {ifs : List Expr} {scope : Scope} {own : List (Str × Nat)} {pos : Pos} {tw : TI} {tg_ : TG} {tts : TT} {tkx tvx : TE} (hc : X.calm = true) (hN : X.N.Nodup) (hi : PI X tg iter tw) (hbk : BlkOk X.N X.env.scope scope own)
    (hnew : ∀ pins σ H s, Inv X pins σ H s → Inv X pins σ (upd H s.heap.objs.size (o0 s.heap.objs.size)) { s with heap := s.heap.push { cls := .type "dict", data := .dict #[] } }) (hst : ∀ (s : Shared) (H : Hp) (cenv : Env) (ws : List Addr), StOk (X.blk s H scope cenv ws) St)
    (hpg : ∀ (s : Shared) (H : Hp) (Cc : Addr) (cs_ : List (Str × Addr)) (ws : List Addr), PG (X.blk s H scope (compEnvC scope cs_ Cc X.env) ws) tg tg_) (hpt : ∀ (s : Shared) (H : Hp) (Cc : Addr) (cs_ : List (Str × Addr)) (ws : List Addr), PTs (X.blk s H scope (compEnvC scope cs_ Cc X.env) ws) ifs tts)
    (hpk : ∀ (s : Shared) (H : Hp) (Cc : Addr) (cs_ : List (Str × Addr)) (ws : List Addr), PE (X.blk s H scope (compEnvC scope cs_ Cc X.env) ws) kx tkx)
    (hpv : ∀ (s : Shared) (H : Hp) (Cc : Addr) (cs_ : List (Str × Addr)) (ws : List Addr), PE (X.blk s H scope (compEnvC scope cs_ Cc X.env) ws) vx tvx) (hfs : ∀ x, foldedSetIterable iter X.env x = pure x := by intro _; rfl) :
    PE X (.DictComp kx vx [⟨tg, iter, ifs, 0⟩] scope pos) (tDcG o0 St tw tg_ tts tkx tvx (own.map (·.2))) := by
  refine ⟨fun pins s σ H Q I h => ?_⟩
  rw [arm_eval_DictComp]
  refine z38 hc hN I hi hbk hpg hpt hpk hpv hfs hnew hst h fun Dd Cc s' n_m H' J' q hn f => ⟨n_m, hn, fun h'' sb => ?_⟩
  obtain ⟨f0, f1, g2, g3, f4, f5⟩ := f
  exact ⟨.ref Dd, H', J'.turned (t' := s'.toks) (fun b o hb e => (sb.2 b hb).trans e) f0 f1 g3 f4 f5, rfl, q⟩
/-- the store, at the trees -/
def stD (K : Ml) : Addr → V → V → Hp → (Hp → Prop) → Prop := fun D y z H Q => zzi K dSet (.ref D) y z H Q ∧ ∀ xs, H D ≠ some (.lst xs)
theorem zaa6 {Y : Cx} (hu : Y.A.units + 64 < cLine) : StOk Y (stD Y.ml) := by
  intro a pins σ H s y z u r Q E I ry rz ⟨⟨do_, di, dv, G, P, hr, q1, q2, q3, t, k⟩, nl⟩
  cases do_ with
  | nd _ _ =>
    rw [VR] at q1
    exact t.elim
  | ref b =>
    rw [VR] at q1
    cases q1
    cases hG : G a with
    | none =>
      have : False := by simpa [dSet, hG] using t
      exact this.elim
    | some ob =>
      cases ob with
      | rw _ _ _ =>
        have : False := by simpa [dSet, hG] using t
        exact this.elim
      | ins C fs =>
        have : False := by simpa [dSet, hG] using t
        exact this.elim
      | lst ds =>
        obtain ⟨vs, hv, _⟩ := hr a _ hG
        exact (nl vs hv).elim
      | dK kvs =>
        cases ek : di.kK with
        | none =>
          have : False := by simpa [dSet, hG, ek] using t
          exact this.elim
        | some kk =>
          have t : kvs.length < sizeLine ∧ P (up G a (.dK (dput kvs kk dv))) := by simpa [dSet, hG, ek] using t
          obtain ⟨ws, hw, hks, r'⟩ := hr a _ hG
          have e := z6p q2 ek
          subst e
          have x : Ext H G (upd H a (.dK (putK ws kk z))) (up G a (.dK (dput kvs kk dv))) := .write hG
          obtain ⟨p1, p2⟩ := zabq kk q3 hks r'
          have hl : ws.length < sizeLine := by
            have := congrArg List.length hks
            rw [List.length_map, List.length_map] at this
            rw [this]; exact t.1
          exact d_dictSet I hw hl ry rz fun s' I' => ⟨_, I', k _ _ t.2 x (hr.write hG ⟨_, upd_same, p1, p2.ext hr x⟩)⟩
      | dN kvs =>
        cases di with
        | nd kd ks =>
          cases kd with
          | tup =>
            cases ek : D.key (.nd .tup ks) with
            | none =>
              have : False := by simpa [dSet, hG, ek] using t
              exact this.elim
            | some kk =>
              have t : (kk.depth ≤ 8 ∧ kvs.length < sizeLine) ∧ P (up G a (.dN (dput kvs kk dv))) := by simpa [dSet, hG, ek] using t
              obtain ⟨⟨h8, hl⟩, t⟩ := t
              have ka := zt8 q2 ek
              rw [VR] at q2
              obtain ⟨b, vs, rfl, hb, rb⟩ := q2
              cases (show u = Value.ref b from ry)
              obtain ⟨ws, dn, vr⟩ := hr a _ hG
              obtain ⟨xs, es, ep, h1, h2, h3, h4, h5, h6, h7, h9, h10⟩ := DnAt.of I dn
              refine wpAny_dictSet_heap (hsz := by have := congrArg List.length h6; rw [List.length_map] at this; rw [this]; exact h7) (show (nestedKind Y.prog Y.w).room Y.A by show Y.A.units + 8 < cLine; omega) ⟨zio I ka rfl, h8⟩ h4 fun h' hm' hs => ?_
              obtain ⟨H', I', x, r'⟩ := z8m (t' := s.toks + (nestedKind Y.prog Y.w).draws kk) I hr hG h1 h5 h4 h6 h9 h10 vr ka h8 q3 rz hl hm' hs
              exact ⟨H', I', k _ _ t x r'⟩
          | _ =>
            have : False := by simpa [dSet, hG] using t
            exact this.elim
        | _ =>
          have : False := by simpa [dSet, hG] using t
          exact this.elim
  | _ => exact t.elim
/-- {k: v for tg in iter if ..}: a tracked dict -/
def dDc (o : DO) (wi : DTI) (g : DTG) (tt : DTT) (tk tv : DTE) (own : List Nat) : DTE := fun η G Q => wi η G fun ds ok G1 => ∀ p, G1 p = none → ∃ W : Nat → DHp → Prop, W 0 (up G1 p o) ∧ (∀ i G, W i G → ok G ∧ ∀ xs, G p ≠ some (.lst xs)) ∧
  (∀ i d G, ds[i]? = some d → W i G → g d (zjv η own) G fun η2 G2 => tt η2 G2 fun b G3 => if b = true then tk η2 G3 fun y G4 => tv η2 G4 fun z G5 => (∀ xs, G5 p ≠ some (.lst xs)) ∧ dSet (.ref p) y z G5 (W (i + 1)) else W (i + 1) G3) ∧
  ∀ G, W ds.length G → Q (.ref p) G
def o0K : Addr → HO := fun _ => .dK []
theorem z7r [Bs] {K : Ml} {o0 : Addr → HO} {o : DO} {wi : DTI} {g : DTG} {tt : DTT} {tk tv : DTE} {own is : List Nat} {σ : L2.St} {H : Hp} {Q : VK} (hsub : ∀ i ∈ is, i ∈ own) (hor : ∀ H G D, H D = some (o0 D) → (D == sysModules) = false → OR K H G D o) (hnl : ∀ H G D ob, OR K H G D ob → (∀ ds, ob ≠ .lst ds) → ∀ xs, H D ≠ some (.lst xs))
    (h : zqy K (dDc o wi g tt tk tv own) σ H Q) : tDcG o0 (stD K) (zabw K wi) (zabv K is g) (z50 K tt) (zqy K tk) (zqy K tv) own σ H Q := by
  obtain ⟨η, G, P, hs, hr, t, k⟩ := h
  refine ⟨η, G, _, hs, hr, t, fun ds ok G1 J H1 pp x r it => ?_⟩
  intro D hD hsys
  have gD : G1 D = none := r.free hD
  obtain ⟨W, w0, wok, step, fin⟩ := pp D gD
  have xD : Ext H1 G1 (upd H1 D (o0 D)) (up G1 D o) := .new hD
  have rD : HR K (upd H1 D (o0 D)) (up G1 D o) := r.new hD (hor _ _ _ upd_same hsys)
  refine ⟨fun i m H' => m = ds.length - i ∧ i ≤ ds.length ∧ ∃ G', W i G' ∧ Ext H1 G1 H' G' ∧ HR K H' G',
    ⟨ds.length, by simp, Nat.zero_le _, _, w0, xD, rD⟩, ?_⟩
  rintro i m H2 ⟨rfl, hle, G2, w1, x1, r1⟩
  obtain ⟨a1, a2⟩ := it i H2 G2 x1 r1 (wok _ _ w1).1
  by_cases hlt : i < ds.length
  · have e : ds[i]? = some ds[i] := by simp [hlt]
    obtain ⟨go, yl⟩ := a1 _ e
    refine .inr ⟨go, fun H' => ∃ G', W (i + 1) G' ∧ Ext H1 G1 H' G' ∧ HR K H' G', fun H' ⟨G', z⟩ => ⟨_, by omega, rfl, hlt, G', z⟩, fun y H3 hy => ?_⟩
    obtain ⟨x3, r3, v3⟩ := yl y H3 hy
    have s3 : SR K H3 G2 (wipe σ own) (zjv η own) := ((hs.ext hr x).ext r (x1.trans x3)).wipe own
    refine ⟨_, zjv η own, G2, _, v3, s3, r3, step i _ G2 e w1, fun η4 G4 σ4 H4 p4 x4 s4 r4 wp => ⟨?_, η4, G4, _, s4, r4, p4, fun b G5 H5 p5 x5 r5 => ?_⟩⟩
    · have hlen : (wipe σ own).length = σ4.length := by
        have := congrArg List.length wp
        rw [wipe_length, wipe_length] at this
        exact this.symm
      rw [z4t (vs := own) wp hsub hlen]
      exact z1l _ _
    · by_cases hb : b = true
      · subst hb
        rw [if_pos rfl] at p5 ⊢
        refine ⟨η4, G5, _, s4.ext r4 x5, r5, p5, fun dk G6 vk H6 p6 x6 r6 q6 => ⟨η4, G6, _, (s4.ext r4 x5).ext r5 x6, r6, p6, fun dy G7 vy H7 ⟨nl7, p7⟩ x7 r7 q7 => ⟨⟨.ref D, dk, dy, G7, _, r7, by rw [VR], q6.ext r6 x7, q7, p7, fun G8 H8 w8 x8 r8 => ⟨G8, w8, (x1.trans ((((x3.trans x4).trans x5).trans x6).trans x7)).trans x8, r8⟩⟩, ?_⟩⟩⟩
        have : ∃ ob, G7 D = some ob := by
          cases e7 : G7 D with
          | none =>
            have : False := by simpa [dSet, e7] using p7
            exact this.elim
          | some ob => exact ⟨ob, rfl⟩
        obtain ⟨ob, e7⟩ := this
        exact hnl _ _ _ ob (r7 D ob e7) fun ds e => nl7 ds (by rw [e7, e])
      · rw [if_neg hb] at p5 ⊢
        exact ⟨G5, p5, x1.trans ((x3.trans x4).trans x5), r5⟩
  · have e : i = ds.length := by omega
    subst e
    exact .inl ⟨a2 (Nat.le_refl _), k (.ref D) G2 (.ref D) H2 (fin _ w1) (x.trans x1) r1 (by rw [VR])⟩
theorem zad5 {K : Ml} (H : Hp) (G : DHp) (D : Addr) (ob : DO) (h : OR K H G D ob) (n : ∀ ds, ob ≠ .lst ds) (xs : List V) : H D ≠ some (.lst xs) := fun e => by
  cases ob with
  | lst ds => exact n ds rfl
  | dK ds => obtain ⟨_, e', _⟩ := h; rw [e] at e'; cases e'
  | dN ds => obtain ⟨_, ⟨_, _, _, e', _⟩, _⟩ := h; rw [e] at e'; cases e'
  | ins C fs => obtain ⟨_, _, e', _⟩ := h; rw [e] at e'; cases e'
  | rw es ep kvs => obtain ⟨_, ⟨_, e', _⟩, _⟩ := h; rw [e] at e'; cases e'
theorem zadi [Bs] {kx vx tg iter : Expr} {ifs : List Expr} {scope : Scope} {own : List (Str × Nat)} {is : List Nat} {pos : Pos} {wi : DTI} {g : DTG} {tt : DTT} {tk tv : DTE} (hu : X.A.units + 64 < cLine) (hc : X.calm = true) (hN : X.N.Nodup) (hi : PID X tg iter wi) (ok : BlkOk X.N X.env.scope scope own)
    (hg : ∀ (s : Shared) (H : Hp) (C : Addr) (cl : List (Str × Addr)) (fp : List Addr), PGD (X.blk s H scope (compEnvC scope cl C X.env) fp) tg is g) (ht : ∀ (s : Shared) (H : Hp) (C : Addr) (cl : List (Str × Addr)) (fp : List Addr), PTsD (X.blk s H scope (compEnvC scope cl C X.env) fp) ifs tt)
    (hk : ∀ (s : Shared) (H : Hp) (C : Addr) (cl : List (Str × Addr)) (fp : List Addr), PED (X.blk s H scope (compEnvC scope cl C X.env) fp) kx tk)
    (he : ∀ (s : Shared) (H : Hp) (C : Addr) (cl : List (Str × Addr)) (fp : List Addr), PED (X.blk s H scope (compEnvC scope cl C X.env) fp) vx tv) (hsub : ∀ i ∈ is, i ∈ own.map (·.2) := by decide) (hs : ∀ x, foldedSetIterable iter X.env x = pure x := by intro _; rfl) :
    PED X (.DictComp kx vx [⟨tg, iter, ifs, 0⟩] scope pos) (dDc (.dK []) wi g tt tk tv (own.map (·.2))) :=
  PE.impI (zadv (o0 := o0K) (St := stD X.ml) hc hN hi ok (fun pins σ H s I => I.laid (t' := s.toks) (fun _ _ q => Heap.get?_push_of_some _ q) (Nat.le_refl _) (dk_empty s.heap I.big)) (fun s H cenv fp => zaa6 (Y := X.blk s H scope cenv fp) hu) hg ht hk he hs)
    fun _ _ _ _ _ _ h => z7r (o := .dK []) hsub (fun H G D e _ => ⟨[], e, rfl, .nil⟩) zad5 h
end
end DL
namespace DL
open PySem PySem.Spec PyProof.Rows L2
section
variable {X : Cx}
theorem zaau {kx vx : Expr} {gs : List Comprehension} {scope : Scope} {pos py : Pos} {y : Str} {l : Nat} {env_ : Env} (hkn : env_.scope.kind = .function) (hyn : env_.scope.names.lookup y = some .local) (hln : (py.line == pos.line) = true)
    (had : (scope.names.any fun (n_, k_) => n_ == y && (k_ == .local || k_ == .cell)) = false) : swapsWith (.DictComp kx vx gs scope pos) (some (.Name y py)) l env_ = pure true := by
  have kyn : env_.kindOf y = some .local := hyn
  have hbn : env_.blockKind = .function := by unfold Env.blockKind; rw [hkn]; rfl
  unfold swapsWith
  simp only [hbn, kyn, Expr.pos, had, hln]
  rfl
theorem z7h {i : Nat} {y : Str} {py : Pos} {o0 : Addr → HO} {St : Addr → V → V → Hp → (Hp → Prop) → Prop} {kx vx tg iter : Expr} {ifs : List Expr} {scope : Scope} {own : List (Str × Nat)} {pos spos : Pos} {wi : TI} {g : TG} {tt : TT} {tk tv : TE} (hc : X.calm = true) (hN : X.N.Nodup) (hyn : X.N[i]? = some y) (hyl : X.env.scope.names.lookup y = some .local)
    (hsw : swapsWith (.DictComp kx vx [⟨tg, iter, ifs, 0⟩] scope pos) (some (.Name y py)) spos.line X.env = pure true) (hi : PI X tg iter wi) (ok : BlkOk X.N X.env.scope scope own)
    (hnew : ∀ pn τ M s_a, Inv X pn τ M s_a → Inv X pn τ (upd M s_a.heap.objs.size (o0 s_a.heap.objs.size)) { s_a with heap := s_a.heap.push { cls := .type "dict", data := .dict #[] } }) (hst : ∀ (s_a : Shared) (M : Hp) (cenv : Env) (ws_ : List Addr), StOk (X.blk s_a M scope cenv ws_) St)
    (hpg : ∀ (s_a : Shared) (M : Hp) (Cn : Addr) (cs_ : List (Str × Addr)) (ws_ : List Addr), PG (X.blk s_a M scope (compEnvC scope cs_ Cn X.env) ws_) tg g) (hpt : ∀ (s_a : Shared) (M : Hp) (Cn : Addr) (cs_ : List (Str × Addr)) (ws_ : List Addr), PTs (X.blk s_a M scope (compEnvC scope cs_ Cn X.env) ws_) ifs tt)
    (hkn : ∀ (s_a : Shared) (M : Hp) (Cn : Addr) (cs_ : List (Str × Addr)) (ws_ : List Addr), PE (X.blk s_a M scope (compEnvC scope cs_ Cn X.env) ws_) kx tk)
    (hpv : ∀ (s_a : Shared) (M : Hp) (Cn : Addr) (cs_ : List (Str × Addr)) (ws_ : List Addr), PE (X.blk s_a M scope (compEnvC scope cs_ Cn X.env) ws_) vx tv) (hfs : ∀ x_, foldedSetIterable iter X.env x_ = pure x_ := by intro _; rfl) :
    PS X (.Assign [.Name y py] (.DictComp kx vx [⟨tg, iter, ifs, 0⟩] scope pos) spos) (tAsg (tDcG o0 St wi g tt tk tv (own.map (·.2))) (gName i)) := by
  refine ⟨fun pn s_a τ M Dn Iv hq => ?_⟩
  rw [exec_Assign_Name_used _ _ _ _ hsw]
  refine wpAny_bind (wpAny_standAt (wpAny_bind ?_))
  show wpAny _ X.A (do let _ ← comprehension (.DictComp kx vx [⟨tg, iter, ifs, 0⟩] scope pos) scope X.env (firstIterPos [⟨tg, iter, ifs, 0⟩] pos) newDict false (eval iter X.env) (some (assign (.Name y py) X.env))) _ _ s_a
  have hq : tDcG o0 St wi g tt tk tv (own.map (·.2)) τ M (fun x_ H1 => gName i x_ τ H1 Dn.nx) := hq
  refine wpAny_bind (thn (z38 (Qe := fun _ s_b => SP X pn Dn .next s_b) hc hN Iv hi ok hpg hpt hkn hpv hfs hnew hst hq fun Ln Cn s_b n_m M' Iw qv hns hfp => ?_) fun _ s_b hq => wpAny_pure (wpAny_pure hq))
  show wpAny _ _ (assign (.Name y py) X.env (.ref Ln)) _ _ _
  refine wpAny_assign_Name (store_ok2 (v := V.ref Ln) Iw hN hyn (.inl hyl) rfl (fun s_c Ix ⟨ad, sbt, had⟩ => ?_) (.inr hyl))
  obtain ⟨p0, p1, p2, p3, p4, p5⟩ := hfp
  have hne : Cn ≠ ad := by
    rcases had with zz | zz
    · rw [zz]; exact p1
    · exact fun e_ => p4 y ad zz e_.symm
  refine ⟨n_m, hns.sameBut sbt hne, fun hp3 sbt3 => ?_⟩
  exact ⟨_, M', Ix.turned (t' := s_c.toks) (fun b_ o_ hbn e_ => (sbt3.2 b_ hbn).trans e_) p0 p1 p3 p4 p5, qv⟩
theorem z6q [Bs] {i : Nat} {y : Str} {py : Pos} {kx vx tg iter : Expr} {ifs : List Expr} {scope : Scope} {own : List (Str × Nat)} {is : List Nat} {pos spos : Pos} {wi : DTI} {g : DTG} {tt : DTT} {tk tv : DTE} (hu : X.A.units + 64 < cLine) (hc : X.calm = true) (hN : X.N.Nodup) (hy : X.N[i]? = some y) (hyl : X.env.scope.names.lookup y = some .local)
    (hsw : swapsWith (.DictComp kx vx [⟨tg, iter, ifs, 0⟩] scope pos) (some (.Name y py)) spos.line X.env = pure true) (hi : PID X tg iter wi) (ok : BlkOk X.N X.env.scope scope own)
    (hg : ∀ (s : Shared) (H : Hp) (C : Addr) (cl : List (Str × Addr)) (fp : List Addr), PGD (X.blk s H scope (compEnvC scope cl C X.env) fp) tg is g) (ht : ∀ (s : Shared) (H : Hp) (C : Addr) (cl : List (Str × Addr)) (fp : List Addr), PTsD (X.blk s H scope (compEnvC scope cl C X.env) fp) ifs tt)
    (hk : ∀ (s : Shared) (H : Hp) (C : Addr) (cl : List (Str × Addr)) (fp : List Addr), PED (X.blk s H scope (compEnvC scope cl C X.env) fp) kx tk)
    (he : ∀ (s : Shared) (H : Hp) (C : Addr) (cl : List (Str × Addr)) (fp : List Addr), PED (X.blk s H scope (compEnvC scope cl C X.env) fp) vx tv) (hsub : ∀ i ∈ is, i ∈ own.map (·.2) := by decide) (hs : ∀ x, foldedSetIterable iter X.env x = pure x := by intro _; rfl) :
    PSD X (.Assign [.Name y py] (.DictComp kx vx [⟨tg, iter, ifs, 0⟩] scope pos) spos) (dAsg (dDc (.dK []) wi g tt tk tv (own.map (·.2))) (zk i)) :=
  PS.impI (z7h (o0 := o0K) (St := stD X.ml) hc hN hy hyl hsw hi ok (fun pins σ H s I => I.laid (t' := s.toks) (fun _ _ q => Heap.get?_push_of_some _ q) (Nat.le_refl _) (dk_empty s.heap I.big)) (fun s H cenv fp => zaa6 (Y := X.blk s H scope cenv fp) hu) hg ht hk he hs)
    fun _ _ σ H E _ ⟨η, G, F, hs, hr, t, k⟩ => show tDcG _ _ _ _ _ _ _ _ σ H _ from z7r (o := .dK []) hsub (fun H G D e _ => ⟨[], e, rfl, .nil⟩) zad5 ⟨η, G, _, hs, hr, t, fun d G1 v H1 p1 x1 r1 q1 => k.nx _ G1 _ H1 p1 x1 ((hs.ext hr x1).set i q1) r1⟩
end
end DL
namespace DL
open PySem PySem.Spec PyProof.Rows L2
def za4 (N : List Str) (ds : List D) : DSt := ds.map some ++ List.replicate (N.length - ds.length) none
theorem SR.st [Bs] {K : Ml} {H : Hp} {G : DHp} {N : List Str} {ds : List D} {vs : List V} (h : VRs K H G ds vs) (x : Ext Bs.H0 Bs.G0 H G) : SR K H G (L2.start N vs) (za4 N ds) := by
  refine ⟨?_, fun i d e => ?_, x⟩
  · unfold L2.start za4
    rw [List.length_append, List.length_append, List.length_map, List.length_map, List.length_replicate, List.length_replicate, h.length]
  · unfold za4 at e
    by_cases hi : i < ds.length
    · rw [List.getElem?_append_left (by rw [List.length_map]; exact hi), List.getElem?_map] at e
      cases ed : ds[i]? with
      | none => rw [ed] at e; cases e
      | some d' =>
        rw [ed] at e
        simp only [Option.map_some, Option.some.injEq] at e
        subst e
        obtain ⟨v, ev, q⟩ := h.get ed
        refine ⟨v, ?_, q⟩
        unfold L2.start
        rw [List.getElem?_append_left (by rw [List.length_map, h.length]; exact hi), List.getElem?_map, ev]
        rfl
    · rw [List.getElem?_append_right (by rw [List.length_map]; omega), List.getElem?_replicate] at e
      split at e
      · cases e
      · cases e
section
variable {P : Program} {w : World} {K : PySem.W.Frag} {mg : Str → Option Value} {base : Heap}
theorem fn_d {x qual : Str} {st : Stmt} {f : Addr} {fd : FuncData} {N ps : List Str} {k : Nat} {sp : DRn} (F : Fun K x qual st f fd) (S : FnScope N ps (defScope st)) (len : ∀ ds G Q, sp ds G Q → ds.length = ps.length) {T : DTS}
    (hp : ∀ [Bs] (cdv : Value) (A : Around) (outer : List Env) (s : Shared) (H : Hp) (E : XK), Room k (A.deeper (envOfC qual (defScope st) s.heap.objs.size f cdv)) → PSsD (cxOf CX0 P w K mg base N qual (defScope st) f cdv A outer s H E).nox (defBody st) T)
    (hs : ∀ ds G Q, sp ds G Q → T { nx := fun _ G' => Q .non G', rt := Q } (za4 N ds) G) : FnD P w K mg base (k + 1) f fd ps sp := by
  refine F.ok S (fun vs H Q E h => ?_) (fun cdv A outer s H vs Q E hr h => ?_)
  · obtain ⟨ds, G, Q', q, _, t, _⟩ := h
    rw [q.length]
    exact len _ _ _ t
  · obtain ⟨ds, G, Q', q, hr', t, k'⟩ := h
    letI : Bs := ⟨H, G⟩
    refine ⟨z6c ⟨K, w⟩ T, hp cdv A outer s H E hr, za4 N ds, G, _, .st q (.refl _ _), hr', hs ds G Q' t, ?_⟩
    exact ⟨fun η G' σ H' p x _ r => k' _ _ _ _ p x r (by rw [VR]), fun d G' v H' p x r q => k' _ _ _ _ p x r q, fun _ _ _ _ p => p.elim, fun _ _ _ _ p => p.elim⟩
/-- a promise: the arguments, then what the body leads to -/
def z8e : DRn := d1 fun d G Q => ∃ ns : List Int, d = .nd .scr (ns.map .int) ∧ ns.length ≤ 63 ∧ (∀ a, G a = none) ∧ ∀ G', Q (.bl true) G'
end
theorem Room.u65 {k : Nat} {A : Around} (r : Room k A) : A.units + 65 < cLine := by have := r.un; omega
end DL
namespace DL
open PySem PySem.Spec PyProof.Rows L2
def zwi (d : D) (G : DHp) : Option (List D) := match dicN d G with
  | some kvs => some (kvs.map fun p => nkD p.1)
  | none => match dicK d G with
    | some kvs => some (kvs.map fun p => kD p.1)
    | none => none
section
variable {X : Cx}
mutual
theorem z2b {pins : List (Addr × Obj)} {σ : L2.St} {H : Hp} {s : Shared} (I : Inv X pins σ H s) : ∀ {k : NestedKey} {v : V} {u : Value}, zgb X.ml H k v → RelV v u → Reads s.heap u (py (nkD k)) []
  | .none, _, _, h, r => by rw [zgb] at h; subst h; cases (show _ = Value.none from r); rw [nkD, py]; exact .none
  | .num i, _, _, h, r => by rw [zgb] at h; subst h; obtain ⟨t, rfl⟩ := r; rw [nkD, py]; exact .int i t
  | .text x, _, _, h, r => by rw [zgb] at h; subst h; obtain ⟨t, rfl⟩ := r; rw [nkD, py]; exact .str x t
  | .tup ks, _, _, h, r => by
    rw [zgb] at h
    obtain ⟨a, vs, rfl, q, t⟩ := h
    cases r
    obtain ⟨its, rv, tt, hz⟩ := I.tuple q
    obtain ⟨o, ho, hc, n, hd⟩ := tt
    rw [nkD, py]
    exact .tuple ho hc hd (by simpa using keys_reads I t rv)
theorem keys_reads {pins : List (Addr × Obj)} {σ : L2.St} {H : Hp} {s : Shared} (I : Inv X pins σ H s) : ∀ {k : List NestedKey} {v : List V} {u : List Value}, KeysAt X.ml H k v → Vals v u → ReadsAll s.heap u (pys (nkDs k)) []
  | [], _, _, h, r => by rw [KeysAt] at h; subst h; cases r; rw [nkDs, pys]; exact .nil
  | k :: ks, _, _, h, r => by
    rw [KeysAt] at h
    obtain ⟨v, vs, rfl, q, t⟩ := h
    cases r with
    | cons r1 r2 =>
      rw [nkDs, pys]
      exact .cons (as := []) (bs := []) (z2b I q r1) (keys_reads I t r2)
end
/-- what is known of the keys -/
theorem z4p {pins : List (Addr × Obj)} {σ : L2.St} {H : Hp} {G : DHp} {s : Shared} {d : D} {v : V} {ks : List D} (I : Inv X pins σ H s) (hr : HR X.ml H G) (q : VR X.ml H G d v) (e : zwi d G = some ks) :
    ∃ a es ep vs, v = .ref a ∧ (a == sysModules) = false ∧ s.heap.DictRaw a es ep ∧ es.size ≤ sizeLine ∧ Vals vs (es.toList.map (·.key)) ∧ VRs X.ml H G ks vs ∧ PySem.W.EachIs (fun u d => Reads s.heap u (py d) []) (es.toList.map (·.key)) ks := by
  unfold zwi at e
  split at e
  · rename_i kvs e1
    cases e
    obtain ⟨a, ws, rfl, dn, vr⟩ := zqv hr q e1
    obtain ⟨xs, es, ep, h1, h2, h3, h4, h5, h6, h7, h8, h9⟩ := DnAt.of I dn
    have hm : es.toList.map (·.key) = xs.map fun x => Value.ref x.2.1 := by
      rw [h3, List.map_map]
      exact List.map_congr_left fun x _ => rfl
    have hk : kvs.map (fun p => nkD p.1) = xs.map fun x => nkD x.1 := by
      rw [show (fun p : NestedKey × D => nkD p.1) = nkD ∘ (·.1) from rfl, ← List.map_map, ← h6, List.map_map]; rfl
    have hsz : es.size ≤ sizeLine := by
      have := congrArg List.length h3
      rw [List.length_map, Array.length_toList] at this
      have h62 := congrArg List.length h6
      rw [List.length_map] at h62
      omega
    refine ⟨a, es, ep, xs.map fun x => V.ref x.2.1, rfl, h5, h2, hsz, ?_, ?_, ?_⟩
    · rw [hm]
      have : ∀ zs : List (NestedKey × Addr × Value), Vals (zs.map fun x => V.ref x.2.1) (zs.map fun x => Value.ref x.2.1) := fun zs => by
        induction zs with
        | nil => exact .nil
        | cons z zs ih => exact .cons rfl ih
      exact this xs
    · rw [hk]
      have : ∀ zs : List (NestedKey × Addr × Value), (∀ x ∈ zs, zgb X.ml H x.1 (.ref x.2.1) ∧ x.1.depth ≤ 8) → VRs X.ml H G (zs.map fun x => nkD x.1) (zs.map fun z => V.ref z.2.1) := by
        intro zs
        induction zs with
        | nil => intro _; exact .nil
        | cons z zs ih => intro h; exact .cons (z8k (h z (by simp)).1) (ih fun x hx => h x (by simp [hx]))
      exact this xs h8
    · rw [hk, hm]
      have : ∀ zs : List (NestedKey × Addr × Value), (∀ x ∈ zs, zgb X.ml H x.1 (.ref x.2.1) ∧ x.1.depth ≤ 8) → PySem.W.EachIs (fun u d => Reads s.heap u (py d) []) (zs.map fun x => Value.ref x.2.1) (zs.map fun x => nkD x.1) := by
        intro zs
        induction zs with
        | nil => intro _; exact .nil
        | cons z zs ih => intro h; exact .cons (z2b I (h z (by simp)).1 rfl) (ih fun x hx => h x (by simp [hx]))
      exact this xs h8
  · split at e
    · rename_i kvs e1
      cases e
      obtain ⟨a, ws, rfl, rd, hks, vr⟩ := zqw hr q e1
      obtain ⟨z, hd, vs, rel, dd⟩ := dk_rd I.hok rd
      obtain ⟨es, ep, raw, hsz, hat⟩ := dd.raw
      have hl : ws.length = vs.length := rel.length
      have hk : kvs.map (fun p => kD p.1) = (ws.map (·.1)).map kD := by
        rw [hks, List.map_map]; rfl
      have hkey : ws.map (·.1) = vs.map (·.1) := rel.keys
      have each : ∀ (F : Value → Key → Prop), (∀ k u, (mixKind X.prog X.w).is k u = true → F u k) → PySem.W.EachIs F (es.toList.map (·.key)) (vs.map (·.1)) := fun F hF => by
        have go : ∀ (l : List DictEntry) (m : List (Key × Value)), l.length = m.length → (∀ i (hi : i < l.length) k v, m[i]? = some (k, v) → (mixKind X.prog X.w).is k l[i].key = true) → PySem.W.EachIs F (l.map (·.key)) (m.map (·.1)) := by
          intro l
          induction l with
          | nil =>
            intro m h1 h2
            cases m with
            | nil => exact .nil
            | cons _ _ => simp at h1
          | cons x l ih =>
            intro m h1 h2
            cases m with
            | nil => simp at h1
            | cons y m =>
              obtain ⟨k, v⟩ := y
              refine .cons (hF _ _ (h2 0 (by simp) k v rfl)) (ih m (by simpa using h1) fun i hi k' v' e => ?_)
              have := h2 (i + 1) (by simpa using hi) k' v' (by simpa using e)
              simpa using this
        refine go _ _ (by rw [Array.length_toList]; exact hsz) fun i hi k v e => ?_
        have := (hat i (by simpa using hi) k v e).1
        simpa using this
      refine ⟨a, es, ep, (ws.map (·.1)).map kV, rfl, hd, raw, by rw [hsz, ← hl]; exact z, ?_, ?_, ?_⟩
      · rw [hkey]
        have := each (fun u k => RelV (kV k) u) fun k u h => z8g h
        have go : ∀ {us : List Value} {ks : List Key}, PySem.W.EachIs (fun u k => RelV (kV k) u) us ks → Vals (ks.map kV) us := by
          intro us ks h
          induction h with
          | nil => exact .nil
          | cons r _ ih => exact .cons r ih
        exact go this
      · rw [hk]
        exact z8d _
      · rw [hk, hkey]
        have := each (fun u k => Reads s.heap u (py (kD k)) []) fun k u h => by
          rcases keyIs_shape (show keyIs k u = true from h) with ⟨i, t, rfl, rfl⟩ | ⟨x, t, rfl, rfl⟩
          · show Reads _ _ (py (.int i)) []; rw [py]; exact .int i t
          · show Reads _ _ (py (.str x)) []; rw [py]; exact .str x t
        have go : ∀ {us : List Value} {ks : List Key}, PySem.W.EachIs (fun u k => Reads s.heap u (py (kD k)) []) us ks → PySem.W.EachIs (fun u d => Reads s.heap u (py d) []) us (ks.map kD) := by
          intro us ks h
          induction h with
          | nil => exact .nil
          | cons r _ ih => exact .cons r ih
        exact go this
    · cases e
theorem zyx {es : Array DictEntry} {acc : Array Value} (h : ItemsOf (fun i v => ∃ hi : i < es.size, v = es[i].key) acc es.size) : acc.toList = es.toList.map (·.key) := by
  refine List.ext_getElem? fun i => ?_
  rw [Array.getElem?_toList, List.getElem?_map, Array.getElem?_toList]
  by_cases hi : i < es.size
  · have hi' : i < acc.size := by rw [h.1]; exact hi
    obtain ⟨_, e⟩ := h.2 i acc[i] (Array.getElem?_eq_getElem hi')
    rw [Array.getElem?_eq_getElem hi', Array.getElem?_eq_getElem hi, e]
    rfl
  · rw [Array.getElem?_eq_none (by rw [h.1]; omega), Array.getElem?_eq_none (by omega)]
    rfl
/-- list(d): tracked -/
def z8h : DRn := d1 fun d G Q => match zwi d G with
  | some ks => ∀ p, G p = none → Q (.ref p) (up G p (.lst ks))
  | none => False
theorem zaaj (hc : X.calm = true) : zj9 X (.type "list") z8h := zld fun pins s σ H G x v d P I rx hr q1 t => by
  split at t
  · rename_i ks e
    obtain ⟨a, es, ep, vs, rfl, hsys, raw, hsz, rv, qs, _⟩ := z4p I hr q1 e
    cases (show v = Value.ref a from rx)
    refine PySem.W.kdl_call (PySem.KdlSrc.rawDict hsys) (I.ok.hd hc) raw hsz fun h' tk acc c hk hS hacc => ?_
    have hp : H s.heap.objs.size = none := I.hok.fresh (Nat.le_refl _)
    have e2 := zyx hacc
    have x2 : Ext H G (upd H s.heap.objs.size (.lst vs)) (up G s.heap.objs.size (.lst ks)) := .new hp
    have I' : Inv X pins σ (upd H s.heap.objs.size (.lst vs)) { s with heap := h', toks := tk } :=
      I.laid hk (Nat.le_refl _) ⟨by rw [rv.length, List.length_map, Array.length_toList]; exact hsz, acc.toList, c, by rw [e2]; exact rv, by rw [Array.toArray_toList]; exact hS⟩
    exact ⟨.ref _, .ref _, _, _, I', rfl, t _ (hr.free hp), x2, hr.new hp ⟨vs, upd_same, qs.ext hr x2⟩, by rw [VR]⟩
  · exact t.elim
/-- sorted(d): tracked -/
def zvb : DRn := d1 fun d G Q => match zwi d G with
  | some ks => (PySem.W.AllAlike (ks.map py) ∧ PySem.W.Sortable (ks.map py) ∧ ∀ d ∈ ks, (py d).depth ≤ 60) ∧ ∀ p, G p = none → Q (.ref p) (up G p (.lst (srt ks)))
  | none => False
theorem zyl (hu : X.A.units + 64 < cLine) (hc : X.calm = true) : zj9 X (.builtin "sorted") zvb := zld fun pins s σ H G x v d P I rx hr q1 t => by
  split at t
  · rename_i ks e
    obtain ⟨⟨p2, p3, p4⟩, t⟩ := t
    obtain ⟨a, es, ep, vs, rfl, hsys, raw, hsz, rv, qs, rd⟩ := z4p I hr q1 e
    cases (show v = Value.ref a from rx)
    refine Calls.call_function_entry PyProof.Rows.kind_sorted PyProof.Rows.plain_sorted PyProof.Rows.entry_sorted (PyProof.Rows.args_sorted1 _) ?_
    unfold Builtin.«sorted»
    refine wpAny_bind (m := checkCount "sorted" 1 1 _) (wpAny_pure ?_)
    refine wpAny_bind (PySem.W.kdu_collect (A := X.A.in1) (PySem.KdlSrc.rawDict hsys) (I.ok.hd hc) raw hsz fun h' tk acc hk hacc => ?_)
    have e2 := zyx hacc
    have rva : Vals vs acc.toList := by rw [e2]; exact rv
    have hal : acc.toList.length = ks.length := by rw [← rva.length, qs.length]
    have I1 : Inv X pins σ H { s with heap := h', toks := tk } := I.kept hk
    have hlen : acc.toList.length ≤ sizeLine := by rw [e2, List.length_map, Array.length_toList]; exact hsz
    refine wpAny_bind (wpAny_newList ?_ hlen)
    have hoL : (h'.push (seqObj "list" acc.toList.toArray 0)).get? h'.objs.size = some (seqObj "list" acc.toList.toArray 0) := Heap.get?_push_size _ rfl
    show wpAny _ _ _ _ _ { s with heap := h'.push (seqObj "list" acc.toList.toArray 0), toks := tk }
    have er : PySem.W.EachIs (fun v b => ∃ as, Reads (h'.push (seqObj "list" acc.toList.toArray 0)) v (py b) as ∧ h'.objs.size ∉ as) acc.toList ks := by
      rw [e2]
      exact rd.mono fun u b r => ⟨[], PyProof.Rows.Reads.keeps (fun b o q => Heap.get?_push_of_some _ (hk b o q)) r, by simp⟩
    refine wpAny_bind (wpAny_holding (PySem.W.list_sort_data (s := { s with heap := h'.push (seqObj "list" acc.toList.toArray 0), toks := tk }) (R := fun u d => ∃ v, RelV v u ∧ VR X.ml H G d v) (enc := py) (bs := ks) hoL (zta qs rva) er p2 p3 (by rw [← hal]; exact hlen) (fun b hb => by have := p4 b hb; show X.A.units + 1 + 1 + _ < _; omega) fun out ho eo => ?_))
    obtain ⟨ws, rw', qs'⟩ := zmq eo
    obtain ⟨e', he'⟩ := PyProof.Rows.sortedHeap_at (vs := acc.toList) (out := List.toArray out) hoL
    have hp : H h'.objs.size = none := I1.hok.fresh (Nat.le_refl _)
    have x2 : Ext H G (upd H h'.objs.size (.lst ws)) (up G h'.objs.size (.lst (srt ks))) := .new hp
    refine wpAny_pure ⟨_, rfl, .ref h'.objs.size, .ref h'.objs.size, upd H h'.objs.size (.lst ws), _, I1.laid (t' := tk) (fun b u e => ?_) (Nat.le_refl _)
      (show ObjOk X.prog X.w _ _ _ (.lst ws) from ⟨by rw [rw'.length, ho, ← hal]; exact hlen, out, e', rw', he'⟩), rfl, t _ (hr.free hp), x2, hr.new hp ⟨ws, upd_same, qs'.ext hr x2⟩, by rw [VR]⟩
    have hb : b < h'.objs.size := Heap.lt_size e
    rw [PyProof.Rows.sortedHeap_old (Nat.ne_of_lt hb) (by rw [size_push']; exact Nat.lt_succ_of_lt hb)]
    exact Heap.get?_push_of_some _ e
  · exact t.elim
end
end DL
namespace DL
open PySem PySem.Spec PyProof.Rows L2
abbrev dSub : DR2 := i2 (fun _ _ => True) fun i j => .int (i - j)
abbrev dMul : DR2 := i2 CMul fun i j => .int (i * j)
abbrev zaci : DR2 := i2 CDiv fun i j => .int (i / j)
abbrev dMod : DR2 := i2 (fun _ j => 0 < j) fun i j => .int (i % j)
abbrev dPow : DR2 := i2 CPow fun i j => .int (i ^ j.toNat)
def e2 (p : Int × Int) : D := .nd .tup [.int p.1, .int p.2]
def e3 (p : Int × Int × Int) : D := .nd .tup [.int p.1, .int p.2.1, .int p.2.2]
def eL {α : Type} (f : α → D) (xs : List α) : D := .nd .lst (xs.map f)
def eT {α : Type} (f : α → D) (xs : List α) : D := .nd .tup (xs.map f)
mutual
def zb6 : D → Bool
  | .non => true
  | .int _ => true
  | .nd .tup ds => cleans ds
  | .nd .lst ds => cleans ds
  | _ => false
def cleans : List D → Bool
  | [] => true
  | d :: ds => zb6 d && cleans ds
end
mutual
theorem zif : ∀ {d : D}, zb6 d = true → zek d = true
  | .non, _ => rfl
  | .int _, _ => rfl
  | .nd .tup ds, h => by rw [zek]; rw [zb6] at h; exact cleans_plain h
  | .nd .lst ds, h => by rw [zek]; rw [zb6] at h; exact cleans_plain h
  | .bl _, h => by simp [zb6] at h
  | .str _, h => by simp [zb6] at h
  | .ty _, h => by simp [zb6] at h
  | .ref _, h => by simp [zb6] at h
  | .nd .scr _, h => by simp [zb6] at h
  | .nd (.ins _ _) _, h => by simp [zb6] at h
  | .nd (.dK _) _, h => by simp [zb6] at h
  | .nd (.dN _) _, h => by simp [zb6] at h
theorem cleans_plain : ∀ {ds : List D}, cleans ds = true → plainDs ds = true
  | [], _ => rfl
  | d :: ds, h => by
    rw [cleans, Bool.and_eq_true] at h
    rw [plainDs, zif h.1, cleans_plain h.2]; rfl
end
mutual
theorem z1m : ∀ {d : D}, zb6 d = true → PyData.canLay0 (py d) = true
  | .non, _ => by rw [py, PyData.canLay0]
  | .int _, _ => by rw [py, PyData.canLay0]
  | .nd .tup ds, h => by rw [py, PyData.canLay0]; rw [zb6] at h; exact cleans_lay h
  | .nd .lst ds, h => by rw [py, PyData.canLay0]; rw [zb6] at h; exact cleans_lay h
  | .bl _, h => by simp [zb6] at h
  | .str _, h => by simp [zb6] at h
  | .ty _, h => by simp [zb6] at h
  | .ref _, h => by simp [zb6] at h
  | .nd .scr _, h => by simp [zb6] at h
  | .nd (.ins _ _) _, h => by simp [zb6] at h
  | .nd (.dK _) _, h => by simp [zb6] at h
  | .nd (.dN _) _, h => by simp [zb6] at h
theorem cleans_lay : ∀ {ds : List D}, cleans ds = true → PyData.canLayAll0 (pys ds) = true
  | [], _ => by rw [pys, PyData.canLayAll0]
  | d :: ds, h => by
    rw [cleans, Bool.and_eq_true] at h
    rw [pys, PyData.canLayAll0, z1m h.1, cleans_lay h.2]; rfl
end
mutual
theorem zs2 : ∀ {d e : D}, zb6 d = true → zb6 e = true → (PyData.eqv (py d) (py e) = true ↔ d = e)
  | .non, .non, _, _ => by simp [py, PyData.eqv]
  | .non, .int _, _, _ => by simp [py, PyData.eqv]
  | .non, .nd .tup _, _, _ => by simp [py, PyData.eqv]
  | .non, .nd .lst _, _, _ => by simp [py, PyData.eqv]
  | .int _, .non, _, _ => by simp [py, PyData.eqv]
  | .int i, .int j, _, _ => by simp [py, PyData.eqv]
  | .int _, .nd .tup _, _, _ => by simp [py, PyData.eqv]
  | .int _, .nd .lst _, _, _ => by simp [py, PyData.eqv]
  | .nd .tup _, .non, _, _ => by simp [py, PyData.eqv]
  | .nd .tup _, .int _, _, _ => by simp [py, PyData.eqv]
  | .nd .tup ds, .nd .tup es, h1, h2 => by
    rw [zb6] at h1 h2
    rw [py, py, PyData.eqv, cleans_eq h1 h2]
    simp
  | .nd .tup _, .nd .lst _, _, _ => by simp [py, PyData.eqv]
  | .nd .lst _, .non, _, _ => by simp [py, PyData.eqv]
  | .nd .lst _, .int _, _, _ => by simp [py, PyData.eqv]
  | .nd .lst _, .nd .tup _, _, _ => by simp [py, PyData.eqv]
  | .nd .lst ds, .nd .lst es, h1, h2 => by
    rw [zb6] at h1 h2
    rw [py, py, PyData.eqv, cleans_eq h1 h2]
    simp
  | .bl _, _, h, _ => by simp [zb6] at h
  | .str _, _, h, _ => by simp [zb6] at h
  | .ty _, _, h, _ => by simp [zb6] at h
  | .ref _, _, h, _ => by simp [zb6] at h
  | .nd .scr _, _, h, _ => by simp [zb6] at h
  | .nd (.ins _ _) _, _, h, _ => by simp [zb6] at h
  | .nd (.dK _) _, _, h, _ => by simp [zb6] at h
  | .nd (.dN _) _, _, h, _ => by simp [zb6] at h
  | _, .bl _, _, h => by simp [zb6] at h
  | _, .str _, _, h => by simp [zb6] at h
  | _, .ty _, _, h => by simp [zb6] at h
  | _, .ref _, _, h => by simp [zb6] at h
  | _, .nd .scr _, _, h => by simp [zb6] at h
  | _, .nd (.ins _ _) _, _, h => by simp [zb6] at h
  | _, .nd (.dK _) _, _, h => by simp [zb6] at h
  | _, .nd (.dN _) _, _, h => by simp [zb6] at h
theorem cleans_eq : ∀ {ds es : List D}, cleans ds = true → cleans es = true → (PyData.eqvAll (pys ds) (pys es) = true ↔ ds = es)
  | [], [], _, _ => by simp [pys, PyData.eqvAll]
  | [], _ :: _, _, _ => by simp [pys, PyData.eqvAll]
  | _ :: _, [], _, _ => by simp [pys, PyData.eqvAll]
  | d :: ds, e :: es, h1, h2 => by
    rw [cleans, Bool.and_eq_true] at h1 h2
    rw [pys, pys, PyData.eqvAll, Bool.and_eq_true, zs2 h1.1 h2.1, cleans_eq h1.2 h2.2]
    simp
end
theorem zyz : ∀ ds : List D, cleans ds = ds.all zb6
  | [] => rfl
  | d :: ds => by rw [cleans, zyz ds]; rfl
theorem zc1 {α : Type} {f : α → D} (h : ∀ a, zb6 (f a) = true) (xs : List α) : cleans (xs.map f) = true := by
  rw [zyz, List.all_map, List.all_eq_true]
  intro x _; exact h x
theorem zni {B : Nat} : ∀ {ds : List D}, (∀ d ∈ ds, (py d).depth ≤ B) → PyData.depthAll (pys ds) ≤ B
  | [], _ => by rw [pys, PyData.depthAll]; exact Nat.zero_le _
  | d :: ds, h => by
    rw [pys, PyData.depthAll]
    have h1 := h d (by simp)
    have h2 := zni (B := B) (ds := ds) fun e he => h e (by simp [he])
    omega
theorem z1s {B : Nat} {ds : List D} (h : ∀ d ∈ ds, (py d).depth ≤ B) : (py (.nd .lst ds)).depth ≤ B + 1 := by
  rw [py, PyData.depth]; have := zni h; omega
theorem zv2 {B : Nat} {ds : List D} (h : ∀ d ∈ ds, (py d).depth ≤ B) : (py (.nd .tup ds)).depth ≤ B + 1 := by
  rw [py, PyData.depth]; have := zni h; omega
theorem zfc (i : Int) : (py (.int i)).depth = 0 := by rw [py, PyData.depth]
theorem zmm {d : D} (h : zb6 d = true) (h2 : (py d).depth ≤ 64) : SeqAt.shaped (py d) = true := by
  unfold SeqAt.shaped
  rw [z1m h, decide_eq_true h2]; rfl
theorem zsy (i : Int) : zb6 (.int i) = true := rfl
theorem zds (p : Int × Int × Int) : zb6 (e3 p) = true := rfl
theorem z5r {α : Type} {f : α → D} (h : ∀ a, zb6 (f a) = true) (xs : List α) : zb6 (eL f xs) = true := by
  unfold eL; rw [zb6]; exact zc1 h xs
theorem ziw {α : Type} {f : α → D} (h : ∀ a, zb6 (f a) = true) (xs : List α) : zb6 (eT f xs) = true := by
  unfold eT; rw [zb6]; exact zc1 h xs
theorem zd0 (p : Int × Int × Int) : (py (e3 p)).depth ≤ 1 := zv2 (B := 0) fun d hd => by
  simp at hd; rcases hd with rfl | rfl | rfl <;> exact Nat.le_of_eq (zfc _)
theorem z5i {α : Type} {f : α → D} {B : Nat} (h : ∀ a, (py (f a)).depth ≤ B) (xs : List α) : (py (eL f xs)).depth ≤ B + 1 := z1s fun d hd => by
  obtain ⟨a, _, rfl⟩ := List.mem_map.mp hd; exact h a
theorem zjf {α : Type} {f : α → D} {B : Nat} (h : ∀ a, (py (f a)).depth ≤ B) (xs : List α) : (py (eT f xs)).depth ≤ B + 1 := zv2 fun d hd => by
  obtain ⟨a, _, rfl⟩ := List.mem_map.mp hd; exact h a
theorem z8p {a b : Int × Int × Int} : e3 a = e3 b ↔ a = b := by
  constructor
  · intro h; obtain ⟨a1, a2, a3⟩ := a; obtain ⟨b1, b2, b3⟩ := b
    simp [e3] at h; simp [h]
  · intro h; rw [h]
theorem z9b {α : Type} {f : α → D} (h : ∀ {a b}, f a = f b ↔ a = b) : ∀ {xs ys : List α}, xs.map f = ys.map f ↔ xs = ys
  | [], [] => by simp
  | [], _ :: _ => by simp
  | _ :: _, [] => by simp
  | x :: xs, y :: ys => by simp [h, z9b h (xs := xs) (ys := ys)]
theorem zabi {α : Type} {f : α → D} (h : ∀ {a b}, f a = f b ↔ a = b) {xs ys : List α} : eT f xs = eT f ys ↔ xs = ys := by
  unfold eT
  constructor
  · intro e; exact (z9b h).mp (D.nd.inj e).2
  · intro e; rw [e]
theorem z9d {d e : D} {G : DHp} {Q : DVK} (h1 : zb6 (der d G) = true) (h2 : zb6 (der e G) = true) (d1 : (py (der d G)).depth ≤ 64) (d2 : (py (der e G)).depth ≤ 64) (b : Bool) (hb : b = true ↔ der d G = der e G) (h : Q (.bl b) G) : dEq d e G Q := by
  refine ⟨⟨zif h1, zif h2, zmm h1 d1, zmm h2 d2⟩, ?_⟩
  have : PyData.eqv (py (der d G)) (py (der e G)) = b := by
    rw [Bool.eq_iff_iff, zs2 h1 h2]; exact hb.symm
  rw [this]; exact h
theorem z11 {d e : D} {G : DHp} {Q : DVK} (h1 : zb6 (der d G) = true) (h2 : zb6 (der e G) = true) (d1 : (py (der d G)).depth ≤ 64) (d2 : (py (der e G)).depth ≤ 64) (b : Bool) (hb : b = true ↔ der d G ≠ der e G) (h : Q (.bl b) G) : dNe d e G Q := by
  refine ⟨⟨zif h1, zif h2, zmm h1 d1, zmm h2 d2⟩, ?_⟩
  have : (!PyData.eqv (py (der d G)) (py (der e G))) = b := by
    rw [Bool.eq_iff_iff, Bool.not_eq_true', hb, ← Bool.not_eq_true, zs2 h1 h2]
  rw [this]; exact h
theorem z1w {x : D} (hx : zb6 x = true) : ∀ {ds : List D}, cleans ds = true → (((pys ds).any fun z => PyData.eqv z (py x)) = true ↔ x ∈ ds)
  | [], _ => by simp [pys]
  | d :: ds, h => by
    rw [cleans, Bool.and_eq_true] at h
    rw [pys, List.any_cons, Bool.or_eq_true, zs2 h.1 hx, z1w hx h.2, List.mem_cons]
    constructor
    · rintro (h | h)
      · exact .inl h.symm
      · exact .inr h
    · rintro (h | h)
      · exact .inl h.symm
      · exact .inr h
theorem z4q {neg : Bool} {x y : D} {ds : List D} {G : DHp} {Q : DVK} (hy : der y G = .nd .lst ds ∨ der y G = .nd .tup ds) (hx : zb6 x = true) (hs : cleans ds = true) (dx : (py x).depth ≤ 64) (b : Bool) (hb : b = true ↔ x ∈ ds) (h : Q (.bl (neg != b)) G) : dIn neg x y G Q := by
  have e : ((pys ds).any fun z => PyData.eqv z (py x)) = b := by rw [Bool.eq_iff_iff, z1w hx hs]; exact hb.symm
  unfold dIn
  rcases hy with hy | hy
  · rw [hy]
    exact ⟨⟨zif hx, cleans_plain hs, zmm hx dx, cleans_lay hs⟩, by rw [e]; exact h⟩
  · rw [hy]
    exact ⟨⟨zif hx, cleans_plain hs, zmm hx dx, cleans_lay hs⟩, by rw [e]; exact h⟩
/-- order of ints -/
theorem zadh {g : PyData → PyData → Bool} {i j : Int} {G : DHp} {Q : DVK} (h : Q (.bl (g (.int i) (.int j))) G) : dOrd g (.int i) (.int j) G Q :=
  ⟨⟨rfl, rfl, by rw [py, py]; simp [PySem.W.alike], by rw [py]; exact (nomatch ·), by rw [zfc]; exact Nat.zero_le _⟩, by rw [py, py]; exact h⟩
theorem zaam {i j : Int} : PySem.W.dataLt (.int i) (.int j) = decide (i < j) := PySem.W.dataLt_int i j
theorem zu0 {g : PyData → PyData → Bool} {i j : Int} {G : DHp} {Q : DVK} : dOrd g (.int i) (.int j) G Q = Q (.bl (g (.int i) (.int j))) G := propext ⟨fun h => by
  have h := h.2
  rwa [py, py] at h, zadh⟩
theorem zyn {i j : Int} : (!decide (j < i)) = decide (i ≤ j) := by rw [← decide_not]; exact decide_eq_decide.mpr (by omega)
theorem zsb {i j : Int} {G : DHp} {Q : DVK} : dLt (.int i) (.int j) G Q = Q (.bl (decide (i < j))) G := by
  show dOrd _ _ _ _ _ = _
  rw [zu0, zaam]
theorem zsk {i j : Int} {G : DHp} {Q : DVK} : dLe (.int i) (.int j) G Q = Q (.bl (decide (i ≤ j))) G := by
  show dOrd _ _ _ _ _ = _
  rw [zu0]
  show Q (.bl (!PySem.W.dataLt (.int j) (.int i))) G = _
  rw [zaam, zyn]
theorem zs4 {i j : Int} {G : DHp} {Q : DVK} : dGt (.int i) (.int j) G Q = Q (.bl (decide (j < i))) G := by
  show dOrd _ _ _ _ _ = _
  rw [zu0]
  show Q (.bl (PySem.W.dataLt (.int j) (.int i))) G = _
  rw [zaam]
theorem zro {i j : Int} {G : DHp} {Q : DVK} : dGe (.int i) (.int j) G Q = Q (.bl (decide (j ≤ i))) G := by
  show dOrd _ _ _ _ _ = _
  rw [zu0]
  show Q (.bl (!PySem.W.dataLt (.int i) (.int j))) G = _
  rw [zaam, zyn]
theorem znj {i j : Int} {G : DHp} {Q : DVK} : dEq (.int i) (.int j) G Q = Q (.bl (decide (i = j))) G := propext ⟨fun h => by
  have h := h.2
  rwa [show PyData.eqv (py (der (.int i) G)) (py (der (.int j) G)) = decide (i = j) by
    show PyData.eqv (py (.int i)) (py (.int j)) = _
    rw [py, py, PyData.eqv]; rfl] at h, fun h => z9d rfl rfl (by show (py (.int i)).depth ≤ 64; rw [zfc]; decide) (by show (py (.int j)).depth ≤ 64; rw [zfc]; decide) _ (by
    show _ ↔ D.int i = D.int j
    simp) h⟩
theorem zn0 {i j : Int} {G : DHp} {Q : DVK} : dNe (.int i) (.int j) G Q = Q (.bl (!decide (i = j))) G := propext ⟨fun h => by
  have h := h.2
  rwa [show PyData.eqv (py (der (.int i) G)) (py (der (.int j) G)) = decide (i = j) by
    show PyData.eqv (py (.int i)) (py (.int j)) = _
    rw [py, py, PyData.eqv]; rfl] at h, fun h => z11 rfl rfl (by show (py (.int i)).depth ≤ 64; rw [zfc]; decide) (by show (py (.int j)).depth ≤ 64; rw [zfc]; decide) _ (by
    show _ ↔ D.int i ≠ D.int j
    simp) h⟩
theorem zkn {i j : Int} {G : DHp} {Q : DVK} : dAdd (.int i) (.int j) G Q = Q (.int (i + j)) G := rfl
theorem ziv {i j : Int} {G : DHp} {Q : DVK} : zy8 (.int i) (.int j) G Q = Q (.int (i + j)) G := rfl
theorem zwm {i j : Int} (h : -1000000 ≤ i ∧ i ≤ 1000000) : CMul i j := .inl ⟨by omega, by omega⟩
theorem zbz {α : Type} {f : α → D} {xs : List α} {i : Nat} {d : D} (h : (xs.map f)[i]? = some d) : ∃ x, xs[i]? = some x ∧ d = f x := by
  rw [List.getElem?_map] at h
  cases e : xs[i]? with
  | none => rw [e] at h; cases h
  | some x => rw [e] at h; exact ⟨x, rfl, (Option.some.inj h).symm⟩
end DL
namespace DL
open PySem PySem.Spec PyProof.Rows L2
theorem zas {n : Nat} (h : n ≤ 1000000) : n < sizeLine := by rw [sizeLine_eq]; omega
theorem zka {xs : List D} {p : Addr} {y : D} {G : DHp} {Q : DVK} (e : G p = some (.lst xs)) (hl : xs.length < sizeLine) (q : Q .non (up G p (.lst (xs ++ [y])))) : tyD "list" (.ref p) G ∧ zg8 [.ref p, y] G Q := by
  refine ⟨by simp only [tyD, e], ?_⟩
  show onL (.ref p) G fun a ds => ds.length < sizeLine ∧ Q .non (up G a (.lst (ds ++ [y])))
  exact zaa8 e ⟨hl, q⟩
theorem mem_range {lo hi x : Int} : x ∈ ze9 lo hi ↔ lo ≤ x ∧ x < hi := by
  unfold ze9
  rw [List.mem_map]
  constructor
  · rintro ⟨k, hk, rfl⟩
    rw [List.mem_range] at hk
    omega
  · rintro ⟨h1, h2⟩
    exact ⟨(x - lo).toNat, by rw [List.mem_range]; omega, by omega⟩
theorem zdk (lo hi : Int) : (ze9 lo hi).length = (hi - lo).toNat := by
  unfold ze9; rw [List.length_map, List.length_range]
theorem up3 {G : DHp} {a p : Addr} {x x' y : DO} (h : a ≠ p) : up (up (up G a x) p y) a x' = up (up G a x') p y := by
  rw [zl3 (G := up G a x) (a := p) (b := a) (Ne.symm h), zft]
theorem zo6 {ds : List D} {i : Int} {d : D} {Q : D → Prop} (h0 : 0 ≤ i) (e : ds[i.toNat]? = some d) (q : Q d) : atD ds (.int i) Q := by
  have h : atI ds i = some d := by
    obtain ⟨k, rfl⟩ := Int.eq_ofNat_of_zero_le h0
    exact atI_nat (by simpa using e)
  show (match atI ds i with | some d => Q d | none => False)
  rw [h]; exact q
section
variable {α β κ : Type} [DecidableEq α] [DecidableEq κ]
def aget (kvs : List (α × β)) (a : α) : Option β := (kvs.find? fun p => decide (p.1 = a)).map (·.2)
def aput (kvs : List (α × β)) (a : α) (b : β) : List (α × β) := if kvs.any fun p => decide (p.1 = a) then kvs.map fun p => if p.1 = a then (p.1, b) else p else kvs ++ [(a, b)]
def enc (k : α → κ) (f : β → D) (kvs : List (α × β)) : List (κ × D) := kvs.map fun p => (k p.1, f p.2)
theorem zuy {k : α → κ} {f : β → D} (hk : ∀ {a b}, k a = k b ↔ a = b) (kvs : List (α × β)) (a : α) : dval (enc k f kvs) (k a) = (aget kvs a).map f := by
  unfold dval aget enc
  induction kvs with
  | nil => rfl
  | cons p kvs ih =>
    by_cases e : p.1 = a
    · simp [e]
    · simpa [e, hk] using ih
theorem zadk {k : α → κ} {f : β → D} (hk : ∀ {a b}, k a = k b ↔ a = b) (kvs : List (α × β)) (a : α) : ((enc k f kvs).any fun p => decide (p.1 = k a)) = kvs.any fun p => decide (p.1 = a) := by
  unfold enc
  rw [List.any_map]
  congr 1
  funext p
  exact decide_eq_decide.mpr hk
theorem z4x {k : α → κ} {f : β → D} (hk : ∀ {a b}, k a = k b ↔ a = b) (kvs : List (α × β)) (a : α) (b : β) : dput (enc k f kvs) (k a) (f b) = enc k f (aput kvs a b) := by
  unfold dput aput
  rw [zadk hk]
  split
  · unfold enc
    rw [List.map_map, List.map_map]
    refine List.map_congr_left fun p _ => ?_
    by_cases e : p.1 = a
    · simp [e]
    · simp [e, hk]
  · unfold enc; simp
theorem zcf (kvs : List (α × β)) (a c : α) (b : β) : aget (aput kvs a b) c = if c = a then some b else aget kvs c := by
  have h1 : ∀ kvs : List (α × β), aget (kvs.map fun p => if p.1 = a then (p.1, b) else p) c = if c = a then (aget kvs c).map fun _ => b else aget kvs c := by
    intro kvs
    induction kvs with
    | nil => unfold aget; split <;> rfl
    | cons p kvs ih =>
      unfold aget at ih ⊢
      by_cases e : p.1 = a
      · by_cases e2 : c = a
        · subst e2; simp [e]
        · have : ¬ a = c := fun h => e2 h.symm
          simp [e, this, e2] at ih ⊢
          exact ih
      · by_cases e3 : p.1 = c
        · have : ¬ c = a := fun h => e (e3.trans h)
          simp [e, e3, this]
        · simp [e, e3] at ih ⊢
          exact ih
  have h2 : ∀ kvs : List (α × β), (kvs.any fun p => decide (p.1 = a)) = (aget kvs a).isSome := by
    intro kvs
    induction kvs with
    | nil => rfl
    | cons p kvs ih =>
      unfold aget at ih ⊢
      by_cases e : p.1 = a
      · simp [e]
      · simp only [List.any_cons, e, decide_false, Bool.false_or, List.find?_cons] ; exact ih
  unfold aput
  rw [h2]
  split
  · rename_i h
    rw [h1]
    by_cases e : c = a
    · subst e
      rw [if_pos rfl, if_pos rfl]
      obtain ⟨x, hx⟩ := Option.isSome_iff_exists.mp h
      rw [hx]; rfl
    · rw [if_neg e, if_neg e]
  · rename_i h
    have hn : aget kvs a = none := by simpa using h
    unfold aget at hn ⊢
    rw [List.find?_append]
    by_cases e : c = a
    · subst e
      have : kvs.find? (fun p => decide (p.1 = c)) = none := by simpa using hn
      simp [this]
    · have : ¬ a = c := fun h => e h.symm
      simp [e, this]
theorem zvl (kvs : List (α × β)) (a : α) (b : β) : ((aput kvs a b).map (·.1)) = if (aget kvs a).isSome then kvs.map (·.1) else kvs.map (·.1) ++ [a] := by
  have h2 : (kvs.any fun p => decide (p.1 = a)) = (aget kvs a).isSome := by
    induction kvs with
    | nil => rfl
    | cons p kvs ih =>
      unfold aget at ih ⊢
      by_cases e : p.1 = a
      · simp [e]
      · simp only [List.any_cons, e, decide_false, Bool.false_or, List.find?_cons] ; exact ih
  unfold aput
  rw [h2]
  split
  · rw [List.map_map]
    refine List.map_congr_left fun p _ => ?_
    simp only [Function.comp]
    split <;> rfl
  · simp
theorem zgr (kvs : List (α × β)) (a : α) : (aget kvs a).isSome ↔ a ∈ kvs.map (·.1) := by
  induction kvs with
  | nil => simp [aget]
  | cons p kvs ih =>
    unfold aget at ih ⊢
    by_cases e : p.1 = a
    · simp [e]
    · have : ¬ a = p.1 := fun h => e h.symm
      simp only [List.find?_cons, e, decide_false, List.map_cons, List.mem_cons, this, false_or]
      exact ih
theorem zux (kvs : List (α × β)) (a : α) (b : β) : (aput kvs a b).length ≤ kvs.length + 1 := by
  unfold aput; split <;> simp
theorem zfq (kvs : List (α × β)) (a : α) (b : β) (h : (kvs.map (·.1)).Nodup) : ((aput kvs a b).map (·.1)).Nodup := by
  rw [zvl]
  split
  · exact h
  · rename_i hn
    rw [zgr] at hn
    rw [List.nodup_append]
    exact ⟨h, by simp, fun x hx y hy => by simp at hy; subst hy; exact fun e => hn (e ▸ hx)⟩
/-- kvs counts L -/
structure Cnt (kvs : List (α × Int)) (L : List α) : Prop where
  nd : (kvs.map (·.1)).Nodup
  at_ : ∀ a, aget kvs a = if L.count a = 0 then none else some (L.count a : Int)
  le : kvs.length ≤ L.length
theorem Cnt.nil : Cnt ([] : List (α × Int)) [] := ⟨List.nodup_nil, fun a => by simp [aget], Nat.le_refl _⟩
theorem Cnt.step {kvs : List (α × Int)} {L : List α} (h : Cnt kvs L) (a : α) : Cnt (aput kvs a ((aget kvs a).getD 0 + 1)) (L ++ [a]) := by
  refine ⟨zfq _ _ _ h.nd, fun c => ?_, ?_⟩
  · rw [zcf, h.at_ a, h.at_ c, List.count_append]
    by_cases e : c = a
    · subst e
      rw [if_pos rfl]
      by_cases z : L.count c = 0
      · simp [z]
      · simp [z]
    · have e' : ¬ a = c := fun h => e h.symm
      rw [if_neg e]
      simp [e', List.count_singleton]
  · have := zux kvs a ((aget kvs a).getD 0 + 1)
    have := h.le
    rw [List.length_append, List.length_singleton]; omega
theorem Cnt.mem {kvs : List (α × Int)} {L : List α} (h : Cnt kvs L) (a : α) : a ∈ kvs.map (·.1) ↔ a ∈ L := by
  rw [← zgr, h.at_ a]
  by_cases z : L.count a = 0
  · simp [z, List.count_eq_zero.mp z]
  · simp only [z, if_false, Option.isSome_some, true_iff]
    exact List.count_pos_iff.mp (Nat.pos_of_ne_zero z)
end
def k2 (p : Int × Int) : NestedKey := .tup [.num p.1, .num p.2]
def k3 (p : Int × Int × Int) : NestedKey := .tup [.num p.1, .num p.2.1, .num p.2.2]
theorem zae1 {a b : Int × Int} : k2 a = k2 b ↔ a = b := by
  obtain ⟨a1, a2⟩ := a; obtain ⟨b1, b2⟩ := b
  simp [k2]
theorem zad3 {a b : Int × Int × Int} : k3 a = k3 b ↔ a = b := by
  obtain ⟨a1, a2, a3⟩ := a; obtain ⟨b1, b2, b3⟩ := b
  simp [k3]
theorem zaeo (p : Int × Int) : D.key (e2 p) = some (k2 p) := by simp [e2, k2, D.key, D.keys]
theorem zafe (p : Int × Int × Int) : D.key (e3 p) = some (k3 p) := by simp [e3, k3, D.key, D.keys]
theorem zad9 (p : Int × Int) : (k2 p).depth ≤ 8 := by simp [k2, NestedKey.depth, NestedKey.depthAll]
theorem zadu (p : Int × Int × Int) : (k3 p).depth ≤ 8 := by simp [k3, NestedKey.depth, NestedKey.depthAll]
theorem zad2 (p : Int × Int) : nkD (k2 p) = e2 p := by simp [e2, k2, nkD, nkDs]
theorem zaej (p : Int × Int × Int) : nkD (k3 p) = e3 p := by simp [e3, k3, nkD, nkDs]
def drw (ns : List Int) (c : Int) : DO := .lst [.nd .scr (ns.map .int), .int c]
def zfg : DRn := d2 fun s i G Q => ∃ (ns : List Int) (c : Int), s = .nd .scr (ns.map .int) ∧ i = .int c ∧ ns.length ≤ 63 ∧ ∀ r : Int, 0 ≤ r → Q (.int r) G
def zl : DRn := d2 fun dr m G Q => ∃ (a : Addr) (ns : List Int) (c n : Int), dr = .ref a ∧ m = .int n ∧ 0 < n ∧ ns.length ≤ 63 ∧ G a = some (drw ns c) ∧ ∀ r : Int, 0 ≤ r → r < n → Q (.int r) (up G a (drw ns (c + 1)))
theorem zvu : ∀ ds G Q, zfg ds G Q → ds.length = 2 := fun ds G Q h => by
  match ds, h with
  | [_, _], _ => rfl
theorem z0x : ∀ ds G Q, zl ds G Q → ds.length = 2 := fun ds G Q h => by
  match ds, h with
  | [_, _], _ => rfl
abbrev zkm : List Str := ["script", "index", "cell", "far", "rest", "lap", "blend"]
def z8w : DTS :=
    (dSeq (dFor (ze7 (ze (dOp dMod (dCB dInt (ze (zd 3) dNil)) (dC (.int 60))) dNil)) (zk 5)
    (dAsg (dOp zaci (zd 4) (dC (.int 1009))) (zk 4)))
    (dSeq (dIfS (zau (dOp dGt (zd 4) (dC (.int 0))))
    (dRet (dOp dMod (dCB dInt (ze (zd 4) dNil)) (dC (.int 1009))))
    zdh)
    (dSeq (dAsg (dOp dMod (dOp dAdd (dOp dMul (dCB dInt (ze (dOp dAdd (zd 2) (dOp dMul (dC (.int 977)) (zd 1))) dNil)) (dC (.int 48271))) (dOp dMul (dC (.int 31)) (dCB dLen (ze (zd 0) dNil)))) (dC (.int 2147483647))) (zk 6))
    (dSeq (dAsg (dOp dMod (dOp dAdd (dOp dMul (zd 6) (zd 6)) (dOp dMul (dC (.int 40503)) (zd 1))) (dC (.int 2147483629))) (zk 6))
    (dRet (dCB dInt (ze (dOp dMod (dOp dAdd (dOp dMul (zd 6) (dC (.int 69621))) (dOp zaci (zd 6) (dC (.int 977)))) (dC (.int 2147483587))) dNil)))))))
def znf : DTS :=
    (dSeq (dAsg (dIf (zau (dOp dNe (zd 0) (zjq dNil))) (dTup (ze (dOp dIx (zd 0) (dOp dMod (zd 1) (dCB dLen (ze (zd 0) dNil)))) (ze (dOp zaci (zd 1) (dCB dLen (ze (zd 0) dNil))) dNil))) (dTup (ze (dC (.int 12345)) (ze (dC (.int 0)) dNil)))) (zgd (zam (zk 2) (zam (zk 3) zgc)) 2))
    (dSeq (dAsg (dIf (zau (dOp dLt (zd 3) (dC (.int 60)))) (dOp dSub (zd 2) (dOp dPow (dC (.int 10)) (dC (.int 18)))) (dC (.int 0))) (zk 4))
    z8w))
abbrev znr : List Str := ["draw", "many"]
def zq9 : DTS :=
    (dSeq (zr7 (zd 0) (dC (.int 1)) (dC (.int 1)) z7q zy8 dSet)
    (dRet (dOp dMod (dCB dInt (ze (dCB zfg (ze (dOp dIx (zd 0) (dC (.int 0))) (ze (dCB dInt (ze (dOp dIx (zd 0) (dC (.int 1))) dNil)) dNil))) dNil)) (zd 1))))
theorem z6e (ns : List Int) : plainDs (ns.map .int) = true := by
  induction ns with
  | nil => rfl
  | cons n ns ih => exact ih
theorem z6b {ns : List Int} {G : DHp} {Q : DVK} (h : Q (.bl (!ns.isEmpty)) G) : dNe (.nd .scr (ns.map .int)) (.nd .lst []) G Q := by
  have hc : cleans (ns.map D.int) = true := zc1 (fun _ => rfl) ns
  have e1 : py (.nd .scr (ns.map .int)) = .list (pys (ns.map .int)) := by rw [py]
  have e2 : py (.nd .lst []) = .list [] := by rw [py, pys]
  refine ⟨⟨by show zek (.nd .scr _) = true; rw [zek]; exact z6e ns, rfl, ?_, ?_⟩, ?_⟩
  · show SeqAt.shaped (py (.nd .scr (ns.map .int))) = true
    rw [e1]
    unfold SeqAt.shaped
    have := zni (B := 0) (ds := ns.map D.int) fun d hd => by
      obtain ⟨i, _, rfl⟩ := List.mem_map.mp hd; exact Nat.le_of_eq (zfc i)
    rw [PyData.canLay0, cleans_lay hc, PyData.depth, decide_eq_true (by omega)]; rfl
  · show SeqAt.shaped (py (.nd .lst [])) = true
    rw [e2]; decide
  · show Q (.bl (!PyData.eqv (py (.nd .scr (ns.map .int))) (py (.nd .lst [])))) G
    rw [e1, e2, PyData.eqv]
    cases ns with
    | nil => simpa [pys, PyData.eqvAll] using h
    | cons n ns => simpa [pys, PyData.eqvAll] using h
theorem zqx {d : D} {ds : List D} {G : DHp} {Q : DVK} (h : sqD d G = some ds) : dLen [d] G Q = Q (.int ds.length) G := by
  unfold dLen d1
  simp only [h]
theorem zrb {ns : List Int} {G : DHp} {Q : DVK} : dLen [.nd .scr (ns.map .int)] G Q = Q (.int ns.length) G := by
  rw [zqx (ds := ns.map .int) rfl, List.length_map]
theorem zsw {i : Int} {G : DHp} {Q : DVK} : dInt [.int i] G Q = Q (.int i) G := rfl
theorem zu5 {ns : List Int} {c cell far rest : Int} {G : DHp} {Q : DVK} (q : ∀ r : Int, 0 ≤ r → Q (.int r) G) :
    z8w { nx := fun _ G' => Q .non G', rt := Q } [some (.nd .scr (ns.map .int)), some (.int c), some (.int cell), some (.int far), some (.int rest), none, none] G := by
  unfold z8w
  refine ⟨(by show (0 : Int) < 60; decide), ⟨by omega, by omega⟩, fun i η G' => G' = G ∧ ∃ z : Int, η = [some (.nd .scr (ns.map .int)), some (.int c), some (.int cell), some (.int far), some (.int z), none, none], ⟨rfl, rest, rfl⟩, fun _ _ _ _ => trivial, ?_, ?_⟩
  · rintro i d η G' hd ⟨rfl, z, rfl⟩
    obtain ⟨x, hx, rfl⟩ := zbz hd
    simp only [dSeq, dIfS, zau, dOp, zd, dC, dRet, zjq, ze, dNil, dTup, zdh, dAsg, zjn, zk, zhu, dM, dM0, dIf, dAnd, dOr, dNot, zmu, dOrV, zrp, zhq, dFz, zpu, zuv, zn9, zqk, dCB, zgd, zam, zgc, zok, dNeg, dAug, zr7, dFrz, dPar, zc7, zjh, zeh, dYes, zjv, i2, d1, d2, d3, za4, List.map_cons, List.map_nil, List.length_cons, List.length_nil, List.cons_append, List.nil_append, List.append_nil, List.getElem?_cons_zero, List.getElem?_cons_succ, List.getElem?_nil, List.replicate, List.set_cons_succ, List.set_cons_zero, Nat.reduceAdd, Nat.reduceSub, Nat.reduceLeDiff, znj, zn0, zsb, zsk, zs4, zro, zkn, ziv, true_and, and_true, Bool.not_eq_true, Bool.not_true, Bool.not_false, if_true, if_false, Bool.false_eq_true, ite_true, ite_false, reduceIte, reduceCtorEq, decide_eq_true_eq, decide_eq_false_iff_not]
    exact ⟨⟨by decide, by decide⟩, _, (by repeat (first | exact Le.nil | apply Le.keep | apply Le.drop)), rfl, _, rfl⟩
  · rintro η G' ⟨rfl, z, rfl⟩
    simp only [zrb, zsw, dSeq, dIfS, zau, dOp, zd, dC, dRet, zjq, ze, dNil, dTup, zdh, dAsg, zjn, zk, zhu, dM, dM0, dIf, dAnd, dOr, dNot, zmu, dOrV, zrp, zhq, dFz, zpu, zuv, zn9, zqk, dCB, zgd, zam, zgc, zok, dNeg, dAug, zr7, dFrz, dPar, zc7, zjh, zeh, dYes, zjv, i2, d1, d2, d3, za4, List.map_cons, List.map_nil, List.length_cons, List.length_nil, List.cons_append, List.nil_append, List.append_nil, List.getElem?_cons_zero, List.getElem?_cons_succ, List.getElem?_nil, List.replicate, List.set_cons_succ, List.set_cons_zero, Nat.reduceAdd, Nat.reduceSub, Nat.reduceLeDiff, znj, zn0, zsb, zsk, zs4, zro, zkn, ziv, true_and, and_true, Bool.not_eq_true, Bool.not_true, Bool.not_false, if_true, if_false, Bool.false_eq_true, ite_true, ite_false, reduceIte, reduceCtorEq, decide_eq_true_eq, decide_eq_false_iff_not]
    split
    · exact ⟨by decide, q _ (Int.emod_nonneg _ (by decide))⟩
    · refine ⟨.inl ⟨by decide, by decide⟩, .inr ⟨by decide, by decide⟩, .inl ⟨by decide, by decide⟩, by decide, ?_⟩
      have hb := Int.emod_nonneg ((cell + 977 * c) * 48271 + 31 * (ns.length : Int)) (show (2147483647 : Int) ≠ 0 by decide)
      have hb2 := Int.emod_lt_of_pos ((cell + 977 * c) * 48271 + 31 * (ns.length : Int)) (show (0 : Int) < 2147483647 by decide)
      generalize ((cell + 977 * c) * 48271 + 31 * (ns.length : Int)) % 2147483647 = b at hb hb2 ⊢
      refine ⟨.inl ⟨by omega, by omega⟩, .inl ⟨by decide, by decide⟩, by decide, ?_⟩
      refine ⟨.inr ⟨by decide, by decide⟩, ⟨by decide, by decide⟩, by decide, q _ (Int.emod_nonneg _ (by decide))⟩
theorem z55 {ns : List Int} {i : Int} {G : DHp} {Q : DVK} (h0 : 0 ≤ i) (h1 : i < ns.length) (h : ∀ z : Int, Q (.int z) G) : dIx (.nd .scr (ns.map .int)) (.int i) G Q := by
  show atD (ns.map .int) (.int i) fun d => Q d G
  have hi : i.toNat < (ns.map D.int).length := by rw [List.length_map]; omega
  refine zo6 h0 (d := (ns.map D.int)[i.toNat]) (List.getElem?_eq_getElem hi) ?_
  rw [List.getElem_map]
  exact h _
theorem zvo : ∀ ds G Q, zfg ds G Q → znf { nx := fun _ G' => Q .non G', rt := Q } (za4 zkm ds) G := fun ds G Q h => by
  match ds, h with
  | [_, _], ⟨ns, c, rfl, rfl, hl, q⟩ =>
    simp only [znf, zkm, zrb, zsw, dSeq, dIfS, zau, dOp, zd, dC, dRet, zjq, ze, dNil, dTup, zdh, dAsg, zjn, zk, zhu, dM, dM0, dIf, dAnd, dOr, dNot, zmu, dOrV, zrp, zhq, dFz, zpu, zuv, zn9, zqk, dCB, zgd, zam, zgc, zok, dNeg, dAug, zr7, dFrz, dPar, zc7, zjh, zeh, dYes, zjv, i2, d1, d2, d3, za4, List.map_cons, List.map_nil, List.length_cons, List.length_nil, List.cons_append, List.nil_append, List.append_nil, List.getElem?_cons_zero, List.getElem?_cons_succ, List.getElem?_nil, List.replicate, List.set_cons_succ, List.set_cons_zero, Nat.reduceAdd, Nat.reduceSub, Nat.reduceLeDiff, znj, zn0, zsb, zsk, zs4, zro, zkn, ziv, true_and, and_true, Bool.not_eq_true, Bool.not_true, Bool.not_false, if_true, if_false, Bool.false_eq_true, ite_true, ite_false, reduceIte, reduceCtorEq, decide_eq_true_eq, decide_eq_false_iff_not]
    refine z6b ?_
    simp only [zrb, zsw, dSeq, dIfS, zau, dOp, zd, dC, dRet, zjq, ze, dNil, dTup, zdh, dAsg, zjn, zk, zhu, dM, dM0, dIf, dAnd, dOr, dNot, zmu, dOrV, zrp, zhq, dFz, zpu, zuv, zn9, zqk, dCB, zgd, zam, zgc, zok, dNeg, dAug, zr7, dFrz, dPar, zc7, zjh, zeh, dYes, zjv, i2, d1, d2, d3, za4, List.map_cons, List.map_nil, List.length_cons, List.length_nil, List.cons_append, List.nil_append, List.append_nil, List.getElem?_cons_zero, List.getElem?_cons_succ, List.getElem?_nil, List.replicate, List.set_cons_succ, List.set_cons_zero, Nat.reduceAdd, Nat.reduceSub, Nat.reduceLeDiff, znj, zn0, zsb, zsk, zs4, zro, zkn, ziv, true_and, and_true, Bool.not_eq_true, Bool.not_true, Bool.not_false, if_true, if_false, Bool.false_eq_true, ite_true, ite_false, reduceIte, reduceCtorEq, decide_eq_true_eq, decide_eq_false_iff_not]
    split
    · rename_i hne
      have hp : 0 < ns.length := by
        cases ns with
        | nil => simp at hne
        | cons _ _ => simp
      refine ⟨by omega, z55 (Int.emod_nonneg _ (by omega)) (Int.emod_lt_of_pos _ (by omega)) fun z => ⟨⟨by omega, by omega⟩, ?_⟩⟩
      split
      · exact ⟨⟨by decide, by decide, by decide⟩, trivial, zu5 q⟩
      · exact zu5 q
    · split
      · exact ⟨⟨by decide, by decide, by decide⟩, zu5 q⟩
      · exact zu5 q
theorem z0i : ∀ ds G Q, zl ds G Q → zq9 { nx := fun _ G' => Q .non G', rt := Q } (za4 znr ds) G := fun ds G Q h => by
  match ds, h with
  | [_, _], ⟨a, ns, c, n, rfl, rfl, hn, hl, hG, q⟩ =>
    simp only [zq9, znr, dSeq, dIfS, zau, dOp, zd, dC, dRet, zjq, ze, dNil, dTup, zdh, dAsg, zjn, zk, zhu, dM, dM0, dIf, dAnd, dOr, dNot, zmu, dOrV, zrp, zhq, dFz, zpu, zuv, zn9, zqk, dCB, zgd, zam, zgc, zok, dNeg, dAug, zr7, dFrz, dPar, zc7, zjh, zeh, dYes, zjv, i2, d1, d2, d3, za4, List.map_cons, List.map_nil, List.length_cons, List.length_nil, List.cons_append, List.nil_append, List.append_nil, List.getElem?_cons_zero, List.getElem?_cons_succ, List.getElem?_nil, List.replicate, List.set_cons_succ, List.set_cons_zero, Nat.reduceAdd, Nat.reduceSub, Nat.reduceLeDiff, znj, zn0, zsb, zsk, zs4, zro, zkn, ziv, true_and, and_true, Bool.not_eq_true, Bool.not_true, Bool.not_false, if_true, if_false, Bool.false_eq_true, ite_true, ite_false, reduceIte, reduceCtorEq, decide_eq_true_eq, decide_eq_false_iff_not]
    have e1 : der (.ref a) G = .nd .lst [.nd .scr (ns.map .int), .int c] := zsd hG
    show z7q (.ref a) (.int 1) G _
    unfold z7q
    rw [e1]
    refine zo6 (by decide) rfl ?_
    simp only [dSeq, dIfS, zau, dOp, zd, dC, dRet, zjq, ze, dNil, dTup, zdh, dAsg, zjn, zk, zhu, dM, dM0, dIf, dAnd, dOr, dNot, zmu, dOrV, zrp, zhq, dFz, zpu, zuv, zn9, zqk, dCB, zgd, zam, zgc, zok, dNeg, dAug, zr7, dFrz, dPar, zc7, zjh, zeh, dYes, zjv, i2, d1, d2, d3, za4, List.map_cons, List.map_nil, List.length_cons, List.length_nil, List.cons_append, List.nil_append, List.append_nil, List.getElem?_cons_zero, List.getElem?_cons_succ, List.getElem?_nil, List.replicate, List.set_cons_succ, List.set_cons_zero, Nat.reduceAdd, Nat.reduceSub, Nat.reduceLeDiff, znj, zn0, zsb, zsk, zs4, zro, zkn, ziv, true_and, and_true, Bool.not_eq_true, Bool.not_true, Bool.not_false, if_true, if_false, Bool.false_eq_true, ite_true, ite_false, reduceIte, reduceCtorEq, decide_eq_true_eq, decide_eq_false_iff_not]
    have e2 : up G a (.lst ([D.nd .scr (ns.map .int), .int c].set 1 (.int (c + 1)))) = up G a (drw ns (c + 1)) := rfl
    have hs : ∀ R, R (up G a (drw ns (c + 1))) → dSet (.ref a) (.int 1) (.int (c + 1)) G R := fun R h => by
      show (match G a with | some (.lst ds) => _ | some (.dN kvs) => _ | some (.dK kvs) => _ | _ => False)
      rw [hG]
      exact h
    refine hs _ ?_
    have e3 : der (.ref a) (up G a (drw ns (c + 1))) = .nd .lst [.nd .scr (ns.map .int), .int (c + 1)] := zsd zi
    have hix : ∀ (i : Int) (d : D) R, 0 ≤ i → [D.nd .scr (ns.map .int), .int (c + 1)][i.toNat]? = some d → R d (up G a (drw ns (c + 1))) → dIx (.ref a) (.int i) (up G a (drw ns (c + 1))) R := fun i d R h0 h1 h => by
      unfold dIx
      rw [e3]
      exact zo6 h0 h1 h
    refine hix 0 _ _ (by decide) rfl ?_
    refine hix 1 _ _ (by decide) rfl ?_
    simp only [zsw, dSeq, dIfS, zau, dOp, zd, dC, dRet, zjq, ze, dNil, dTup, zdh, dAsg, zjn, zk, zhu, dM, dM0, dIf, dAnd, dOr, dNot, zmu, dOrV, zrp, zhq, dFz, zpu, zuv, zn9, zqk, dCB, zgd, zam, zgc, zok, dNeg, dAug, zr7, dFrz, dPar, zc7, zjh, zeh, dYes, zjv, i2, d1, d2, d3, za4, List.map_cons, List.map_nil, List.length_cons, List.length_nil, List.cons_append, List.nil_append, List.append_nil, List.getElem?_cons_zero, List.getElem?_cons_succ, List.getElem?_nil, List.replicate, List.set_cons_succ, List.set_cons_zero, Nat.reduceAdd, Nat.reduceSub, Nat.reduceLeDiff, znj, zn0, zsb, zsk, zs4, zro, zkn, ziv, true_and, and_true, Bool.not_eq_true, Bool.not_true, Bool.not_false, if_true, if_false, Bool.false_eq_true, ite_true, ite_false, reduceIte, reduceCtorEq, decide_eq_true_eq, decide_eq_false_iff_not]
    refine ⟨ns, c + 1, rfl, rfl, hl, fun r hr => ?_⟩
    simp only [zsw, dSeq, dIfS, zau, dOp, zd, dC, dRet, zjq, ze, dNil, dTup, zdh, dAsg, zjn, zk, zhu, dM, dM0, dIf, dAnd, dOr, dNot, zmu, dOrV, zrp, zhq, dFz, zpu, zuv, zn9, zqk, dCB, zgd, zam, zgc, zok, dNeg, dAug, zr7, dFrz, dPar, zc7, zjh, zeh, dYes, zjv, i2, d1, d2, d3, za4, List.map_cons, List.map_nil, List.length_cons, List.length_nil, List.cons_append, List.nil_append, List.append_nil, List.getElem?_cons_zero, List.getElem?_cons_succ, List.getElem?_nil, List.replicate, List.set_cons_succ, List.set_cons_zero, Nat.reduceAdd, Nat.reduceSub, Nat.reduceLeDiff, znj, zn0, zsb, zsk, zs4, zro, zkn, ziv, true_and, and_true, Bool.not_eq_true, Bool.not_true, Bool.not_false, if_true, if_false, Bool.false_eq_true, ite_true, ite_false, reduceIte, reduceCtorEq, decide_eq_true_eq, decide_eq_false_iff_not]
    exact ⟨hn, q _ (Int.emod_nonneg _ (by omega)) (Int.emod_lt_of_pos _ hn)⟩
/-- a draw -/
theorem zaa4 {a : Addr} {ns : List Int} {c n : Int} {G : DHp} {Q : DVK} (hn : 0 < n) (hl : ns.length ≤ 63) (hG : G a = some (drw ns c)) (q : ∀ r : Int, 0 ≤ r → r < n → Q (.int r) (up G a (drw ns (c + 1)))) : zl [.ref a, .int n] G Q :=
  ⟨a, ns, c, n, rfl, rfl, hn, hl, hG, q⟩
end DL
namespace DL
open PySem PySem.Spec PyProof.Rows L2
section
variable {α β : Type} [DecidableEq α]
def eD (k : α → NestedKey) (f : β → D) (kvs : List (α × β)) : D := .nd (.dN ((enc k f kvs).map (·.1))) ((enc k f kvs).map (·.2))
theorem zadc (k : α → NestedKey) (f : β → D) (kvs : List (α × β)) : DO.tree (.dN (enc k f kvs)) = eD k f kvs := rfl
theorem z0h (k : α → NestedKey) (f : β → D) (kvs : List (α × β)) (G : DHp) : dicN (eD k f kvs) G = some (enc k f kvs) := by
  show some (((enc k f kvs).map (·.1)).zip ((enc k f kvs).map (·.2))) = _
  rw [zsh]
/-- a key that is a tuple -/
structure TKey (k : α → NestedKey) (e : α → D) : Prop where
  inj : ∀ {a b}, k a = k b ↔ a = b
  shp : ∀ a, ∃ ks, e a = .nd .tup ks
  key : ∀ a, D.key (e a) = some (k a)
  dep : ∀ a, (k a).depth ≤ 8
  nk : ∀ a, nkD (k a) = e a
theorem tk2 : TKey k2 e2 := ⟨zae1, fun _ => ⟨_, rfl⟩, zaeo, zad9, zad2⟩
theorem tk3 : TKey k3 e3 := ⟨zad3, fun _ => ⟨_, rfl⟩, zafe, zadu, zaej⟩
variable {k : α → NestedKey} {e : α → D} {f : β → D} {kvs : List (α × β)} {G : DHp} {Q : DVK} {a : α}
theorem z3x (T : TKey k e) {p : Addr} {b : β} {R : DHp → Prop} (h : G p = some (.dN (enc k f kvs))) (hl : kvs.length < sizeLine) (q : R (up G p (.dN (enc k f (aput kvs a b))))) : dSet (.ref p) (e a) (f b) G R := by
  obtain ⟨ks, ek⟩ := T.shp a
  show (match G p with | some (.lst ds) => _ | some (.dN kvs) => _ | some (.dK kvs) => _ | _ => False)
  rw [h]
  show (match e a with | .nd .tup ks => _ | _ => False)
  have hk := T.key a
  rw [ek] at hk ⊢
  show (match D.key (.nd .tup ks) with | some k => _ | none => False)
  rw [hk]
  refine ⟨⟨T.dep a, by unfold enc; rw [List.length_map]; exact hl⟩, ?_⟩
  rw [z4x T.inj]
  exact q
theorem z7u (T : TKey k e) {neg : Bool} {y : D} (h : dicN y G = some (enc k f kvs)) (q : Q (.bl (neg != (aget kvs a).isSome)) G) : dIn neg (e a) y G Q := by
  obtain ⟨ks, ek⟩ := T.shp a
  have hk := T.key a
  have hd : ∀ ds, der y G ≠ .nd .lst ds ∧ der y G ≠ .nd .tup ds := fun ds => by
    cases y with
    | ref p =>
      have h' : (match G p with | some (.dN kvs) => some kvs | _ => none) = some (enc k f kvs) := h
      cases g : G p with
      | none => rw [g] at h'; cases h'
      | some o =>
        rw [g] at h'
        cases o with
        | dN kk => rw [ztb, g]; exact ⟨(nomatch ·), (nomatch ·)⟩
        | _ => cases h'
    | nd kd es =>
      cases kd with
      | dN _ => exact ⟨(nomatch ·), (nomatch ·)⟩
      | _ => cases h
    | _ => cases h
  unfold dIn
  split
  · rename_i ds he; exact ((hd ds).1 he).elim
  · rename_i ds he; exact ((hd ds).2 he).elim
  · rw [h]
    show (match e a with | .nd .tup ks => _ | _ => False)
    rw [ek] at hk ⊢
    show (match D.key (.nd .tup ks) with | some k => _ | none => False)
    rw [hk]
    refine ⟨T.dep a, ?_⟩
    rw [zuy T.inj, Option.isSome_map]
    exact q
end
def srtT {α : Type} (f : α → D) (xs : List α) : List α := xs.mergeSort fun a b => PySem.W.dataLe false py (f a) (f b)
theorem zti {α : Type} (f : α → D) (xs : List α) : srt (xs.map f) = (srtT f xs).map f := by
  unfold srt srtT
  exact (List.map_mergeSort (r := fun a b => PySem.W.dataLe false py (f a) (f b)) (s := PySem.W.dataLe false py) (f := f) (l := xs) fun a _ b _ => rfl).symm
theorem zdj {α : Type} (f : α → D) (xs : List α) : (srtT f xs).Perm xs := List.mergeSort_perm _ _
theorem zpi {α : Type} {f : α → D} {d : D} {xs : List α} {G : DHp} {Q : DVK} (h : lsD d G = some (xs.map f)) (hp : ∀ a, zb6 (f a) = true) (al : ∀ a b, PySem.W.alike (py (f a)) (py (f b)) = true) (st : PySem.W.Sortable ((xs.map f).map py)) (dp : ∀ a, (py (f a)).depth ≤ 60)
    (q : ∀ p, G p = none → Q (.ref p) (up G p (.lst ((srtT f xs).map f)))) : zty [d] G Q := by
  show (match lsD d G with | some ds => _ | none => False)
  rw [h]
  refine ⟨⟨cleans_plain (zc1 hp xs), ?_, st, fun d hd => ?_⟩, fun p hn => by rw [zti]; exact q p hn⟩
  · rw [List.map_map]; exact PySem.W.AllAlike.of al
  · obtain ⟨a, _, rfl⟩ := List.mem_map.mp hd; exact dp a
theorem zww {α β : Type} [DecidableEq α] {k : α → NestedKey} {e : α → D} {f : β → D} (T : TKey k e) {d : D} {kvs : List (α × β)} {G : DHp} {Q : DVK} (h : dicN d G = some (enc k f kvs)) (al : ∀ a b, PySem.W.alike (py (e a)) (py (e b)) = true) (st : PySem.W.Sortable (((kvs.map (·.1)).map e).map py)) (dp : ∀ a, (py (e a)).depth ≤ 60)
    (q : ∀ p, G p = none → Q (.ref p) (up G p (.lst ((srtT e (kvs.map (·.1))).map e)))) : zvb [d] G Q := by
  have hk : zwi d G = some ((kvs.map (·.1)).map e) := by
    unfold zwi
    rw [h]
    unfold enc
    show some (List.map (fun p => nkD p.1) (List.map (fun p => (k p.1, f p.2)) kvs)) = _
    rw [List.map_map, List.map_map]
    congr 1
    exact List.map_congr_left fun p _ => T.nk p.1
  show (match zwi d G with | some ks => _ | none => False)
  rw [hk]
  refine ⟨⟨?_, st, fun d hd => ?_⟩, fun p hn => by rw [zti]; exact q p hn⟩
  · rw [List.map_map]; exact PySem.W.AllAlike.of al
  · obtain ⟨a, _, rfl⟩ := List.mem_map.mp hd; exact dp a
theorem al2 (a b : Int × Int) : PySem.W.alike (py (e2 a)) (py (e2 b)) = true := by simp [e2, py, pys, PySem.W.alike, PySem.W.alikeAll]
theorem al3 (a b : Int × Int × Int) : PySem.W.alike (py (e3 a)) (py (e3 b)) = true := by simp [e3, py, pys, PySem.W.alike, PySem.W.alikeAll]
theorem st2 (xs : List (Int × Int)) : PySem.W.Sortable ((xs.map e2).map py) := by
  rw [List.map_map]
  exact PySem.W.Sortable.tuples fun b => ⟨.int b.1, [.int b.2], by simp [e2, py, pys]⟩
theorem st3 (xs : List (Int × Int × Int)) : PySem.W.Sortable ((xs.map e3).map py) := by
  rw [List.map_map]
  exact PySem.W.Sortable.tuples fun b => ⟨.int b.1, [.int b.2.1, .int b.2.2], by simp [e3, py, pys]⟩
/-- the order of tuples of ints -/
theorem zade (xs ys : List Int) : (!PySem.W.dataLt (.tuple (ys.map .int)) (.tuple (xs.map .int))) = decide (xs ≤ ys) := by
  rw [PySem.W.dataLt_tuple]
  have := PySem.W.dataLt_ints ys xs
  have h2 : PyProof.Rows.lexLt itemOrd (PySem.W.keyToksAll (ys.map .int)) (PySem.W.keyToksAll (xs.map .int)) = decide (ys < xs) := this
  rw [h2, ← decide_not]
  exact decide_eq_decide.mpr Iff.rfl
theorem zad6 (a b : Int × Int × Int) : PySem.W.dataLe false py (e3 a) (e3 b) = decide ([a.1, a.2.1, a.2.2] ≤ [b.1, b.2.1, b.2.2]) := by
  rw [← zade, PySem.W.dataLe_eq]
  simp [e3, py, pys]
/-- two sortings of the same are the same -/
theorem znd {α : Type} {le : α → α → Bool} (anti : ∀ a b, le a b = true → le b a = true → a = b) : ∀ {xs ys : List α}, xs.Perm ys → xs.Pairwise (fun a b => le a b = true) → ys.Pairwise (fun a b => le a b = true) → xs = ys
  | [], ys, p, _, _ => (List.Perm.nil_eq p)
  | x :: xs, [], p, _, _ => absurd p.length_eq (by simp)
  | x :: xs, y :: ys, p, hx, hy => by
    rw [List.pairwise_cons] at hx hy
    have e : x = y := by
      have m1 : x ∈ y :: ys := p.subset (by simp)
      have m2 : y ∈ x :: xs := p.symm.subset (by simp)
      rcases List.mem_cons.mp m1 with e | m1
      · exact e
      · rcases List.mem_cons.mp m2 with e | m2
        · exact e.symm
        · exact anti _ _ (hx.1 y m2) (hy.1 x m1)
    subst e
    rw [znd anti ((List.perm_cons x).mp p) hx.2 hy.2]
theorem z7g {α : Type} {f : α → D} {g : α → List Int} (hf : ∀ a b, PySem.W.dataLe false py (f a) (f b) = decide (g a ≤ g b)) (gi : ∀ a b, g a = g b → a = b) {xs ys : List α} (p : xs.Perm ys) : srtT f xs = srtT f ys := by
  have tr : ∀ a b c : α, PySem.W.dataLe false py (f a) (f b) = true → PySem.W.dataLe false py (f b) (f c) = true → PySem.W.dataLe false py (f a) (f c) = true := fun a b c h1 h2 => by
    rw [hf, decide_eq_true_eq] at *
    exact List.le_trans h1 h2
  have tot : ∀ a b : α, (PySem.W.dataLe false py (f a) (f b) || PySem.W.dataLe false py (f b) (f a)) = true := fun a b => by
    rw [hf, hf, Bool.or_eq_true, decide_eq_true_eq, decide_eq_true_eq]
    exact List.le_total _ _
  refine znd (le := fun a b => PySem.W.dataLe false py (f a) (f b)) (fun a b h1 h2 => ?_) ((zdj f xs).trans (p.trans (zdj f ys).symm)) ?_ ?_
  · rw [hf, decide_eq_true_eq] at h1 h2
    exact gi _ _ (List.le_antisymm h1 h2)
  · exact List.pairwise_mergeSort tr tot xs
  · exact List.pairwise_mergeSort tr tot ys
theorem zmy {α : Type} [DecidableEq α] {xs ys : List α} (h1 : xs.Nodup) (h2 : ys.Nodup) (h : ∀ a, a ∈ xs ↔ a ∈ ys) : xs.Perm ys := by
  rw [List.perm_iff_count]
  intro a
  rw [h1.count, h2.count]
  simp only [h]
theorem zna {α β : Type} {f : α → List β} {B : Nat} : ∀ {xs : List α}, (∀ x ∈ xs, (f x).length ≤ B) → (xs.flatMap f).length ≤ xs.length * B
  | [], _ => by simp
  | x :: xs, h => by
    rw [List.flatMap_cons, List.length_append, List.length_cons, Nat.succ_mul]
    have := h x (by simp)
    have := zna (f := f) (B := B) (xs := xs) fun y hy => h y (by simp [hy])
    omega
end DL
namespace DL
open PySem PySem.Spec PyProof.Rows L2
/-- the field n set to d -/
def fput (n : Str) (d : D) : List (Str × D) → List (Str × D)
  | [] => [(n, d)]
  | (g, x) :: r => if g = n then (g, d) :: r else (g, x) :: fput n d r
/-- the field of an instance of the class C -/
def fldD (C : Addr) (n : Str) (x : D) (G : DHp) : Option D := match x with
  | .ref a => (match G a with
    | some (.ins B fs) => if B = C then fs.lookup n else none
    | _ => none)
  | .nd (.ins B ns) ds => if B = C then (ns.zip ds).lookup n else none
  | _ => none
/-- an instance of the class C, without a field m of its own -/
def insD (C : Addr) (m : Str) (x : D) (G : DHp) : Prop := match x with
  | .ref a => (match G a with
    | some (.ins B fs) => B = C ∧ (fs.map (·.1)).contains m = false
    | _ => False)
  | .nd (.ins B ns) _ => B = C ∧ ns.contains m = false
  | _ => False
section
variable {K : Ml} {H : Hp} {G : DHp}
theorem z80 (n : Str) {d : D} {v : V} (q : VR K H G d v) : ∀ {fs : List (Str × D)} {ws : List (Str × V)}, ws.map (·.1) = fs.map (·.1) → VRs K H G (fs.map (·.2)) (ws.map (·.2)) →
    (putF n v ws).map (·.1) = (fput n d fs).map (·.1) ∧ VRs K H G ((fput n d fs).map (·.2)) ((putF n v ws).map (·.2))
  | [], [], _, _ => ⟨rfl, .cons q .nil⟩
  | [], _ :: _, h, _ => by simp at h
  | _ :: _, [], h, _ => by simp at h
  | (g, x) :: fs, (g2, y) :: ws, h, r => by
    simp only [List.map_cons, List.cons.injEq] at h
    obtain ⟨h1, h2⟩ := h
    subst h1
    obtain ⟨v', r', eq, q1, t⟩ := VRs.uncons r
    simp only [List.map_cons, List.cons.injEq] at eq
    obtain ⟨rfl, rfl⟩ := eq
    by_cases hg : g2 = n
    · simp only [fput, putF, hg, if_true, List.map_cons]
      exact ⟨by rw [h2], .cons q t⟩
    · simp only [fput, putF, hg, if_false, List.map_cons]
      obtain ⟨a, b⟩ := z80 n q h2 t
      exact ⟨by rw [a], .cons q1 b⟩
theorem zzz {n : Str} {d : D} : ∀ {fs : List (Str × D)} {ws : List (Str × V)}, ws.map (·.1) = fs.map (·.1) → VRs K H G (fs.map (·.2)) (ws.map (·.2)) → fs.lookup n = some d → ∃ v, ws.lookup n = some v ∧ VR K H G d v
  | [], _, _, _, e => by simp at e
  | _ :: _, [], h, _, _ => by simp at h
  | (g, x) :: fs, (g2, y) :: ws, h, r, e => by
    simp only [List.map_cons, List.cons.injEq] at h
    obtain ⟨h1, h2⟩ := h
    subst h1
    obtain ⟨v', r', eq, q1, t⟩ := VRs.uncons r
    simp only [List.map_cons, List.cons.injEq] at eq
    obtain ⟨rfl, rfl⟩ := eq
    by_cases hg : (n == g2) = true
    · simp only [List.lookup, hg, Option.some.injEq] at e ⊢
      subst e
      exact ⟨_, rfl, q1⟩
    · have hg : (n == g2) = false := by simpa using hg
      simp only [List.lookup, hg] at e ⊢
      exact zzz h2 t e
theorem zwo {n : Str} : ∀ {ws : List (Str × V)}, (ws.map (·.1)).contains n = false → ws.lookup n = none
  | [], _ => rfl
  | (g, y) :: ws, h => by
    simp only [List.map_cons, List.contains_cons, Bool.or_eq_false_iff] at h
    simp only [List.lookup, h.1]
    exact zwo h.2
theorem z26 : ∀ {ns : List Str} {vs : List V}, ns.length = vs.length → (ns.zip vs).map (·.1) = ns
  | [], [], _ => rfl
  | n :: ns, v :: vs, h => by
    simp only [List.zip_cons_cons, List.map_cons]
    rw [z26 (by simpa using h)]
theorem z9i : ∀ {ns : List Str} {vs : List V}, ns.length = vs.length → (ns.zip vs).map (·.2) = vs
  | [], [], _ => rfl
  | n :: ns, v :: vs, h => by
    simp only [List.zip_cons_cons, List.map_cons]
    rw [z9i (by simpa using h)]
theorem z5g : ∀ {ns : List Str} {vs : List D}, ns.length = vs.length → (ns.zip vs).map (·.1) = ns
  | [], [], _ => rfl
  | n :: ns, v :: vs, h => by
    simp only [List.zip_cons_cons, List.map_cons]
    rw [z5g (by simpa using h)]
theorem z4w : ∀ {ns : List Str} {vs : List D}, ns.length = vs.length → (ns.zip vs).map (·.2) = vs
  | [], [], _ => rfl
  | n :: ns, v :: vs, h => by
    simp only [List.zip_cons_cons, List.map_cons]
    rw [z4w (by simpa using h)]
/-- what stands where a field is read -/
theorem zac8 {C : Addr} {n : Str} {x d : D} {v : V} (hr : HR K H G) (q : VR K H G x v) (e : fldD C n x G = some d) :
    ∃ a dx ws u, v = .ref a ∧ H a = some (.ins C dx ws) ∧ ws.lookup n = some u ∧ VR K H G d u := by
  cases x with
  | ref a =>
    rw [VR] at q
    have e : (match G a with
      | some (.ins B fs) => if B = C then fs.lookup n else none
      | _ => none) = some d := e
    cases hG : G a with
    | none => rw [hG] at e; cases e
    | some o =>
      rw [hG] at e
      cases o with
      | ins B fs =>
        simp only at e
        by_cases hB : B = C
        · subst hB
          rw [if_pos rfl] at e
          obtain ⟨dx, ws, h1, h2, h3⟩ := hr a _ hG
          obtain ⟨u, h4, h5⟩ := zzz h2 h3 e
          exact ⟨a, dx, ws, u, q, h1, h4, h5⟩
        · rw [if_neg hB] at e; cases e
      | _ => cases e
  | nd k ds =>
    cases k with
    | ins B ns =>
      rw [VR] at q
      obtain ⟨a, vs, rfl, ⟨h0, h1, dx, h2⟩, r⟩ := q
      have e : (if B = C then (ns.zip ds).lookup n else none) = some d := e
      by_cases hB : B = C
      · subst hB
        rw [if_pos rfl] at e
        have hl : ns.length = ds.length := h1.trans r.length
        obtain ⟨u, h4, h5⟩ := zzz (ws := ns.zip vs) (by rw [z26 h1, z5g hl]) (by rw [z9i h1, z4w hl]; exact r) e
        exact ⟨a, dx, _, u, rfl, h2, h4, h5⟩
      · rw [if_neg hB] at e; cases e
    | _ => cases e
  | _ => cases e
/-- what stands where a method is asked for -/
theorem z65 {C : Addr} {m : Str} {x : D} {v : V} (hr : HR K H G) (q : VR K H G x v) (e : insD C m x G) : ∃ a dx ws, v = .ref a ∧ H a = some (.ins C dx ws) ∧ ws.lookup m = none := by
  cases x with
  | ref a =>
    rw [VR] at q
    have e : (match G a with
      | some (.ins B fs) => B = C ∧ (fs.map (·.1)).contains m = false
      | _ => False) := e
    cases hG : G a with
    | none => rw [hG] at e; exact e.elim
    | some o =>
      rw [hG] at e
      cases o with
      | ins B fs =>
        have e2 : B = C := e.1
        have e3 := e.2
        subst e2
        obtain ⟨dx, ws, h1, h2, h3⟩ := hr a _ hG
        exact ⟨a, dx, ws, q, h1, zwo (by rw [h2]; exact e3)⟩
      | _ => exact e.elim
  | nd k ds =>
    cases k with
    | ins B ns =>
      rw [VR] at q
      obtain ⟨a, vs, rfl, ⟨h0, h1, dx, h2⟩, r⟩ := q
      obtain ⟨rfl, e⟩ := e
      exact ⟨a, dx, _, rfl, h2, zwo (by rw [z26 h1]; exact e)⟩
    | _ => exact e.elim
  | _ => exact e.elim
end
section
variable {X : Cx}
/-- o.n -/
def dFld (C : Addr) (n : Str) (T : DTE) : DTE := fun η G Q => T η G fun x G1 => match fldD C n x G1 with
  | some d => Q d G1
  | none => False
theorem zba [Bs] {C : Addr} {n : Str} {e : Expr} {T : DTE} {pos : Pos} (c : Cls X.K C) (na : NoAttr X.K C n) (he : PED X e T) (hb : attributeBase e n X.env (eval e X.env) = eval e X.env := by rfl) : PED X (.Attribute e n pos) (dFld C n T) :=
  PE.impI (pe_fld he hb) fun _ _ σ H Q _ ⟨η, G, P, hs, hr, t, k⟩ => ⟨η, G, _, hs, hr, t, fun d G1 v H1 p1 x1 r1 q1 => by
    cases e : fldD C n d G1 with
    | none => rw [e] at p1; exact p1.elim
    | some z =>
      rw [e] at p1
      obtain ⟨a, dx, ws, u, h1, h2, h3, h4⟩ := zac8 r1 q1 e
      exact ⟨a, C, dx, ws, u, h1, h2, c, na, h3, k z G1 u H1 p1 x1 r1 h4⟩⟩
/-- o.n = value, o tracked -/
def zpt (C : Addr) (n : Str) (To Tv : DTE) : DTS := fun F η G => Tv η G fun y G1 => To η G1 fun x G2 => match x with
  | .ref a => (match G2 a with
    | some (.ins B fs) => (B = C ∧ fs.length < 1000) ∧ F.nx η (up G2 a (.ins C (fput n y fs)))
    | _ => False)
  | _ => False
theorem zji [Bs] {C : Addr} {n : Str} {o e : Expr} {To Tv : DTE} {pos pos' : Pos} (c : Cls X.K C) (na : NoAttr X.K C n) (ho : PED X o To) (he : PED X e Tv) (hs : swapsWith e (some (.Attribute o n pos')) pos.line X.env = pure false := by rfl) : PSD X (.Assign [.Attribute o n pos'] e pos) (zpt C n To Tv) :=
  PS.impI (ps_fld ho he hs) fun _ _ σ H E _ ⟨η, G, F, hs, hr, t, k⟩ => ⟨η, G, _, hs, hr, t, fun y G1 vy H1 p1 x1 r1 q1 => ⟨η, G1, _, hs.ext hr x1, r1, p1, fun d G2 v H2 p2 x2 r2 q2 => by
    cases d with
    | ref a =>
      rw [VR] at q2
      cases hG : G2 a with
      | none =>
        have : False := by simpa [hG] using p2
        exact this.elim
      | some ob =>
        cases ob with
        | ins B fs =>
          have p2 : (B = C ∧ fs.length < 1000) ∧ F.nx η (up G2 a (.ins C (fput n y fs))) := by simpa [hG] using p2
          obtain ⟨⟨rfl, hl⟩, p2⟩ := p2
          obtain ⟨dx, ws, h1, h2, h3⟩ := r2 a _ hG
          have x3 : Ext H2 G2 (upd H2 a (.ins B dx (putF n vy ws))) (up G2 a (.ins B (fput n y fs))) := .write hG
          obtain ⟨h4, h5⟩ := z80 n (q1.ext r1 x2) h2 h3
          have hl2 : ws.length < 1000 := by
            have := congrArg List.length h2
            rw [List.length_map, List.length_map] at this
            omega
          refine ⟨a, B, dx, ws, q2, h1, c, na, hl2, k.nx η _ σ _ p2 ((x1.trans x2).trans x3) (hs.ext hr ((x1.trans x2).trans x3)) (r2.write hG ⟨dx, _, upd_same, h4, h5.ext r2 x3⟩)⟩
        | _ =>
          have : False := by simpa [hG] using p2
          exact this.elim
    | _ => exact p2.elim⟩⟩
/-- C(..): the new instance stays tracked -/
def zrt (C : Addr) (sp : DRn) (T : DTA) : DTE := fun η G Q => T η G fun ds G1 => ∀ x, G1 x = none → sp (.ref x :: ds) (up G1 x (.ins C [])) fun d G2 => d = .non ∧ Q (.ref x) G2
theorem znq [Bs] {C : Addr} {k : Nat} {f : Addr} {fd : FuncData} {ps : List Str} {sp : DRn} {x : Str} {p pos : Pos} {e : Expr} {es : List Expr} {T : DTA} (M : Mk X.K C f) (F : FnD X.prog X.w X.K X.mg X.base k f fd ps sp) (hr : Room (k + 1) X.A) (hm : X.mg x = some (.ref C)) (hb : Binds X.K fd ps [])
    (ha : PAD X (e :: es) T) (hg : Gl X x := by rfl) (hdb : (x == ("__debug__" : Str)) = false := by decide) (he : starEach (e :: es) X.env = (false, eval e X.env) :: starEach es X.env := by rfl) (hpl : (backTo pos (starEach es X.env)).any (·.1) = false := by rfl) :
    PED X (.Call (.Name x p) (e :: es) [] pos) (zrt C sp T) :=
  PE.impI (pe_make M F hr hg hm hb .nil (zac3 (X := X)) ha hdb he hpl) fun _ _ σ H Q _ ⟨η, G, P, hs, hr, t, k⟩ => ⟨η, G, _, hs, hr, t, fun ds G1 vs H1 p1 x1 r1 q1 => fun x dx hx hdx hne => by
    have x2 : Ext H1 G1 (upd H1 dx (.own x)) G1 := .laid hdx
    have r2 : HR X.ml (upd H1 dx (.own x)) G1 := r1.laid hdx
    have hx' : (upd H1 dx (.own x)) x = none := by rw [upd_ne hne.symm]; exact hx
    have x3 : Ext (upd H1 dx (.own x)) G1 (upd (upd H1 dx (.own x)) x (.ins C dx [])) (up G1 x (.ins C [])) := .new hx'
    have r3 := r2.new (u := .ins C []) hx' ⟨dx, [], upd_same, rfl, .nil⟩
    show z3k X.ml sp (.ref x :: (vs ++ [])) _ _
    rw [List.append_nil]
    exact ⟨.ref x :: ds, _, _, .cons (by rw [VR]) ((q1.ext r1 x2).ext r2 x3), r3, p1 x (r1.free hx), fun d G' v H' ⟨pd, pq⟩ xx rr qq => ⟨by subst pd; rw [VR] at qq; exact qq, k _ G' (.ref x) H' pq (((x1.trans x2).trans x3).trans xx) rr (by rw [VR])⟩⟩⟩
/-- o.m(..), m a def of the class -/
def zje (C : Addr) (m : Str) (sp : DRn) (To : DTE) (T : DTA) : DTE := fun η G Q => To η G fun x G1 => insD C m x G1 ∧ T η G1 fun ds G2 => sp (x :: ds) G2 Q
theorem zep [Bs] {C : Addr} {m : Str} {k : Nat} {f : Addr} {fd : FuncData} {ps : List Str} {sp : DRn} {apos pos : Pos} {o e : Expr} {es : List Expr} {To : DTE} {T : DTA} {pl : Sem Bool} (c : Cls X.K C) (hm : Meth X.K C m f) (F : FnD X.prog X.w X.K X.mg X.base k f fd ps sp) (hr : Room k X.A) (hb : Binds X.K fd ps [])
    (ho : PED X o To) (ha : PAD X (e :: es) T) (hst : starEach (e :: es) X.env = (false, eval e X.env) :: starEach es X.env := by rfl) (hpl : (backTo pos (starEach es X.env)).any (·.1) = false := by rfl)
    (ht : eval (.Call (.Attribute o m apos) (e :: es) [] pos) X.env = (do
      let ov ← eval o X.env
      standAt apos.atName
      let (g, first) ← holding [ov] (getMethod ov m pl)
      callWith pos g first (backTo pos (starEach (e :: es) X.env)) (backToKw pos (keywordEach [] X.env))) := by rfl) :
    PED X (.Call (.Attribute o m apos) (e :: es) [] pos) (zje C m sp To T) :=
  PE.impI (pe_meth (pl := pl) ho c hm F hr hb .nil (zac3 (X := X)) ha hst hpl ht) fun _ _ σ H Q _ ⟨η, G, P, hs, hr, t, k⟩ => ⟨η, G, _, hs, hr, t, fun d G1 v H1 ⟨pi, p1⟩ x1 r1 q1 => by
    obtain ⟨a, dx, ws, h1, h2, h3⟩ := z65 r1 q1 pi
    refine ⟨a, dx, ws, h1, h2, h3, η, G1, _, hs.ext hr x1, r1, p1, fun ds G2 vs H2 p2 x2 r2 q2 => ?_⟩
    show z3k X.ml sp (v :: (vs ++ [])) _ _
    rw [List.append_nil]
    exact ⟨d :: ds, G2, P, .cons (q1.ext r1 x2) q2, r2, p2, fun d' G' v' H' p x r q => k d' G' v' H' p ((x1.trans x2).trans x) r q⟩⟩
end
end DL
namespace DL
open PySem PySem.Spec PyProof.Rows L2
/-- the type of a tree -/
def kTy (x : D) (G : DHp) : Option Value := match x with
  | .non => some (.type "NoneType")
  | .bl _ => some (.type "bool")
  | .int _ => some (.type "int")
  | .str _ => some (.type "str")
  | .nd .tup _ => some (.type "tuple")
  | .nd .lst _ => some (.type "list")
  | .nd .scr _ => some (.type "list")
  | .nd (.dK _) _ => some (.type "dict")
  | .nd (.ins C _) _ => some (.ref C)
  | .ref a => (match G a with
    | some (.lst _) => some (.type "list")
    | some (.dK _) => some (.type "dict")
    | some (.ins C _) => some (.ref C)
    | _ => none)
  | _ => none
def kCl (c : D) : Option Value := match c with
  | .ty n => some (.type n)
  | .ref C => some (.ref C)
  | _ => none
/-- a class whose instances tell their class -/
structure IsC (K : PySem.W.Frag) (C : Addr) : Prop where
  cl : Cls K C
  own : PySem.W.findIn K (.ref C) "__class__" = some (some (.builtin "object.__class__"))
  gs : PySem.W.specialIn K (.builtin "object.__class__") "__get__" = some (some (.builtin "getset_descriptor.__get__"))
  tk : PySem.W.takesIn K (.builtin "object.__class__") = some true
  ob : PySem.W.mroIn K C (.type "object") = some true
/-- the table tells the truth -/
def zac4 (K : PySem.W.Frag) (I : Value → Value → Option Bool) : Prop := ∀ t u b, I t u = some b → PySem.W.kitOne K t u = some b ∧ ∀ C, t = .ref C → IsC K C
def dIsi (I : Value → Value → Option Bool) : DRn := d2 fun x c G Q => match kTy x G, kCl c with
  | some t, some u => (match I t u with
    | some b => Q (.bl b) G
    | none => False)
  | _, _ => False
abbrev z71 : List String := ["int", "bool", "str", "tuple", "list", "dict", "NoneType"]
/-- of the built-in types -/
def tyIs (a b : String) : Option Bool := if a = b then some true else if a ∈ z71 ∧ b ∈ ["int", "bool", "str", "tuple", "list", "dict"] then some (a == "bool" && b == "int") else none
theorem z94 : ∀ a ∈ z71, ∀ b ∈ ["int", "bool", "str", "tuple", "list", "dict"], a ≠ b → kitB a b = some (a == "bool" && b == "int") := by decide +kernel
theorem zaal {K : PySem.W.Frag} {a b : String} {r : Bool} (h : tyIs a b = some r) : PySem.W.kitOne K (.type a) (.type b) = some r := by
  unfold tyIs at h
  refine kit_ty ?_
  split at h
  · rename_i e
    subst e
    cases h
    unfold kitB
    rw [if_pos (by simp)]
  · rename_i e
    split at h
    · rename_i q
      rw [z94 a q.1 b q.2 e]
      exact h
    · cases h
section
variable {X : Cx}
theorem zael {K : Ml} {H : Hp} {G : DHp} {x : D} {v : V} {t : Value} (hr : HR K H G) (q : VR K H G x v) (e : kTy x G = some t) (ic : ∀ C, t = .ref C → IsC K.K C) : TyX K.K H v t := by
  cases x with
  | non => rw [VR] at q; subst q; cases e; exact .base .non
  | bl b => rw [VR] at q; subst q; cases e; exact .base (.bl _)
  | int b => rw [VR] at q; subst q; cases e; exact .base (.int _)
  | str b => rw [VR] at q; subst q; cases e; exact .base (.str _)
  | ty n => cases e
  | ref a =>
    rw [VR] at q
    subst q
    cases hG : G a with
    | none => simp [kTy, hG] at e
    | some o =>
      cases o with
      | lst ds =>
        have e : Value.type "list" = t := by simpa [kTy, hG] using e
        subst e
        obtain ⟨vs, h1, _⟩ := hr a _ hG
        exact .base (.lst h1)
      | dK kvs =>
        have e : Value.type "dict" = t := by simpa [kTy, hG] using e
        subst e
        obtain ⟨ws, h1, _⟩ := hr a _ hG
        exact .base (.dK h1)
      | dN kvs => simp [kTy, hG] at e
      | rw _ _ _ => simp [kTy, hG] at e
      | ins C fs =>
        have e : Value.ref C = t := by simpa [kTy, hG] using e
        subst e
        obtain ⟨dx, ws, h1, _⟩ := hr a _ hG
        have c := ic C rfl
        exact .base (.ins h1 c.cl c.own c.gs c.tk c.ob)
  | nd k ds =>
    rw [VR] at q
    obtain ⟨a, vs, rfl, hh, _⟩ := q
    cases k with
    | tup =>
      cases e
      rcases hh with (h | ⟨o, h⟩) | ⟨o, its, n, h1, h2, _⟩
      · exact .base (.tup h)
      · exact .fTuple h
      · exact .kTuple h1 h2
    | lst =>
      cases e
      exact .base (.lst hh.2)
    | scr =>
      cases e
      rcases hh with ⟨o, h⟩ | ⟨o, its, n, h1, h2, _⟩
      · exact .base (.frz h)
      · exact .kList h1 h2
    | dK ks =>
      cases e
      obtain ⟨_, o, h⟩ := hh
      exact .fDict h
    | dN ks => cases e
    | ins C ns =>
      cases e
      obtain ⟨_, _, dx, h⟩ := hh
      have c := ic C rfl
      exact .base (.ins h c.cl c.own c.gs c.tk c.ob)
theorem zvs {I : Value → Value → Option Bool} (hI : zac4 X.K I) : zj9 X (.builtin "isinstance") (dIsi I) := z5a fun pins s σ H G x y v u d e P Iv rx ry hr q1 q2 t => by
  cases ht : kTy d G with
  | none => rw [ht] at t; exact t.elim
  | some tt =>
    cases hc : kCl e with
    | none => rw [ht, hc] at t; exact t.elim
    | some uu =>
      rw [ht, hc] at t
      simp only at t
      cases hi : I tt uu with
      | none => rw [hi] at t; exact t.elim
      | some b =>
        rw [hi] at t
        obtain ⟨k1, k2⟩ := hI _ _ _ hi
        have cv : ClsV y uu := by
          cases e with
          | ty n => rw [VR] at q2; subst q2; cases hc; exact .ty n
          | ref C => rw [VR] at q2; subst q2; cases hc; exact .own C
          | _ => cases hc
        exact thn (call_isi pins s σ H [x, y] [v, u] (fun z H' => z = .bl b ∧ H' = H) Iv (.cons rx (.cons ry .nil)) ⟨x, y, tt, uu, b, rfl, cv, zael hr q1 ht k2, k1, rfl, rfl⟩) fun w s' ⟨z, H', I', rz, e1, e2⟩ => by
          subst e1 e2
          exact ⟨.bl b, .bl b, _, _, I', rz, t, .refl _ _, hr, by rw [VR]⟩
end
/-- the items by their places -/
def zql (ds : List D) : List D := ds.mapIdx fun i d => .nd .tup [.int (i : Nat), d]
def zjg (T : DTA) : DTI := fun η G R => T η G fun ds G1 => match ds with
  | [d] => (match d with
    | .nd .tup xs => R (zql xs) zdd G1
    | .nd .lst xs => R (zql xs) zdd G1
    | .nd .scr xs => R (zql xs) zdd G1
    | _ => False)
  | _ => False
theorem zhw {ds : List D} {i : Nat} {d : D} (h : (zql ds)[i]? = some d) : ∃ x, ds[i]? = some x ∧ d = .nd .tup [.int (i : Nat), x] := by
  unfold zql at h
  rw [List.getElem?_mapIdx] at h
  cases e : ds[i]? with
  | none => rw [e] at h; cases h
  | some x => rw [e] at h; cases h; exact ⟨x, rfl, rfl⟩
theorem zjw (ds : List D) : (zql ds).length = ds.length := by unfold zql; rw [List.length_mapIdx]
theorem Ite.itD {K : Ml} {H1 : Hp} {G1 : DHp} {a : Addr} {ds : List D} (h : ∀ H G, Ext H1 G1 H G → HR K H G → ∃ vs, SqL K.K H a vs ∧ VRs K H G ds vs) : ItD K H1 G1 (Ite K.K a) (zql ds) zdd := by
  intro i H G x r o
  obtain ⟨vs, q, v⟩ := h H G x r
  refine ⟨fun d e => ?_, fun l => ⟨vs, q, by rw [v.length]; rw [zjw] at l; exact l⟩⟩
  obtain ⟨z, e1, rfl⟩ := zhw e
  obtain ⟨u, e2, q2⟩ := v.get e1
  refine ⟨⟨vs, u, q, e2⟩, fun y H' ⟨T, y2, e3, hT, e5, e4⟩ => ?_⟩
  subst e3 e5
  have e6 := e4 vs q
  rw [e2] at e6; cases e6
  have x2 : Ext H G (upd H T (.tup [.int (i : Nat), u])) G := .laid hT
  refine ⟨x2, r.laid hT, ?_⟩
  rw [VR]
  exact ⟨T, _, rfl, .inl (.inl upd_same), .cons (by rw [VR]) (.cons (q2.ext r x2) .nil)⟩
/-- the tuple at a, each item in a new pair -/
def IteT (K : PySem.W.Frag) (a : Addr) : It :=
  ⟨fun i H => ∃ (xs : List V) (x : V), SqT K H a xs ∧ xs[i]? = some x,
    fun i H v H' => ∃ T x, v = .ref T ∧ H T = none ∧ H' = upd H T (.tup [.int (i : Nat), x]) ∧ ∀ xs, SqT K H a xs → xs[i]? = some x,
    fun i H => ∃ xs : List V, SqT K H a xs ∧ xs.length ≤ i⟩
theorem IteT.itD {K : Ml} {H1 : Hp} {G1 : DHp} {a : Addr} {ds : List D} (h : ∀ H G, Ext H1 G1 H G → HR K H G → ∃ vs, SqT K.K H a vs ∧ VRs K H G ds vs) : ItD K H1 G1 (IteT K.K a) (zql ds) zdd := by
  intro i H G x r o
  obtain ⟨vs, q, v⟩ := h H G x r
  refine ⟨fun d e => ?_, fun l => ⟨vs, q, by rw [v.length]; rw [zjw] at l; exact l⟩⟩
  obtain ⟨z, e1, rfl⟩ := zhw e
  obtain ⟨u, e2, q2⟩ := v.get e1
  refine ⟨⟨vs, u, q, e2⟩, fun y H' ⟨T, y2, e3, hT, e5, e4⟩ => ?_⟩
  subst e3 e5
  have e6 := e4 vs q
  rw [e2] at e6; cases e6
  have x2 : Ext H G (upd H T (.tup [.int (i : Nat), u])) G := .laid hT
  refine ⟨x2, r.laid hT, ?_⟩
  rw [VR]
  exact ⟨T, _, rfl, .inl (.inl upd_same), .cons (by rw [VR]) (.cons (q2.ext r x2) .nil)⟩
theorem z91 {P : Program} {w : World} {K : PySem.W.Frag} {elts : List Expr} {kk : Nat} {tpos : Pos} (a e it : Addr) (hai : a ≠ it) :
    Turn P w K (.Tuple elts kk tpos) (IteT K a) [e, it] e (fun i h => (∃ old, IsEnum h e it ((i : Nat) : Int) old) ∧ h.IsTupleIter it a i ∧ e ≠ it ∧ e ≠ a) where
  mem := by simp
  obj := fun i h ⟨⟨old, he⟩, ⟨o, ho, hc, hd⟩, _⟩ b hb => by
    rcases (by simpa using hb : b = e ∨ b = it) with z | z
    · subst z; exact ⟨_, he, fun v q => nomatch q⟩
    · subst z; exact ⟨o, ho, fun v q => by rw [hd] at q; cases q⟩
  keep := fun i h h' ⟨⟨old, he⟩, hi, hne⟩ k => ⟨⟨old, k e (by simp) _ he⟩, hi.at fun o q => k it (by simp) o q, hne⟩
  item := by
    intro X hP hw hK hc i pins s σ H E I hf ⟨⟨old, he⟩, hit, hne, hea⟩ ⟨xs, x, hq, hx⟩
    subst hP hw hK
    obtain ⟨its, rv, p, hz⟩ := I.tuple hq
    obtain ⟨u, hu, ru⟩ := rv.get hx
    have hel : e < s.heap.objs.size := Heap.lt_size he
    have hil : it < s.heap.objs.size := by obtain ⟨_, q, _⟩ := hit; exact Heap.lt_size q
    have hlt : i < its.toArray.size := by
      rw [List.size_toArray]
      exact (List.getElem?_eq_some_iff.mp hu).1
    have D := Draws.tuple (prog := X.prog) (w := X.w) (A := X.A.in1) (I.ok.hd hc) it a hai its.toArray
    refine wpAny_pyNext_enum_itemD D he ⟨hit, p⟩ hlt hne (by simp only [List.mem_cons, List.not_mem_nil, or_false, not_or]; exact ⟨hne, hea⟩) fun x' h' tk hP ho hs' hT hsz hk => ?_
    have e0 : x' = u := by
      rw [List.getElem?_toArray] at hP
      rw [hu] at hP; cases hP; rfl
    subst e0
    refine ⟨_, rfl, wpAny_letOwnedTupleGo_enum (s := { s with heap := h', toks := tk + 1 }) ho fun h'' he' sb => ?_⟩
    have hT2 : h''.get? s.heap.objs.size = some { cls := .type "tuple", data := .seq #[.int i tk, x'] } := (sb.2 _ (Nat.ne_of_gt hel)).trans hT
    have new : ObjOk X.prog X.w (upd H s.heap.objs.size (.tup [.int (i : Nat), x])) h'' s.heap.objs.size (.tup [.int (i : Nat), x]) :=
      ⟨by show 2 ≤ sizeLine; decide, [.int i tk, x'], .cons ⟨_, rfl⟩ (.cons ru .nil), ⟨_, hT2, rfl, _, rfl⟩⟩
    have I1 : Inv X pins σ (upd H s.heap.objs.size (.tup [.int (i : Nat), x])) { s with heap := h'', toks := tk + 1 } :=
      I.turnedNew (ch := [e, it]) (fun b ob hb q => by
        have hb1 : b ≠ e := fun z => hb (by simp [z])
        have hb2 : b ≠ it := fun z => hb (by simp [z])
        exact (sb.2 b hb1).trans (hk b ob hb1 hb2 q)) hf (Nat.le_refl _) new
    refine ⟨.ref s.heap.objs.size, _, I1, rfl, ⟨_, x, rfl, I.hok.fresh (Nat.le_refl _), rfl, fun ys hy => by rw [I.tuple_inj hy hq]; exact hx⟩, ⟨⟨x', ?_⟩, hs'.1.at fun o q => (sb.2 it (Ne.symm hne)).trans q, hne, hea⟩, fun b hb => ?_⟩
    · have e1 : ((i + 1 : Nat) : Int) = (i : Int) + 1 := by omega
      show IsEnum h'' e it ((i + 1 : Nat) : Int) x'
      rw [e1]; exact he'
    have hb' : b < s.heap.objs.size := by
      rcases (by simpa using hb : b = e ∨ b = it) with z | z
      · subst z; exact hel
      · subst z; exact hil
    rw [upd_ne (Nat.ne_of_lt hb')]
    exact (hf b hb).1
  done := by
    intro X hP hw hK hc i pins s σ H E I hf ⟨⟨old, he⟩, hit, hne, hea⟩ ⟨xs, hq, hx⟩
    subst hP hw hK
    obtain ⟨its, rv, p, hz⟩ := I.tuple hq
    obtain ⟨f0, f1, f2, f3, f4, f5⟩ := hf it (by simp)
    have hl := rv.length
    have hT : s.TypeIs (.ref e) "enumerate" := ⟨_, he, rfl⟩
    unfold pyNext
    refine wpAny_bind (wpAny_attempt (wpAny_callSpecial?_slot (name := Str.ofString "__next__") hT F.slot_enumerate_next (wpAny_call_entry F.slot_enumerate_next hT F.entry_enumerate_next ?_ (F.args_enumerate_next_1 _))))
    show wpAny _ _ (field (.ref e) 2 >>= _) _ _ _
    refine wpAny_bind (wpAny_field he rfl (x := .ref it) rfl ?_)
    refine wpAny_bind (wpAny_nextOf_tuple_end (I.ok.hd hc) hit p (by simp; omega) fun h' x hx1 hx2 => ?_)
    obtain ⟨o, ho, hc2⟩ := hx2
    refine wpAny_bind (wpAny_isInstance (T := "StopIteration") (b := true) ⟨o, ho, hc2⟩ isSubtype_stop ?_)
    exact wpAny_pure ⟨rfl, I.turned (t' := s.toks) (fun b o hb q => hx1 b o hb q) f0 f1 f3 f4 f5⟩
  self := fun A i s Q E ⟨⟨_, he⟩, _⟩ h => wpAny_pyIter_enum he h
set_option maxHeartbeats 8000000 in
theorem z9j {v : Value} {o : Obj} {S : Heap → Prop} (B : Begins v o S) :
    Meets (Builtin.«enumerate.__new__» ⟨[.type "enumerate", v], []⟩) (fun _ R s => S s.heap ∧
      R (.ok (.ret (.ref (s.heap.push o).objs.size))) { s with heap := (s.heap.push o).push { cls := .type "enumerate", data := .fields #[.none, .bool false, .ref s.heap.objs.size, rawInt 0, .none, .none] } }) :=
  .of_wp fun prog w A R s ⟨h1, h⟩ => by
    obtain ⟨hp, g, d, tk, os⟩ := s
    have hsub := sub_enumerate
    have q1 : ∀ {A' : Around} {E : Value → Shared → Prop} {Q : Value → Shared → Prop}, Q (.ref hp.objs.size) ⟨hp.push o, g, d, tk, os⟩ → wpAny (model prog w) A' (pyIter v) Q E ⟨hp, g, d, tk, os⟩ :=
      fun q => B.iter prog w _ _ ⟨hp, g, d, tk, os⟩ _ h1 q
    wp_walk using q1
    refine wpAny_stack_any fun st => wpAny_pure ?_
    split
    · rename_i c _ _ _ _ _
      cases (c == Value.type "enumerate")
      · wp_walk using q1
        exact ⟨_, rfl, h⟩
      · wp_walk using q1
        exact ⟨_, rfl, h⟩
    · wp_walk using q1
      exact ⟨_, rfl, h⟩
/-- enumerate(v) -/
theorem z98 {prog : Program} {w : World} {A : Around} {E : Value → Shared → Prop} {s : Shared} {v : Value} {o : Obj} {S : Heap → Prop} {Q : Value → Shared → Prop} (B : Begins v o S) (h1 : S s.heap)
    (h : ∀ h', IsEnum h' (s.heap.objs.size + 1) s.heap.objs.size 0 .none → h'.get? s.heap.objs.size = some o → (∀ b u, s.heap.get? b = some u → h'.get? b = some u) → Q (.ref (s.heap.objs.size + 1)) { s with heap := h' }) :
    wpAny (model prog w) A (call (.type "enumerate") [v]) Q E s := by
  refine callType_new F.called_enumerate (by decide) (F.typeCall_enumerate_1 _) (F.newCall_enumerate_1 _) (fun obj => F.args_object_init_2 obj _) F.entry_enumerate_new (z9j B) ⟨h1, ?_⟩
  have hz : (s.heap.push o).objs.size = s.heap.objs.size + 1 := Heap.size_push ..
  have he : IsEnum ((s.heap.push o).push { cls := .type "enumerate", data := .fields #[.none, .bool false, .ref s.heap.objs.size, rawInt 0, .none, .none] }) (s.heap.objs.size + 1) s.heap.objs.size 0 .none := by
    have q := Heap.get?_push_size (s.heap.push o) (o := { cls := .type "enumerate", data := .fields #[.none, .bool false, .ref s.heap.objs.size, rawInt 0, .none, .none] }) rfl
    rw [hz] at q; exact q
  show _ ∧ _
  rw [hz]
  exact ⟨⟨_, he, rfl⟩, h _ he (Heap.get?_push_of_some _ (Heap.get?_push_size _ B.free)) fun b u x => Heap.get?_push_of_some _ (Heap.get?_push_of_some _ x)⟩
section
variable {X : Cx}
theorem zlt [Bs] {e : Expr} {T : DTA} {p pos tpos : Pos} {elts : List Expr} {kk : Nat} (hm : X.mg "enumerate" = none) (ha : PAD X [e] T) (hg : Gl X "enumerate" := by rfl) (hs : starEach [e] X.env = [(false, eval e X.env)] := by rfl) :
    PID X (.Tuple elts kk tpos) (.Call (.Name "enumerate" p) [e] [] pos) (zjg T) := by
  refine ⟨fun pins s σ H R I ⟨η, G, P, hs', hr, t, k⟩ => ?_⟩
  refine Call_ (ld_blt I hg hm boot_enumerate (PyProof.Rows.callWith_type1 (thn (ha.run pos pins s σ H (fun vs H1 => ∃ ds G1, (match ds with
    | [d] => (match d with
      | .nd .tup xs => P (zql xs) zdd G1
      | .nd .lst xs => P (zql xs) zdd G1
      | .nd .scr xs => P (zql xs) zdd G1
      | _ => False)
    | _ => False) ∧ Ext H G H1 G1 ∧ HR X.ml H1 G1 ∧ VRs X.ml H1 G1 ds vs) I ⟨η, G, _, hs', hr, t, fun ds G1 vs H1 p x r q => ⟨ds, G1, p, x, r, q⟩⟩) fun us s1 ⟨vs, H1, I1, r1, ds, G1, p, x, r, q⟩ => ?_) hs rfl))
  match ds, p, q with
  | [d], p, q =>
    obtain ⟨v, r', rfl, q1, q2⟩ := q.uncons
    cases q2.nil_of
    obtain ⟨u, rfl, ru⟩ := r1.one
    have fin2 : ∀ b, b ∈ [s1.heap.objs.size + 1, s1.heap.objs.size] → FpOk X pins H1 b := fun b hb => by
      have hle : s1.heap.objs.size ≤ b := by
        rcases (by simpa using hb : b = s1.heap.objs.size + 1 ∨ b = s1.heap.objs.size) with z | z <;> omega
      exact I1.fpOk hle (I1.hok.fresh hle)
    have doL : ∀ (a : Addr) (ws : List V) (xs : List D), v = .ref a → SqL X.K H1 a ws → (∀ H G, Ext H1 G1 H G → HR X.ml H G → ∃ vs, SqL X.K H a vs ∧ VRs X.ml H G xs vs) → P (zql xs) zdd G1 →
        wpAny (model X.prog X.w) X.A (call (.type "enumerate") [u]) (fun v s1 => wpAny (model X.prog X.w) X.A (pyIter v) (PIE X pins σ (.Tuple elts kk tpos) R) X.xe s1) X.xe s1 := by
      intro a ws xs e hq hh p
      subst e
      cases ru
      obtain ⟨its, rv, p', hz⟩ := I1.list hq
      refine call_enumerate_list p'.isList fun h' he hit hsz hk => wpAny_pyIter_enum he ?_
      have I2 : Inv X pins σ H1 { s1 with heap := h' } := I1.kept (t' := s1.toks) hk
      exact ⟨s1.heap.objs.size + 1, [s1.heap.objs.size + 1, s1.heap.objs.size], _, _, H1, rfl, I2, turn_enum a (s1.heap.objs.size + 1) s1.heap.objs.size, ⟨⟨.none, he⟩, hit, Nat.succ_ne_self _⟩, fin2, k _ _ G1 _ H1 p x r (Ite.itD hh)⟩
    cases d with
    | nd kd xs =>
      rw [VR] at q1
      obtain ⟨a, ws, e, hq, vr⟩ := q1
      cases kd with
      | tup =>
        subst e
        cases ru
        obtain ⟨its, rv, p', hz⟩ := I1.tuple hq
        have p2 : s1.heap.IsTuple a its.toArray := p'
        have hal : a < s1.heap.objs.size := by obtain ⟨_, z, _⟩ := p2; exact Heap.lt_size z
        refine z98 (begins_tuple a its.toArray) p2 fun h' he hit hk => wpAny_pyIter_enum he ?_
        have I2 : Inv X pins σ H1 { s1 with heap := h' } := I1.kept (t' := s1.toks) hk
        exact ⟨s1.heap.objs.size + 1, [s1.heap.objs.size + 1, s1.heap.objs.size], _, _, H1, rfl, I2, z91 a (s1.heap.objs.size + 1) s1.heap.objs.size (Nat.ne_of_lt hal), ⟨⟨.none, he⟩, ⟨_, hit, rfl, rfl⟩, Nat.succ_ne_self _, Nat.ne_of_gt (Nat.lt_succ_of_lt hal)⟩, fin2,
          k _ _ G1 _ H1 p x r (IteT.itD fun H' G' x' r' => ⟨ws, Held.ext (k := .tup) r x' hq, vr.ext r x'⟩)⟩
      | lst => exact doL a ws xs e (zeo hq (.inl rfl)) (fun H' G' x' r' => ⟨ws, zeo (hq.ext r x') (.inl rfl), vr.ext r x'⟩) p
      | scr => exact doL a ws xs e (zeo hq (.inr rfl)) (fun H' G' x' r' => ⟨ws, zeo (hq.ext r x') (.inr rfl), vr.ext r x'⟩) p
      | _ => exact p.elim
    | _ => exact p.elim
  | [], p, _ => exact p.elim
  | _ :: _ :: _, p, _ => exact p.elim
end
end DL
namespace DL
open PySem PySem.Spec PyProof.Rows L2
/-- a frozen dict's items, as pairs -/
def prD (ps : List (D × D)) : List D := ps.map fun p => .nd .tup [p.1, p.2]
/-- what is asked of things that are sorted -/
def Srts (ds : List D) : Prop := plainDs ds = true ∧ PySem.W.AllAlike (ds.map py) ∧ PySem.W.Sortable (ds.map py) ∧ ∀ d ∈ ds, (py d).depth ≤ 60
section
variable {X : Cx}
/-- d.items(), as a thing -/
def zafu [Bs] (K : Ml) (T : DTE) : TE := fun σ H Q => ∃ η G P, SR K H G σ η ∧ HR K H G ∧ T η G P ∧
  ∀ d G1 v H1, P d G1 → Ext H G H1 G1 → HR K H1 G1 → VR K H1 G1 d v → ∃ ps a, dicP d = some ps ∧ v = .ref a ∧ ∀ r, H1 r = none → Q (.ref r) (upd H1 r (L2.DX.itemsO r a))
theorem zacv [Bs] {e : Expr} {T : DTE} {apos cpos : Pos} (he : PED X e T) (hbase : attributeBase e "items" X.env (eval e X.env) = eval e X.env := by rfl) (hline : (apos.endLine == cpos.line) = true := by rfl) :
    PE X (.Call (.Attribute e "items" apos) [] [] cpos) (zafu X.ml T) := by
  refine ⟨fun pins s σ H Q I ⟨η, G, P, hs, hr, t, k⟩ => ?_⟩
  refine wpAny_Call_method (T := "dict") (id := "dict.items") hbase rfl hline F.plainAttrs_dict F.slot_dict_items F.type_dict_items (thn (he.run pins s σ H (fun v H1 => ∃ d G1, P d G1 ∧ Ext H G H1 G1 ∧ HR X.ml H1 G1 ∧ VR X.ml H1 G1 d v) I ⟨η, G, _, hs, hr, t, fun d G1 v H1 p x r q => ⟨d, G1, p, x, r, q⟩⟩) fun u s1 ⟨x, H1, I1, rx, d, G1, p, x1, r1, q1⟩ => ?_)
  obtain ⟨ps, a0, e, ev, kk⟩ := k d G1 x H1 p x1 r1 q1
  obtain ⟨h1, h2⟩ := z4n I1 r1 q1 rx (z7b e G1)
  obtain ⟨a, es, ep, kv, e0, ent, pr, hl, ra, hra⟩ := z0t I1 r1 q1 e
  rw [ev] at e0
  cases e0
  subst ev
  cases (show u = Value.ref a0 from rx)
  refine ⟨h1, h2, ?_⟩
  have hm := ra.raw I1
  have hf : H1 s1.heap.objs.size = none := I1.hok.fresh (Nat.le_refl _)
  show wpAny _ _ (callWith cpos (.builtin "dict.items") [.ref a0] [] []) _ X.xe s1
  refine method_meetsIn F.slot_dict_items F.entry_dict_items rfl (PySem.evalArgs_none ⟨rfl, h1, F.args_dict_items_1 _, _, meets_dict_items_raw a0 ra.2, ⟨es, ep, hm⟩, ?_⟩)
  exact ⟨.ref s1.heap.objs.size, upd H1 s1.heap.objs.size (L2.DX.itemsO s1.heap.objs.size a0), I1.laid (t' := s1.toks) (fun b o q => Heap.get?_push_of_some _ q) (Nat.le_refl _) (L2.DX.itemsO_ok (Heap.get?_push_size _ rfl)), rfl, kk _ hf⟩
def zaep (K : Ml) : List V → Hp → VK → Prop := fun xs H Q => ∃ r a d G ps, xs = [.ref r] ∧ H r = some (L2.DX.itemsO r a) ∧ HR K H G ∧ VR K H G d (.ref a) ∧ dicP d = some ps ∧ Srts (prD ps) ∧
  ∀ H' l, G l = none → Ext H G H' (up G l (.lst (srt (prD ps)))) → HR K H' (up G l (.lst (srt (prD ps)))) → Q (.ref l) H'
theorem z53 (hu : X.A.units + 64 < cLine) (hc : X.calm = true) : CallR X (.builtin "sorted") (zaep X.ml) := by
  intro pins s σ H xs us Q I rv ⟨r, a, d, G, ps, exs, hH, hr, q, e, ⟨p1, p2, p3, p4⟩, k⟩
  subst exs
  obtain ⟨u, rfl, ru⟩ := rv.one
  cases ru
  have view : s.heap.IsItemsView r a := (show ObjOk X.prog X.w H s.heap r (L2.DX.itemsO r a) from I.hok r _ hH).1
  obtain ⟨a', es, ep, kv, e0, ent, pr, hl, ra, hra⟩ := z0t I hr q e
  cases e0
  have raw := ra.raw I
  have hn : es.size ≤ sizeLine := by
    rcases ra.1 with h | ⟨o, kvs, h, hx, hd⟩
    · cases d with
      | nd kd ds =>
        cases kd with
        | dN ks =>
          rw [VR] at q
          obtain ⟨a2, vs, e2, ⟨_, xs, es2, ep2, g1, g2, g3, g4, g5, g6, _⟩, _⟩ := q
          cases e2
          rw [h] at g1
          have e3 : rawO a es ep = rawO a es2 ep2 := Option.some.inj g1
          obtain ⟨φ, _, _⟩ := (show ObjOk X.prog X.w H s.heap a (rawO a es2 ep2) from e3 ▸ I.hok a _ h)
          obtain ⟨o1, w1, _, w3⟩ := raw
          obtain ⟨o2, w4, _, w6⟩ := φ
          rw [w1] at w4
          cases w4
          rw [w3] at w6
          cases w6
          have := congrArg List.length g3
          rw [Array.length_toList, List.length_map] at this
          have g7 := congrArg List.length g4
          rw [List.length_map] at g7
          omega
        | dK ks =>
          rw [VR] at q
          obtain ⟨a2, vs, e2, ⟨_, o, ho⟩, _⟩ := q
          cases e2
          rw [h] at ho
          cases ho
        | _ => cases e
      | _ => cases e
    · obtain ⟨hs, hgd, hx, es2, ep2, ws, hdt, hsz, kv2, hm⟩ := I.frzK h
      rw [hd] at hdt
      cases hdt
      obtain ⟨_, z, _⟩ := I.hok a _ h
      rw [hsz]
      exact z
  refine Calls.call_function_entry PyProof.Rows.kind_sorted PyProof.Rows.plain_sorted PyProof.Rows.entry_sorted (PyProof.Rows.args_sorted1 _) ?_
  unfold Builtin.«sorted»
  refine wpAny_bind (m := checkCount "sorted" 1 1 _) (wpAny_pure ?_)
  refine wpAny_bind (PySem.W.dil_collect (A := X.A.in1) (es := es) (ep := ep) (I.ok.hd hc) view raw hn fun h' tk as hk hla hG => ?_)
  have I1 : Inv X pins σ H { s with heap := h', toks := tk } := I.kept hk
  have nd : as.Nodup := List.Pairwise.imp (fun h => Nat.ne_of_lt h) hG.rise
  obtain ⟨H2, I2, keep, laid⟩ := L2.DX.takeT (P := fun b vs => ∃ (j : Nat) (x y : V), as[j]? = some b ∧ kv[j]? = some (x, y) ∧ vs = [x, y]) I as H I1 nd fun b hb => by
    have hle : s.heap.objs.size ≤ b := Nat.le_of_lt (hG.above b hb)
    obtain ⟨j, hj⟩ := List.mem_iff_getElem?.mp hb
    obtain ⟨hj2, hob⟩ := hG.pairs j b hj
    have hjk : j < kv.length := by rw [ent.size]; exact hj2
    have hkj : kv[j]? = some (kv[j]) := List.getElem?_eq_getElem hjk
    obtain ⟨r1, r2⟩ := ent.at hkj hj2
    exact ⟨hle, I.hok.fresh hle, [kv[j].1, kv[j].2], ⟨j, _, _, hj, hkj, rfl⟩, fun H3 => ⟨by show 2 ≤ sizeLine; decide, [es[j].key, es[j].val], .cons r1 (.cons r2 .nil), ⟨_, hob, rfl, _, rfl⟩⟩⟩
  have x2 : Ext H G H2 G := ⟨fun b o h n => ⟨keep b o h, n⟩⟩
  have hr2 : HR X.ml H2 G := fun b o h => by
    have h1 := hr b o h
    obtain ⟨z, hz⟩ := h1.some
    exact h1.ext hr x2 ((keep b z hz).trans hz.symm)
  have pr2 := pr.ext hr x2
  have hlen : (as.map Value.ref).length ≤ sizeLine := by rw [List.length_map, hla]; exact hn
  have vrs : VRs X.ml H2 G (prD ps) (as.map V.ref) := by
    have go : ∀ (n : Nat) (ps' : List (D × D)) (as' : List Addr), ps'.length = as'.length → (∀ j p, ps'[j]? = some p → ps[n + j]? = some p) → (∀ j b, as'[j]? = some b → as[n + j]? = some b) → VRs X.ml H2 G (prD ps') (as'.map V.ref) := by
      intro n ps'
      induction ps' generalizing n with
      | nil =>
        intro as' h1 _ _
        cases as' with
        | nil => exact .nil
        | cons _ _ => simp at h1
      | cons p ps' ih =>
        intro as' h1 h2 h3
        cases as' with
        | nil => simp at h1
        | cons b as' =>
          have hb : as[n]? = some b := by simpa using h3 0 b rfl
          have hp : ps[n]? = some p := by simpa using h2 0 p rfl
          obtain ⟨x, y, e1, q1, q2⟩ := pr2.get hl hp
          obtain ⟨vs, ⟨j, x', y', g1, g2, g3⟩, g4⟩ := laid b (List.mem_of_getElem? hb)
          have hjn : j = n := by
            obtain ⟨l1, l3⟩ := List.getElem?_eq_some_iff.mp g1
            obtain ⟨l2, l4⟩ := List.getElem?_eq_some_iff.mp hb
            have pw := List.pairwise_iff_getElem.mp hG.rise
            rcases Nat.lt_trichotomy j n with h | h | h
            · have := pw j n l1 l2 h
              rw [l3, l4] at this
              exact absurd this (Nat.lt_irrefl _)
            · exact h
            · have := pw n j l2 l1 h
              rw [l3, l4] at this
              exact absurd this (Nat.lt_irrefl _)
          subst hjn
          rw [e1] at g2
          cases g2
          subst g3
          refine .cons ?_ (ih (j + 1) as' (by simpa using h1) (fun i z hz => by have := h2 (i + 1) z (by simpa using hz); rw [show j + 1 + i = j + (i + 1) by omega]; exact this) fun i z hz => by have := h3 (i + 1) z (by simpa using hz); rw [show j + 1 + i = j + (i + 1) by omega]; exact this)
          rw [VR]
          exact ⟨b, _, rfl, .inl (.inl g4), .cons q1 (.cons q2 .nil)⟩
    exact go 0 ps as (by rw [hla, hl, ent.size]) (fun j p h => by rw [Nat.zero_add]; exact h) fun j b h => by rw [Nat.zero_add]; exact h
  have rvs : Vals (as.map V.ref) (as.map Value.ref) := by
    have go : ∀ l : List Addr, Vals (l.map V.ref) (l.map Value.ref) := fun l => by
      induction l with
      | nil => exact .nil
      | cons b l ih => exact .cons rfl ih
    exact go as
  refine wpAny_bind (wpAny_newList ?_ hlen)
  have hoL : (h'.push (seqObj "list" (as.map Value.ref).toArray 0)).get? h'.objs.size = some (seqObj "list" (as.map Value.ref).toArray 0) := Heap.get?_push_size _ rfl
  show wpAny _ _ _ _ _ { s with heap := h'.push (seqObj "list" (as.map Value.ref).toArray 0), toks := tk }
  have er : PySem.W.EachIs (fun v b => ∃ rs, Reads (h'.push (seqObj "list" (List.map Value.ref as).toArray 0)) v (py b) rs ∧ h'.objs.size ∉ rs) (as.map Value.ref) (prD ps) := (zmt I2 vrs rvs p1).mono fun u b ⟨l, rd⟩ => ⟨l, PyProof.Rows.Reads.keeps (fun b o q => Heap.get?_push_of_some _ q) rd, fun hm => by
    obtain ⟨o, ho⟩ := PyProof.On.reads_mem_get rd _ hm
    exact absurd (Heap.lt_size ho) (Nat.lt_irrefl _)⟩
  have al : (prD ps).length = as.length := by rw [prD, List.length_map, hla, hl, ent.size]
  have hlen2 : (prD ps).length ≤ sizeLine := by rw [al, hla]; exact hn
  refine wpAny_bind (wpAny_holding (PySem.W.list_sort_data (s := { s with heap := h'.push (seqObj "list" (as.map Value.ref).toArray 0), toks := tk }) (R := fun u d => ∃ v, RelV v u ∧ VR X.ml H2 G d v) (enc := py) (bs := prD ps) hoL (zta vrs rvs) er p2 p3 hlen2 (fun b hb => by have := p4 b hb; show X.A.units + 1 + 1 + _ < _; omega) fun out ho eo => ?_))
  obtain ⟨ws, rw', qs'⟩ := zmq eo
  obtain ⟨e', he'⟩ := PyProof.Rows.sortedHeap_at (vs := as.map Value.ref) (out := List.toArray out) hoL
  have hp : H2 h'.objs.size = none := I2.hok.fresh (Nat.le_refl _)
  have x3 : Ext H2 G (upd H2 h'.objs.size (.lst ws)) (up G h'.objs.size (.lst (srt (prD ps)))) := .new hp
  refine wpAny_pure ⟨_, rfl, .ref h'.objs.size, upd H2 h'.objs.size (.lst ws), I2.laid (t' := tk) (fun b u e => ?_) (Nat.le_refl _)
    (show ObjOk X.prog X.w _ _ _ (.lst ws) from ⟨by rw [rw'.length, ho]; exact hlen2, out, e', rw', he'⟩), rfl, k _ _ (hr2.free hp) (x2.trans x3) (hr2.new hp ⟨ws, upd_same, qs'.ext hr2 x3⟩)⟩
  have hb : b < h'.objs.size := Heap.lt_size e
  rw [PyProof.Rows.sortedHeap_old (Nat.ne_of_lt hb) (by rw [size_push']; exact Nat.lt_succ_of_lt hb)]
  exact Heap.get?_push_of_some _ e
/-- sorted(d.items()): tracked -/
def zy5 (T : DTE) : DTE := fun η G Q => T η G fun d G1 => match dicP d with
  | some ps => Srts (prD ps) ∧ ∀ p, G1 p = none → Q (.ref p) (up G1 p (.lst (srt (prD ps))))
  | none => False
theorem z27 [Bs] {e : Expr} {T : DTE} {p apos cpos pos : Pos} (hu : X.A.units + 64 < cLine) (hc : X.calm = true) (hm : X.mg "sorted" = none) (hv : bootBuiltins "sorted" = some (.builtin "sorted")) (he : PED X e T) (hg : Gl X "sorted" := by rfl)
    (hbase : attributeBase e "items" X.env (eval e X.env) = eval e X.env := by rfl) (hline : (apos.endLine == cpos.line) = true := by rfl)
    (h1 : starEach [.Call (.Attribute e "items" apos) [] [] cpos] X.env = (false, eval (.Call (.Attribute e "items" apos) [] [] cpos) X.env) :: starEach [] X.env := by rfl) (h2 : (backTo pos (starEach [] X.env)).any (·.1) = false := by rfl) :
    PED X (.Call (.Name "sorted" p) [.Call (.Attribute e "items" apos) [] [] cpos] [] pos) (zy5 T) :=
  PE.impI (pe_callB (z53 hu hc) hg hm hv (pa_cons (zacv he hbase hline) pa_nil h1) (by decide) (by decide) h1 h2) fun _ _ σ H Q _ ⟨η, G, P, hs, hr, t, k⟩ => by
    refine ⟨η, G, _, hs, hr, t, fun d G1 v H1 p1 x1 r1 q1 => ?_⟩
    split at p1
    · rename_i ps e1
      obtain ⟨ss, p1⟩ := p1
      have hv : ∃ a, v = .ref a := by
        cases d with
        | nd kd ds => rw [VR] at q1; obtain ⟨a, _, e2, _⟩ := q1; exact ⟨a, e2⟩
        | _ => cases e1
      obtain ⟨a, rfl⟩ := hv
      refine ⟨ps, a, e1, rfl, fun r hr0 => ?_⟩
      have x2 : Ext H1 G1 (upd H1 r (L2.DX.itemsO r a)) G1 := .laid hr0
      exact ⟨r, a, d, G1, ps, rfl, upd_same, r1.laid hr0, q1.ext r1 x2, e1, ss, fun H' l hl x3 r3 => k (.ref l) _ (.ref l) H' (p1 l hl) ((x1.trans x2).trans x3) r3 (by rw [VR])⟩
    · exact p1.elim
end
end DL
namespace DL
open PySem PySem.Spec PyProof.Rows L2
def zipL (xs ys : List D) : List D := List.zipWith (fun a b => D.nd .tup [a, b]) xs ys
def zadj (T : DTA) : DTI := fun η G R => T η G fun ds G1 => match ds with
  | [.nd .tup xs, .nd .tup ys] => R (zipL xs ys) zdd G1
  | [.nd .lst xs, .nd .lst ys] => R (zipL xs ys) zdd G1
  | _ => False
theorem z4f {xs ys : List D} {i : Nat} {d : D} (h : (zipL xs ys)[i]? = some d) : ∃ x y, xs[i]? = some x ∧ ys[i]? = some y ∧ d = .nd .tup [x, y] := by
  unfold zipL at h
  rw [List.getElem?_zipWith] at h
  cases e1 : xs[i]? with
  | none => rw [e1] at h; cases h
  | some x =>
    cases e2 : ys[i]? with
    | none => rw [e1, e2] at h; cases h
    | some y => rw [e1, e2] at h; cases h; exact ⟨x, y, rfl, rfl, rfl⟩
theorem z1e {xs ys : List D} {i : Nat} (h : (zipL xs ys).length ≤ i) : xs.length ≤ i ∨ ys.length ≤ i := by
  unfold zipL at h
  rw [List.length_zipWith] at h
  omega
theorem ItzT.itD {K : Ml} {H1 : Hp} {G1 : DHp} {a b : Addr} {xs ys : List D} (h : ∀ H G, Ext H1 G1 H G → HR K H G → ∃ vs ws, SqT K.K H a vs ∧ SqT K.K H b ws ∧ VRs K H G xs vs ∧ VRs K H G ys ws) : ItD K H1 G1 (RZ.ItzT K.K a b) (zipL xs ys) zdd := by
  intro i H G x r o
  obtain ⟨vs, ws, qa, qb, va, vb⟩ := h H G x r
  refine ⟨fun d e => ?_, fun l => ⟨vs, ws, qa, qb, by rw [va.length, vb.length]; exact z1e l⟩⟩
  obtain ⟨p, q, e1, e2, rfl⟩ := z4f e
  obtain ⟨u, g1, r1⟩ := va.get e1
  obtain ⟨u2, g2, r2⟩ := vb.get e2
  refine ⟨⟨vs, ws, u, u2, qa, qb, g1, g2⟩, fun y H' ⟨T, z1, z2, e3, hT, e5, k1, k2⟩ => ?_⟩
  subst e3 e5
  have e6 := k1 vs qa
  have e7 := k2 ws qb
  rw [g1] at e6; cases e6
  rw [g2] at e7; cases e7
  have x2 : Ext H G (upd H T (.tup [u, u2])) G := .laid hT
  refine ⟨x2, r.laid hT, ?_⟩
  rw [VR]
  exact ⟨T, _, rfl, .inl (.inl upd_same), .cons (r1.ext r x2) (.cons (r2.ext r x2) .nil)⟩
theorem Itz.itD {K : Ml} {H1 : Hp} {G1 : DHp} {a b : Addr} {xs ys : List D} (h : ∀ H G, Ext H1 G1 H G → HR K H G → ∃ vs ws, SqL K.K H a vs ∧ SqL K.K H b ws ∧ VRs K H G xs vs ∧ VRs K H G ys ws) : ItD K H1 G1 (Itz K.K a b) (zipL xs ys) zdd := by
  intro i H G x r o
  obtain ⟨vs, ws, qa, qb, va, vb⟩ := h H G x r
  refine ⟨fun d e => ?_, fun l => ⟨vs, ws, qa, qb, by rw [va.length, vb.length]; exact z1e l⟩⟩
  obtain ⟨p, q, e1, e2, rfl⟩ := z4f e
  obtain ⟨u, g1, r1⟩ := va.get e1
  obtain ⟨u2, g2, r2⟩ := vb.get e2
  refine ⟨⟨vs, ws, u, u2, qa, qb, g1, g2⟩, fun y H' ⟨T, z1, z2, e3, hT, e5, k1, k2⟩ => ?_⟩
  subst e3 e5
  have e6 := k1 vs qa
  have e7 := k2 ws qb
  rw [g1] at e6; cases e6
  rw [g2] at e7; cases e7
  have x2 : Ext H G (upd H T (.tup [u, u2])) G := .laid hT
  refine ⟨x2, r.laid hT, ?_⟩
  rw [VR]
  exact ⟨T, _, rfl, .inl (.inl upd_same), .cons (r1.ext r x2) (.cons (r2.ext r x2) .nil)⟩
section
variable {X : Cx}
theorem zac2 [Bs] {e e2 : Expr} {T : DTA} {p pos tpos : Pos} {elts : List Expr} {kk : Nat} (hm : X.mg "zip" = none) (ha : PAD X [e, e2] T) (hg : Gl X "zip" := by rfl)
    (hs : starEach [e, e2] X.env = (false, eval e X.env) :: starEach [e2] X.env := by rfl) (hpl : (backTo pos (starEach [e2] X.env)).any (·.1) = false := by rfl) :
    PID X (.Tuple elts kk tpos) (.Call (.Name "zip" p) [e, e2] [] pos) (zadj T) := by
  refine ⟨fun pins s σ H R I ⟨η, G, P, hs', hr, t, k⟩ => (RZ.pi_zipA hg hm ha hs hpl).run pins s σ H R I ⟨η, G, _, hs', hr, t, fun ds G1 vs H1 p x r q => ?_⟩⟩
  split at p
  · rename_i xs ys
    obtain ⟨v1, r1, rfl, a1, q1⟩ := q.uncons
    obtain ⟨v2, r2, rfl, a2, q2⟩ := q1.uncons
    cases q2.nil_of
    rw [VR] at a1 a2
    obtain ⟨a, ws, rfl, ha, va⟩ := a1
    obtain ⟨b, us, rfl, hb, vb⟩ := a2
    exact ⟨a, b, ws, us, rfl, .inr ⟨ha, hb, k _ _ G1 _ H1 p x r (ItzT.itD fun H' G' x' r' => ⟨ws, us, Held.ext (k := .tup) r x' ha, Held.ext (k := .tup) r x' hb, va.ext r x', vb.ext r x'⟩)⟩⟩
  · rename_i xs ys
    obtain ⟨v1, r1, rfl, a1, q1⟩ := q.uncons
    obtain ⟨v2, r2, rfl, a2, q2⟩ := q1.uncons
    cases q2.nil_of
    rw [VR] at a1 a2
    obtain ⟨a, ws, rfl, ha, va⟩ := a1
    obtain ⟨b, us, rfl, hb, vb⟩ := a2
    exact ⟨a, b, ws, us, rfl, .inl ⟨zeo ha (.inl rfl), zeo hb (.inl rfl), k _ _ G1 _ H1 p x r (Itz.itD fun H' G' x' r' => ⟨ws, us, zeo (ha.ext r x') (.inl rfl), zeo (hb.ext r x') (.inl rfl), va.ext r x', vb.ext r x'⟩)⟩⟩
  · exact p.elim
def z1a (T : DTE) (R : DTA) : DTA := fun η G Q => T η G fun d G1 => match d with
  | .nd .tup xs => R η G1 fun ds G2 => Q (xs ++ ds) G2
  | .nd .lst xs => R η G1 fun ds G2 => Q (xs ++ ds) G2
  | _ => False
theorem zpg [Bs] {e : Expr} {es : List Expr} {T : DTE} {R : DTA} {p : Pos} (ha : PED X e T) (hb : PAD X es R) (hs : starEach (.Starred e p :: es) X.env = (true, eval e X.env) :: starEach es X.env := by rfl) : PAD X (.Starred e p :: es) (z1a T R) :=
  PA.impI (StX.pa_star ha hb hs) fun pins s σ H Q I ⟨η, G, P, hs, hr, t, k⟩ =>
    ⟨η, G, _, hs, hr, t, fun d1 G1 v1 H1 p1 x1 r1 q1 => by
      split at p1
      · rename_i xs
        rw [VR] at q1
        obtain ⟨a, vs, rfl, ha, va⟩ := q1
        exact ⟨a, vs, rfl, .inl ha, η, G1, _, hs.ext hr x1, r1, p1, fun ds G2 ws H2 p2 x2 r2 q2 => k (xs ++ ds) G2 (vs ++ ws) H2 p2 (x1.trans x2) r2 ((va.ext r1 x2).append q2)⟩
      · rename_i xs
        rw [VR] at q1
        obtain ⟨a, vs, rfl, ha, va⟩ := q1
        exact ⟨a, vs, rfl, .inr (zeo ha (.inl rfl)), η, G1, _, hs.ext hr x1, r1, p1, fun ds G2 ws H2 p2 x2 r2 q2 => k (xs ++ ds) G2 (vs ++ ws) H2 p2 (x1.trans x2) r2 ((va.ext r1 x2).append q2)⟩
      · exact p1.elim⟩
def z6x : DRn := d1 fun d G Q => match dicK d G with
  | some kvs => ∀ p, G p = none → Q (.ref p) (up G p (.dK kvs))
  | none => False
theorem z95 : zj9 X (.type "dict") z6x := zld fun pins s σ H G x v d P I rx hr q1 t => by
  split at t
  · rename_i kvs e
    obtain ⟨a, ws, rfl, h1, h2, h3⟩ := zqw hr q1 e
    cases rx
    refine d_copyOf I h1 fun p s' hp I' => ?_
    have x2 : Ext H G (upd H p (.dK ws)) (up G p (.dK kvs)) := .new hp
    exact ⟨.ref p, .ref p, _, _, I', rfl, t p (hr.free hp), x2, hr.new hp ⟨ws, upd_same, h2, h3.ext hr x2⟩, by rw [VR]⟩
  · exact t.elim
end
end DL
namespace DL
open PySem PySem.Spec PyProof.Rows L2
/-- the table of the built-in types, and of the classes cs by themselves -/
def zuh (cs : List Addr) : Value → Value → Option Bool := fun t u => match t, u with
  | .type a, .type b => tyIs a b
  | .ref C, .ref B => if C = B ∧ C ∈ cs then some true else none
  | _, _ => none
theorem z9r {K : PySem.W.Frag} {cs : List Addr} (h : ∀ C ∈ cs, IsC K C) : zac4 K (zuh cs) := by
  intro t u b e
  cases t with
  | type a =>
    cases u with
    | type c => exact ⟨zaal e, fun C z => nomatch z⟩
    | _ => cases e
  | ref C =>
    cases u with
    | ref B =>
      have e : (if C = B ∧ C ∈ cs then some true else none) = some b := e
      by_cases q : C = B ∧ C ∈ cs
      · rw [if_pos q] at e
        cases e
        obtain ⟨rfl, hC⟩ := q
        refine ⟨?_, fun C' z => by cases z; exact h _ hC⟩
        unfold PySem.W.kitOne
        rw [if_pos (by simp)]
      · rw [if_neg q] at e; cases e
    | _ => cases e
  | _ => cases u <;> cases e
section
variable {cs : List Addr} {G : DHp} {Q : DVK}
theorem z2p {i : Int} : (dIsi (zuh cs)) [.int i, .ty "int"] G Q ↔ Q (.bl true) G := Iff.rfl
theorem z2l {i : Int} : (dIsi (zuh cs)) [.int i, .ty "bool"] G Q ↔ Q (.bl false) G := Iff.rfl
theorem zhb {ds : List D} : (dIsi (zuh cs)) [.nd .tup ds, .ty "tuple"] G Q ↔ Q (.bl true) G := Iff.rfl
end
def z76 (i j l : Nat) (T : DTA) : DTS := fun F η G => T η G fun ds G1 => match ds with
  | [d, e, f] => F.nx (((η.set i (some d)).set j (some e)).set l (some f)) G1
  | _ => False
section
variable {X : Cx}
theorem z4i [Bs] {i j l : Nat} {x y z : Str} {a b c : Expr} {T : DTA} {px py pz pt pos : Pos} {kt k2 pt2} (hc : X.calm = true) (hN : X.N.Nodup) (hi : X.N[i]? = some x) (hj : X.N[j]? = some y) (hl : X.N[l]? = some z) (hij : i ≠ j) (hil : i ≠ l) (hjl : j ≠ l)
    (hx : X.env.scope.names.lookup x = some .local) (hy : X.env.scope.names.lookup y = some .local) (hz : X.env.scope.names.lookup z = some .local) (ha : PAD X [a, b, c] T)
    (hw : swappedStores [.Tuple [.Name x px, .Name y py, .Name z pz] kt pt] (.Tuple [a, b, c] k2 pt2) X.env = pure (some [x, y, z])) (hs : swapsWithSole [.Tuple [.Name x px, .Name y py, .Name z pz] kt pt] (.Tuple [a, b, c] k2 pt2) pos.line X.env = pure false := by rfl) :
    PSD X (.Assign [.Tuple [.Name x px, .Name y py, .Name z pz] kt pt] (.Tuple [a, b, c] k2 pt2) pos) (z76 i j l T) :=
  PS.impI (ps_par3 hc hN hi hj hl hij hil hjl hx hy hz ha hw hs) fun _ _ σ H E _ ⟨η, G, F, hs, hr, t, k⟩ => ⟨η, G, _, hs, hr, t, fun ds G1 vs H1 p1 x1 r1 q1 => by
    match ds, p1, q1 with
    | [d, e, f], p1, q1 =>
      obtain ⟨v, r, rfl, a1, q2⟩ := q1.uncons
      obtain ⟨w, r', rfl, a2, q3⟩ := q2.uncons
      obtain ⟨u, r'', rfl, a3, q4⟩ := q3.uncons
      rw [q4.nil_of]
      exact ⟨v, w, u, rfl, k.nx _ G1 _ H1 p1 x1 ((((hs.ext hr x1).set i a1).set j a2).set l a3) r1⟩
    | [], p1, _ => exact p1.elim
    | [_], p1, _ => exact p1.elim
    | [_, _], p1, _ => exact p1.elim
    | _ :: _ :: _ :: _ :: _, p1, _ => exact p1.elim⟩
end
end DL
namespace DL
open PySem PySem.Spec PyProof.Rows L2
section
variable {β : Type}
abbrev kI (i : Int) : Key := Sum.inl i
theorem z5l {a b : Int} : kI a = kI b ↔ a = b := ⟨fun h => by injection h, fun h => by rw [h]⟩
abbrev oK (f : β → D) (kvs : List (Int × β)) : DO := .dK (enc kI f kvs)
def eK (f : β → D) (kvs : List (Int × β)) : D := .nd (.dK ((enc kI f kvs).map (·.1))) ((enc kI f kvs).map (·.2))
theorem z2q (f : β → D) (kvs : List (Int × β)) : DO.tree (oK f kvs) = eK f kvs := rfl
theorem zwx (f : β → D) (kvs : List (Int × β)) (G : DHp) : dicK (eK f kvs) G = some (enc kI f kvs) := by
  show some (((enc kI f kvs).map (·.1)).zip ((enc kI f kvs).map (·.2))) = _
  rw [zsh]
theorem zaar {f : β → D} {kvs : List (Int × β)} {G : DHp} {p : Addr} (e : G p = some (oK f kvs)) : dicK (.ref p) G = some (enc kI f kvs) := by
  show (match G p with | some (.dK kvs) => some kvs | _ => none) = _
  rw [e]
theorem zv1 {x : D} {G : DHp} {kvs : List (Key × D)} (h : dicK x G = some kvs) : dicN x G = none ∧ der x G = x := by
  cases x with
  | ref p =>
    have h' : (match G p with | some (.dK kvs) => some kvs | _ => none) = some kvs := h
    show (match G p with | some (.dN kvs) => some kvs | _ => none) = none ∧ _
    rw [ztb]
    cases g : G p with
    | none => rw [g] at h'; cases h'
    | some o =>
      rw [g] at h'
      cases o with
      | dK kk => exact ⟨rfl, rfl⟩
      | _ => cases h'
  | nd kd es =>
    cases kd with
    | dK _ => exact ⟨rfl, rfl⟩
    | _ => cases h
  | _ => cases h
theorem z4y {x : D} {G : DHp} {kvs : List (Key × D)} (h : dicK x G = some kvs) : ∀ ds, x ≠ .nd .lst ds ∧ x ≠ .nd .tup ds ∧ x ≠ .nd .scr ds := by
  intro ds
  cases x with
  | nd kd es =>
    cases kd with
    | dK _ => exact ⟨(nomatch ·), (nomatch ·), (nomatch ·)⟩
    | _ => cases h
  | ref p => exact ⟨(nomatch ·), (nomatch ·), (nomatch ·)⟩
  | _ => cases h
variable {f : β → D} {kvs : List (Int × β)} {G : DHp} {Q : DVK} {a : Int}
theorem z7l {neg : Bool} {y : D} (h : dicK y G = some (enc kI f kvs)) (q : Q (.bl (neg != (aget kvs a).isSome)) G) : dIn neg (.int a) y G Q := by
  obtain ⟨h1, h2⟩ := zv1 h
  have h3 := z4y h
  unfold dIn
  rw [h2, h1, h]
  split
  · exact absurd rfl (h3 _).1
  · exact absurd rfl (h3 _).2.1
  · show Q (.bl (neg != (dval (enc kI f kvs) (kI a)).isSome)) G
    rw [zuy z5l, Option.isSome_map]
    exact q
theorem z6y {x : D} (h : dicK x G = some (enc kI f kvs)) (q : Q (((aget kvs a).map f).getD .non) G) : zabx [x, .int a] G Q := by
  obtain ⟨h1, h2⟩ := zv1 h
  show (match dicN x G with | some kvs => _ | none => _)
  rw [h1]
  show (match dicK x G with | some kvs => _ | none => _)
  rw [h]
  show Q ((dval (enc kI f kvs) (kI a)).getD .non) G
  rw [zuy z5l]
  exact q
theorem z83 {x : D} {b : β} (h : dicK x G = some (enc kI f kvs)) (hb : aget kvs a = some b) (q : Q (f b) G) : dIx x (.int a) G Q := by
  obtain ⟨h1, h2⟩ := zv1 h
  have h3 := z4y h
  unfold dIx
  rw [h2, h1, h]
  split
  · exact absurd rfl (h3 _).1
  · exact absurd rfl (h3 _).2.2
  · exact absurd rfl (h3 _).2.1
  · show (match dval (enc kI f kvs) (kI a) with | some d => Q d G | none => False)
    rw [zuy z5l, hb]
    exact q
theorem zvd {p : Addr} {b : β} {R : DHp → Prop} (h : G p = some (oK f kvs)) (hl : kvs.length < sizeLine) (q : R (up G p (oK f (aput kvs a b)))) : dSet (.ref p) (.int a) (f b) G R := by
  show (match G p with | some (.lst ds) => _ | some (.dN kvs) => _ | some (.dK kvs) => _ | _ => False)
  rw [h]
  show (match (D.int a).kK with | some k => _ | none => False)
  show (enc kI f kvs).length < sizeLine ∧ R (up G p (.dK (dput (enc kI f kvs) (kI a) (f b))))
  refine ⟨by unfold enc; rw [List.length_map]; exact hl, ?_⟩
  rw [z4x z5l]
  exact q
theorem z8o {x : D} (h : dicK x G = some (enc kI f kvs)) (q : ∀ p, G p = none → Q (.ref p) (up G p (oK f kvs))) : z6x [x] G Q := by
  show (match dicK x G with | some kvs => _ | none => False)
  rw [h]
  exact q
theorem zafo : tyD "dict" (eK f kvs) G := rfl
/-- the items of a dict that is changed no more -/
theorem z75 (f : β → D) (kvs : List (Int × β)) : dicP (eK f kvs) = some (kvs.map fun p => (.int p.1, f p.2)) := by
  show some ((((enc kI f kvs).map (·.1)).map kD).zip ((enc kI f kvs).map (·.2))) = _
  unfold enc
  rw [List.map_map, List.map_map, List.map_map, List.zip_map']
  rfl
end
end DL
namespace DL
open PySem PySem.Spec PyProof.Rows L2
/-- the lists that stand in a list, each changed no more -/
def frL : List D → DHp → Option (List D × DHp)
  | [], G => some ([], G)
  | d :: ds, G => match d with
    | .ref p => (match G p with
      | some (.lst es) => (match frL ds (dl G p) with
        | some (x, G') => some (.nd .lst es :: x, G')
        | none => none)
      | _ => none)
    | _ => none
theorem zabj {K : Ml} {H : Hp} : ∀ {ds : List D} {G : DHp} {x : List D} {G' : DHp} {vs : List V}, frL ds G = some (x, G') → HR K H G → VRs K H G ds vs → VRs K H G' x vs ∧ Ext H G H G' ∧ HR K H G'
  | [], G, x, G', vs, e, hr, q => by
    cases e
    exact ⟨by rw [q.nil_of]; exact .nil, .refl _ _, hr⟩
  | d :: ds, G, x, G', vs, e, hr, q => by
    obtain ⟨v, r, rfl, q1, q2⟩ := q.uncons
    cases d with
    | ref p =>
      rw [VR] at q1
      subst q1
      have e : (match G p with
        | some (.lst es) => (match frL ds (dl G p) with
          | some (x, G') => some (D.nd .lst es :: x, G')
          | none => none)
        | _ => none) = some (x, G') := e
      cases hG : G p with
      | none => rw [hG] at e; cases e
      | some o =>
        rw [hG] at e
        cases o with
        | lst es =>
          simp only at e
          cases hf : frL ds (dl G p) with
          | none => rw [hf] at e; cases e
          | some y =>
            obtain ⟨y, G2⟩ := y
            rw [hf] at e
            cases e
            obtain ⟨t1, t2, t3⟩ := hr.tree (H' := H) hG rfl
            obtain ⟨a1, a2, a3⟩ := zabj hf t3 (q2.ext hr t2)
            exact ⟨.cons (t1.ext t3 a2) a1, t2.trans a2, a3⟩
        | _ => cases e
    | _ => cases e
def z9l (i : Nat) (t : DTS) : DTS := fun F η G => match η[i]? with
  | some (some (.ref a)) => (match G a with
    | some (.lst ds) => (match frL ds (dl G a) with
      | some (x, G') => t F (η.set i (some (.nd .lst x))) G'
      | none => False)
    | _ => False)
  | _ => False
theorem z8a [Bs] {X : Cx} {sts : List Stmt} {t : DTS} (i : Nat) (h : PSsD X sts t) : PSsD X sts (z9l i t) := ⟨fun pins s σ H E I ⟨η, G, F, hs, hr, t, k⟩ => by
    unfold z9l at t
    split at t
    · rename_i a e
      split at t
      · rename_i ds ho
        split at t
        · rename_i x G' hf
          obtain ⟨v, q, r⟩ := hs.2 i _ e
          rw [VR] at r
          subst r
          obtain ⟨t1, t2, t3⟩ := hr.tree (H' := H) ho rfl
          have t1 : VR X.ml H (dl G a) (.nd .lst ds) (.ref a) := t1
          rw [VR] at t1
          obtain ⟨b, vs, eb, hb, qs⟩ := t1
          cases eb
          obtain ⟨a1, a2, a3⟩ := zabj hf t3 qs
          have tv : VR X.ml H G' (.nd .lst x) (.ref a) := by
            rw [VR]
            exact ⟨a, vs, rfl, hb.ext t3 a2, a1⟩
          have s2 : SR X.ml H G' σ (η.set i (some (.nd .lst x))) := by
            have z := (hs.ext hr (t2.trans a2)).set i tv
            have e2 : σ.set i (some (V.ref a)) = σ := by
              refine List.ext_getElem? fun j => ?_
              by_cases hj : i = j
              · subst hj
                rw [List.getElem?_set_self (List.getElem?_eq_some_iff.mp q).1, q]
              · rw [List.getElem?_set_ne hj]
            rw [e2] at z; exact z
          exact h.run pins s σ H E I ⟨_, _, F, s2, a3, t, k.ext (t2.trans a2)⟩
        · exact t.elim
      · exact t.elim
    · exact t.elim⟩
end DL
namespace DL
open PySem PySem.Spec PyProof.Rows L2
/-- what else is tracked, then the draws -/
abbrev Gw (G : DHp) (a : Addr) (ns : List Int) (c : Int) : DHp := up G a (drw ns c)
theorem z1f {G : DHp} {a p : Addr} {ns : List Int} {c : Int} {o : DO} (h : Gw G a ns c p = none) : up (Gw G a ns c) p o = Gw (up G p o) a ns c ∧ a ≠ p := by
  have hn : a ≠ p := fun e => by
    subst e
    rw [show Gw G a ns c a = some (drw ns c) from zi] at h
    cases h
  exact ⟨(zl3 hn), hn⟩
theorem zw3 {G : DHp} {a p : Addr} {ns : List Int} {c : Int} (hn : a ≠ p) (h : Gw G a ns c p = none) : G p = none := by
  rw [show Gw G a ns c p = G p from zj2 (Ne.symm hn)] at h
  exact h
theorem zacb {G : DHp} {a p : Addr} {ns : List Int} {c : Int} {o : DO} (hn : a ≠ p) (h : G p = none) : dl (Gw (up G p o) a ns c) p = Gw G a ns c := by
  show dl (up (up G p o) a _) p = _
  rw [zaa2 hn, zbv h]
theorem z33 {G : DHp} {a p : Addr} {ns : List Int} {c : Int} {o o' : DO} (hn : a ≠ p) : up (Gw (up G p o) a ns c) p o' = Gw (up G p o') a ns c := by
  show up (up (up G p o) a _) p o' = _
  rw [zl3 (a := a) (b := p) hn, zft]
theorem zm4 {G : DHp} {a p : Addr} {ns : List Int} {c : Int} {o : DO} (hn : a ≠ p) : Gw (up G p o) a ns c p = some o := by
  show up (up G p o) a _ p = _
  rw [zj2 (Ne.symm hn), zi]
theorem zer {G : DHp} {a : Addr} {ns : List Int} {c n : Int} {Q : DVK} (hn : 0 < n) (hl : ns.length ≤ 63) (q : ∀ r : Int, 0 ≤ r → r < n → Q (.int r) (Gw G a ns (c + 1))) : zl [.ref a, .int n] (Gw G a ns c) Q :=
  zaa4 hn hl zi fun r h0 h1 => by rw [zft]; exact q r h0 h1
theorem zib {x y : D} {xs ys : List D} {G : DHp} {Q : DVK} (h1 : der x G = .nd .lst xs) (h2 : der y G = .nd .lst ys) (hl : xs.length + ys.length ≤ sizeLine) (q : Q (.nd .lst (xs ++ ys)) G) : dAdd x y G Q := by
  unfold dAdd
  rw [h1, h2]
  exact ⟨hl, q⟩
theorem z5d {p : Addr} {y : D} {xs ys : List D} {G : DHp} {Q : DVK} (h1 : G p = some (.lst xs)) (h2 : der y G = .nd .lst ys) (hl : xs.length + ys.length ≤ sizeLine) (q : Q (.ref p) (up G p (.lst (xs ++ ys)))) : zy8 (.ref p) y G Q := by
  show onL (.ref p) G fun a ds => (match der y G with | .nd .lst es => ds.length + es.length ≤ sizeLine ∧ Q (.ref a) (up G a (.lst (ds ++ es))) | _ => False)
  refine zaa8 h1 ?_
  rw [h2]
  exact ⟨hl, q⟩
theorem zkz {n : Nat} (h : n ≤ 1000000) : n ≤ sizeLine := Nat.le_of_lt (zas h)
theorem zjk {α : Type} [DecidableEq α] : ∀ {ys xs : List α}, ys.Nodup → (∀ y ∈ ys, y ∈ xs) → ys.length ≤ xs.length
  | [], _, _, _ => Nat.zero_le _
  | y :: ys, xs, hn, h => by
    rw [List.nodup_cons] at hn
    have hy := h y (by simp)
    have := zjk (ys := ys) (xs := xs.erase y) hn.2 fun z hz => (List.mem_erase_of_ne (show z ≠ y from fun e => hn.1 (e ▸ hz))).mpr (h z (by simp [hz]))
    rw [List.length_erase_of_mem hy] at this
    have := List.length_pos_of_mem hy
    rw [List.length_cons]
    omega
theorem zmj {d : D} {ds : List D} {G : DHp} {Q : DVK} (h : sqD d G = some ds) : zmr [d] G Q = Q (.nd .tup ds) G := by
  unfold zmr d1
  simp only [h]
theorem zm0 {α : Type} {f : α → D} {xs : List α} {G : DHp} {Q : DVK} : dLen [eL f xs] G Q = Q (.int xs.length) G := by
  rw [zqx (ds := xs.map f) rfl, List.length_map]
theorem ze1 {ds : List D} {i : Int} {d : D} {G : DHp} {Q : DVK} (h0 : 0 ≤ i) (e : ds[i.toNat]? = some d) (q : Q d G) : dIx (.nd .tup ds) (.int i) G Q := by
  show atD ds (.int i) fun d => Q d G
  exact zo6 h0 e q
theorem z4k {α β : Type} [DecidableEq α] (kvs : List (α × β)) (a c : α) (b : β) : c ∈ (aput kvs a b).map (·.1) ↔ c ∈ kvs.map (·.1) ∨ c = a := by
  rw [zvl]
  split
  · rename_i h
    rw [zgr] at h
    constructor
    · exact .inl
    · rintro (h' | rfl)
      · exact h'
      · exact h
  · rw [List.mem_append, List.mem_singleton]
theorem zzx {G : DHp} {p : Addr} {kvs : List (Key × D)} (h : G p = some (.dK kvs)) (xs : List D) : G p ≠ some (.lst xs) := by rw [h]; exact (nomatch ·)
theorem zdz {α : Type} {l : List α} {i : Nat} {x : α} (h : l[i]? = some x) : l.take (i + 1) = l.take i ++ [x] := by
  rw [List.take_add_one, h]; rfl
theorem z84 {G : DHp} {Q : DVK} : dIsN true .non .non G Q = Q (.bl false) G := rfl
theorem zaco {a : Int} {G : DHp} {Q : DVK} : dIsN true (.int a) .non G Q = Q (.bl true) G := rfl
theorem ztk {α : Type} {f : α → D} {xs : List α} {G : DHp} {Q : DVK} : dLen [eT f xs] G Q = Q (.int xs.length) G := by
  rw [zqx (ds := xs.map f) rfl, List.length_map]
/-- an item of a list or a tuple that stays -/
theorem z3s {α : Type} {f : α → D} {xs : List α} {i : Int} {x : α} {G : DHp} {Q : DVK} (h0 : 0 ≤ i) (e : xs[i.toNat]? = some x) (q : Q (f x) G) : dIx (eL f xs) (.int i) G Q := by
  show atD (xs.map f) (.int i) fun d => Q d G
  exact zo6 h0 (by rw [List.getElem?_map, e]; rfl) q
/-- an item of a tracked list -/
theorem z74 {p : Addr} {ds : List D} {i : Int} {d : D} {G : DHp} {Q : DVK} (hp : G p = some (.lst ds)) (h0 : 0 ≤ i) (e : ds[i.toNat]? = some d) (q : Q d G) : dIx (.ref p) (.int i) G Q := by
  unfold dIx
  rw [zsd hp]
  exact zo6 h0 e q
/-- a list is not empty: of plain things with short depth -/
theorem zz9 {x : D} {xs : List D} {G : DHp} {Q : DVK} (h : der x G = .nd .lst xs) (hc : cleans xs = true) (hd : ∀ d ∈ xs, (py d).depth ≤ 60) (q : Q (.bl (!xs.isEmpty)) G) : dNe x (.nd .lst []) G Q := by
  refine z11 (by rw [h]; rw [zb6]; exact hc) rfl (by rw [h]; exact Nat.le_trans (z1s hd) (by decide)) (by show (py (.nd .lst [])).depth ≤ 64; rw [py, pys]; decide) _ ?_ q
  rw [h]
  cases xs with
  | nil => simp [der]
  | cons d ds => simp [der]
theorem zab6 {p : Addr} {xs : List Int} {G : DHp} {Q : DVK} (h : G p = some (.lst (xs.map .int))) (q : Q (.bl (!xs.isEmpty)) G) : dNe (.ref p) (.nd .lst []) G Q := by
  refine zz9 (zsd h) (zc1 (fun _ => rfl) xs) (fun d hd => ?_) ?_
  · obtain ⟨i, _, rfl⟩ := List.mem_map.mp hd
    rw [zfc]; decide
  · rw [List.isEmpty_map]; exact q
theorem zaaw {p : Addr} {d : D} {ds : List D} {G : DHp} {Q : DVK} (h : G p = some (.lst (d :: ds))) (q : Q d (up G p (.lst ds))) : tyD "list" (.ref p) G ∧ z4z [.ref p, .int 0] G Q := by
  refine ⟨by simp only [tyD, h], ?_⟩
  have e : ixN (d :: ds).length 0 = some 0 := by simp [ixN]
  simp only [z4z, d2, onL, h, e, List.getElem?_cons_zero, List.eraseIdx_cons_zero]
  exact q
theorem z5j {p : Addr} {d : D} {ds : List D} {G : DHp} {Q : DVK} (h : G p = some (.lst (ds ++ [d]))) (q : Q d (up G p (.lst ds))) : tyD "list" (.ref p) G ∧ dPop [.ref p] G Q := by
  refine ⟨by simp only [tyD, h], ?_⟩
  have e : (ds ++ [d])[(ds ++ [d]).length - 1]? = some d := by simp
  simp only [dPop, d1, onL, h, e, List.dropLast_concat]
  exact q
end DL
namespace DL
open PySem PySem.Spec PyProof.Rows L2
section
variable {α β : Type} [DecidableEq α] {k : α → NestedKey} {e : α → D} {f : β → D} {kvs : List (α × β)} {G : DHp} {Q : DVK} {a : α}
theorem zph {α : Type} {motive : List α → Prop} (h0 : motive []) (h1 : ∀ l x, motive l → motive (l ++ [x])) (l : List α) : motive l := by
  have go : ∀ r : List α, motive r.reverse := fun r => by
    induction r with
    | nil => exact h0
    | cons x r ih => rw [List.reverse_cons]; exact h1 _ _ ih
  have := go l.reverse
  rwa [List.reverse_reverse] at this
end
end DL
namespace DL
open PySem PySem.Spec PyProof.Rows L2
/-- [y for x in xs if ..]: what is told of one x, pure, is told of all -/
theorem z2o {wi : DTI} {g : DTG} {tt : DTT} {te : DTE} {own : List Nat} {η : DSt} {G : DHp} {Q : DVK} {α : Type} {xs : List α} {f : α → D} (fb : α → Bool) (h : α → D) (hl : xs.length ≤ 1000000)
    (hw : ∀ R, R (xs.map f) zdd G → wi η G R)
    (hb : ∀ x ∈ xs, ∀ (G1 : DHp) (A : DVK) (B : DHp → Prop), (fb x = true → A (h x) G1) → (fb x = false → B G1) → g (f x) (zjv η own) G1 fun η2 G2 => tt η2 G2 fun b G3 => if b = true then te η2 G3 A else B G3)
    (q : ∀ p, G p = none → Q (.ref p) (up G p (.lst ((xs.filter fb).map h)))) : dLc wi g tt te own η G Q := by
  refine hw _ ?_
  intro p hp
  refine ⟨fun i acc G' => acc = ((xs.take i).filter fb).map h ∧ G' = up G p (.lst acc), ⟨rfl, rfl⟩, ?_, ?_, ?_⟩
  · rintro i acc G' ⟨rfl, rfl⟩
    exact ⟨trivial, zi⟩
  · rintro i d acc G' hd ⟨rfl, rfl⟩
    obtain ⟨x, hx, rfl⟩ := zbz hd
    refine hb x (List.mem_of_getElem? hx) _ _ _ (fun e => ⟨zas ?_, zi, ?_, by rw [zft]⟩) fun e => ⟨?_, rfl⟩
    · rw [List.length_map]
      refine Nat.le_trans (List.length_filter_le _ _) ?_
      rw [List.length_take]
      omega
    · rw [zdz hx, List.filter_append, List.map_append]
      simp [e]
    · rw [zdz hx, List.filter_append, List.map_append]
      simp [e]
  · rintro acc G' ⟨rfl, rfl⟩
    rw [List.length_map, List.take_length]
    exact q p hp
/-- [y for x in xs] -/
theorem zmn {wi : DTI} {g : DTG} {te : DTE} {own : List Nat} {η : DSt} {G : DHp} {Q : DVK} {α : Type} {xs : List α} {f : α → D} (h : α → D) (hl : xs.length ≤ 1000000)
    (hw : ∀ R, R (xs.map f) zdd G → wi η G R)
    (hb : ∀ x ∈ xs, ∀ (G1 : DHp) (A : DVK), A (h x) G1 → g (f x) (zjv η own) G1 fun η2 G2 => te η2 G2 A)
    (q : ∀ p, G p = none → Q (.ref p) (up G p (.lst (xs.map h)))) : dLc wi g dYes te own η G Q := by
  refine z2o (f := f) (fun _ => true) h hl hw (fun x hx G1 A B a _ => ?_) fun p hp => ?_
  · have := hb x hx G1 A (a rfl)
    simpa only [dYes, if_true] using this
  · have := q p hp
    rwa [List.filter_eq_self.mpr fun _ _ => rfl]
theorem z64 {α : Type} (f : α → D) (xs : List α) : zql (xs.map f) = (xs.mapIdx fun i x => ((i : Int), x)).map fun z => .nd .tup [.int z.1, f z.2] := by
  unfold zql
  refine List.ext_getElem? fun i => ?_
  rw [List.getElem?_mapIdx, List.getElem?_map, List.getElem?_map, List.getElem?_mapIdx]
  cases xs[i]? <;> rfl
theorem znb {α : Type} {xs : List α} {b : α → Bool} {G : DHp} {Q : DVK} (q : Q (.bl (xs.all b)) G) : dAll [.nd .lst (xs.map fun x => .bl (b x))] G Q := by
  refine ⟨xs.map b, ?_, ?_⟩
  · show some _ = some _
    rw [List.map_map]; rfl
  · rw [List.all_map]; exact q
theorem z9c {α : Type} {xs : List α} {b : α → Bool} {G : DHp} {Q : DVK} (q : Q (.bl (xs.any b)) G) : dAny [.nd .lst (xs.map fun x => .bl (b x))] G Q := by
  refine ⟨xs.map b, ?_, ?_⟩
  · show some _ = some _
    rw [List.map_map]; rfl
  · rw [List.any_map]; exact q
theorem zu8 (ds : List D) (k : Nat) : cutD ds (some (k : Int)) none = ds.drop k := by
  unfold cutD
  rw [HT.sIx_nat, HT.sIx_none]
  by_cases h : k ≤ ds.length
  · rw [Nat.min_eq_left h, List.take_of_length_le (by rw [List.length_drop]; exact Nat.le_refl _)]
  · rw [Nat.min_eq_right (by omega), List.drop_eq_nil_of_le (Nat.le_refl _), List.drop_eq_nil_of_le (by omega), List.take_nil]
theorem zze (ds : List D) (k : Nat) : cutD ds none (some (k : Int)) = ds.take k := by
  unfold cutD
  rw [HT.sIx_nat, HT.sIx_none, List.drop_zero, Nat.sub_zero]
  by_cases h : k ≤ ds.length
  · rw [Nat.min_eq_left h]
  · rw [Nat.min_eq_right (by omega), List.take_of_length_le (Nat.le_refl _), List.take_of_length_le (by omega)]
end DL
namespace DL
open PySem PySem.Spec PyProof.Rows L2
end DL
namespace DL
open PySem PySem.Spec PyProof.Rows L2
end DL
namespace DL
open PySem PySem.Spec PyProof.Rows L2
end DL
namespace DL
open PySem PySem.Spec PyProof.Rows L2
end DL
namespace DL
open PySem PySem.Spec PyProof.Rows L2
section
variable {prog : Program} {w : World} {A : Around} {E : Value → Shared → Prop} {s : Shared}
theorem zvr {d : Addr} {xs : List (NestedKey × Addr × Value)} {Q : Value → Shared → Prop} (hu : A.units + 1 + 1 + 8 < cLine) (hdS : (d == sysModules) = false) (hm : s.heap.DictOfH (nestedKind prog w) d xs) (hsz : xs.length ≤ sizeLine)
    (hty : ∀ x ∈ xs, ∃ ks, x.1 = .tup ks) (hap : (xs.map fun x => x.1.hash w).Nodup)
    (h : ∀ h', h'.DictOfH (nestedKind prog w) s.heap.objs.size xs → (∀ b o, s.heap.get? b = some o → h'.get? b = some o) → Q (.ref s.heap.objs.size) { s with heap := h' }) :
    wpAny (model prog w) A (call (.type "dict") [.ref d]) Q E s := by
  refine callType_codes (Q₁ := fun obj s₁ => obj = .ref s.heap.objs.size ∧ s₁ = { s with heap := s.heap.push { cls := .type "dict", data := .dict #[] } }) F.kt_called_dict (F.kt_typeCall_dict_1 _) F.entry_dict_init (kt_code_dict_new _ ⟨rfl, rfl⟩) ?_
  rintro obj s₁ ⟨rfl, rfl⟩
  have hT : Shared.TypeIs { s with heap := s.heap.push { cls := .type "dict", data := .dict #[] } } (.ref s.heap.objs.size) "dict" := ⟨_, Heap.get?_push_size _ rfl, rfl⟩
  refine ⟨hT, F.args_dict_init_2 _ _, ?_⟩
  unfold Builtin.«dict.__init__»
  refine wpAny_bind ?_
  unfold Builtin.Dict.selfAndRest
  refine wpAny_bind (wpAny_notOrdered_dict hT ?_)
  show wpAny _ _ (pure (s.heap.objs.size, [Value.ref d])) _ _ _
  refine wpAny_pure ?_
  obtain ⟨o, es, ep, ho, hc, hdat, he, his, hn⟩ := id hm
  have hne : s.heap.objs.size ≠ d := Nat.ne_of_gt (Heap.lt_size ho)
  have kk : ∀ b o, s.heap.get? b = some o → (s.heap.push { cls := .type "dict", data := .dict #[] }).get? b = some o := fun b o e => Heap.get?_push_of_some _ e
  have st : ∀ h', (∀ b o, s.heap.get? b = some o → h'.get? b = some o) → ∀ x ∈ xs, (nestedKind prog w).is h' x.1 x.2.1 := fun h' hk x hx =>
    nestedKind_stays.stays (fun b o vs n e _ => hk b o e) (his x hx)
  have hm' : (s.heap.push { cls := .type "dict", data := .dict #[] }).DictOfH (nestedKind prog w) d xs := ⟨o, es, ep, kk _ _ ho, hc, hdat, he, st _ kk, hn⟩
  refine updateFrom_dictH (A := A.in1) (knd := nestedKind prog w) (kvs := []) (more := xs) .none hu hne hdS (Heap.DictOfH.new s.heap) hm' (.inr ⟨fun x hx => ?_, hap⟩) (by simpa using hsz) fun h' hd' _ hs => ?_
  · obtain ⟨ks, e⟩ := hty x hx
    have := (st _ kk x hx).1
    rw [e] at this
    generalize hv : Value.ref x.2.1 = v at this
    cases this with
    | tup e1 e2 => cases hv; exact ⟨_, e1, e2⟩
  · rw [storedAllH_nil_of_nodup xs hn] at hd'
    exact ⟨rfl, h h' hd' fun b o e => (hs.2 b (Nat.ne_of_lt (Heap.lt_size e))).trans (kk b o e)⟩
end
def z9g : DRn := d1 fun x G Q => match dicN x G with
  | some kvs => (∀ p ∈ kvs, ∃ ks, p.1 = .tup ks) ∧ (∀ w, (kvs.map fun p => p.1.hash w).Nodup) ∧ ∀ q, G q = none → Q (.ref q) (up G q (.dN kvs))
  | none => False
section
variable {X : Cx}
theorem zaay (hu : X.A.units + 64 < cLine) : zj9 X (.type "dict") z9g := zld fun pins s σ H G x v d P I rx hr q1 t => by
  split at t
  · rename_i kvs e
    obtain ⟨t1, t2, t⟩ := t
    obtain ⟨a, ws, rfl, dn, vr⟩ := zqv hr q1 e
    cases rx
    obtain ⟨xs, es, ep, h1, h2, h3, h4, h5, h6, h7, h9, h10⟩ := DnAt.of I dn
    have hl : xs.length = kvs.length := by have := congrArg List.length h6; rwa [List.length_map, List.length_map] at this
    have hk : ∀ x ∈ xs, ∃ p ∈ kvs, p.1 = x.1 := fun x hx => by
      have : x.1 ∈ kvs.map (·.1) := by rw [← h6]; exact List.mem_map.mpr ⟨x, hx, rfl⟩
      obtain ⟨p, hp, e⟩ := List.mem_map.mp this
      exact ⟨p, hp, e⟩
    refine zvr (by omega) h5 h4 (by rw [hl]; rw [List.length_map] at h7; exact h7) (fun x hx => ?_) ?_ fun h' hd' hs => ?_
    · obtain ⟨p, hp, e⟩ := hk x hx
      rw [← e]
      exact t1 p hp
    · have : (xs.map fun x => x.1.hash X.w) = kvs.map fun p => p.1.hash X.w := by
        have := congrArg (List.map fun k : NestedKey => k.hash X.w) h6
        rwa [List.map_map, List.map_map] at this
      rw [this]
      exact t2 X.w
    · obtain ⟨o', es', ep', ho', hx', hdat', he', _, hn'⟩ := hd'
      have raw : h'.DictRaw s.heap.objs.size es' ep' := ⟨o', ho', hx', hdat'⟩
      have hp : H s.heap.objs.size = none := I.hok.fresh (Nat.le_refl _)
      have I' : Inv X pins σ (upd H s.heap.objs.size (rawO s.heap.objs.size es' ep')) { s with heap := h', toks := s.toks } :=
        I.laid (t' := s.toks) (fun b o e => hs b o e) (Nat.le_refl _) ⟨raw, ⟨o', ho'⟩, fun h1 h2 φ k => φ.at k⟩
      have x2 : Ext H G (upd H s.heap.objs.size (rawO s.heap.objs.size es' ep')) (up G s.heap.objs.size (.dN kvs)) := .new hp
      refine ⟨.ref _, .ref _, _, _, I', rfl, t _ (hr.free hp), x2, hr.new hp ⟨ws, ?_, vr.ext hr x2⟩, by rw [VR]⟩
      exact ⟨xs, es', ep', upd_same, z4r I, he', h6, by rw [← h6]; exact hn', h7, fun y hy => ⟨(h9 y hy).1.ext hr x2, (h9 y hy).2⟩, h10⟩
  · exact t.elim
end
end DL
namespace DL
open PySem PySem.Spec PyProof.Rows L2
/-- {k: v}: tracked; it stands empty while the pair is made -/
def z8s (Tk Tv : DTE) : DTE := fun η G Q => ∀ p, G p = none → Tk η (up G p (.dN [])) fun y G1 => Tv η G1 fun z G2 => G2 p = some (.dN []) ∧ ∃ k, D.key y = some k ∧ (∃ ks, y = .nd .tup ks) ∧ k.depth ≤ 8 ∧ Q (.ref p) (up G2 p (.dN [(k, z)]))
section
variable {X : Cx}
theorem z8v [Bs] {ke ve : Expr} {pos : Pos} {Tk Tv : DTE} (hu : X.A.units + 64 < cLine) (hk : PED X ke Tk) (hv : PED X ve Tv) : PED X (.Dict [some ke] [ve] pos) (z8s Tk Tv) := ⟨fun pins s σ H Q I ⟨η, G, P, hs, hr, t, k⟩ => by
  have hp : H s.heap.objs.size = none := I.hok.fresh (Nat.le_refl _)
  have I1 := z1y I
  have x1 : Ext H G (upd H s.heap.objs.size (rawO s.heap.objs.size #[] 0)) (up G s.heap.objs.size (.dN [])) := .new hp
  have r1 : HR X.ml (upd H s.heap.objs.size (rawO s.heap.objs.size #[] 0)) (up G s.heap.objs.size (.dN [])) := hr.new hp ⟨[], zyt upd_same (z4r I), .nil⟩
  show wpAny (model X.prog X.w) X.A (eval (.Dict [some ke] [ve] pos) X.env) (EP X pins σ Q) X.xe s
  rw [arm_eval_Dict, show (evalEachOpt [some ke] X.env).zip ((evalEach [ve] X.env).map fun v => do let x ← v; standAt pos; pure x) = ([(eval ke X.env, do let x ← eval ve X.env; standAt pos; pure x)] : List (Sem Value × Sem Value)).map (fun p => (some p.1, p.2)) from rfl,
    dictDisplay_pairs _ (by simp) (by simp)]
  refine wpAny_bind (wpAny_standAt (wpAny_bind (wpAny_subDictH (knd := nestedKind X.prog X.w) (Q := fun d s' => wpAny (model X.prog X.w) X.A (pure (Value.ref d)) (EP X pins σ Q) X.xe s') (by show X.A.units + 8 < cLine; omega) (by simp) ?_)))
  refine evalPairs_cons (thn (hk.run pins _ σ _ (fun v H1 => ∃ y G1, (Tv η G1 fun z G2 => G2 s.heap.objs.size = some (.dN []) ∧ ∃ k, D.key y = some k ∧ (∃ ks, y = .nd .tup ks) ∧ k.depth ≤ 8 ∧ P (.ref s.heap.objs.size) (up G2 s.heap.objs.size (.dN [(k, z)]))) ∧
      Ext (upd H s.heap.objs.size (rawO s.heap.objs.size #[] 0)) (up G s.heap.objs.size (.dN [])) H1 G1 ∧ HR X.ml H1 G1 ∧ VR X.ml H1 G1 y v) I1 ⟨η, _, _, hs.ext hr x1, r1, t _ (hr.free hp), fun y G1 v H1 p x r q => ⟨y, G1, p, x, r, q⟩⟩) fun kv s1 ⟨y', H1, I2, ry, y, G1, t1, x2, r2, q1⟩ => ?_)
  refine wpAny_bind (thn (hv.run pins s1 σ H1 (fun v H2 => ∃ z G2, (G2 s.heap.objs.size = some (.dN []) ∧ ∃ k, D.key y = some k ∧ (∃ ks, y = .nd .tup ks) ∧ k.depth ≤ 8 ∧ P (.ref s.heap.objs.size) (up G2 s.heap.objs.size (.dN [(k, z)]))) ∧
      Ext H1 G1 H2 G2 ∧ HR X.ml H2 G2 ∧ VR X.ml H2 G2 z v) I2 ⟨η, _, _, (hs.ext hr x1).ext r1 x2, r2, t1, fun z G2 v H2 p x r q => ⟨z, G2, p, x, r, q⟩⟩) fun vv s2 ⟨z', H2, I3, rz, z, G2, ⟨hG, kk, ek, ⟨ks, ey⟩, h8, t2⟩, x3, r3, q2⟩ => ?_)
  refine wpAny_bind (wpAny_standAt (wpAny_pure (evalPairs_nil ?_)))
  subst ey
  have q1' := q1.ext r2 x3
  have ka := zt8 q1' ek
  rw [VR] at q1'
  obtain ⟨b, ws, rfl, hb, rb⟩ := q1'
  cases (show kv = Value.ref b from ry)
  obtain ⟨vs, dn, vr⟩ := r3 _ _ hG
  obtain ⟨xs, es, ep, g1, g2, g3, g4, g5, g6, g7, g9, g10⟩ := DnAt.of I3 dn
  have hxs : xs = [] := by
    have := congrArg List.length g6
    rw [List.length_map] at this
    exact List.length_eq_zero_iff.mp this
  subst hxs
  refine ⟨[(kk, b, vv)], ⟨rfl, rfl, ⟨zio I3 ka rfl, h8⟩, trivial⟩, g4, fun h' tk hm' hs' => ?_⟩
  obtain ⟨H4, I4, x4, r4⟩ := z8m (t' := tk) I3 r3 hG g1 g5 g4 (by simp) (fun _ h => nomatch h) g10 vr ka h8 q2 rz (by rw [sizeLine_eq]; decide) hm' hs'
  exact wpAny_pure ⟨.ref _, _, I4, rfl, k _ _ _ _ t2 (((x1.trans x2).trans x3).trans x4) r4 (by rw [VR])⟩⟩
end
end DL
namespace DL
open PySem PySem.Spec PyProof.Rows L2
end DL
namespace DL
open PySem PySem.Spec PyProof.Rows L2
section
variable {β : Type} {f : β → D} {kvs : List (Int × β)} {G : DHp} {Q : DVK} {a : Int}
def z3c {α β : Type} [DecidableEq α] (kvs : List (α × β)) (a : α) : List (α × β) := kvs.filter fun p => decide (p.1 ≠ a)
theorem z6k {α β : Type} [DecidableEq α] (kvs : List (α × β)) (a c : α) : aget (z3c kvs a) c = if c = a then none else aget kvs c := by
  unfold aget z3c
  induction kvs with
  | nil => simp
  | cons p kvs ih =>
    by_cases h : p.1 = a
    · rw [List.filter_cons_of_neg (by simpa using h), ih]
      by_cases hc : c = a
      · rw [if_pos hc, if_pos hc]
      · rw [if_neg hc, if_neg hc, List.find?_cons_of_neg (by rw [h]; simpa using fun z : a = c => hc z.symm)]
    · rw [List.filter_cons_of_pos (by simpa using h)]
      by_cases hp : p.1 = c
      · rw [List.find?_cons_of_pos (by simpa using hp), List.find?_cons_of_pos (by simpa using hp), if_neg (fun z => h (hp.trans z))]
      · rw [List.find?_cons_of_neg (by simpa using hp), List.find?_cons_of_neg (by simpa using hp), ih]
theorem z51 {α β : Type} [DecidableEq α] (kvs : List (α × β)) (a : α) : (z3c kvs a).map (·.1) = (kvs.map (·.1)).filter fun k => decide (k ≠ a) := by
  unfold z3c
  rw [List.filter_map]
  rfl
theorem z29 {α β : Type} [DecidableEq α] {kvs : List (α × β)} (a : α) (h : (kvs.map (·.1)).Nodup) : ((z3c kvs a).map (·.1)).Nodup := by
  rw [z51]; exact h.filter _
end
end DL
namespace DL
open PySem PySem.Spec PyProof.Rows L2
def kL (xs : List Int) : NestedKey := .tup (xs.map .num)
theorem zaec {a b : List Int} : kL a = kL b ↔ a = b := by
  constructor
  · intro h
    unfold kL at h
    injection h with h
    induction a generalizing b with
    | nil => cases b with
      | nil => rfl
      | cons _ _ => simp at h
    | cons x a ih => cases b with
      | nil => simp at h
      | cons y b =>
        simp only [List.map_cons, List.cons.injEq, NestedKey.num.injEq] at h
        rw [h.1, ih h.2]
  · intro h; rw [h]
theorem z2c : ∀ xs : List Int, D.keys (xs.map .int) = some (xs.map .num)
  | [] => rfl
  | x :: xs => by
    show (match D.key (.int x), D.keys (xs.map .int) with | some k, some ks => some (k :: ks) | _, _ => none) = _
    rw [z2c xs]
    rfl
theorem zacs (xs : List Int) : D.key (eT .int xs) = some (kL xs) := by
  show (D.keys (xs.map .int)).map NestedKey.tup = _
  rw [z2c]; rfl
theorem zud : ∀ xs : List Int, NestedKey.depthAll (xs.map .num) = 0
  | [] => rfl
  | x :: xs => by
    show max (NestedKey.depth (.num x)) (NestedKey.depthAll (xs.map .num)) = 0
    rw [zud xs]; rfl
theorem zafa (xs : List Int) : (kL xs).depth ≤ 8 := by
  show NestedKey.depthAll (xs.map .num) + 1 ≤ 8
  rw [zud]; decide
theorem z4j : ∀ xs : List Int, nkDs (xs.map .num) = xs.map .int
  | [] => rfl
  | x :: xs => by
    show nkD (.num x) :: nkDs (xs.map .num) = _
    rw [z4j xs]; rfl
theorem z7i (xs : List Int) : nkD (kL xs) = eT .int xs := by
  show D.nd .tup (nkDs (xs.map .num)) = _
  rw [z4j]; rfl
theorem tkL : TKey kL (eT .int) := ⟨zaec, fun _ => ⟨_, rfl⟩, zacs, zafa, z7i⟩
/-- the hash of such a key -/
def zacn (xs : List Int) : Int := reduceHash (Builtin.Tuple.tupleHashOf (xs.map hashInt))
theorem zyu (w : World) : ∀ xs : List Int, NestedKey.hashes w (xs.map .num) = xs.map hashInt
  | [] => rfl
  | x :: xs => by
    show NestedKey.hash w (.num x) :: NestedKey.hashes w (xs.map .num) = _
    rw [zyu w xs]; rfl
theorem zack (w : World) (xs : List Int) : (kL xs).hash w = zacn xs := by
  show reduceHash (Builtin.Tuple.tupleHashOf (NestedKey.hashes w (xs.map .num))) = _
  rw [zyu]; rfl
/-- the parts of a list, in its order -/
def z04 : List Int → List (List Int)
  | [] => [[]]
  | x :: xs => z04 xs ++ (z04 xs).map (x :: ·)
theorem zou : ∀ {l s : List Int}, s.Sublist l → s ∈ z04 l
  | _, _, .slnil => by simp [z04]
  | x :: l, s, .cons _ h => by
    unfold z04
    exact List.mem_append.mpr (.inl (zou h))
  | x :: l, _, .cons₂ _ h => by
    unfold z04
    exact List.mem_append.mpr (.inr (List.mem_map.mpr ⟨_, zou h, rfl⟩))
/-- six numbers: the hashes of their parts are apart -/
theorem zafy : ((z04 [0, 1, 2, 3, 4, 5]).map zacn).Nodup := by decide +kernel
theorem zir {α β : Type} (f : α → β) : ∀ {l : List α}, (l.map f).Nodup → ∀ a ∈ l, ∀ b ∈ l, f a = f b → a = b
  | [], _, _, h, _, _, _ => by cases h
  | x :: l, nd, a, ha, b, hb, e => by
    rw [List.map_cons, List.nodup_cons] at nd
    rcases List.mem_cons.mp ha with ea | ha2
    · rcases List.mem_cons.mp hb with eb | hb2
      · rw [ea, eb]
      · exact (nd.1 (List.mem_map.mpr ⟨b, hb2, by rw [← e, ea]⟩)).elim
    · rcases List.mem_cons.mp hb with eb | hb2
      · exact (nd.1 (List.mem_map.mpr ⟨a, ha2, by rw [e, eb]⟩)).elim
      · exact zir f nd.2 a ha2 b hb2 e
theorem zym {α β : Type} (f : α → β) : ∀ {l : List α}, l.Nodup → (∀ a ∈ l, ∀ b ∈ l, f a = f b → a = b) → (l.map f).Nodup
  | [], _, _ => List.nodup_nil
  | x :: l, nd, h => by
    rw [List.nodup_cons] at nd
    rw [List.map_cons, List.nodup_cons]
    refine ⟨fun m => ?_, zym f nd.2 fun a ha b hb => h a (by simp [ha]) b (by simp [hb])⟩
    obtain ⟨y, hy, e⟩ := List.mem_map.mp m
    have := h y (by simp [hy]) x (by simp) e
    exact nd.1 (this ▸ hy)
/-- lots of numbers below six -/
theorem z52 {ks : List (List Int)} (nd : ks.Nodup) (h : ∀ s ∈ ks, s.Sublist [0, 1, 2, 3, 4, 5]) (w : World) : (ks.map fun s => (kL s).hash w).Nodup :=
  zym _ nd fun a ha b hb e => by
    simp only [zack] at e
    exact zir zacn zafy a (zou (h a ha)) b (zou (h b hb)) e
end DL
namespace DL
open PySem PySem.Spec PyProof.Rows L2
section
variable {X : Cx}
def zsm : DRn := d1 fun d G Q => match d with
  | .nd .tup ds => (plainDs ds = true ∧ PySem.W.AllAlike (ds.map py) ∧ PySem.W.Sortable (ds.map py) ∧ ∀ d ∈ ds, (py d).depth ≤ 60) ∧ ∀ p, G p = none → Q (.ref p) (up G p (.lst (srt ds)))
  | _ => False
theorem zyv (hu : X.A.units + 64 < cLine) : zj9 X (.builtin "sorted") zsm := zld fun pins s σ H G x v d P I rx hr q1 t => by
  split at t
  · rename_i ds
    obtain ⟨⟨p1, p2, p3, p4⟩, t⟩ := t
    rw [VR] at q1
    obtain ⟨a, vs, rfl, hq, r⟩ := q1
    cases (show v = Value.ref a from rx)
    obtain ⟨its, rv, pl, hz⟩ := I.tuple hq
    obtain ⟨⟨cls, dd, data, sl⟩, ho0, hc0, n, hd0⟩ := id pl
    simp only at hc0 hd0
    subst hc0 hd0
    have hlen : its.length ≤ sizeLine := by rw [← rv.length]; exact hz
    refine Calls.call_function_entry PyProof.Rows.kind_sorted PyProof.Rows.plain_sorted PyProof.Rows.entry_sorted (PyProof.Rows.args_sorted1 _) ?_
    unfold Builtin.«sorted»
    refine wpAny_bind (m := checkCount "sorted" 1 1 _) (wpAny_pure ?_)
    refine wpAny_bind (wpAny_collect_seq (A := X.A.in1) a (.inr rfl) ho0 rfl rfl (fun h' hk => ?_) (by rw [List.size_toArray]; exact hlen))
    have I1 : Inv X pins σ H { s with heap := h' } := I.kept (t' := s.toks) hk
    refine wpAny_bind (wpAny_newList ?_ (by simpa using hlen))
    have hoL : (h'.push (seqObj "list" its.toArray 0)).get? h'.objs.size = some (seqObj "list" its.toArray 0) := Heap.get?_push_size _ rfl
    show wpAny _ _ _ _ _ { s with heap := h'.push (seqObj "list" its.toArray 0) }
    have er : PySem.W.EachIs (fun v b => ∃ rs, Reads (h'.push (seqObj "list" its.toArray 0)) v (py b) rs ∧ h'.objs.size ∉ rs) its ds := (zmt I1 r rv p1).mono fun u b ⟨l, rd⟩ => ⟨l, PyProof.Rows.Reads.keeps (fun b o q => Heap.get?_push_of_some _ q) rd, fun hm => by
      obtain ⟨o, ho⟩ := PyProof.On.reads_mem_get rd _ hm
      exact absurd (Heap.lt_size ho) (Nat.lt_irrefl _)⟩
    have hlen2 : ds.length ≤ sizeLine := by rw [← r.length]; exact hz
    refine wpAny_bind (wpAny_holding (PySem.W.list_sort_data (s := { s with heap := h'.push (seqObj "list" its.toArray 0) }) (R := fun u d => ∃ v, RelV v u ∧ VR X.ml H G d v) (enc := py) (bs := ds) hoL (zta r rv) er p2 p3 hlen2 (fun b hb => by have := p4 b hb; show X.A.units + 1 + 1 + _ < _; omega) fun out ho eo => ?_))
    obtain ⟨ws, rw', qs'⟩ := zmq eo
    obtain ⟨e', he'⟩ := PyProof.Rows.sortedHeap_at (vs := its) (out := List.toArray out) hoL
    have hp : H h'.objs.size = none := I1.hok.fresh (Nat.le_refl _)
    have x3 : Ext H G (upd H h'.objs.size (.lst ws)) (up G h'.objs.size (.lst (srt ds))) := .new hp
    refine wpAny_pure ⟨_, rfl, .ref h'.objs.size, .ref h'.objs.size, upd H h'.objs.size (.lst ws), _, I1.laid (t' := s.toks) (fun b u e => ?_) (Nat.le_refl _)
      (show ObjOk X.prog X.w _ _ _ (.lst ws) from ⟨by rw [rw'.length, ho]; exact hlen2, out, e', rw', he'⟩), rfl, t _ (hr.free hp), x3, hr.new hp ⟨ws, upd_same, qs'.ext hr x3⟩, by rw [VR]⟩
    have hb : b < h'.objs.size := Heap.lt_size e
    rw [PyProof.Rows.sortedHeap_old (Nat.ne_of_lt hb) (by rw [size_push']; exact Nat.lt_succ_of_lt hb)]
    exact Heap.get?_push_of_some _ e
  · exact t.elim
end
end DL
namespace DL
open PySem PySem.Spec PyProof.Rows L2
theorem zafn {wi : DTI} {g : DTG} {tt : DTT} {te : DTE} {own : List Nat} {η : DSt} {Q : DVK} {α : Type} {xs : List α} {f : α → D} {G0 : DHp} {a : Addr} {ns : List Int} {c : Int} (h : α → D) (hl : xs.length ≤ 1000000)
    (hw : ∀ R, R (xs.map f) zdd (Gw G0 a ns c) → wi η (Gw G0 a ns c) R)
    (hb : ∀ x ∈ xs, ∀ (G1 : DHp) (c1 : Int) (A : DVK) (B : DHp → Prop), (∀ c2, A (h x) (Gw G1 a ns c2)) → (∀ c2, B (Gw G1 a ns c2)) → g (f x) (zjv η own) (Gw G1 a ns c1) fun η2 G2 => tt η2 G2 fun b G3 => if b = true then te η2 G3 A else B G3)
    (q : ∀ ys : List α, ys.Sublist xs → ∀ c' p, Gw G0 a ns c' p = none → Q (.ref p) (up (Gw G0 a ns c') p (.lst (ys.map h)))) : dLc wi g tt te own η (Gw G0 a ns c) Q := by
  refine hw _ ?_
  intro p hp
  obtain ⟨e, hap⟩ := z1f (o := .lst []) hp
  refine ⟨fun i acc G' => ∃ (ys : List α) (c' : Int), ys.Sublist (xs.take i) ∧ acc = ys.map h ∧ G' = Gw (up G0 p (.lst acc)) a ns c', ⟨[], c, List.nil_sublist _, rfl, e⟩, ?_, ?_, ?_⟩
  · rintro i acc G' ⟨ys, c', hs, rfl, rfl⟩
    exact ⟨trivial, zm4 hap⟩
  · rintro i d acc G' hd ⟨ys, c', hs, rfl, rfl⟩
    obtain ⟨x, hx, rfl⟩ := zbz hd
    refine hb x (List.mem_of_getElem? hx) _ _ _ _ (fun c2 => ⟨zas ?_, zm4 hap, ys ++ [x], c2, ?_, by rw [List.map_append]; rfl, z33 hap⟩) fun c2 => ⟨ys, c2, ?_, rfl, rfl⟩
    · rw [List.length_map]
      have := hs.length_le
      rw [List.length_take] at this
      omega
    · rw [zdz hx]
      exact hs.append (List.Sublist.refl _)
    · rw [zdz hx]
      exact hs.trans (List.sublist_append_left _ _)
  · rintro acc G' ⟨ys, c', hs, rfl, rfl⟩
    rw [List.length_map, List.take_length] at hs
    have hn : Gw G0 a ns c' p = none := by
      have := zw3 hap hp
      show up G0 a _ p = none
      rw [zj2 (Ne.symm hap)]
      exact this
    have e2 : Gw (up G0 p (.lst (ys.map h))) a ns c' = up (Gw G0 a ns c') p (.lst (ys.map h)) := by
      show up (up G0 p _) a _ = up (up G0 a _) p _
      exact zl3 (Ne.symm hap)
    rw [e2]
    exact q ys hs c' p hn
end DL
namespace DL
open PySem PySem.Spec PyProof.Rows L2
end DL
namespace DL
open PySem PySem.Spec PyProof.Rows L2
end DL
namespace DL
open PySem PySem.Spec PyProof.Rows L2
end DL
namespace DL
open PySem PySem.Spec PyProof.Rows L2
end DL
namespace DL
open PySem PySem.Spec PyProof.Rows L2
end DL
namespace DL
open PySem PySem.Spec PyProof.Rows L2
end DL
namespace DL
open PySem PySem.Spec PyProof.Rows L2
end DL
namespace DL
open PySem PySem.Spec PyProof.Rows L2
end DL
namespace DL
open PySem PySem.Spec PyProof.Rows L2
section
variable {X : Cx}
def dEmp (neg : Bool) : DR2 := fun x y G Q => match y with
  | .nd .tup [] => (match x with
    | .nd .tup ds => Q (.bl (neg != ds.isEmpty)) G
    | _ => False)
  | _ => match lsD y G with
    | some [] => (match lsD x G with
      | some ds => Q (.bl (neg != ds.isEmpty)) G
      | none => False)
    | _ => False
theorem z41 {items items2 : Array Value} {K : Ml} {H : Hp} {G : DHp} {ds : List D} {vs ws : List V} (r : VRs K H G ds vs) (rv : Vals vs items.toList) (r2 : VRs K H G [] ws) (rv2 : Vals ws items2.toList) : items2.size = 0 ∧ items.size = ds.length := by
  cases r2.nil_of
  have h1 := rv2.length
  have h2 := rv.length
  have h3 := r.length
  rw [Array.length_toList] at h1 h2
  have h3 : vs.length = ds.length := by omega
  exact ⟨h1.symm, h2.symm.trans h3⟩
theorem isE {ds : List D} : ds.isEmpty = (ds.length == 0) := by cases ds <;> rfl
theorem zabt (hu : X.A.units + 64 < cLine) : OpD X (compareOp .Eq) (dEmp false) := zoy fun pins s σ H G x y v u dx dy P I rx ry hr q1 q2 t => by
  unfold dEmp at t
  split at t
  · split at t
    · rename_i ds
      rw [VR] at q1 q2
      obtain ⟨a, vs, rfl, h1, r1⟩ := q1
      obtain ⟨b, ws, rfl, h2, r2⟩ := q2
      cases (show v = Value.ref a from rx)
      cases (show u = Value.ref b from ry)
      obtain ⟨i1, rv1, l1, _⟩ := I.tuple h1
      obtain ⟨i2, rv2, l2, _⟩ := I.tuple h2
      obtain ⟨e2, e1⟩ := z41 (items := i1.toArray) (items2 := i2.toArray) r1 (by simpa using rv1) r2 (by simpa using rv2)
      refine SeqAt.eq_tupleAt (e := fun _ => true) l1 l2 (by omega) (fun j _ hj => absurd hj (by omega)) ?_
      have : ((List.range (min i1.toArray.size i2.toArray.size)).all (fun _ => true) && i1.toArray.size == i2.toArray.size) = (false != ds.isEmpty) := by
        rw [isE, e1, e2]; cases ds.length <;> simp
      rw [this]
      exact zb4 (z := .bl _) I rfl hr (by rw [VR] <;> rfl) t
    · exact t.elim
  · split at t
    · rename_i ey
      split at t
      · rename_i ds ex
        obtain ⟨a, vs, rfl, h1, r1⟩ := zys hr q1 ex
        obtain ⟨b, ws, rfl, h2, r2⟩ := zys hr q2 ey
        cases (show v = Value.ref a from rx)
        cases (show u = Value.ref b from ry)
        obtain ⟨i1, rv1, l1, _⟩ := I.list h1
        obtain ⟨i2, rv2, l2, _⟩ := I.list h2
        obtain ⟨e2, e1⟩ := z41 (items := i1.toArray) (items2 := i2.toArray) r1 (by simpa using rv1) r2 (by simpa using rv2)
        cases ds with
        | nil =>
          refine SeqAt.eq_listAt (e := fun _ => true) l1.isList l2.isList (by rw [e1, e2]; rfl) (by omega) (fun j _ hj => absurd hj (by omega)) ?_
          rw [e1]
          exact zb4 (z := .bl _) I rfl hr (by rw [VR] <;> rfl) t
        | cons d ds =>
          refine SeqAt.eq_list_lengthsAt l1.isList l2.isList (by rw [e1, e2]; simp) (by omega) ?_
          exact zb4 (z := .bl _) I rfl hr (by rw [VR] <;> rfl) t
      · exact t.elim
    · exact t.elim
end
end DL
namespace DL
open PySem PySem.Spec PyProof.Rows L2
end DL
namespace DL
open PySem PySem.Spec PyProof.Rows L2
end DL
namespace DL
open PySem PySem.Spec PyProof.Rows L2
section
variable {K : Ml} {H H' : Hp} {G G' : DHp}
theorem Ext.gone : ∀ (as : List Addr) {G : DHp}, Ext H G H (as.foldl dl G)
  | [], _ => .refl _ _
  | a :: as, _ => (Ext.freeze (p := a)).trans (Ext.gone as)
theorem HR.gone : ∀ (as : List Addr) {G : DHp}, HR K H G → HR K H (as.foldl dl G)
  | [], _, h => h
  | a :: as, _, h => HR.gone as (h.freeze a)
end
def dFgt (t : DTS) : DTS := fun F η G => ∃ as : List Addr, t F η (as.foldl dl G)
section
variable {X : Cx}
theorem zza [Bs] {sts : List Stmt} {t : DTS} (h : PSsD X sts t) : PSsD X sts (dFgt t) := ⟨fun pins s σ H E I ⟨η, G, F, hs, hr, ⟨as, t⟩, k⟩ =>
  h.run pins s σ H E I ⟨η, _, F, hs.ext hr (.gone as), hr.gone as, t, k.ext (.gone as)⟩⟩
end
end DL
namespace DL
open PySem PySem.Spec PyProof.Rows L2
def dFgE (T : DTE) : DTE := fun η G Q => T η G fun d G1 => ∃ as : List Addr, Q d (as.foldl dl G1)
section
variable {X : Cx}
theorem zacq [Bs] {e : Expr} {T : DTE} (h : PED X e T) : PED X e (dFgE T) := ⟨fun pins s σ H Q I ⟨η, G, P, hs, hr, t, k⟩ =>
  h.run pins s σ H Q I ⟨η, G, _, hs, hr, t, fun d G1 v H1 ⟨as, p⟩ x r q => k d _ v H1 p (x.trans (Ext.gone as)) (HR.gone as r) (q.ext r (Ext.gone as))⟩⟩
end
end DL
namespace DL
open PySem PySem.Spec PyProof.Rows L2
end DL
namespace DL
open PySem PySem.Spec PyProof.Rows L2
end DL
namespace DL
open PySem PySem.Spec PyProof.Rows L2
end DL
namespace DL
open PySem PySem.Spec PyProof.Rows L2
end DL
namespace DL
open PySem PySem.Spec PyProof.Rows L2
end DL
namespace PySem.W
open PySem PySem.Calls PySem.SeqAt PyProof.Rows
section
variable {prog : Program} {w : World} {A : Around} {s : Shared}
theorem zzo (x y : Value) : keyLt' general' x y = oneLt' false x y := rfl
/-- two tuples, by their type's own rule or by any -/
theorem z6l {f : Bool} {xs ys : List PyData} {a b : Value} {as bs : List Addr} {E : Value → Shared → Prop} {Q : Bool → Shared → Prop} (ra : Reads s.heap a (.tuple xs) as) (rb : Reads s.heap b (.tuple ys) bs) (h : alike (.tuple xs) (.tuple ys) = true)
    (hu : A.units + min (PyData.depth (.tuple xs)) (PyData.depth (.tuple ys)) < cLine) (hq : Q (dataLt (.tuple xs) (.tuple ys)) s) : wpAny (model prog w) A (oneLt' f a b) Q E s := by
  cases f with
  | false => exact oneLt_alike (fun e => by cases e) ra rb h (fun e => by cases e) hu hq
  | true =>
    have hal : alikeAll xs ys = true := by simpa [alike] using h
    cases ra with
    | @tuple l o vs n _ as₁ h1 h2 h3 h4 =>
      cases rb with
      | @tuple l' o' vs' n' _ bs₁ k1 k2 k3 k4 =>
        have n1 : vs.size = xs.length := by simpa using SeqAt.ReadsAll.length _ _ _ h4
        have n2 : vs'.size = ys.length := by simpa using SeqAt.ReadsAll.length _ _ _ k4
        rw [dataLt_tuple, ← firstLt_toks xs ys hal, ← n1, ← n2] at hq
        rw [oneLt'_eq]
        simp only [if_true]
        refine wpAny_bind (wpAny_cRoomFor (SeqAt.room_here hu) ?_)
        obtain ⟨oc, od, dt, osl⟩ := o
        obtain ⟨oc', od', dt', osl'⟩ := o'
        simp only at h2 h3 k2 k3
        subst h2 h3 k2 k3
        refine wpAny_bind (wpAny_callSpecialIfBound?_slot (T := "tuple") ⟨_, h1, rfl⟩ F.slot_tuple_lt (call_meets F.slot_tuple_lt ⟨_, h1, rfl⟩ F.entry_tuple_lt (F.args_tuple_lt_2 _ _) (SeqAt.tuple_ltAt l l' vs vs' n n' od od' osl osl' (pairEq xs ys) (fun j => dataLt (xs.getD j .none) (ys.getD j .none))) ⟨h1, k1, fun j j1 j2 => ?_, fun j j1 j2 hj => ?_, ?_⟩))
        · have := eqAt_alikeAll xs ys A.in1 s vs.toList vs'.toList _ _ h4 k4 hal (SeqAt.room_in hu) j (by simpa using j1) (by simpa using j2)
          simpa using this
        · have := rcLt_alikeAll xs ys A.in1 s vs.toList vs'.toList _ _ h4 k4 hal (SeqAt.room_in hu) j (by simpa using j1) (by simpa using j2) hj
          simpa using this
        · exact wpAny_truthy_bool hq
def neB : PyData → Bool
  | .tuple [] => false
  | _ => true
theorem zabg {d : PyData} : neB d = true ↔ d ≠ .tuple [] := by
  cases d with
  | tuple xs => cases xs <;> simp [neB]
  | _ => simp [neB]
theorem zq8 {M : Model} {E : Value → Shared → Prop} : ∀ {vs : List Value} {ds : List PyData} {Q : List (Option Value) → Shared → Prop}, EachIs (fun v d => ∃ as, Reads s.heap v d as) vs ds → (∀ d ∈ ds, ∃ xs, d = .tuple xs) →
    (∀ rs : List (Option Value), rs.map (·.isSome) = ds.map (fun d => neB d) → Q rs s) → wpAny M A (vs.mapM firstOfTuple') Q E s
  | _, _, Q, .nil, _, h => by rw [List.mapM_nil]; exact wpAny_pure (h [] rfl)
  | v :: vs, d :: ds, Q, .cons ⟨as, r⟩ t, ht, h => by
    obtain ⟨xs, rfl⟩ := ht d List.mem_cons_self
    cases r with
    | @tuple a o us n _ _ h1 h2 h3 h4 =>
      rw [List.mapM_cons]
      refine wpAny_bind ?_
      rw [kas_first_eq]
      refine wpAny_bind (Looks.here (show Looks M s.heap (typeOf (.ref a)) o.cls from (Looks.ld h1).andThen .now) ?_)
      rw [h2, if_neg (by first | decide | simp)]
      refine wpAny_bind (listItems_at h1 h3 (wpAny_pure ?_))
      refine wpAny_bind (zq8 (Q := fun bs s' => wpAny M A (pure (us[0]? :: bs)) Q E s') t (fun d hd => ht d (List.mem_cons_of_mem _ hd)) fun rs hr => wpAny_pure (h _ ?_))
      rw [List.map_cons, List.map_cons, hr]
      congr 1
      cases xs with
      | nil =>
        have : us.size = 0 := by simpa using SeqAt.ReadsAll.length _ _ _ h4
        rw [Array.getElem?_eq_none (by omega)]
        rfl
      | cons x xr =>
        have : us.size = (x :: xr).length := by simpa using SeqAt.ReadsAll.length _ _ _ h4
        rw [List.length_cons] at this
        rw [Array.getElem?_eq_getElem (by omega)]
        rfl
/-- rows of tuples, some of them empty, can be sorted -/
theorem SortsAt.tups {vs : List Value} {ds : List PyData} (e : EachIs (fun v d => ∃ as, Reads s.heap v d as) vs ds) (hal : AllAlike ds) (ht : ∀ d ∈ ds, ∃ xs, d = .tuple xs) (hu : ∀ d, d ∈ ds → A.units + d.depth < cLine) : SortsAt prog w A s (dataKind s.heap ds) vs := by
  have room : ∀ {d d' : PyData}, d ∈ ds → A.units + min d.depth d'.depth < cLine := fun {d d'} hd => Nat.lt_of_le_of_lt (Nat.add_le_add_left (Nat.min_le_left _ _) _) (hu d hd)
  by_cases hne : ∀ d ∈ ds, d ≠ .tuple []
  · exact SortsAt.data e hal (.inl fun d hd => by
      obtain ⟨xs, rfl⟩ := ht d hd
      cases xs with
      | nil => exact absurd rfl (hne _ hd)
      | cons x r => exact ⟨x, r, rfl⟩) hu
  · refine ⟨fun v hv => ?_, ?_⟩
    · obtain ⟨d, hd, as, r⟩ := e.left v hv
      exact ⟨_, dataKind_some hal hd r⟩
    · have lt : ∀ (f : Bool) (kd : SortKind), (∀ x y, keyLt' kd x y = oneLt' f x y) → H.LtAt prog w A s (dataKind s.heap ds) kd := fun f kd hk => by
        intro E x y a b Q ha hb hq
        obtain ⟨d, as, hd, ra, rfl⟩ := dataKind_inv ha
        obtain ⟨d', as', hd', rb, rfl⟩ := dataKind_inv hb
        rw [hk]
        have hdd := hal d hd d' hd'
        have hroom := room (d' := d') hd
        obtain ⟨xs, rfl⟩ := ht d hd
        obtain ⟨ys, rfl⟩ := ht d' hd'
        exact z6l ra rb hdd hroom hq
      cases ds with
      | nil => exact absurd (fun d hd => by cases hd) hne
      | cons d₀ ds₀ =>
        cases e with
        | @cons v₀ _ vs₀ _ e0 et =>
          have et0 := e0
          have notall : ∀ rs : List (Option Value), rs.map (·.isSome) = (d₀ :: ds₀).map (fun d => neB d) → ¬ (rs.toArray.all fun x => x.isSome) = true := fun rs hr ha => hne fun d hd => by
            have h1 : ∀ b ∈ rs.map (·.isSome), b = true := fun b hb => by
              obtain ⟨r, hr2, rfl⟩ := List.mem_map.mp hb
              rw [List.all_toArray] at ha
              exact List.all_eq_true.mp ha r hr2
            rw [hr] at h1
            exact zabg.mp (h1 _ (List.mem_map.mpr ⟨d, hd, rfl⟩))
          by_cases h0 : d₀ = .tuple []
          · refine ⟨oneType', lt true _ keyLt'_oneType, fun h2 E Q hq => ?_⟩
            rw [kat_kind_eq, List.mapM_toArray, map_eq_pure_bind]
            refine wpAny_bind (wpAny_bind (zq8 (.cons e0 et) ht fun rs hr => wpAny_pure ?_))
            rw [if_neg (notall rs hr)]
            have hr0 : ((rs.toArray[0]?).bind id).isSome = false := by
              cases rs with
              | nil => rfl
              | cons r rr =>
                rw [List.map_cons, List.map_cons] at hr
                have := (List.cons.inj hr).1
                rw [h0] at this
                have h3 : r.isSome = false := this
                show (id r).isSome = false
                exact h3
            rw [if_neg (by rw [hr0]; exact Bool.false_ne_true)]
            rw [oneTypeOnly'_eq, List.mapM_toArray, map_eq_pure_bind]
            refine wpAny_bind (wpAny_bind (wpAny_bind (kas_mapM (r := Value.type "tuple") _ (fun v hv Q' hq => Looks.here ?_ hq) (wpAny_pure ?_))))
            · obtain ⟨d, hd, as, r⟩ := (EachIs.cons e0 et).left v hv
              obtain ⟨xs, rfl⟩ := ht d hd
              exact looks_reads r
            · have hall : ((List.map (fun _ => Value.type "tuple") (v₀ :: vs₀)).toArray.all fun x => x == Value.type "tuple") = true := by
                simp only [List.all_toArray, List.all_map, List.all_eq_true]
                intro _ _
                rfl
              have h0 : (List.map (fun _ => Value.type "tuple") (v₀ :: vs₀)).toArray[0]? = some (Value.type "tuple") := by simp
              rw [h0]
              simp only [hall, if_true]
              exact wpAny_pure (wpAny_pure hq)
          · refine ⟨general', lt false _ zzo, fun h2 E Q hq => ?_⟩
            rw [kat_kind_eq, List.mapM_toArray, map_eq_pure_bind]
            refine wpAny_bind (wpAny_bind (zq8 (.cons e0 et) ht fun rs hr => wpAny_pure ?_))
            rw [if_neg (notall rs hr)]
            have hr0 : ((rs.toArray[0]?).bind id).isSome = true := by
              cases rs with
              | nil => cases hr
              | cons r rr =>
                rw [List.map_cons, List.map_cons] at hr
                have := (List.cons.inj hr).1
                have h3 : r.isSome = true := by rw [this]; exact zabg.mpr h0
                show (id r).isSome = true
                exact h3
            rw [if_pos hr0]
            exact wpAny_pure hq
end
section
variable {β : Type} {enc : β → PyData} {R : Value → β → Prop} {bs : List β} {vs : List Value} {prog : Program} {w : World} {A : Around} {E : Value → Shared → Prop} {s : Shared}
theorem sorted_tups {l : Addr} {Q : Value → Shared → Prop} (hl : s.heap.IsList l vs.toArray) (e : EachIs R vs bs) (er : EachIs (fun v b => ∃ as, Reads s.heap v (enc b) as) vs bs) (hal : AllAlike (bs.map enc)) (hk : ∀ d ∈ bs.map enc, ∃ xs, d = .tuple xs) (hL : bs.length ≤ sizeLine)
    (hu : ∀ b, b ∈ bs → A.units + 2 + (enc b).depth < cLine) (h : ∀ out, out.length = bs.length → EachIs R out (bs.mergeSort (dataLe false enc)) → Q (.ref (s.heap.objs.size + 1)) { s with heap := sortedAll s.heap vs (List.toArray out) }) :
    wpAny (model prog w) A (call (.builtin "sorted") [.ref l]) Q E s := by
  have er' : EachIs (fun v b => ∃ as, Reads (sortingHeap (copyHeap s.heap vs) (s.heap.objs.size + 1) vs) v (enc b) as) vs bs := er.mono fun _ _ ⟨as, r⟩ => ⟨as, PyProof.Rows.Reads.keeps (fun _ _ => sorting_copy_old) r⟩
  exact sorted_vals hl (SortsAt.tups (s := { s with heap := sortingHeap (copyHeap s.heap vs) (s.heap.objs.size + 1) vs }) (each_map (R := fun v d => ∃ as, Reads (sortingHeap (copyHeap s.heap vs) (s.heap.objs.size + 1) vs) v d as) enc er') hal hk (bound_map hu)) (by rw [e.length]; exact hL)
    (h _ (by rw [sortVals_length false rfl]; exact e.length) (sortVals_data false e er' hal))
end
end PySem.W
namespace DL
open PySem PySem.Spec PyProof.Rows L2
/-- sorted(rows): tuples, some of them empty -/
def zs5 : DRn := d1 fun d G Q => match lsD d G with
  | some ds => (plainDs ds = true ∧ PySem.W.AllAlike (ds.map py) ∧ (∀ d ∈ ds.map py, ∃ xs, d = .tuple xs) ∧ ∀ d ∈ ds, (py d).depth ≤ 60) ∧ ∀ p, G p = none → Q (.ref p) (up G p (.lst (srt ds)))
  | none => False
section
variable {X : Cx}
theorem zt0 (hu : X.A.units + 64 < cLine) : zj9 X (.builtin "sorted") zs5 := zld fun pins s σ H G x v d P I rx hr q1 t => by
  split at t
  · rename_i ds e
    obtain ⟨⟨p1, p2, p3, p4⟩, t⟩ := t
    obtain ⟨a, vs, rfl, hq, r⟩ := zys hr q1 e
    cases (show v = Value.ref a from rx)
    obtain ⟨its, rv, pl, hz⟩ := I.list hq
    refine PySem.W.sorted_tups (R := fun u d => ∃ v, RelV v u ∧ VR X.ml H G d v) (enc := py) (bs := ds) pl.isList (zta r rv) (zmt I r rv p1) p2 p3 (by rw [← r.length]; exact hz) (fun b hb => by have := p4 b hb; omega) fun out ho eo => ?_
    obtain ⟨ws, rw', qs⟩ := zmq eo
    obtain ⟨ep, he'⟩ := PyProof.Rows.sortedAll_at s.heap its out.toArray
    have hp : H (s.heap.objs.size + 1) = none := I.hok.fresh (Nat.le_succ _)
    have x2 : Ext H G (upd H (s.heap.objs.size + 1) (.lst ws)) (up G (s.heap.objs.size + 1) (.lst (srt ds))) := .new hp
    have hlen : ws.length ≤ sizeLine := by rw [rw'.length, ho, ← r.length]; exact hz
    have I' : Inv X pins σ (upd H (s.heap.objs.size + 1) (.lst ws)) { s with heap := PyProof.Rows.sortedAll s.heap its (List.toArray out) } :=
      I.laid (t' := s.toks) (fun _ _ => PyProof.Rows.sortedAll_old) (Nat.le_succ _) ⟨hlen, out, ep, rw', he'⟩
    exact ⟨.ref _, .ref _, _, _, I', rfl, t _ (hr.free hp), x2, hr.new hp ⟨ws, upd_same, qs.ext hr x2⟩, by rw [VR]⟩
  · exact t.elim
end
theorem zv9 {α : Type} {f : α → D} {d : D} {xs : List α} {G : DHp} {Q : DVK} (h : lsD d G = some (xs.map f)) (hp : ∀ a, zb6 (f a) = true) (al : ∀ a b, PySem.W.alike (py (f a)) (py (f b)) = true) (tp : ∀ a, ∃ xs, py (f a) = .tuple xs) (dp : ∀ a, (py (f a)).depth ≤ 60)
    (q : ∀ p, G p = none → Q (.ref p) (up G p (.lst ((srtT f xs).map f)))) : zs5 [d] G Q := by
  show (match lsD d G with | some ds => _ | none => False)
  rw [h]
  refine ⟨⟨cleans_plain (zc1 hp xs), ?_, fun z hz => ?_, fun d hd => ?_⟩, fun p hn => by rw [zti]; exact q p hn⟩
  · rw [List.map_map]; exact PySem.W.AllAlike.of al
  · obtain ⟨y, hy, rfl⟩ := List.mem_map.mp hz
    obtain ⟨a, _, rfl⟩ := List.mem_map.mp hy
    exact tp a
  · obtain ⟨a, _, rfl⟩ := List.mem_map.mp hd; exact dp a
end DL
namespace DL
open PySem PySem.Spec PyProof.Rows L2
/-- a builtin, told in two ways -/
theorem zaf0 {X : Cx} {f : Value} {r r' : DRn} (h : zj9 X f r) (h' : zj9 X f r') : zj9 X f fun ds G Q => r ds G Q ∨ r' ds G Q := by
  intro pins s σ H vs us Q I rr ⟨ds, G, P, q, hr, t, k⟩
  rcases t with t | t
  · exact h pins s σ H vs us Q I rr ⟨ds, G, P, q, hr, t, k⟩
  · exact h' pins s σ H vs us Q I rr ⟨ds, G, P, q, hr, t, k⟩
/-- sorted(a list or a tuple) -/
def z4a : DRn := fun ds G Q => zty ds G Q ∨ zsm ds G Q
theorem z6g {X : Cx} (hu : X.A.units + 64 < cLine) : zj9 X (.builtin "sorted") z4a := zaf0 (zsv hu) (zyv hu)
end DL
namespace HB
open PySem PySem.Spec PyProof.Rows L2
theorem zadn {l : PySem.W.OpenLaw} {k : Nat} {q : Program} {loose : List Str} {XP : (Str → Option Value) → Heap → Prop} {YP : World → Heap → Prop} {d : DefRec} {x : Str}
    (hn : l.most = some 63) (hdf : d.params.defaults = []) (hr : Room k callerA)
    (F : ∀ (w : World) (mg : Str → Option Value) (fa : Addr) (h : Heap), YP w h → h.Ns mainGlobals mg → mg d.name = some (.ref fa) →
      ∃ (K : PySem.W.Frag) (fd : FuncData), K.In h ∧ (∀ (s : Shared) (u : Value), BindsTo s fd ⟨[u], []⟩ [(x, u)]) ∧
        ∀ base : Heap, K.In base → base.Ns mainGlobals mg → DL.FnD l.prog w K mg base k fa fd [x] DL.z8e) :
    PySem.W.WalkO q loose XP YP l.row.toRowW d [] (fun f vs => PySem.call f vs) :=
  L2.walk_ofE (CX := CX0) hn (by decide) hdf hr (fun w mg fa h Y G hm => by
    obtain ⟨K, fd, KX, hb, hF⟩ := F w mg fa h Y G hm
    refine ⟨K, fd, fun vs H Q _ => DL.z3k ⟨K, w⟩ DL.z8e vs H Q, KX, hb, fun H a ns h1 h2 h3 => ?_, hF⟩
    have hs : DL.VR ⟨K, w⟩ H (fun _ => none) (.nd .scr (ns.map .int)) (.ref a) := by
      rw [DL.VR]
      refine ⟨a, _, rfl, ?_, .of_ints ns⟩
      rcases h3 with (h3 | ⟨o, h3⟩) | h3
      · rcases h2 a with z | ⟨ob, xs, z⟩
        · rw [h3] at z; cases z
        · rw [h3] at z; cases z
      · exact .inl ⟨o, h3⟩
      · exact .inr h3
    exact ⟨[.nd .scr (ns.map .int)], fun _ => none, fun v _ => v = .bl true, .cons hs .nil, (fun a o e => by cases e), ⟨ns, rfl, h1, fun _ => rfl, fun _ => rfl⟩, fun d G' v H' p _ _ q => by
      subst p
      rw [DL.VR] at q
      exact q⟩) fun _ _ _ _ z => z
end HB
namespace DX
open PySem PySem.W PySem.Calls PyProof.Rows PySem.HandSPX
open Builtin Builtin.ObjectAttr
section
variable {prog : Program} {w : World} {A : Around} {E : Value → Shared → Prop} {R : Result → Shared → Prop} {hp : Heap} {g : Array GenState} {d : Drawn} {t : Nat} {os : OsState} {K : W.Frag} {x C : Addr}
/-- the first field of a new exception -/
theorem zaex {name : Str} {tk : Tok} {v : Value} {fv : Array Value} (X : K.In hp) (hx : hp.get? x = some { cls := .ref C, data := .fields fv }) (ov : excOver K C ESX.exTail = true) (ht : takerIn K C name = some none) (hd : hasDictIn K C = true)
    (hq : ∀ h' tk' dx, (∀ b o, b ≠ x → hp.get? b = some o → h'.get? b = some o) → hp.objs.size ≤ dx → dx ≠ x → h'.get? x = some { cls := .ref C, dict := some dx, data := .fields fv } → h'.Ns1 dx (fun y => if y = name then some v else none) →
      R (.ok (.ret .none)) ⟨h', g, d, tk', os⟩) :
    codeAny (model prog w) A (.call (.builtin "object.__setattr__") ⟨[.ref x, .str name tk, v], []⟩) R ⟨hp, g, d, t, os⟩ := by
  have I : InstAt hp x { cls := .ref C, data := .fields fv } C none := ⟨hx, rfl, rfl, trivial⟩
  have ne : x ≠ hp.objs.size := Nat.ne_of_lt (Heap.lt_size hx)
  obtain ⟨cd, hc, hdd⟩ := any_some hd
  have lc : Looks (model prog w) hp (classData C) cd := looks_clsIn X hc
  refine osa_openX (s := ⟨hp, g, d, t, os⟩) PySem.F.store_Exception X I ov ht fun b => ?_
  obtain ⟨nm, bs, mro, ns, qn, hD, sn, sb, ab, col, del⟩ := cd
  dsimp only at hdd
  subst hdd
  dsimp only
  unfold storeInOwnDict ownDictForStores
  repeat (first | with_reducible refine store_in_new ?_ ?_ | with_reducible refine wpAny_loadPart_at hx ?_ | with_reducible refine lc.at ?_ | wp_step)
  · exact ⟨_, #[], _, (Heap.get?_update_ne _ _ _ _ ne.symm).trans (Heap.get?_push_at rfl rfl), rfl, fun e he => (by simp at he), fun _ => rfl⟩
  · intro h' tk' hn same
    have h1 : (hp.push { cls := .type "dict", data := .dict #[] }).get? x = some { cls := .ref C, data := .fields fv } := Heap.get?_push_of_some _ hx
    exact hq h' tk' hp.objs.size
      (fun b o hb ho => by
        rw [same.2 b (Nat.ne_of_lt (Heap.lt_size ho)), Heap.get?_update_ne _ _ _ _ hb]
        exact Heap.get?_push_of_some _ ho)
      (Nat.le_refl _) ne.symm (by rw [same.2 x ne]; exact Heap.get?_update_self _ h1 rfl) hn
end
/-- what the written part says of the class at C (of the program P) with its __init__ at fI: the field f, the parameter's name y -/
structure XTxt (P : Program) (K : Frag) (mg : Str → Option Value) (C fI : Addr) (y f : Str) : Prop where
  ini : excInitIn K C ESX.exTail "Exception.__new__" = true
  ov : excOver K C ESX.exTail = true
  nof : takerIn K C f = some none
  hd : hasDictIn K C = true
  sa : findIn K (.ref C) "__setattr__" = some (some (.builtin "object.__setattr__"))
  iC : findIn K (.ref C) "__init__" = some (some (.ref fI))
  isf : isFn K (.ref fI) = true
  kC : keepIn K (.ref C) = true
  exB : subIn K (.ref C) (.type "BaseException") = some true
  exE : subIn K (.ref C) (.type "Exception") = some true
  tyC : typeIn K (.ref C) = some (.type "type")
  self : mroIn K C (.ref C) = some true
  sup : ks_superIn K C C "__init__" = some (some (.builtin "Exception.__init__"))
  third : nsIn K cStatics "thirdparty.any" = some none
  nsup : mg "super" = none
  top : (P.main.scope.names.lookup ("super" : Str)).isSome = false
  fn : ∃ (oc : Value) (od : Option Addr) (qual : Str) (doc pm kV : Value) (an : Option Addr) (cda cc : Addr) (ct : Value) (osl : Array (Option Value)) (pa : Arguments) (body : List Stmt) (sco : Scope) (msg : Str) (j : Nat) (q1 q2 q3 q4 q5 q6 q7 q8 q9 q10 : Pos),
    K.lookup fI = some ⟨oc, od, .func (ksFn "__init__" qual pa body sco .none kV doc pm an (.ref cda) ct cc), osl⟩ ∧ codeIn K (.ref cda) qual = true ∧
    body = [.Expr (.Call (.Attribute (.Call (.Name "super" q1) [] [] q2) "__init__" q3) [.Constant (.str msg) j q4] [] q5) q6, .Assign [.Attribute (.Name "self" q7) f q8] (.Name y q9) q10] ∧
    sco.kind = .function ∧ sco.isCoroutine = false ∧ sco.isGenerator = false ∧ sco.names.lookup ("super" : Str) = some .globalImplicit ∧ sco.names.lookup ("__class__" : Str) = some .free ∧ sco.names.lookup ("self" : Str) = some .local ∧ sco.names.lookup y = some .local ∧ (∀ x ∈ sco.names, x.2 ≠ .cell) ∧
    (∃ ar : Arg, (pa.posonlyargs ++ pa.args).head? = some ar ∧ ar.arg = "self") ∧ (y == ("__debug__" : Str)) = false ∧ y ≠ "self" ∧
    (∃ (ccl : Value) (cdd : Option Addr) (vs : Array Value) (ccs : Array (Option Value)) (file : Str) (tf : Tok), K.lookup cda = some ⟨ccl, cdd, .fields vs, ccs⟩ ∧ vs[2]? = some (.str file tf) ∧ ((P.main.file : Str) == file) = true) ∧
    (∃ (cl : Value) (cld : Option Addr) (csl : Array (Option Value)), K.lookup cc = some ⟨cl, cld, .cell (some (.ref C)), csl⟩) ∧
    (∃ pl : Sem Bool, ∀ L : Addr, eval (.Call (.Attribute (.Call (.Name "super" q1) [] [] q2) "__init__" q3) [.Constant (.str msg) j q4] [] q5) (ksEnv qual sco L fI (.ref cda) cc) = (do
      let ov ← attributeBase (.Call (.Name "super" q1) [] [] q2) "__init__" (ksEnv qual sco L fI (.ref cda) cc) (eval (.Call (.Name "super" q1) [] [] q2) (ksEnv qual sco L fI (.ref cda) cc))
      standAt q3.atName
      let (fx, first) ← holding [ov] (getMethod ov "__init__" pl)
      callWith q5 fx first (backTo q5 (starEach [.Constant (.str msg) j q4] (ksEnv qual sco L fI (.ref cda) cc))) [])) ∧
    (∀ L : Addr, interactive (ksEnv qual sco L fI (.ref cda) cc) = false ∧ swapsWith (.Call (.Attribute (.Call (.Name "super" q1) [] [] q2) "__init__" q3) [.Constant (.str msg) j q4] [] q5) none q6.line (ksEnv qual sco L fI (.ref cda) cc) = pure false ∧
      swapsWith (.Name y q9) (some (.Attribute (.Name "self" q7) f q8)) q10.line (ksEnv qual sco L fI (.ref cda) cc) = pure false ∧
      starEach [.Constant (.str msg) j q4] (ksEnv qual sco L fI (.ref cda) cc) = [(false, eval (.Constant (.str msg) j q4) (ksEnv qual sco L fI (.ref cda) cc))] ∧
      ∀ (M : Model) (A : Around) (Q : Value → Shared → Prop) (E : Value → Shared → Prop) (s : Shared), (∀ s' tk, s'.heap = s.heap → s'.gens = s.gens → s'.drawn = s.drawn → s'.os = s.os → Q (.str msg tk) s') → wpAny M A (eval (.Constant (.str msg) j q4) (ksEnv qual sco L fI (.ref cda) cc)) Q E s) ∧
    (∀ (s : Shared) (u v : Value), BindsTo s (ksFn "__init__" qual pa body sco .none kV doc pm an (.ref cda) ct cc) ⟨[u, v], []⟩ [("self", u), (y, v)])
end DX
namespace DX
open PySem PySem.W PySem.Calls PyProof.Rows PySem.HandSPX
/-- what __init__ leaves -/
structure IEnd (h h' : Heap) (x C dx t1 : Addr) (f : Str) (v : Value) : Prop where
  keep : ∀ b o, b ≠ x → h.get? b = some o → h'.get? b = some o
  obj : h'.get? x = some { cls := .ref C, dict := some dx, data := .fields #[.ref t1, .none, .none, .none, .bool false, .none] }
  dbig : h.objs.size ≤ dx
  dne : dx ≠ x
  ns : h'.Ns1 dx (fun z => if z = f then some v else none)
section
variable {prog : Program} {w : World} {A : Around} {E : Value → Shared → Prop} {R : Result → Shared → Prop} {K : Frag} {mg : Str → Option Value} {x C fI : Addr} {y f : Str}
theorem zae2 {h : Heap} {D : Addr} {cd : ClassData} (X : K.In h) (hD : clsIn K D = some cd) : ∃ o, h.get? D = some o ∧ o.data = .cls cd := by
  unfold clsIn at hD
  split at hD
  · rename_i ho
    cases hD
    exact ⟨_, X _ _ ho, rfl⟩
  · cases hD
theorem z9s (T : XTxt prog K mg C fI y f) {t0 : Addr} {v : Value} {h : Heap} {g : Array GenState} {d : Drawn} {t : Nat} {os : OsState} (X : K.In h) (hlim : h.NoLimit) (hg : h.Ns mainGlobals mg) (hb : ∃ mb, h.Ns builtinsNs mb ∧ ∀ x : Str, x ≠ "__name__" → mb x = bootBuiltins x) (hx : h.get? x = some (excO C t0)) (nX : K.lookup x = none) (hroom : A.depth < recursionLimit)
    (hq : ∀ h' tk dx t1, IEnd h h' x C dx t1 f v → R (.ok (.ret .none)) ⟨h', g, d, tk, os⟩) :
    codeAny (model prog w) A (.call (.ref fI) ⟨[.ref x, v], []⟩) R ⟨h, g, d, t, os⟩ := by
  obtain ⟨oc, od, qual, doc, pm, kV, an, cda, cc, ct, osl, pa, body, sco, msg, j, q1, q2, q3, q4, q5, q6, q7, q8, q9, q10, ho, hcd, rfl, hk, hco, hgen, hs1, hs2, hs3, hs4, hcell, ⟨ar, har, ean⟩, hyd, hys, ⟨ccl, cdd, vs, ccs, file, tf, hcode, hvs, hfile⟩, ⟨cl, cld, csl, hcc⟩, ⟨pl, hev⟩, hsm, hbind⟩ := T.fn
  obtain ⟨mb, hbn, hbb⟩ := hb
  obtain ⟨cd, hC, hdd⟩ := any_some T.hd
  refine ks_codeAny_call_defAt (fd := ksFn "__init__" qual pa _ sco .none kV doc pm an (.ref cda) ct cc) (binds := [("self", .ref x), (y, v)]) hroom (X _ _ ho) rfl hlim (codeRec_of X hcd) rfl (hbind _ _ _) hcell ?_ (fun h₁ hn k => ?_) hco hgen hk
  · intro z hz
    simp only [List.mem_cons, List.not_mem_nil, or_false] at hz
    rcases hz with rfl | rfl
    · exact hs3
    · exact hs4
  have X₁ : K.In h₁ := X.keeps k
  have hx₁ := k _ _ hx
  obtain ⟨oD, hD1, hD2⟩ := zae2 X₁ hC
  show _root_.PySem.wpAt (model prog w) (A.deeper (ksEnv qual sco h.objs.size fI (.ref cda) cc)) (.func _ (ksEnv qual sco h.objs.size fI (.ref cda) cc)) (execs _ (ksEnv qual sco h.objs.size fI (.ref cda) cc)) _ _ ⟨h₁, g, d, t + 2, os⟩
  obtain ⟨hin, hsw1, hsw2, hst, hcon⟩ := hsm h.objs.size
  refine ks_wpAt_execs_cons (ks_wpAt_Expr_any (ks_wpAt_MethodCall (pl := pl) ?_ (hev _)) hin hsw1)
  · refine ks_wpAt_super_base (env := ksEnv qual sco h.objs.size fI (.ref cda) cc) hs1 hs2 rfl rfl (X₁ _ _ ho) rfl har rfl (X₁ _ _ hcode) rfl hvs hfile T.top ?_
    refine ks_loadName_global hk hs1 (loadGlobal_builtin (env := ksEnv qual sco h.objs.size fI (.ref cda) cc) (hg.keeps k) T.nsup (hbn.keeps k) ((hbb _ (by decide +kernel)).trans (by first | rfl | decide +kernel)) ⟨rfl, ?_⟩)
    refine wpAny_loadName_free hk hs2 rfl ⟨_, X₁ _ _ hcc, rfl⟩ ?_
    rw [ean]
    refine wpAny_loadName_local hk hs3 hn (v := .ref x) (by show List.lookup ("self" : Str) [(y, v), ("self", Value.ref x)] = _; rw [List.lookup, show (("self" : Str) == y) = false from beq_eq_false_iff_ne.mpr (Ne.symm hys)]; rfl) ?_
    refine ks_wpAny_isType_cls hD1 hD2 ⟨rfl, ?_⟩
    refine ks_wpAny_call_super hD1 hD2 hx₁ rfl (fun c e => (by cases e)) (looks_mroIn X₁ T.self) (fun h₂ hso k₂ => ?_)
    have X₂ : K.In h₂ := X₁.keeps k₂
    have I₂ : InstAt h₂ x (excO C t0) C none := ⟨k₂ _ _ hx₁, rfl, rfl, trivial⟩
    have hxC : x ≠ C := ks_ne X₂ I₂ hC
    have hf : alongIn K "__init__" ((cd.mro.dropWhile (· != .ref C)).drop 1) = some (some (.builtin "Exception.__init__")) := by
      have := T.sup
      unfold ks_superIn at this
      rw [hC] at this
      exact this
    refine ESX.getMethod_super hso (looks_opaque X₂ T.third) (l₀ := cd.mro) ?_ rfl X₂ hf hxC rfl ?_ ?_
    · exact fun A Q E s kk q => wpAny_bind ((looks_clsIn X₂ hC) A _ E s kk (wpAny_pure q))
    · exact I₂.type.andThen (looks_subIn X₂ T.exE)
    · have hx₂ := k₂ _ _ hx₁
      have kp : ∀ b o, h₂.get? b = some o → (h₂.push (ESX.bw x)).get? b = some o := fun b o e => Heap.get?_push_of_some _ e
      have hu : (h₂.push (ESX.bw x)).get? h₂.objs.size = some (ESX.bw x) := Heap.get?_push_at rfl rfl
      obtain ⟨nm, N, qn, bs, bm, hdct, sn, sub, ab, col, dd, k0, k1, k3, k5, k6, hCo, _⟩ := excInit_of X₂ T.ini
      refine ESX.callWith_bound (x := x) ?_ (hst.trans rfl) rfl
      rw [hst]
      refine Calls.spliced_cons ?_
      show wpAny (model prog w) _ (eval (.Constant (.str msg) j q4) _) _ _ _
      refine hcon _ _ _ _ _ fun s₃ tk₃ e1 e2 e3 e4 => ?_
      obtain ⟨h₃, g₃, d₃, t₃, os₃⟩ := s₃
      dsimp only at e1 e2 e3 e4
      subst e1 e2 e3 e4
      refine Calls.spliced_nil ⟨hu, ?_⟩
      refine ESX.call_bw (kp _ _ hCo) (kp _ _ hx₂) hu (by rw [sizeLine_eq]; exact (by decide : 1 ≤ 16777216)) fun h₄ t1 k₄ hx₄ => ?_
      have old₁ : ∀ b o, b ≠ x → h₁.get? b = some o → h₄.get? b = some o := fun b o hb e => k₄ b o hb (kp b o (k₂ b o e))
      have old : ∀ b o, b ≠ x → h.get? b = some o → h₄.get? b = some o := fun b o hb e => old₁ b o hb (k b o e)
      have hxL : h.objs.size ≠ x := Nat.ne_of_gt (Heap.lt_size hx)
      have X₄ : K.In h₄ := fun a o e => old a o (fun z => by rw [z, nX] at e; cases e) (X a o e)
      dsimp only
      have hn₄ : h₄.Ns h.objs.size (fun z => List.lookup z ([(("self" : Str), Value.ref x), (y, v)].reverse)) := by
        obtain ⟨oL, es, ep, hL, r⟩ := hn
        exact ⟨oL, es, ep, old₁ _ _ hxL hL, r⟩
      refine ks_wpAt_execs_cons (wpAt_of_wpAny (plainObj_wpAny_Assign_Attribute ?_ hsw2))
      refine ESX.ldL (v := v) hn₄ (by show List.lookup y [(y, v), ("self", Value.ref x)] = _; rw [List.lookup, show (y == y) = true from beq_self_eq_true y]) ?_ hk hs4 hyd
      refine ESX.ldL (v := .ref x) hn₄ (by show List.lookup ("self" : Str) [(y, v), ("self", Value.ref x)] = _; rw [List.lookup, show (("self" : Str) == y) = false from beq_eq_false_iff_ne.mpr (Ne.symm hys)]; rfl) ?_ hk hs3 (by decide)
      refine set_plain X₄ (ox := excO C t1) (od := none) ⟨hx₄, rfl, rfl, trivial⟩ T.sa ?_
      refine zaex X₄ hx₄ T.ov T.nof T.hd fun h₅ tk₅ dx k₅ dn dne hx₅ hn₅ => ?_
      dsimp only
      refine wpAt_of_wpAny (wpAny_execs_nil ?_)
      refine hq h₅ tk₅ dx t1 ⟨fun b o hb e => k₅ b o hb (old b o hb e), hx₅, Nat.le_of_lt (Nat.lt_of_lt_of_le hn₄.lt dn), dne, hn₅⟩
/-- a made one -/
structure Made (h h' : Heap) (e C dx : Addr) (f : Str) (v : Value) : Prop where
  keep : ∀ b o, h.get? b = some o → h'.get? b = some o
  new : h.objs.size ≤ e
  obj : ∃ oe vs, h'.get? e = some oe ∧ oe.cls = .ref C ∧ oe.dict = some dx ∧ oe.data = .fields vs ∧ vs[1]? = some .none
  dbig : h.objs.size ≤ dx
  dne : dx ≠ e
  ns : h'.Ns1 dx (fun z => if z = f then some v else none)
theorem z9x (v : Value) : [v].length ≤ sizeLine := by
  rw [sizeLine_eq]
  exact (by decide : 1 ≤ 16777216)
theorem zaae (T : XTxt prog K mg C fI y f) {v : Value} {h : Heap} {g : Array GenState} {d : Drawn} {t : Nat} {os : OsState} (X : K.In h) (hlim : h.NoLimit) (hg : h.Ns mainGlobals mg) (hb : ∃ mb, h.Ns builtinsNs mb ∧ ∀ x : Str, x ≠ "__name__" → mb x = bootBuiltins x) (hroom : A.depth + 1 < recursionLimit)
    (hq : ∀ h' tk e dx, Made h h' e C dx f v → R (.ok (.ret (.ref e))) ⟨h', g, d, tk, os⟩) :
    codeAny (model prog w) A (.call (.ref C) ⟨[v], []⟩) R ⟨h, g, d, t, os⟩ := by
  obtain ⟨nm, N, qn, bs, bm, hdct, sn, sub, ab, col, dd, k0, k1, k3, k5, k6, hCo, hbm⟩ := excInit_of X T.ini
  have k : ∀ b o, h.get? b = some o → ((h.push (kdv_tup [v])).push (excO C h.objs.size)).get? b = some o := fun b o e => Heap.get?_push_of_some _ (Heap.get?_push_of_some _ e)
  have hget : ((h.push (kdv_tup [v])).push (excO C h.objs.size)).get? (h.objs.size + 1) = some (excO C h.objs.size) := by heap_get
  have nX : K.lookup (h.objs.size + 1) = none := by
    cases e : K.lookup (h.objs.size + 1) with
    | none => rfl
    | some o =>
      have z := Heap.lt_size (X _ _ e)
      exact absurd (Nat.lt_of_succ_lt z) (Nat.lt_irrefl _)
  have hft : typeIn K (.ref fI) = some (.type "function") := by
    have := T.isf
    unfold isFn at this
    exact beq_iff_eq.mp this
  obtain ⟨mb, hbn, hbb⟩ := hb
  refine HandSPX.call_own PySem.F.excBase_Exception hbm hCo (looks_findIn X T.iC) (fun self => bind_fn X self hft) (z9x v) ?_
  refine z9s T (X.keeps k) (hlim.keeps k) (hg.keeps k) ⟨mb, hbn.keeps k, hbb⟩ hget nX hroom fun h' tk' dx t1 M => ?_
  have old : ∀ b o, h.get? b = some o → h'.get? b = some o := fun b o e => M.keep b o (Nat.ne_of_lt (Nat.lt_succ_of_lt (Heap.lt_size e))) (k b o e)
  have z : h.objs.size + 1 + 1 ≤ dx := by
    have := M.dbig
    first
      | (simpa only [Heap.size_push] using this)
      | exact this
  exact ⟨rfl, hq h' tk' (h.objs.size + 1) dx ⟨old, Nat.le_succ _, ⟨_, _, M.obj, rfl, rfl, rfl, rfl⟩, Nat.le_trans (Nat.le_trans (Nat.le_succ _) (Nat.le_succ _)) z, M.dne, M.ns⟩⟩
end
end DX
namespace DL
open PySem PySem.Spec PyProof.Rows L2
theorem zaav {v : V} {v' : Value} (r : RelV v v') (f z : Str) : RelO (List.lookup z [(f, v)]) (if z = f then some v' else none) := by
  by_cases h : z = f
  · subst h
    rw [if_pos rfl]
    have q : List.lookup z [(z, v)] = some v := by simp [List.lookup]
    rw [q]
    exact r
  · rw [if_neg h]
    have q1 : (z == f) = false := by simpa using h
    have q2 : List.lookup z [(f, v)] = none := by simp [List.lookup, q1]
    rw [q2]
    trivial
section
variable {X : Cx} {C fI : Addr} {y f : Str}
/-- C(e), an exception -/
def tMkX (C : Addr) (f : Str) (ta : TA) : L2.St → Hp → XK → Prop := fun σ H Q => ta σ H fun vs H1 => ∃ v, vs = [v] ∧ ∀ d, H1 d = none → Q (.ref C) (some d) (upd H1 d (.xd [(f, v)]))
theorem zafx {x : Str} {a : Expr} {ta : TA} {p pos : Pos} {k : Nat} (T : DX.XTxt X.prog X.K X.mg C fI y f) (hm : X.mg x = some (.ref C)) (hr : Room k X.A) (ha : PA X [a] ta) (hg : Gl X x := by rfl)
    (he : starEach (a :: []) X.env = (false, eval a X.env) :: starEach [] X.env := by rfl) (hpl : (backTo pos (starEach [] X.env)).any (·.1) = false := by rfl) (hdb : (x == ("__debug__" : Str)) = false := by decide) :
    PMk X (.Call (.Name x p) [a] [] pos) (tMkX C f ta) := by
  intro pins s σ H Q I h
  refine wpAny_Call_Name_kw (ld_glob I hg hm ?_ hdb)
  refine PySem.W.callWith_K (h₀ := X.base) I.ok.mod.kin T.kC (thn (ha.run pos pins s σ H _ I h) fun us s1 hh => ?_) he hpl
  obtain ⟨vs, H1, I1, r1, v, ev, q1⟩ := hh
  subst ev
  refine ⟨I1.kIn, ?_⟩
  cases r1 with
  | cons rv rn =>
    rename_i v' us'
    cases rn
    show wpAny _ _ (call (.ref C) [v']) _ _ _
    have hlim := I1.nolimit
    have hbk := I1.bk
    obtain ⟨mb, hb1, hb2⟩ := I1.mod.blt
    obtain ⟨hp, g, dr, tk, os⟩ := s1
    refine wpAny_call (DX.zaae T I1.kIn hlim (I1.mod.glob.keeps hbk) ⟨mb, hb1.keeps hbk, hb2⟩ (by have := hr.dp; omega) fun h' tk' e d M => ?_)
    show MkP X pins σ Q (.ref e) ⟨h', g, dr, tk', os⟩
    obtain ⟨oe, fv, hoe, hc, hd, hdat, h1⟩ := M.obj
    have hns := M.ns
    obtain ⟨G', g1, g2⟩ := restrict h' fun b => decide (b ≠ e)
    have gk : ∀ b, b ≠ e → G'.get? b = h'.get? b := fun b hb => g1 b (decide_eq_true hb)
    have ge : G'.get? e = none := g2 e (by simp)
    have old : ∀ b o, hp.get? b = some o → G'.get? b = some o := fun b o q => (gk b (Nat.ne_of_lt (Nat.lt_of_lt_of_le (Heap.lt_size q) M.new))).trans (M.keep b o q)
    have ob : ObjOk X.prog X.w (upd H1 d (.xd [(f, v)])) G' d (.xd [(f, v)]) :=
      ⟨_, hns.at (fun o q => (gk d M.dne).trans q), fun z => zaav rv f z⟩
    have J : Inv X pins σ (upd H1 d (.xd [(f, v)])) ⟨G', g, dr, tk', os⟩ := I1.laid (t' := tk') old M.dbig ob
    refine ⟨e, oe, fv, ⟨G', g, dr, tk', os⟩, _, .ref C, some d, rfl, J, fun b o q => ?_, ge, hoe, ⟨hc, hd⟩, hdat, h1, ?_, rfl, I1.bare, raises_own T.exB T.tyC, q1 d (I1.hok.fresh M.dbig)⟩
    · by_cases hb : b = e
      · have q' : G'.get? b = some o := q
        rw [hb, ge] at q'; cases q'
      · exact (gk b hb).symm.trans q
    · rw [upd_ne (Ne.symm M.dne)]
      exact I1.hok.fresh M.new
end
end DL
namespace DL
open PySem PySem.Spec PyProof.Rows L2
/-- an exception: its class, its fields -/
structure XV where
  C : Addr
  fs : List (Str × D)
/-- what is wished of an exception, at the slots -/
abbrev DXK := XV → DSt → DHp → Prop
/-- .. by a caller -/
abbrev DXP := XV → DHp → Prop
structure XR (K : Ml) (H : Hp) (G : DHp) (x : XV) (cls : Value) (d : Option Addr) : Prop where
  cls : cls = .ref x.C
  fs : ∃ (dd : Addr) (ws : List (Str × V)), d = some dd ∧ G dd = none ∧ H dd = some (.xd ws) ∧ ws.map (·.1) = x.fs.map (·.1) ∧ VRs K H G (x.fs.map (·.2)) (ws.map (·.2))
theorem XR.ext {K : Ml} {H H' : Hp} {G G' : DHp} {x : XV} {cls : Value} {d : Option Addr} (hr : HR K H G) (e : Ext H G H' G') (h : XR K H G x cls d) : XR K H' G' x cls d := by
  obtain ⟨dd, ws, h1, h2, h3, h4, h5⟩ := h.fs
  obtain ⟨e1, e2⟩ := e.ex dd _ h3 h2
  exact ⟨h.cls, dd, ws, h1, e2, e1, h4, h5.ext hr e⟩
def zs3 [Bs] (K : Ml) (E : DXK) : WX := fun cls d σ H => ∃ x η G, SR K H G σ η ∧ HR K H G ∧ XR K H G x cls d ∧ E x η G
/-- a promise of a def that may raise -/
abbrev DRnX := List D → DHp → DVK → DXP → Prop
def zaev (K : Ml) (r : DRnX) : Sp := fun vs H Q E => ∃ ds G P PX, VRs K H G ds vs ∧ HR K H G ∧ r ds G P PX ∧ (∀ d G' v H', P d G' → Ext H G H' G' → HR K H' G' → VR K H' G' d v → Q v H') ∧
  ∀ x G' cls d H', PX x G' → Ext H G H' G' → HR K H' G' → XR K H' G' x cls d → E cls d H'
abbrev FnX (P : Program) (w : World) (K : PySem.W.Frag) (mg : Str → Option Value) (base : Heap) (k : Nat) (f : Addr) (fd : FuncData) (ps : List Str) (sp : DRnX) : Prop := FnOk P w K mg base (L2.CX P w) k f fd ps (zaev ⟨K, w⟩ sp)
section
variable {P : Program} {w : World} {K : PySem.W.Frag} {mg : Str → Option Value} {base : Heap}
/-- the rule for a def that may raise -/
theorem fn_x {x qual : Str} {st : Stmt} {f : Addr} {fd : FuncData} {N ps : List Str} {k : Nat} {sp : DRnX} (F : Fun K x qual st f fd) (S : FnScope N ps (defScope st)) (len : ∀ ds G Q E, sp ds G Q E → ds.length = ps.length) {T : DXK → DTS}
    (hp : ∀ [Bs] (U : DXK) (cdv : Value) (A : Around) (outer : List Env) (s : Shared) (H : Hp) (E : XK), Room k (A.deeper (envOfC qual (defScope st) s.heap.objs.size f cdv)) → Takes (cxOf (L2.CX P w) P w K mg base N qual (defScope st) f cdv A outer s H E) (zs3 ⟨K, w⟩ U) →
      PassesOwn (model P w) (cxOf (L2.CX P w) P w K mg base N qual (defScope st) f cdv A outer s H E).A (cxOf (L2.CX P w) P w K mg base N qual (defScope st) f cdv A outer s H E).env (cxOf (L2.CX P w) P w K mg base N qual (defScope st) f cdv A outer s H E).xe →
      PSsD (cxOf (L2.CX P w) P w K mg base N qual (defScope st) f cdv A outer s H E) (defBody st) (T U))
    (hs : ∀ ds G Q E, sp ds G Q E → T (fun x _ G' => E x G') { nx := fun _ G' => Q .non G', rt := Q } (za4 N ds) G) : FnX P w K mg base (k + 1) f fd ps sp := by
  refine F.okX S (fun vs H Q E h => ?_) (fun cdv A outer s H vs Q E hr h => ?_)
  · obtain ⟨ds, G, Q', X', q, _, t, _⟩ := h
    rw [q.length]
    exact len _ _ _ _ t
  · obtain ⟨ds, G, Q', X', q, hr', t, k', kx⟩ := h
    letI : Bs := ⟨H, G⟩
    refine ⟨z6c ⟨K, w⟩ (T fun x _ G' => X' x G'), hp _ cdv A outer s H E hr ?_ (passes_of rfl), za4 N ds, G, _, .st q (.refl _ _), hr', hs ds G Q' X' t, ?_⟩
    · exact (takes_of rfl rfl rfl rfl).imp fun cls d σ H' ⟨x, η, G', sr, hr2, xr, e⟩ => kx x G' cls d H' e sr.base hr2 xr
    · exact ⟨fun η G' σ H' p x _ r => k' _ _ _ _ p x r (by rw [VR]), fun d G' v H' p x r q => k' _ _ _ _ p x r q, fun _ _ _ _ p => p.elim, fun _ _ _ _ p => p.elim⟩
end
section
variable {X : Cx}
/-- raise C(e) -/
def zlv (C : Addr) (f : Str) (U : DXK) (T : DTA) : DTS := fun _ η G => T η G fun ds G1 => match ds with
  | [y] => U ⟨C, [(f, y)]⟩ η G1
  | _ => False
theorem zmz [Bs] {C fI : Addr} {y f x : Str} {U : DXK} {a : Expr} {T : DTA} {p pos pos2 : Pos} {k : Nat} (hc : X.calm = true) (t : DX.XTxt X.prog X.K X.mg C fI y f) (hm : X.mg x = some (.ref C)) (hr : Room k X.A) (tk : Takes X (zs3 X.ml U)) (ha : PAD X [a] T) (hg : Gl X x := by rfl)
    (he : starEach (a :: []) X.env = (false, eval a X.env) :: starEach [] X.env := by rfl) (hpl : (backTo pos (starEach [] X.env)).any (·.1) = false := by rfl) (hdb : (x == ("__debug__" : Str)) = false := by decide) :
    PSD X (.Raise (some (.Call (.Name x p) [a] [] pos)) none pos2) (zlv C f U T) :=
  PS.impI (ps_raise hc tk (zafx t hm hr ha hg he hpl hdb)) fun _ _ σ H E _ ⟨η, G, F, sr, hr, tt, er⟩ => ⟨η, G, _, sr, hr, tt, fun ds G1 vs H1 p x1 r1 q1 => by
    split at p
    · rename_i y'
      obtain ⟨v, r, rfl, q2, q3⟩ := q1.uncons
      rw [q3.nil_of]
      refine ⟨v, rfl, fun d hd => ?_⟩
      have x2 : Ext H1 G1 (upd H1 d (.xd [(f, v)])) G1 := .laid hd
      refine ⟨⟨C, [(f, y')]⟩, η, G1, (sr.ext hr x1).ext r1 x2, r1.laid hd, ⟨rfl, d, [(f, v)], rfl, r1.free hd, upd_same, rfl, .cons (q2.ext r1 x2) .nil⟩, p⟩
    · exact p.elim⟩
/-- a call of a def that may raise -/
def dCX (sp : DRnX) (U : DXK) (T : DTA) : DTE := fun η G Q => T η G fun ds G1 => sp ds G1 Q fun x G2 => U x η G2
theorem z7c [Bs] {k : Nat} {f : Addr} {fd : FuncData} {ps : List Str} {sp : DRnX} {U : DXK} {x : Str} {p pos : Pos} {e : Expr} {es : List Expr} {T : DTA} (F : FnX X.prog X.w X.K X.mg X.base k f fd ps sp) (hr : Room k X.A) (hm : X.mg x = some (.ref f)) (hk : PySem.W.keepIn X.K (.ref f) = true) (hb : Binds X.K fd ps [])
    (tk : Takes X (zs3 X.ml U)) (ha : PAD X (e :: es) T) (hg : Gl X x := by rfl) (hdb : (x == ("__debug__" : Str)) = false := by decide) (he : starEach (e :: es) X.env = (false, eval e X.env) :: starEach es X.env := by rfl) (hpl : (backTo pos (starEach es X.env)).any (·.1) = false := by rfl) :
    PED X (.Call (.Name x p) (e :: es) [] pos) (dCX sp U T) :=
  PE.impI (pe_callS F hr hg hm hk hb (fun σ => passAt tk σ) ha hdb he hpl) fun _ _ σ H Q _ ⟨η, G, P, sr, hr, t, k⟩ => ⟨η, G, _, sr, hr, t, fun ds G1 vs H1 p x1 r1 q1 =>
    ⟨ds, G1, P, _, q1, r1, p, fun d G2 v H2 pd x2 r2 q2 => k d G2 v H2 pd (x1.trans x2) r2 q2, fun xv G2 cls d H2 pe x2 r2 xr => ⟨xv, η, G2, (sr.ext hr x1).ext r1 x2, r2, xr, pe⟩⟩⟩
end
section
variable {X : Cx}
/-- a base put in the place of another -/
theorem SR.rebase {b b' : Bs} {K : Ml} {H : Hp} {G : DHp} {σ : L2.St} {η : DSt} (h : @SR b K H G σ η) (x : Ext b'.H0 b'.G0 H G) : @SR b' K H G σ η := @SR.mk b' K H G σ η (@SR.len b _ _ _ _ _ h) (@SR.get b _ _ _ _ _ h) x
/-- the exceptions' ends: slot i is given up -/
def zaen (i : Nat) (F : zmh) : zmh := { nx := fun η G => F.nx (η.set i none) G, rt := F.rt, bk := fun η G => F.bk (η.set i none) G, ct := fun η G => F.ct (η.set i none) G }
/-- ends, from another base -/
theorem zk8.rebase {b b' : Bs} {K : Ml} {H H' : Hp} {G G' : DHp} {F : zmh} {E : Ends} (e : @zk8 b K H G F E) (x0 : Ext b.H0 b.G0 H G) (x : Ext H G H' G') : @zk8 b' K H' G' F E :=
  @zk8.mk b' K H' G' F E (fun η2 G2 σ2 H2 p x2 sr2 hr2 => @zk8.nx b _ _ _ _ _ e η2 G2 σ2 H2 p (x.trans x2) (SR.rebase (b := b') (b' := b) sr2 ((x0.trans x).trans x2)) hr2)
    (fun d2 G2 v2 H2 p x2 hr2 q => @zk8.rt b _ _ _ _ _ e d2 G2 v2 H2 p (x.trans x2) hr2 q)
    (fun η2 G2 σ2 H2 p x2 sr2 hr2 => @zk8.bk b _ _ _ _ _ e η2 G2 σ2 H2 p (x.trans x2) (SR.rebase (b := b') (b' := b) sr2 ((x0.trans x).trans x2)) hr2)
    (fun η2 G2 σ2 H2 p x2 sr2 hr2 => @zk8.ct b _ _ _ _ _ e η2 G2 σ2 H2 p (x.trans x2) (SR.rebase (b := b') (b' := b) sr2 ((x0.trans x).trans x2)) hr2)
/-- .. with slot i given up -/
theorem zk8.gone {b : Bs} {K : Ml} {H : Hp} {G : DHp} {F : zmh} {E : Ends} (i : Nat) (e : @zk8 b K H G F E) : @zk8 b K H G (zaen i F) ({ nx := fun σ' H' => E.nx (σ'.set i none) H', rt := E.rt, bk := fun σ' H' => E.bk (σ'.set i none) H', ct := fun σ' H' => E.ct (σ'.set i none) H' }) :=
  @zk8.mk b K H G _ _ (fun η2 G2 σ2 H2 p x2 sr2 hr2 => @zk8.nx b _ _ _ _ _ e _ G2 _ H2 p x2 (sr2.none i _) hr2)
    (fun d2 G2 v2 H2 p x2 hr2 q => @zk8.rt b _ _ _ _ _ e d2 G2 v2 H2 p x2 hr2 q)
    (fun η2 G2 σ2 H2 p x2 sr2 hr2 => @zk8.bk b _ _ _ _ _ e _ G2 _ H2 p x2 (sr2.none i _) hr2)
    (fun η2 G2 σ2 H2 p x2 sr2 hr2 => @zk8.ct b _ _ _ _ _ e _ G2 _ H2 p x2 (sr2.none i _) hr2)
/-- try: tb / except C as n: ts; oth: classes that pass by it, to U -/
def zy6 (C : Addr) (oth : List Addr) (i : Nat) (U : DXK) (tb : DXK → DTS) (ts : Addr → XV → DTS) : DTS := fun F η G => tb (fun x η' G' => (x.C = C ∧ ∀ a, ts a x (zaen i F) (η'.set i (some (.ref a))) G') ∨ (x.C ∈ oth ∧ U x η' G')) F η G
/-- the suite's reading at the hand layer -/
def suT (K : Ml) (ts : XV → DTS) : Value → Option Addr → TS := fun cls d E σ H => ∃ x G, XR K H G x cls d ∧ HR K H G ∧ @z6c ⟨H, G⟩ K (ts x) E σ H
theorem zaeb {a : Addr} {oe : Obj} {pn : List (Addr × Obj)} {cls : Value} {d : Option Addr} {sts : List Stmt} {ts : XV → DTS}
    (h : ∀ [Bs] (x : XV), XR X.ml Bs.H0 Bs.G0 x cls d → HR X.ml Bs.H0 Bs.G0 → PSsD (X.suite a ((a, oe) :: pn)) sts (ts x)) : PSs (X.suite a ((a, oe) :: pn)) sts (suT X.ml ts cls d) :=
  ⟨fun pins s σ H E I ⟨x, G, xr, hr, l⟩ => by
    letI : Bs := ⟨H, G⟩
    exact (h x xr hr).run pins s σ H E I l⟩
/-- the body's reading at the hand layer -/
def boT (K : Ml) (tb : DXK → DTS) : WX → TS := fun W E σ H => ∃ (b : Bs) (U : DXK), (∀ cls d σ H, @zs3 b K U cls d σ H → W cls d σ H) ∧ @z6c b K (tb U) E σ H
theorem zafc {Y : Cx} {sts : List Stmt} {tb : DXK → DTS} {W : WX} (tk : Takes Y W) (h : ∀ [Bs] (U : DXK), Takes Y (zs3 Y.ml U) → PSsD Y sts (tb U)) : PSs Y sts (boT Y.ml tb W) :=
  ⟨fun pins s σ H E I ⟨b, U, i, l⟩ => (@h b U (tk.imp i)).run pins s σ H E I l⟩
theorem zuz [Bs] {C : Addr} {oth : List Addr} {i : Nat} {x n : Str} {U : DXK} {body suite : List Stmt} {b₀ : Stmt} {np pos pos' : Pos} {tb : DXK → DTS} {ts : Addr → XV → DTS} (hs : X.stack = X.env :: X.outer) (hf : X.env.frame = some X.env.locals) (hN : X.N.Nodup) (hi : X.N[i]? = some n) (hln : X.env.kindOf n = some .local)
    (hm : X.mg x = some (.ref C)) (te : PySem.W.exmOne X.K (.ref C) (.ref C) = some true) (to : ∀ C' ∈ oth, PySem.W.exmOne X.K (.ref C') (.ref C) = some false) (tk : Takes X (zs3 X.ml U))
    (hb : ∀ [Bs] (U : DXK) (pn : List (Addr × Obj)) (xe : Value → Shared → Prop), Takes (X.tr pn xe) (zs3 X.ml U) → PassesOwn (model X.prog X.w) X.A X.env xe → PSsD (X.tr pn xe) body (tb U))
    (hsu : ∀ [Bs] (a : Addr) (oe : Obj) (cls : Value) (d : Option Addr) (pn : List (Addr × Obj)) (x : XV), Zc cls d oe → (∃ vs, oe.data = .fields vs) → XR X.ml Bs.H0 Bs.G0 x cls d → HR X.ml Bs.H0 Bs.G0 → PSsD (X.suite a ((a, oe) :: pn)) (b₀ :: suite) (ts a x))
    (hg : Gl X x := by rfl) (hdb : (x == ("__debug__" : Str)) = false := by decide) :
    PSD X (.Try body [.ExceptHandler (some (.Name x np)) (some n) (b₀ :: suite) pos'] [] [] pos) (zy6 C oth i U tb ts) := by
  refine PS.impI (ps_try_as (i := i) (c := .ref C) (Wout := zs3 X.ml U) (tb := boT X.ml tb) (ts := fun a cls d => suT X.ml (ts a) cls d) hs hf hN hi hln ⟨hg, hdb, .inl hm⟩ tk (fun W pn xe t po => zafc (Y := X.tr pn xe) t fun U t' => hb U pn xe t' po) fun a oe cls d pn hz hv => zaeb fun x xr hr => hsu a oe cls d pn x hz hv xr hr) ?_
  rintro _ _ σ H E _ ⟨η, G, F, sr, hr, t, er⟩
  refine ⟨⟨H, G⟩, _, ?w, η, G, F, sr.rebase (.refl _ _), hr, t, ?e⟩
  case w =>
    rintro cls d σ' H' ⟨x, η', G', sr', hr', xr, e⟩
    have xb : Ext H G H' G' := @SR.base ⟨H, G⟩ _ _ _ _ _ sr'
    have ec := xr.cls
    rcases e with ⟨e1, e2⟩ | ⟨e1, e2⟩
    · refine ⟨true, by rw [ec, e1]; exact te, fun _ a ha => ⟨x, G', xr, hr', η'.set i (some (.ref a)), G', _, ?_, hr', e2 a, ?_⟩, fun q => (nomatch q)⟩
      · exact @SR.set X.ml H' G' _ _ ⟨H', G'⟩ (SR.rebase (b := ⟨H, G⟩) (b' := ⟨H', G'⟩) sr' (.refl _ _)) _ _ i (by rw [VR])
      · exact zk8.gone (b := ⟨H', G'⟩) i (zk8.rebase (b' := ⟨H', G'⟩) er sr.base xb)
    · exact ⟨false, by rw [ec]; exact to _ e1, fun q => (nomatch q), fun _ => ⟨x, η', G', SR.rebase (b := ⟨H, G⟩) sr' (sr.base.trans xb), hr', xr, e2⟩⟩
  case e => exact zk8.rebase er sr.base (.refl _ _)
/-- n.f, n the exception that the suite holds -/
def dXF (a C : Addr) (x : XV) (f : Str) (T : DTE) : DTE := fun η G Q => T η G fun d G1 => d = .ref a ∧ x.C = C ∧ ∃ y, x.fs.lookup f = some y ∧ Q y G1
theorem z5s [Bs] {a C : Addr} {oe : Obj} {cls : Value} {d : Option Addr} {pn : List (Addr × Obj)} {x : XV} {e : Expr} {T : DTE} {pos : Pos} {n : Str} (t : XfC X.K C) (hno : PySem.W.findIn X.K (.ref C) n = some none)
    (hz : Zc cls d oe) (hv : ∃ vs, oe.data = .fields vs) (xr : XR X.ml Bs.H0 Bs.G0 x cls d) (hb : HR X.ml Bs.H0 Bs.G0) (he : PED (X.suite a ((a, oe) :: pn)) e T) (hbs : attributeBase e n X.env (eval e X.env) = eval e X.env := by rfl) :
    PED (X.suite a ((a, oe) :: pn)) (.Attribute e n pos) (dXF a C x n T) :=
  PE.impI (pe_xf t hno hz hv he hbs) fun _ _ σ H Q _ ⟨η, G, P, sr, hr, t, k⟩ => ⟨η, G, _, sr, hr, t, fun y G1 v H1 ⟨p1, p2, y', p3, p4⟩ x1 r1 q1 => by
    have xr1 : XR X.ml H1 G1 x cls d := xr.ext hb (sr.base.trans x1)
    obtain ⟨dd, ws, h1, h2, h3, h4, h5⟩ := xr1.fs
    obtain ⟨u, hu, q⟩ := zzz h4 h5 p3
    subst p1
    rw [VR] at q1
    exact ⟨q1, by rw [xr.cls, p2], dd, ws, u, h1, h3, hu, k _ _ _ _ p4 x1 r1 q⟩⟩
end
end DL
namespace DL
open PySem PySem.Spec PyProof.Rows L2
/-- no exception is wished -/
theorem zr9 [Bs] {X : Cx} : Takes X (zs3 X.ml fun _ _ _ => False) := fun _ _ x => by
  obtain ⟨a, B, sI, pins, σ, H, cls, d, e, I, nb, up, sky, na, os, ag, w⟩ := x
  obtain ⟨_, _, _, _, _, _, w⟩ := w
  exact w.elim
end DL
namespace DL
open PySem PySem.Spec PyProof.Rows L2
section
variable {X : Cx}
theorem z7e {CX : CXT} {k : Nat} {f C : Addr} {fd : FuncData} {ps : List Str} {sp : Sp} {E : XK} {pins : List (Addr × Obj)} {σ : L2.St} {H : Hp} {s : Shared} {Q : VK} {us : List Value} {vs : List V} (M : Mk X.K C f) (F : FnOk X.prog X.w X.K X.mg X.base CX k f fd ps sp) (hr : Room (k + 1) X.A) (hb : Binds X.K fd ps [])
    (hx : PassesAt CX X σ E) (I : Inv X pins σ H s) (r : Vals vs us)
    (h : ∀ x dx, H x = none → H dx = none → dx ≠ x → sp (.ref x :: vs) (upd (upd H dx (.own x)) x (.ins C dx [])) (fun v H2 => v = .non ∧ Q (.ref x) H2) E) :
    wpAny (model X.prog X.w) X.A (call (.ref C) us) (EP X pins σ Q) X.xe s := by
  have hq := h (s.heap.objs.size + 1) s.heap.objs.size (I.hok.fresh (Nat.le_succ _)) (I.hok.fresh (Nat.le_refl _)) (Nat.ne_of_lt (Nat.lt_succ_self _))
  have I2 := Inv.made (C := C) I
  have r2 : Vals (V.ref (s.heap.objs.size + 1) :: vs) (Value.ref (s.heap.objs.size + 1) :: us) := .cons rfl r
  have hl : (Value.ref (s.heap.objs.size + 1) :: us ++ []).length = ps.length := by
    have e := r2.length
    rw [F.len _ _ _ _ hq] at e
    rw [List.append_nil]
    exact e.symm
  have b := hb _ (Value.ref (s.heap.objs.size + 1) :: us) I2.kIn hl
  rw [List.append_nil] at b
  refine wpAny_call (make_map (f := f) I.kIn M.makes M.init (beq_iff_eq.mp M.fn) (codeAny_mono (F.run _ X.stack _ _ ⟨Value.ref (s.heap.objs.size + 1) :: us, []⟩ (Value.ref (s.heap.objs.size + 1) :: us) _ _ E (hr.make C us [])
    (I2.env0.make C us []) b r2 hq) fun r s' hq' => ?_))
  cases r with
  | error e => exact hx pins _ _ e s' I2 hq'
  | ok fl =>
    cases fl with
    | ret u =>
      obtain ⟨v, H', I3, rv, ev, q3⟩ := I2.after hq'
      subst ev
      exact ⟨rv, ⟨V.ref (s.heap.objs.size + 1), H', I3, rfl, q3⟩⟩
    | next => exact False.elim hq'
    | brk => exact False.elim hq'
    | cont => exact False.elim hq'
def zaey (C : Addr) (sp : Sp) (E : L2.St → XK) (t : TA) : TE := fun σ H Q => t σ H fun vs H1 => ∀ x dx, H1 x = none → H1 dx = none → dx ≠ x → sp (.ref x :: vs) (upd (upd H1 dx (.own x)) x (.ins C dx [])) (fun v H2 => v = .non ∧ Q (.ref x) H2) (E σ)
theorem z9t {CX : CXT} {k : Nat} {f C : Addr} {fd : FuncData} {ps : List Str} {sp : Sp} {E : L2.St → XK} {x : Str} {p pos : Pos} {e : Expr} {es : List Expr} {t : TA} (M : Mk X.K C f) (F : FnOk X.prog X.w X.K X.mg X.base CX k f fd ps sp) (hr : Room (k + 1) X.A) (hg : Gl X x) (hm : X.mg x = some (.ref C)) (hb : Binds X.K fd ps []) (hx : ∀ σ, PassesAt CX X σ (E σ))
    (ha : PA X (e :: es) t) (hdb : (x == ("__debug__" : Str)) = false := by decide) (he : starEach (e :: es) X.env = (false, eval e X.env) :: starEach es X.env := by rfl) (hpl : (backTo pos (starEach es X.env)).any (·.1) = false := by rfl) :
    PE X (.Call (.Name x p) (e :: es) [] pos) (zaey C sp E t) := by
  refine ⟨fun pins s σ H Q I h => ?_⟩
  refine wpAny_Call_Name_kw (ld_glob I hg hm ?_ hdb)
  refine PySem.W.callWith_K (h₀ := X.base) I.ok.mod.kin M.kp (thn (ha.run pos pins s σ H _ I h) fun us s1 ⟨vs, H1, I1, r, q⟩ => ⟨I1.kIn, ?_⟩) he hpl
  exact z7e M F hr hb (hx σ) I1 r q
def zse (C : Addr) (sp : DRnX) (U : DXK) (T : DTA) : DTE := fun η G Q => T η G fun ds G1 => ∀ x, G1 x = none → sp (.ref x :: ds) (up G1 x (.ins C [])) (fun d G2 => d = .non ∧ Q (.ref x) G2) fun x G3 => U x η G3
theorem zr8 [Bs] {C : Addr} {k : Nat} {f : Addr} {fd : FuncData} {ps : List Str} {sp : DRnX} {U : DXK} {x : Str} {p pos : Pos} {e : Expr} {es : List Expr} {T : DTA} (M : Mk X.K C f) (F : FnX X.prog X.w X.K X.mg X.base k f fd ps sp) (hr : Room (k + 1) X.A) (hm : X.mg x = some (.ref C)) (hb : Binds X.K fd ps [])
    (tk : Takes X (zs3 X.ml U)) (ha : PAD X (e :: es) T) (hg : Gl X x := by rfl) (hdb : (x == ("__debug__" : Str)) = false := by decide) (he : starEach (e :: es) X.env = (false, eval e X.env) :: starEach es X.env := by rfl) (hpl : (backTo pos (starEach es X.env)).any (·.1) = false := by rfl) :
    PED X (.Call (.Name x p) (e :: es) [] pos) (zse C sp U T) :=
  PE.impI (z9t M F hr hg hm hb (fun σ => passAt tk σ) ha hdb he hpl) fun _ _ σ H Q _ ⟨η, G, P, hs, hr, t, k⟩ => ⟨η, G, _, hs, hr, t, fun ds G1 vs H1 p1 x1 r1 q1 => fun x dx hx hdx hne => by
    have x2 : Ext H1 G1 (upd H1 dx (.own x)) G1 := .laid hdx
    have r2 : HR X.ml (upd H1 dx (.own x)) G1 := r1.laid hdx
    have hx' : (upd H1 dx (.own x)) x = none := by rw [upd_ne hne.symm]; exact hx
    have x3 : Ext (upd H1 dx (.own x)) G1 (upd (upd H1 dx (.own x)) x (.ins C dx [])) (up G1 x (.ins C [])) := .new hx'
    have r3 := r2.new (u := .ins C []) hx' ⟨dx, [], upd_same, rfl, .nil⟩
    exact ⟨.ref x :: ds, _, _, _, .cons (by rw [VR]) ((q1.ext r1 x2).ext r2 x3), r3, p1 x (r1.free hx), fun d G' v H' ⟨pd, pq⟩ xx rr qq => ⟨by subst pd; rw [VR] at qq; exact qq, k _ G' (.ref x) H' pq (((x1.trans x2).trans x3).trans xx) rr (by rw [VR])⟩,
      fun xv G4 cls dd H4 pe x4 r4 xr => ⟨xv, η, G4, hs.ext hr ((x1.trans x2).trans (x3.trans x4)), r4, xr, pe⟩⟩⟩
end
end DL
namespace DL
open PySem PySem.Spec PyProof.Rows L2
section
variable {X : Cx}
def zadw (C : Addr) (m : Str) (sp : Sp) (E : L2.St → XK) (ta : TE) (t : TA) : TE := fun σ H Q => ta σ H fun x H1 => ∃ a dx fs, x = .ref a ∧ H1 a = some (.ins C dx fs) ∧ fs.lookup m = none ∧ t σ H1 fun vs H2 => sp (x :: vs) H2 Q (E σ)
theorem zaaz {CX : CXT} {k : Nat} {f C : Addr} {fd : FuncData} {ps : List Str} {sp : Sp} {E : L2.St → XK} {m : Str} {apos pos : Pos} {o e : Expr} {es : List Expr} {ta : TE} {t : TA} {pl : Sem Bool} (he : PE X o ta) (c : Cls X.K C) (hm : Meth X.K C m f) (F : FnOk X.prog X.w X.K X.mg X.base CX k f fd ps sp) (hr : Room k X.A) (hb : Binds X.K fd ps []) (hx : ∀ σ, PassesAt CX X σ (E σ)) (ha : PA X (e :: es) t)
    (hst : starEach (e :: es) X.env = (false, eval e X.env) :: starEach es X.env := by rfl) (hpl : (backTo pos (starEach es X.env)).any (·.1) = false := by rfl)
    (ht : eval (.Call (.Attribute o m apos) (e :: es) [] pos) X.env = (do
      let ov ← eval o X.env
      standAt apos.atName
      let (f, first) ← holding [ov] (getMethod ov m pl)
      callWith pos f first (backTo pos (starEach (e :: es) X.env)) (backToKw pos (keywordEach [] X.env))) := by rfl) :
    PE X (.Call (.Attribute o m apos) (e :: es) [] pos) (zadw C m sp E ta t) := by
  refine ⟨fun pins s σ H Q I h => ?_⟩
  refine PySem.W.methodCall_KW (pl := pl) (thn (he.run pins s σ H _ I h) fun u s1 ⟨x, H1, I1, rx, a, dx, fs, ex, ea, l, q⟩ => ?_) ht
  subst ex
  obtain rfl : u = Value.ref a := rx
  refine getmeth_ok I1 ea c hm l ?_
  refine PySem.W.callWith_K (first := [.ref a]) (h₀ := X.base) I.ok.mod.kin hm.kp (thn (ha.run pos pins s1 σ H1 _ I1 q) fun us s2 ⟨vs, H2, I2, r, q2⟩ => ⟨I2.kIn, ?_⟩) hst hpl
  exact run_fnS (us := .ref a :: us) (vs := .ref a :: vs) F hr hb (hx σ) I2 (.cons rfl r) q2
def z4h (C : Addr) (m : Str) (sp : DRnX) (U : DXK) (To : DTE) (T : DTA) : DTE := fun η G Q => To η G fun x G1 => insD C m x G1 ∧ T η G1 fun ds G2 => sp (x :: ds) G2 Q fun x G3 => U x η G3
theorem z7w [Bs] {C : Addr} {m : Str} {k : Nat} {f : Addr} {fd : FuncData} {ps : List Str} {sp : DRnX} {U : DXK} {apos pos : Pos} {o e : Expr} {es : List Expr} {To : DTE} {T : DTA} {pl : Sem Bool} (c : Cls X.K C) (hm : Meth X.K C m f) (F : FnX X.prog X.w X.K X.mg X.base k f fd ps sp) (hr : Room k X.A) (hb : Binds X.K fd ps [])
    (tk : Takes X (zs3 X.ml U)) (ho : PED X o To) (ha : PAD X (e :: es) T) (hst : starEach (e :: es) X.env = (false, eval e X.env) :: starEach es X.env := by rfl) (hpl : (backTo pos (starEach es X.env)).any (·.1) = false := by rfl)
    (ht : eval (.Call (.Attribute o m apos) (e :: es) [] pos) X.env = (do
      let ov ← eval o X.env
      standAt apos.atName
      let (g, first) ← holding [ov] (getMethod ov m pl)
      callWith pos g first (backTo pos (starEach (e :: es) X.env)) (backToKw pos (keywordEach [] X.env))) := by rfl) :
    PED X (.Call (.Attribute o m apos) (e :: es) [] pos) (z4h C m sp U To T) :=
  PE.impI (zaaz (pl := pl) ho c hm F hr hb (fun σ => passAt tk σ) ha hst hpl ht) fun _ _ σ H Q _ ⟨η, G, P, hs, hr, t, k⟩ => ⟨η, G, _, hs, hr, t, fun d G1 v H1 ⟨pi, p1⟩ x1 r1 q1 => by
    obtain ⟨a, dx, ws, h1, h2, h3⟩ := z65 r1 q1 pi
    refine ⟨a, dx, ws, h1, h2, h3, η, G1, _, hs.ext hr x1, r1, p1, fun ds G2 vs H2 p2 x2 r2 q2 => ?_⟩
    exact ⟨d :: ds, G2, P, _, .cons (q1.ext r1 x2) q2, r2, p2, fun d' G' v' H' p x r q => k d' G' v' H' p ((x1.trans x2).trans x) r q, fun xv G3 cls dd H3 pe x3 r3 xr => ⟨xv, η, G3, hs.ext hr (x1.trans (x2.trans x3)), r3, xr, pe⟩⟩⟩
end
end DL
namespace M
open DL
section
variable {α β : Type} [DecidableEq α]
theorem zkk {a : α} {m : β} : ∀ {l : List (α × β)}, (l.map (·.1)).Nodup → (a, m) ∈ l → aget l a = some m
  | [], _, h => by cases h
  | z :: l, hn, h => by
    rw [List.map_cons, List.nodup_cons] at hn
    unfold aget
    rcases List.mem_cons.mp h with e | h
    · rw [← e]; simp
    · have : z.1 ≠ a := fun e => hn.1 (e ▸ List.mem_map.mpr ⟨_, h, rfl⟩)
      simp only [List.find?_cons, this, decide_false]
      exact zkk hn.2 h
theorem z6n {a : α} {m : β} {l : List (α × β)} (h : aget l a = some m) : (a, m) ∈ l := by
  unfold aget at h
  cases hf : l.find? (fun p => decide (p.1 = a)) with
  | none => rw [hf] at h; cases h
  | some z =>
    rw [hf] at h
    have h1 := List.mem_of_find?_eq_some hf
    have h2 := List.find?_some hf
    have h3 : z.1 = a := by simpa using h2
    have h4 : z.2 = m := by simpa using h
    obtain ⟨z1, z2⟩ := z
    simp only at h3 h4
    subst h3 h4
    exact h1
theorem zaer {a : α} {l : List (α × β)} (h : aget l a = none) : a ∉ l.map (·.1) := fun q => by
  have := (zgr l a).mpr q
  rw [h] at this; cases this
end
def nxt (N : List (List Int)) (s : Int) : List Int := (N[s.toNat]?).getD []
def InR (N : List (List Int)) (s : Int) : Prop := 0 ≤ s ∧ s < N.length
structure Mt (N : List (List Int)) (P : List (Int × Int)) : Prop where
  nd : (P.map (·.1)).Nodup
  inj : ∀ a b m, aget P a = some m → aget P b = some m → a = b
  ok : ∀ a m, aget P a = some m → InR N m ∧ a ∈ nxt N m
/-- m is matched -/
def Has (P : List (Int × Int)) (m : Int) : Prop := ∃ a, aget P a = some m
/-- whoever is in S has all its next ones matched within S -/
def zr1 (N : List (List Int)) (P : List (Int × Int)) (S : Int → Prop) : Prop := ∀ s, S s → InR N s ∧ ∀ a ∈ nxt N s, ∃ m, aget P a = some m ∧ S m
theorem Mt.nil (N : List (List Int)) : Mt N [] := ⟨List.nodup_nil, fun _ _ _ h => (by cases h), fun _ _ h => (by cases h)⟩
/-- how the search came to its craters -/
def Tree (N : List (List Int)) (P : List (Int × Int)) (one : Int) (C : List (Int × Int)) : Prop := ∀ l1 a s l2, C = l1 ++ (a, s) :: l2 → a ∉ l1.map (·.1) ∧ a ∈ nxt N s ∧ InR N s ∧ (s = one ∨ ∃ b, b ∈ l1.map (·.1) ∧ aget P b = some s)
theorem Tree.nil {N : List (List Int)} {P : List (Int × Int)} {one : Int} : Tree N P one [] := fun l1 a s l2 h => by simp at h
theorem z7p {α : Type} {C : List α} {x y : α} {l1 l2 : List α} (h : C ++ [x] = l1 ++ y :: l2) : (l2 = [] ∧ l1 = C ∧ y = x) ∨ ∃ l3, C = l1 ++ y :: l3 ∧ l2 = l3 ++ [x] := by
  rcases List.eq_nil_or_concat l2 with rfl | ⟨l3, z, rfl⟩
  · have h2 := List.append_inj' h rfl
    simp only [List.cons.injEq, and_true] at h2
    exact .inl ⟨rfl, h2.1.symm, h2.2.symm⟩
  · have h' : C ++ [x] = (l1 ++ y :: l3) ++ [z] := by rw [h]; simp
    have h2 := List.append_inj' h' rfl
    simp only [List.cons.injEq, and_true] at h2
    exact .inr ⟨l3, h2.1, by rw [h2.2]; simp⟩
theorem Tree.snoc {N : List (List Int)} {P : List (Int × Int)} {one : Int} {C : List (Int × Int)} (t : Tree N P one C) {a s : Int} (h1 : a ∉ C.map (·.1)) (h2 : a ∈ nxt N s) (h3 : InR N s) (h4 : s = one ∨ ∃ b, b ∈ C.map (·.1) ∧ aget P b = some s) : Tree N P one (C ++ [(a, s)]) := fun l1 b u l2 h => by
  rcases z7p h with ⟨_, rfl, e⟩ | ⟨l3, e, _⟩
  · cases e
    exact ⟨h1, h2, h3, h4⟩
  · exact t l1 b u l3 e
theorem Tree.nd {N : List (List Int)} {P : List (Int × Int)} {one : Int} {C : List (Int × Int)} (t : Tree N P one C) : (C.map (·.1)).Nodup := by
  have go : ∀ (l2 l1 : List (Int × Int)), C = l1 ++ l2 → (l1.map (·.1)).Nodup → (C.map (·.1)).Nodup := by
    intro l2
    induction l2 with
    | nil => intro l1 e h; rw [e, List.append_nil]; exact h
    | cons x l2 ih =>
      intro l1 e h
      obtain ⟨a, s⟩ := x
      have q := (t l1 a s l2 e).1
      refine ih (l1 ++ [(a, s)]) (by rw [e]; simp) ?_
      rw [List.map_append, List.nodup_append]
      exact ⟨h, by simp, fun x hx y hy => by simp at hy; subst hy; exact fun z => q (z ▸ hx)⟩
  exact go C [] rfl List.nodup_nil
theorem Tree.get {N : List (List Int)} {P : List (Int × Int)} {one : Int} {C l1 l2 : List (Int × Int)} {a s : Int} (t : Tree N P one C) (e : C = l1 ++ (a, s) :: l2) : aget C a = some s :=
  zkk t.nd (by rw [e]; simp)
/-- what one more matched is -/
structure Aug (N : List (List Int)) (P : List (Int × Int)) (one : Int) (F : List (Int × Int)) : Prop where
  mt : Mt N F
  has : ∀ m, Has F m ↔ m = one ∨ Has P m
  keep : ∀ S, zr1 N P S → ¬ S one → ∀ a m, aget P a = some m → S m → aget F a = some m
/-- the way back stands at a; l1: what is behind it in the tree -/
structure Bk (N : List (List Int)) (P : List (Int × Int)) (one : Int) (C l1 : List (Int × Int)) (F : List (Int × Int)) (a : Int) : Prop where
  nd : (F.map (·.1)).Nodup
  ok : ∀ b m, b ≠ a → aget F b = some m → InR N m ∧ b ∈ nxt N m
  inj : ∀ b c m, b ≠ a → c ≠ a → aget F b = some m → aget F c = some m → b = c
  has : ∀ m, (∃ b, b ≠ a ∧ aget F b = some m) ↔ Has P m
  same : ∀ b, b = a ∨ b ∈ l1.map (·.1) → aget F b = aget P b
  out : ∀ S, zr1 N P S → ¬ S one → (∀ m, aget P a = some m → ¬ S m) ∧ ∀ b m, aget P b = some m → S m → aget F b = some m
  len : F.length + l1.length ≤ P.length + C.length
theorem Bk.start {N : List (List Int)} {P : List (Int × Int)} {one : Int} {C l1 l2 : List (Int × Int)} {a s : Int} (h : Mt N P) (e : C = l1 ++ (a, s) :: l2) (free : aget P a = none) : Bk N P one C l1 P a where
  nd := h.nd
  ok := fun b m _ q => h.ok b m q
  inj := fun b c m _ _ q r => h.inj b c m q r
  has := fun m => ⟨fun ⟨b, _, q⟩ => ⟨b, q⟩, fun ⟨b, q⟩ => ⟨b, (fun z => by rw [z, free] at q; cases q), q⟩⟩
  same := fun _ _ => rfl
  out := fun S _ _ => ⟨fun m q => (by rw [free] at q; cases q), fun _ _ q _ => q⟩
  len := by rw [e, List.length_append]; omega
section
variable {N : List (List Int)} {P : List (Int × Int)} {one : Int} {C l1 l2 F : List (Int × Int)} {a s : Int}
/-- the way's end -/
theorem Bk.fin (h : Mt N P) (t : Tree N P one C) (e : C = l1 ++ (a, s) :: l2) (b : Bk N P one C l1 F a) (free : ¬ Has P one) (end_ : ¬ Has P s) : Aug N P one (aput F a s) := by
  obtain ⟨t1, t2, t3, t4⟩ := t l1 a s l2 e
  have es : s = one := by
    rcases t4 with q | ⟨c, _, q⟩
    · exact q
    · exact absurd ⟨c, q⟩ end_
  subst es
  refine ⟨⟨zfq _ _ _ b.nd, fun x y m hx hy => ?_, fun x m hx => ?_⟩, fun m => ?_, fun S cl ns x m hx hm => ?_⟩
  · rw [zcf] at hx hy
    by_cases ex : x = a
    · by_cases ey : y = a
      · rw [ex, ey]
      · rw [if_pos ex] at hx
        rw [if_neg ey] at hy
        cases hx
        exact absurd ((b.has s).mp ⟨y, ey, hy⟩) free
    · rw [if_neg ex] at hx
      by_cases ey : y = a
      · rw [if_pos ey] at hy
        cases hy
        exact absurd ((b.has s).mp ⟨x, ex, hx⟩) free
      · rw [if_neg ey] at hy
        exact b.inj x y m ex ey hx hy
  · rw [zcf] at hx
    by_cases ex : x = a
    · rw [if_pos ex] at hx
      cases hx
      rw [ex]
      exact ⟨t3, t2⟩
    · rw [if_neg ex] at hx
      exact b.ok x m ex hx
  · constructor
    · rintro ⟨x, hx⟩
      rw [zcf] at hx
      by_cases ex : x = a
      · rw [if_pos ex] at hx
        cases hx
        exact .inl rfl
      · rw [if_neg ex] at hx
        exact .inr ((b.has m).mp ⟨x, ex, hx⟩)
    · rintro (rfl | hm)
      · exact ⟨a, by rw [zcf, if_pos rfl]⟩
      · obtain ⟨x, ex, hx⟩ := (b.has m).mpr hm
        exact ⟨x, by rw [zcf, if_neg ex]; exact hx⟩
  · obtain ⟨o1, o2⟩ := b.out S cl ns
    have ex : x ≠ a := fun z => by subst z; exact o1 m hx hm
    rw [zcf, if_neg ex]
    exact o2 x m hx hm
/-- one step back -/
theorem Bk.step (h : Mt N P) (t : Tree N P one C) (e : C = l1 ++ (a, s) :: l2) (b : Bk N P one C l1 F a) (free : ¬ Has P one) {c : Int} (hc : aget P c = some s) : ∃ l3 u l4, C = l3 ++ (c, u) :: l4 ∧ l3.length < l1.length ∧ Bk N P one C l3 (aput F a s) c := by
  obtain ⟨t1, t2, t3, t4⟩ := t l1 a s l2 e
  have hs : s ≠ one := fun z => free ⟨c, z ▸ hc⟩
  have hcl : c ∈ l1.map (·.1) := by
    rcases t4 with q | ⟨d, hd, q⟩
    · exact absurd q hs
    · rw [h.inj c d s hc q]; exact hd
  obtain ⟨⟨c', u⟩, hm, e1⟩ := List.mem_map.mp hcl
  simp only at e1
  subst e1
  obtain ⟨l3, l4, e2⟩ := List.append_of_mem hm
  have ca : c' ≠ a := fun z => t1 (z ▸ hcl)
  have hF : aget F c' = some s := by rw [b.same c' (.inr hcl)]; exact hc
  refine ⟨l3, u, l4 ++ (a, s) :: l2, by rw [e, e2]; simp, by rw [e2, List.length_append, List.length_cons]; omega, zfq _ _ _ b.nd, fun x m ex hx => ?_, fun x y m ex ey hx hy => ?_, fun m => ?_, fun x hx => ?_, fun S cl ns => ?_, ?_⟩
  · rw [zcf] at hx
    by_cases z : x = a
    · rw [if_pos z] at hx
      cases hx
      rw [z]
      exact ⟨t3, t2⟩
    · rw [if_neg z] at hx
      exact b.ok x m z hx
  · rw [zcf] at hx hy
    by_cases zx : x = a
    · by_cases zy : y = a
      · rw [zx, zy]
      · rw [if_pos zx] at hx
        rw [if_neg zy] at hy
        cases hx
        exact absurd (b.inj y c' s zy ca hy hF) ey
    · rw [if_neg zx] at hx
      by_cases zy : y = a
      · rw [if_pos zy] at hy
        cases hy
        exact absurd (b.inj x c' s zx ca hx hF) ex
      · rw [if_neg zy] at hy
        exact b.inj x y m zx zy hx hy
  · rw [← b.has m]
    constructor
    · rintro ⟨x, ex, hx⟩
      rw [zcf] at hx
      by_cases zx : x = a
      · rw [if_pos zx] at hx
        cases hx
        exact ⟨c', ca, hF⟩
      · rw [if_neg zx] at hx
        exact ⟨x, zx, hx⟩
    · rintro ⟨x, ex, hx⟩
      by_cases zx : x = c'
      · subst zx
        rw [hF] at hx
        cases hx
        exact ⟨a, Ne.symm ca, by rw [zcf, if_pos rfl]⟩
      · exact ⟨x, zx, by rw [zcf, if_neg ex]; exact hx⟩
  · have xa : x ≠ a := by
      rcases hx with rfl | hx
      · exact ca
      · exact fun z => t1 (by rw [e2, List.map_append]; exact List.mem_append.mpr (.inl (z ▸ hx)))
    rw [zcf, if_neg xa]
    refine b.same x (.inr ?_)
    rcases hx with rfl | hx
    · exact hcl
    · rw [e2, List.map_append]; exact List.mem_append.mpr (.inl hx)
  · obtain ⟨o1, o2⟩ := b.out S cl ns
    have hsS : ¬ S s := fun z => by
      obtain ⟨m, hm, hS⟩ := (cl s z).2 a t2
      exact o1 m hm hS
    refine ⟨fun m hm => ?_, fun x m hx hm => ?_⟩
    · rw [hc] at hm; cases hm; exact hsS
    · have xa : x ≠ a := fun z => by subst z; exact o1 m hx hm
      rw [zcf, if_neg xa]
      exact o2 x m hx hm
  · have := zux F a s
    have := b.len
    have : l3.length < l1.length := by rw [e2, List.length_append, List.length_cons]; omega
    omega
end
end M
namespace M
open DL
theorem z0o {α β : Type} [DecidableEq α] {l : List (α × β)} {a : α} {b : β} (h : a ∉ l.map (·.1)) : aput l a b = l ++ [(a, b)] := by
  unfold aput
  rw [if_neg]
  intro q
  rw [List.any_eq_true] at q
  obtain ⟨p, hp, e⟩ := q
  exact h (List.mem_map.mpr ⟨p, hp, of_decide_eq_true e⟩)
theorem zvj {α β : Type} [DecidableEq β] {R : α → β → Prop} : ∀ {L' : List α} {L : List β}, L'.Nodup → (∀ x ∈ L', ∃ y ∈ L, R x y) → (∀ x ∈ L', ∀ x' ∈ L', ∀ y, R x y → R x' y → x = x') → L'.length ≤ L.length
  | [], _, _, _, _ => Nat.zero_le _
  | x :: L', L, nd, h1, h2 => by
    rw [List.nodup_cons] at nd
    obtain ⟨y, hy, r⟩ := h1 x (List.mem_cons_self ..)
    have := zvj (L' := L') (L := L.erase y) (R := R) nd.2 (fun z hz => by
      obtain ⟨y', hy', r'⟩ := h1 z (List.mem_cons_of_mem _ hz)
      have ne : y' ≠ y := fun e => by
        subst e
        have := h2 x (List.mem_cons_self ..) z (List.mem_cons_of_mem _ hz) y' r r'
        subst this
        exact nd.1 hz
      exact ⟨y', (List.mem_erase_of_ne ne).mpr hy', r'⟩) fun z hz z' hz' => h2 z (List.mem_cons_of_mem _ hz) z' (List.mem_cons_of_mem _ hz')
    rw [List.length_erase_of_mem hy] at this
    have : 0 < L.length := List.length_pos_of_mem hy
    rw [List.length_cons]; omega
theorem z1h {α β : Type} {f : α → β} : ∀ {l : List α}, (l.map f).Nodup → l.Nodup
  | [], _ => List.nodup_nil
  | x :: l, h => by
    rw [List.map_cons, List.nodup_cons] at h
    exact List.nodup_cons.mpr ⟨fun q => h.1 (List.mem_map.mpr ⟨x, q, rfl⟩), z1h h.2⟩
/-- a number that the search has come to -/
def Rch (P : List (Int × Int)) (one : Int) (C : List (Int × Int)) (s : Int) : Prop := s = one ∨ ∃ b, b ∈ C.map (·.1) ∧ aget P b = some s
/-- now: the number whose next ones are being looked at, the first i of them are done -/
structure Bf (N : List (List Int)) (P : List (Int × Int)) (one : Int) (C : List (Int × Int)) (L : List Int) (now : Int) (i : Nat) : Prop where
  tree : Tree N P one C
  mat : ∀ a ∈ C.map (·.1), ∃ m, aget P a = some m
  lst : ∀ s ∈ L, Rch P one C s
  cur : Rch P one C now
  done : ∀ s, Rch P one C s → s ∈ L ∨ (∀ a ∈ nxt N s, a ∈ C.map (·.1)) ∨ (s = now ∧ ∀ a ∈ (nxt N now).take i, a ∈ C.map (·.1))
section
variable {N : List (List Int)} {P : List (Int × Int)} {one : Int} {C : List (Int × Int)} {L : List Int} {now : Int} {i : Nat}
theorem Bf.le (h : Mt N P) (b : Bf N P one C L now i) : C.length ≤ P.length := by
  have := zvj (L' := C.map (·.1)) (L := P.map (·.1)) (R := fun x y => x = y) b.tree.nd (fun x hx => by
    obtain ⟨m, hm⟩ := b.mat x hx
    exact ⟨x, (zgr P x).mp (by rw [hm]; rfl), rfl⟩) fun x _ x' _ y e e' => e.trans e'.symm
  rwa [List.length_map, List.length_map] at this
theorem Rch.inR (h : Mt N P) (ho : InR N one) {s : Int} (r : Rch P one C s) : InR N s := by
  rcases r with rfl | ⟨b, _, q⟩
  · exact ho
  · exact (h.ok b s q).1
/-- between two rounds: nothing is half done -/
structure Bw (N : List (List Int)) (P : List (Int × Int)) (one : Int) (C : List (Int × Int)) (L : List Int) : Prop where
  tree : Tree N P one C
  mat : ∀ a ∈ C.map (·.1), ∃ m, aget P a = some m
  lst : ∀ s ∈ L, Rch P one C s
  done : ∀ s, Rch P one C s → s ∈ L ∨ ∀ a ∈ nxt N s, a ∈ C.map (·.1)
theorem Bw.le (h : Mt N P) (b : Bw N P one C L) : C.length ≤ P.length := by
  have := zvj (L' := C.map (·.1)) (L := P.map (·.1)) (R := fun x y => x = y) b.tree.nd (fun x hx => by
    obtain ⟨m, hm⟩ := b.mat x hx
    exact ⟨x, (zgr P x).mp (by rw [hm]; rfl), rfl⟩) fun x _ x' _ y e e' => e.trans e'.symm
  rwa [List.length_map, List.length_map] at this
theorem Bw.start : Bw N P one [] [one] where
  tree := .nil
  mat := fun a h => by simp at h
  lst := fun s h => .inl (by simpa using h)
  done := fun s r => by
    rcases r with rfl | ⟨b, hb, _⟩
    · exact .inl (by simp)
    · simp at hb
theorem Bw.pop (b : Bw N P one C (now :: L)) : Bf N P one C L now 0 where
  tree := b.tree
  mat := b.mat
  lst := fun s h => b.lst s (List.mem_cons_of_mem _ h)
  cur := b.lst now (List.mem_cons_self ..)
  done := fun s r => by
    rcases b.done s r with h | h
    · rcases List.mem_cons.mp h with rfl | h
      · exact .inr (.inr ⟨rfl, fun a ha => by simp at ha⟩)
      · exact .inl h
    · exact .inr (.inl h)
theorem Bf.end_ (b : Bf N P one C L now (nxt N now).length) : Bw N P one C L where
  tree := b.tree
  mat := b.mat
  lst := b.lst
  done := fun s r => by
    rcases b.done s r with h | h | ⟨rfl, h⟩
    · exact .inl h
    · exact .inr h
    · exact .inr fun a ha => h a (by rw [List.take_length]; exact ha)
theorem zu3 {l : List Int} {i : Nat} {a b : Int} (e : l[i]? = some a) (h : b ∈ l.take (i + 1)) : b ∈ l.take i ∨ b = a := by
  rw [List.take_add_one, e] at h
  simpa using h
theorem Bf.skip (b : Bf N P one C L now i) {a : Int} (e : (nxt N now)[i]? = some a) (h : a ∈ C.map (·.1)) : Bf N P one C L now (i + 1) where
  tree := b.tree
  mat := b.mat
  lst := b.lst
  cur := b.cur
  done := fun s r => by
    rcases b.done s r with q | q | ⟨q, z⟩
    · exact .inl q
    · exact .inr (.inl q)
    · refine .inr (.inr ⟨q, fun c hc => ?_⟩)
      rcases zu3 e hc with hc | rfl
      · exact z c hc
      · exact h
theorem Bf.tree' (h : Mt N P) (ho : InR N one) (b : Bf N P one C L now i) {a : Int} (e : (nxt N now)[i]? = some a) (hn : a ∉ C.map (·.1)) : Tree N P one (C ++ [(a, now)]) :=
  b.tree.snoc hn (List.mem_of_getElem? e) (b.cur.inR h ho) b.cur
theorem Rch.mono {s : Int} {x : Int × Int} (r : Rch P one C s) : Rch P one (C ++ [x]) s := by
  rcases r with q | ⟨b, hb, q⟩
  · exact .inl q
  · exact .inr ⟨b, by rw [List.map_append]; exact List.mem_append.mpr (.inl hb), q⟩
theorem Bf.push (h : Mt N P) (ho : InR N one) (b : Bf N P one C L now i) {a m : Int} (e : (nxt N now)[i]? = some a) (hn : a ∉ C.map (·.1)) (hm : aget P a = some m) : Bf N P one (C ++ [(a, now)]) (L ++ [m]) now (i + 1) where
  tree := b.tree' h ho e hn
  mat := fun c hc => by
    rw [List.map_append, List.mem_append] at hc
    rcases hc with hc | hc
    · exact b.mat c hc
    · have : c = a := by simpa using hc
      subst this
      exact ⟨m, hm⟩
  lst := fun s hs => by
    rw [List.mem_append] at hs
    rcases hs with hs | hs
    · exact (b.lst s hs).mono
    · have : s = m := by simpa using hs
      subst this
      exact .inr ⟨a, by simp, hm⟩
  cur := b.cur.mono
  done := fun s r => by
    have sub : ∀ c, c ∈ C.map (·.1) → c ∈ (C ++ [(a, now)]).map (·.1) := fun c hc => by rw [List.map_append]; exact List.mem_append.mpr (.inl hc)
    have old : Rch P one C s → s ∈ L ++ [m] ∨ (∀ c ∈ nxt N s, c ∈ (C ++ [(a, now)]).map (·.1)) ∨ (s = now ∧ ∀ c ∈ (nxt N now).take (i + 1), c ∈ (C ++ [(a, now)]).map (·.1)) := fun r => by
      rcases b.done s r with q | q | ⟨q, z⟩
      · exact .inl (List.mem_append.mpr (.inl q))
      · exact .inr (.inl fun c hc => sub c (q c hc))
      · refine .inr (.inr ⟨q, fun c hc => ?_⟩)
        rcases zu3 e hc with hc | rfl
        · exact sub c (z c hc)
        · simp
    rcases r with q | ⟨c, hc, q⟩
    · exact old (.inl q)
    · rw [List.map_append, List.mem_append] at hc
      rcases hc with hc | hc
      · exact old (.inr ⟨c, hc, q⟩)
      · have : c = a := by simpa using hc
        subst this
        rw [hm] at q
        cases q
        exact .inl (by simp)
/-- nothing is left: no way leads on -/
theorem Bw.close (h : Mt N P) (ho : InR N one) (b : Bw N P one C []) : ∃ S, zr1 N P S ∧ S one :=
  ⟨Rch P one C, fun s r => ⟨r.inR h ho, fun a ha => by
    rcases b.done s r with q | q
    · cases q
    · have hk := q a ha
      obtain ⟨m, hm⟩ := b.mat a hk
      exact ⟨m, hm, .inr ⟨a, hk, hm⟩⟩⟩, .inl rfl⟩
end
structure Gr (N : List (List Int)) (P : List (Int × Int)) (i : Int) : Prop where
  mt : Mt N P
  lt : ∀ m, Has P m → m < i
  cert : ∀ u, 0 ≤ u → u < i → ¬ Has P u → ∃ S, zr1 N P S ∧ S u
theorem Gr.start (N : List (List Int)) : Gr N [] 0 := ⟨.nil N, fun m ⟨a, h⟩ => by (cases h), fun u h1 h2 => by omega⟩
theorem Gr.free {N : List (List Int)} {P : List (Int × Int)} {i : Int} (g : Gr N P i) : ¬ Has P i := fun h => by have := g.lt i h; omega
theorem Gr.none {N : List (List Int)} {P : List (Int × Int)} {i : Int} (g : Gr N P i) (h : ∃ S, zr1 N P S ∧ S i) : Gr N P (i + 1) :=
  ⟨g.mt, fun m hm => by have := g.lt m hm; omega, fun u h1 h2 h3 => by
    by_cases e : u = i
    · subst e; exact h
    · exact g.cert u h1 (by omega) h3⟩
theorem Gr.some {N : List (List Int)} {P F : List (Int × Int)} {i : Int} (g : Gr N P i) (a : Aug N P i F) : Gr N F (i + 1) :=
  ⟨a.mt, fun m hm => by
    rcases (a.has m).mp hm with rfl | hm
    · omega
    · have := g.lt m hm; omega, fun u h1 h2 h3 => by
    have e : u ≠ i := fun z => h3 ((a.has u).mpr (.inl z))
    have hp : ¬ Has P u := fun z => h3 ((a.has u).mpr (.inr z))
    obtain ⟨S, cl, hu⟩ := g.cert u h1 (by omega) hp
    have cl' : zr1 N P fun s => S s ∧ s ≠ i := fun s hs => ⟨(cl s hs.1).1, fun x hx => by
      obtain ⟨m, hm, hS⟩ := (cl s hs.1).2 x hx
      exact ⟨m, hm, hS, fun z => g.free ⟨x, z ▸ hm⟩⟩⟩
    refine ⟨fun s => S s ∧ s ≠ i, fun s hs => ⟨(cl' s hs).1, fun x hx => ?_⟩, hu, e⟩
    obtain ⟨m, hm, hS⟩ := (cl' s hs).2 x hx
    exact ⟨m, a.keep _ cl' (fun z => z.2 rfl) x m hm hS, hS⟩⟩
/-- all that the unmatched ones lead to -/
def Un (N : List (List Int)) (P : List (Int × Int)) (s : Int) : Prop := ∃ u S, InR N u ∧ ¬ Has P u ∧ zr1 N P S ∧ S u ∧ S s
theorem z18 (N : List (List Int)) (P : List (Int × Int)) : zr1 N P (Un N P) := fun s ⟨u, S, h1, h2, h3, h4, h5⟩ =>
  ⟨(h3 s h5).1, fun a ha => let ⟨m, hm, hS⟩ := (h3 s h5).2 a ha; ⟨m, hm, u, S, h1, h2, h3, h4, hS⟩⟩
theorem Gr.un {N : List (List Int)} {P : List (Int × Int)} (g : Gr N P N.length) {u : Int} (hu : InR N u) (h : ¬ Has P u) : Un N P u := by
  obtain ⟨S, cl, q⟩ := g.cert u hu.1 hu.2 h
  exact ⟨u, S, hu, h, cl, q, q⟩
/-- no matching is greater -/
theorem Gr.max {N : List (List Int)} {P : List (Int × Int)} (g : Gr N P N.length) {P' : List (Int × Int)} (h : Mt N P') : P'.length ≤ P.length := by
  have nd : P'.Nodup := z1h h.nd
  refine zvj (R := fun x y => (Un N P x.2 ∧ y.1 = x.1 ∧ Un N P y.2) ∨ (¬ Un N P x.2 ∧ y.2 = x.2)) nd (fun x hx => ?_) fun x hx x' hx' y r r' => ?_
  · have hg := zkk h.nd (show (x.1, x.2) ∈ P' from hx)
    obtain ⟨hr, hn⟩ := h.ok x.1 x.2 hg
    by_cases hu : Un N P x.2
    · obtain ⟨m, hm, hU⟩ := (z18 N P x.2 hu).2 x.1 hn
      exact ⟨(x.1, m), z6n hm, .inl ⟨hu, rfl, hU⟩⟩
    · by_cases hh : Has P x.2
      · obtain ⟨a, ha⟩ := hh
        exact ⟨(a, x.2), z6n ha, .inr ⟨hu, rfl⟩⟩
      · exact absurd (g.un hr hh) hu
  · have g1 := zkk h.nd (show (x.1, x.2) ∈ P' from hx)
    have g2 := zkk h.nd (show (x'.1, x'.2) ∈ P' from hx')
    have key : x.1 = x'.1 → x = x' := fun e => by
      rw [e, g2] at g1
      exact Prod.ext e (Option.some.inj g1).symm
    rcases r with ⟨r1, r2, r3⟩ | ⟨r1, r2⟩
    · rcases r' with ⟨q1, q2, q3⟩ | ⟨q1, q2⟩
      · exact key (r2.symm.trans q2)
      · rw [q2] at r3
        exact absurd r3 q1
    · rcases r' with ⟨q1, q2, q3⟩ | ⟨q1, q2⟩
      · rw [r2] at q3
        exact absurd q3 r1
      · refine key (h.inj x.1 x'.1 x.2 g1 ?_)
        rw [r2.symm.trans q2]
        exact g2
end M
section
open PySem PySem.Spec PyProof.Rows L2 DL
local macro_rules | `(tactic| simp_arith only [$xs,*]) => `(tactic| simp only [$xs,*, dSeq, dIfS, zau, dOp, zd, dC, dRet, zjq, ze, dNil, dTup, zdh, dAsg, zjn, zk, zhu, dM, dM0, dIf, dAnd, dOr, dNot, zmu, dOrV, zrp, zhq, dFz, zpu, zuv, zn9, zqk, dCB, zgd, zam, zgc, zok, dNeg, dAug, zr7, dFrz, dPar, zc7, zjh, zeh, dYes, zjv, i2, d1, d2, d3, za4, List.map_cons, List.map_nil, List.length_cons, List.length_nil, List.cons_append, List.nil_append, List.append_nil, List.getElem?_cons_zero, List.getElem?_cons_succ, List.getElem?_nil, List.replicate, List.set_cons_succ, List.set_cons_zero, Nat.reduceAdd, Nat.reduceSub, Nat.reduceLeDiff, znj, zn0, zsb, zsk, zs4, zro, zkn, ziv, true_and, and_true, Bool.not_eq_true, Bool.not_true, Bool.not_false, if_true, if_false, Bool.false_eq_true, ite_true, ite_false, reduceIte, reduceCtorEq, decide_eq_true_eq, decide_eq_false_iff_not, Option.isSome_some, Option.isSome_none, Bool.true_bne, Bool.false_bne])
namespace M
open PySem PySem.Spec PyProof.Rows L2 DL
theorem Mt.len {N : List (List Int)} {P : List (Int × Int)} (h : Mt N P) : P.length ≤ N.length := by
  have := zvj (L' := P) (L := List.map (fun k : Nat => (k : Int)) (List.range N.length)) (R := fun x y => x.2 = y) (z1h h.nd) (fun x hx => by
    obtain ⟨⟨h0, h1⟩, _⟩ := h.ok x.1 x.2 (zkk h.nd hx)
    exact ⟨x.2, List.mem_map.mpr ⟨x.2.toNat, by rw [List.mem_range]; omega, by omega⟩, rfl⟩) fun x hx x' hx' y e e' => by
      have g1 := zkk h.nd (show (x.1, x.2) ∈ P from hx)
      have g2 := zkk h.nd (show (x'.1, x'.2) ∈ P from hx')
      have e3 : x.2 = x'.2 := e.trans e'.symm
      rw [e3] at g1
      exact Prod.ext (h.inj _ _ _ g1 g2) e3
  simpa using this
/-- others and ones changed about -/
def sw (P : List (Int × Int)) : List (Int × Int) := P.map fun p => (p.2, p.1)
theorem z8b {N : List (List Int)} {P : List (Int × Int)} (h : Mt N P) (m a : Int) : aget (sw P) m = some a ↔ aget P a = some m := by
  have nd : ((sw P).map (·.1)).Nodup := by
    have go : ∀ l : List (Int × Int), l.Nodup → (∀ x ∈ l, ∀ y ∈ l, x.2 = y.2 → x = y) → ((sw l).map (·.1)).Nodup := by
      intro l
      induction l with
      | nil => intro _ _; exact List.nodup_nil
      | cons x l ih =>
        intro h1 h2
        rw [List.nodup_cons] at h1
        show (x.2 :: (sw l).map (·.1)).Nodup
        refine List.nodup_cons.mpr ⟨fun q => ?_, ih h1.2 fun y hy z hz => h2 y (List.mem_cons_of_mem _ hy) z (List.mem_cons_of_mem _ hz)⟩
        unfold sw at q
        rw [List.map_map, List.mem_map] at q
        obtain ⟨y, hy, e⟩ := q
        have := h2 y (List.mem_cons_of_mem _ hy) x (List.mem_cons_self ..) e
        subst this
        exact h1.1 hy
    refine go P (z1h h.nd) fun x hx y hy e => ?_
    have g1 := zkk h.nd (show (x.1, x.2) ∈ P from hx)
    have g2 := zkk h.nd (show (y.1, y.2) ∈ P from hy)
    rw [e] at g1
    exact Prod.ext (h.inj _ _ _ g1 g2) e
  constructor
  · intro q
    have := z6n q
    unfold sw at this
    obtain ⟨x, hx, e⟩ := List.mem_map.mp this
    cases e
    exact zkk h.nd hx
  · intro q
    exact zkk nd (List.mem_map.mpr ⟨(a, m), z6n q, rfl⟩)
theorem zadq {N : List (List Int)} {P : List (Int × Int)} (h : Mt N P) {m : Int} : aget (sw P) m = none ↔ ¬ Has P m := by
  constructor
  · rintro q ⟨a, ha⟩
    rw [(z8b h m a).mpr ha] at q
    cases q
  · intro q
    cases e : aget (sw P) m with
    | none => rfl
    | some a => exact absurd ⟨a, (z8b h m a).mp e⟩ q
theorem z5t {N : List (List Int)} {P : List (Int × Int)} (h : Mt N P) {i : Nat} {x : Int × Int} (e : P[i]? = some x) : x.2 ∉ (sw (P.take i)).map (·.1) := by
  intro q
  unfold sw at q
  rw [List.map_map, List.mem_map] at q
  obtain ⟨y, hy, e2⟩ := q
  have g1 := zkk h.nd (show (x.1, x.2) ∈ P from List.mem_of_getElem? e)
  have g2 := zkk h.nd (show (y.1, y.2) ∈ P from List.mem_of_mem_take hy)
  have e3 : y.2 = x.2 := e2
  rw [e3] at g2
  have e4 : y = x := Prod.ext (h.inj _ _ _ g2 g1) e3
  subst e4
  have nd := z1h h.nd
  obtain ⟨j, hj, e5⟩ := List.getElem_of_mem hy
  rw [List.getElem_take] at e5
  obtain ⟨hi, e6⟩ := List.getElem?_eq_some_iff.mp e
  rw [List.length_take] at hj
  have := (List.pairwise_iff_getElem.mp nd) j i (by omega) hi (by omega)
  exact this (e5.trans e6.symm)
def znw : DRn := d3 fun c l p G Q => ∃ (N : List (List Int)) (P C : List (Int × Int)) (one last : Int), c = eK .int C ∧ l = .int last ∧ p = eK .int P ∧ N.length ≤ 1000 ∧ C.length ≤ 1001 ∧ Mt N P ∧ Tree N P one C ∧ ¬ Has P one ∧ aget P last = none ∧ last ∈ C.map (·.1) ∧
  ∀ F, Aug N P one F → Q (eK .int F) G
abbrev zvy : List Str := ["comers", "last", "pairs", "found", "other", "mine", "now", "before", "second"]
def z22 : DTS :=
    (dSeq (dPar 3 4 (ze (dCB z6x (ze (zd 2) dNil)) (ze (zd 1) dNil)))
    (dSeq (dAsg (dDc (.dK []) (z2u (zd 2)) (zgd (zam (zk 8) (zam (zk 6) zgc)) 2) dYes (zd 6) (zd 8) [8, 6]) (zk 5))
    (dFrz 5 (dSeq (zv0 (zau (dOp (dIsN true) (zd 4) (dC .non)))
    (dSeq (dAsg (dOp dIx (zd 0) (zd 4)) (zk 6))
    (dSeq (dAsg (dM "dict" zabx (zd 5) (ze (zd 6) dNil)) (zk 7))
    (dSeq (dAsg (zd 6) (zok (zd 3) (zd 4) dSet))
    (dAsg (zd 7) (zk 4))))))
    (zpu (zd 3))))))
theorem z81 : ∀ ds G Q, znw ds G Q → ds.length = 3 := fun ds G Q h => by
  match ds, h with
  | [_, _, _], _ => rfl
theorem z8z : ∀ ds G Q, znw ds G Q → z22 { nx := fun _ G' => Q .non G', rt := Q } (za4 zvy ds) G := fun ds G Q h => by
  match ds, h with
  | [_, _, _], ⟨N, P, C, one, last, rfl, rfl, rfl, hN, hC, mt, tr, fr, hf, hf2, q⟩ =>
    simp_arith only [z22, zvy]
    refine z8o (f := D.int) (kvs := P) (zwx _ _ _) fun p hp => ?_
    simp_arith only [dDc, z2u, z75]
    intro b hb
    have pb : p ≠ b := fun e => by subst e; rw [zi] at hb; cases hb
    have hP := mt.len
    refine ⟨fun i G' => G' = up (up G p (oK .int P)) b (oK .int (sw (P.take i))), rfl, ?_, ?_, ?_⟩
    · rintro i G' rfl
      exact ⟨trivial, zzx zi⟩
    · rintro i d G' hd rfl
      rw [List.map_map] at hd
      obtain ⟨x, hx, rfl⟩ := zbz hd
      dsimp only [Function.comp]
      simp_arith only [true_and]
      refine ⟨zzx zi, zvd (kvs := sw (P.take i)) (f := D.int) zi (zas (by unfold sw; rw [List.length_map, List.length_take]; omega)) ?_⟩
      rw [zft, z0o (z5t mt hx), zdz hx]
      unfold sw
      rw [List.map_append]
      rfl
    · rintro G' rfl
      rw [List.length_map, List.length_map, List.take_length]
      simp_arith only [zi, z2q, zbv hb]
      obtain ⟨⟨a0, s0⟩, hm0, e0⟩ := List.mem_map.mp hf2
      simp only at e0
      subst e0
      obtain ⟨k1, k2, ek⟩ := List.append_of_mem hm0
      refine ⟨fun m η G' => ∃ F o nw bf, η = [some (eK D.int C), some (D.int a0), some (eK D.int P), some (D.ref p), some o, some (eK D.int (sw P)), nw, bf, none] ∧ G' = up G p (oK .int F) ∧
        ((m = 0 ∧ o = .non ∧ Aug N P one F) ∨ ∃ l1 a s l2, o = .int a ∧ m = l1.length + 1 ∧ C = l1 ++ (a, s) :: l2 ∧ Bk N P one C l1 F a), ⟨_, P, _, _, _, rfl, rfl, .inr ⟨k1, a0, s0, k2, rfl, rfl, ek, .start mt ek hf⟩⟩, ?_⟩
      rintro m η G' ⟨F, o, nw, bf, rfl, rfl, st⟩
      rcases st with ⟨rfl, rfl, au⟩ | ⟨l1, a, s, l2, rfl, rfl, e, bk⟩
      · simp_arith only [z84, zi, z2q, zbv hp]
        exact q F au
      · simp_arith only [zaco]
        refine z83 (f := D.int) (zwx _ _ _) (tr.get e) ?_
        refine ⟨zafo, z6y (f := D.int) (zwx _ _ _) ?_⟩
        refine zvd (f := D.int) (kvs := F) zi (zas (by have := bk.len; omega)) ?_
        rw [zft]
        cases hb2 : aget (sw P) s with
        | none =>
          exact ⟨0, by omega, _, (by repeat (first | exact Le.nil | apply Le.keep | apply Le.drop)), aput F a s, .non, _, _, rfl, rfl, .inl ⟨rfl, rfl, bk.fin mt tr e fr ((zadq mt).mp hb2)⟩⟩
        | some c =>
          obtain ⟨l3, u, l4, e2, hl3, bk2⟩ := bk.step mt tr e fr ((z8b mt s c).mp hb2)
          exact ⟨l3.length + 1, by omega, _, (by repeat (first | exact Le.nil | apply Le.keep | apply Le.drop)), aput F a s, .int c, _, _, rfl, rfl, .inr ⟨l3, c, u, l4, rfl, rfl, e2, bk2⟩⟩
end M
namespace M
open PySem PySem.Spec PyProof.Rows L2 DL
/-- lists of ints, one behind the other -/
abbrev eN (N : List (List Int)) : D := eL (eL .int) N
def zgz : DRn := d3 fun n o p G Q => ∃ (N : List (List Int)) (P : List (Int × Int)) (one : Int), n = eN N ∧ o = .int one ∧ p = eK .int P ∧ N.length ≤ 1000 ∧ Mt N P ∧ InR N one ∧ ¬ Has P one ∧
  ((∃ S, zr1 N P S ∧ S one) → Q .non G) ∧ ∀ F, Aug N P one F → Q (eK .int F) G
abbrev zm3 : List Str := ["nexts", "one", "pairs", "comers", "waiting", "now", "other"]
def zqg : DTS :=
    (dSeq (dPar 3 4 (ze z8u (ze (zjn (ze (zd 1) dNil)) dNil)))
    (dSeq (zv0 (zau (dOp dNe (zd 4) (zjq dNil)))
    (dSeq (dAsg (dM "list" z4z (zd 4) (ze (dC (.int 0)) dNil)) (zk 5))
    (dFor (zb5 (dOp dIx (zd 0) (zd 5))) (zk 6)
    (dIfS (zau (dOp (dIn true) (zd 6) (zd 3)))
    (dSeq (dAsg (zd 5) (zok (zd 3) (zd 6) dSet))
    (dSeq (dIfS (zau (dOp (dIn true) (zd 6) (zd 2)))
    (dFrz 4 (dFrz 3 (dRet (dCB znw (ze (zd 3) (ze (zd 6) (ze (zd 2) dNil)))))))
    zdh)
    (zhu (dM "list" zg8 (zd 4) (ze (dOp dIx (zd 2) (zd 6)) dNil)))))
    zdh))))
    (dFrz 4 (dFrz 3 (dRet (dC .non))))))
theorem zzt : ∀ ds G Q, zgz ds G Q → ds.length = 3 := fun ds G Q h => by
  match ds, h with
  | [_, _, _], _ => rfl
theorem zabh {N : List (List Int)} {s : Int} (h : InR N s) : N[s.toNat]? = some (nxt N s) := by
  unfold nxt
  have : s.toNat < N.length := by have := h.1; have := h.2; omega
  rw [List.getElem?_eq_getElem this]
  rfl
theorem zafz {G : DHp} {c w : Addr} {x : DO} (hw : up G c x w = none) : c ≠ w := fun e => by subst e; rw [zi] at hw; cases hw
theorem up3c {G : DHp} {c w : Addr} {x x' y : DO} (h : c ≠ w) : up (up (up G c x) w y) c x' = up (up G c x') w y := up3 h
theorem zzp : ∀ ds G Q, zgz ds G Q → zqg { nx := fun _ G' => Q .non G', rt := Q } (za4 zm3 ds) G := fun ds G Q h => by
  match ds, h with
  | [_, _, _], ⟨N, P, one, rfl, rfl, rfl, hN, mt, ho, fr, q1, q2⟩ =>
    simp_arith only [zqg, zm3, z8u]
    intro c hc
    intro w hw
    have cw := zafz hw
    have hP := mt.len
    refine ⟨fun m η G' => ∃ C L nw ot, η = [some (eN N), some (.int one), some (eK .int P), some (.ref c), some (.ref w), nw, ot] ∧ G' = up (up G c (oK .int C)) w (.lst (L.map .int)) ∧ Bw N P one C L ∧ m + 2 * C.length = L.length + 2 * P.length ∧ m ≤ 1 + 2 * P.length, ⟨1 + 2 * P.length, [], [one], none, none, rfl, rfl, .start, by simp, Nat.le_refl _⟩, ?_⟩
    rintro m η G' ⟨C, L, nw, ot, rfl, rfl, bw, hm, hmb⟩
    have hw' : up G c (oK .int C) w = none := by rw [zj2 (Ne.symm cw)]; rw [zj2 (Ne.symm cw)] at hw; exact hw
    have hC := bw.le mt
    simp_arith only [true_and]
    refine zab6 zi ?_
    cases L with
    | nil =>
      simp_arith only [List.isEmpty_nil, zi, zbv hw', zbv hc]
      exact q1 (bw.close mt ho)
    | cons now L =>
      simp_arith only [List.isEmpty_cons, zb5]
      refine zaaw zi ?_
      have hn : InR N now := (bw.lst now (by simp)).inR mt ho
      simp_arith only [dFor, zb5]
      refine z3s (f := eL .int) hn.1 (zabh hn) ?_
      unfold eL
      dsimp only
      rw [zft]
      refine ⟨fun i η G' => ∃ C L ot, η = [some (eN N), some (.int one), some (eK .int P), some (.ref c), some (.ref w), some (.int now), ot] ∧ G' = up (up G c (oK .int C)) w (.lst (L.map .int)) ∧ Bf N P one C L now i ∧ L.length + 2 * P.length + 1 ≤ m + 2 * C.length, ⟨C, L, ot, rfl, rfl, bw.pop, by rw [List.length_cons] at hm; omega⟩, fun _ _ _ _ => trivial, ?_, ?_⟩
      · rintro i d η G' hd ⟨C, L, ot, rfl, rfl, bf, hm2⟩
        obtain ⟨a, ha, rfl⟩ := zbz hd
        have hw' : up G c (oK .int C) w = none := by rw [zj2 (Ne.symm cw)]; rw [zj2 (Ne.symm cw)] at hw; exact hw
        have hcc : up (up G c (oK .int C)) w (.lst (L.map .int)) c = some (oK .int C) := by rw [zj2 cw, zi]
        have hC2 := bf.le mt
        simp_arith only [true_and]
        refine z7l (f := D.int) (zaar hcc) ?_
        cases hg : aget C a with
        | some z =>
          simp_arith only [true_and]
          have hk : a ∈ C.map (·.1) := (zgr C a).mp (by rw [hg]; rfl)
          exact ⟨_, (by repeat (first | exact Le.nil | apply Le.keep | apply Le.drop)), C, L, _, rfl, rfl, bf.skip ha hk, hm2⟩
        | none =>
          simp_arith only [true_and]
          have hk := zaer hg
          refine zvd (f := D.int) (kvs := C) hcc (zas (by omega)) ?_
          rw [z0o hk, up3c cw]
          have hcc2 : up (up G c (oK .int (C ++ [(a, now)]))) w (.lst (L.map .int)) c = some (oK .int (C ++ [(a, now)])) := by rw [zj2 cw, zi]
          have hw2 : up G c (oK .int (C ++ [(a, now)])) w = none := by rw [zj2 (Ne.symm cw)]; rw [zj2 (Ne.symm cw)] at hw; exact hw
          refine z7l (f := D.int) (zwx _ _ _) ?_
          cases hp : aget P a with
          | none =>
            simp_arith only [zi, hcc2, zbv hw2, zbv hc]
            exact ⟨N, P, C ++ [(a, now)], one, a, rfl, rfl, rfl, hN, by rw [List.length_append, List.length_singleton]; omega, mt, bf.tree' mt ho ha hk, fr, hp, by simp, fun F au => q2 F au⟩
          | some z =>
            simp_arith only [true_and]
            have hLl : L.length < 1000000 := by omega
            refine ⟨by simp only [tyD, zi], z83 (f := D.int) (zwx _ _ _) hp ?_⟩
            refine (zka (xs := L.map .int) zi (zas (by rw [List.length_map]; exact Nat.le_of_lt hLl)) ?_).2
            rw [zft]
            refine ⟨_, (by repeat (first | exact Le.nil | apply Le.keep | apply Le.drop)), C ++ [(a, now)], L ++ [z], _, rfl, by rw [List.map_append]; rfl, bf.push mt ho ha hk hp, by simp only [List.length_append, List.length_singleton]; omega⟩
      · rintro η G' ⟨C, L, ot, rfl, rfl, bf, hm2⟩
        have hC2 := bf.le mt
        rw [List.length_map] at bf
        exact ⟨L.length + 2 * P.length - 2 * C.length, by omega, _, (by repeat (first | exact Le.nil | apply Le.keep | apply Le.drop)), C, L, _, _, rfl, rfl, bf.end_, by omega, by omega⟩
end M
namespace M
open PySem PySem.Spec PyProof.Rows L2 DL
theorem zab0 {α β : Type} [DecidableEq α] {P P' : List (α × β)} (p : P'.Perm P) (nd : (P.map (·.1)).Nodup) (a : α) : aget P' a = aget P a := by
  have nd' : (P'.map (·.1)).Nodup := (p.map (·.1)).nodup_iff.mpr nd
  cases h : aget P a with
  | some m => exact zkk nd' (p.mem_iff.mpr (z6n h))
  | none =>
    cases h' : aget P' a with
    | none => rfl
    | some m => rw [zkk nd (p.mem_iff.mp (z6n h'))] at h; cases h
theorem Gr.perm {N : List (List Int)} {P P' : List (Int × Int)} {i : Int} (g : Gr N P i) (p : P'.Perm P) : Gr N P' i := by
  have e : ∀ a, aget P' a = aget P a := zab0 p g.mt.nd
  have hs : ∀ m, Has P' m ↔ Has P m := fun m => by unfold Has; simp only [e]
  refine ⟨⟨(p.map (·.1)).nodup_iff.mpr g.mt.nd, fun a b m h1 h2 => g.mt.inj a b m (by rw [← e]; exact h1) (by rw [← e]; exact h2), fun a m h => g.mt.ok a m (by rw [← e]; exact h)⟩, fun m h => g.lt m ((hs m).mp h), fun u h1 h2 h3 => ?_⟩
  obtain ⟨S, cl, q⟩ := g.cert u h1 h2 fun z => h3 ((hs u).mpr z)
  refine ⟨S, fun s z => ?_, q⟩
  obtain ⟨h4, h5⟩ := cl s z
  exact ⟨h4, fun a ha => by rw [e]; exact h5 a ha⟩
theorem zae8 {β : Type} {f : β → D} {kvs : List (Int × β)} {G : DHp} {Q : DVK} : dIsN true (eK f kvs) .non G Q = Q (.bl true) G := rfl
def zfj : DRn := d1 fun n G Q => ∃ N : List (List Int), n = eN N ∧ N.length ≤ 1000 ∧ ∀ P, Gr N P N.length → Q (eK .int (sw P)) G
abbrev zmo : List Str := ["nexts", "pairs", "one", "late", "other"]
def ztr : DTS :=
    (dSeq (dAsg (dFz z8u) (zk 1))
    (dSeq (dFor (ze7 (ze (dCB dLen (ze (zd 0) dNil)) dNil)) (zk 2)
    (dSeq (dAsg (dCB zgz (ze (zd 0) (ze (zd 2) (ze (zd 1) dNil)))) (zk 3))
    (dIfS (zau (dOp (dIsN true) (zd 3) (dC .non)))
    (dAsg (zd 3) (zk 1))
    zdh)))
    (dRet (dFz (dDc (.dK []) (zb5 (dFz (zy5 (zd 1)))) (zgd (zam (zk 4) (zam (zk 2) zgc)) 2) dYes (zd 2) (zd 4) [4, 2])))))
theorem z1k : ∀ ds G Q, zfj ds G Q → ds.length = 1 := fun ds G Q h => by
  match ds, h with
  | [_], _ => rfl
theorem zaeu (p : Int × Int) : (py (e2 p)).depth ≤ 60 := Nat.le_trans (zv2 (B := 0) fun d hd => by
  simp only [List.mem_cons, List.not_mem_nil, or_false] at hd
  rcases hd with rfl | rfl <;> exact Nat.le_of_eq (zfc _)) (by decide)
theorem z8q {P : List (Int × Int)} {T : DTE} {η : DSt} {G : DHp} {Q : DVK} (hT : ∀ R : DVK, R (eK .int P) G → T η G R) (q : ∀ p, G p = none → Q (.ref p) (up G p (.lst ((srtT e2 P).map e2)))) : zy5 T η G Q := by
  refine hT _ ?_
  rw [z75]
  have e : prD (P.map fun p => (D.int p.1, D.int p.2)) = P.map e2 := by
    unfold prD
    rw [List.map_map]
    rfl
  show Srts (prD (P.map fun p => (D.int p.1, D.int p.2))) ∧ ∀ p, G p = none → Q (.ref p) (up G p (.lst (srt (prD (P.map fun p => (D.int p.1, D.int p.2))))))
  rw [e]
  refine ⟨⟨cleans_plain (zc1 (fun _ => rfl) P), ?_, st2 P, fun d hd => ?_⟩, fun p hp => by rw [zti]; exact q p hp⟩
  · rw [List.map_map]; exact PySem.W.AllAlike.of al2
  · obtain ⟨a, _, rfl⟩ := List.mem_map.mp hd; exact zaeu a
theorem z05 : ∀ ds G Q, zfj ds G Q → ztr { nx := fun _ G' => Q .non G', rt := Q } (za4 zmo ds) G := fun ds G Q h => by
  match ds, h with
  | [_], ⟨N, rfl, hN, q⟩ =>
    simp_arith only [ztr, zmo, z8u]
    intro p hp
    simp_arith only [zi, zbv hp, dFor, ze7, zm0]
    refine ⟨⟨by omega, by omega⟩, fun i η G' => ∃ P on lt, η = [some (eN N), some (eK .int P), on, lt, none] ∧ G' = G ∧ Gr N P i, ⟨[], none, none, rfl, rfl, .start N⟩, fun _ _ _ _ => trivial, ?_, ?_⟩
    · rintro i d η G' hd ⟨P, on, lt, rfl, rfl, g⟩
      obtain ⟨a, ha, rfl⟩ := zbz hd
      have ea : a = (i : Int) ∧ i < N.length := by
        have hi := (List.getElem?_eq_some_iff.mp ha).1
        rw [zdk] at hi
        refine ⟨?_, by omega⟩
        simp only [ze9, List.getElem?_map, List.getElem?_range hi, Option.map_some, Option.some.injEq] at ha
        omega
      obtain ⟨rfl, hi⟩ := ea
      simp_arith only [true_and]
      refine ⟨N, P, _, rfl, rfl, rfl, hN, g.mt, ⟨by omega, by omega⟩, g.free, fun h => ?_, fun F au => ?_⟩
      · simp_arith only [z84]
        exact ⟨_, (by repeat (first | exact Le.nil | apply Le.keep | apply Le.drop)), P, _, _, rfl, rfl, g.none h⟩
      · simp_arith only [zae8]
        exact ⟨_, (by repeat (first | exact Le.nil | apply Le.keep | apply Le.drop)), F, _, _, rfl, rfl, g.some au⟩
    · rintro η G' ⟨P, on, lt, rfl, rfl, g⟩
      have g : Gr N P N.length := by
        rw [List.length_map, zdk] at g
        rw [show (((N.length : Int) - 0).toNat : Int) = N.length by omega] at g
        exact g
      have gp := g.perm (zdj e2 P)
      have hP := gp.mt.len
      simp_arith only [dDc, zb5]
      refine z8q (fun R r => r) fun w hw => ?_
      simp_arith only [zi, zbv hw]
      show ∀ b, _ → _
      intro b hb
      refine ⟨fun i G2 => G2 = up G' b (oK .int (sw ((srtT e2 P).take i))), rfl, ?_, ?_, ?_⟩
      · rintro i G' rfl
        exact ⟨trivial, zzx zi⟩
      · rintro i d G' hd rfl
        obtain ⟨x, hx, rfl⟩ := zbz hd
        simp_arith only [e2]
        refine ⟨zzx zi, zvd (kvs := sw ((srtT e2 P).take i)) (f := D.int) zi (zas (by unfold sw; rw [List.length_map, List.length_take]; omega)) ?_⟩
        rw [zft, z0o (z5t gp.mt hx), zdz hx]
        unfold sw
        rw [List.map_append]
        rfl
      · rintro G' rfl
        rw [List.length_map, List.take_length]
        simp_arith only [zi, z2q, zbv hb]
        exact q _ gp
end M
namespace M
open PySem PySem.Spec PyProof.Rows L2 DL
structure Sw (N : List (List Int)) (P : List (Int × Int)) (K L : List Int) : Prop where
  nd : K.Nodup
  un : ∀ s ∈ K, Un N P s
  all : ∀ u, InR N u → ¬ Has P u → u ∈ K
  sub : ∀ s ∈ L, s ∈ K
  done : ∀ s ∈ K, s ∈ L ∨ ∀ a ∈ nxt N s, ∃ m, m ∈ K ∧ aget P a = some m
structure Sf (N : List (List Int)) (P : List (Int × Int)) (K L : List Int) (now : Int) (i : Nat) : Prop where
  nd : K.Nodup
  un : ∀ s ∈ K, Un N P s
  all : ∀ u, InR N u → ¬ Has P u → u ∈ K
  sub : ∀ s ∈ L, s ∈ K
  cur : now ∈ K
  done : ∀ s ∈ K, s ∈ L ∨ (∀ a ∈ nxt N s, ∃ m, m ∈ K ∧ aget P a = some m) ∨ (s = now ∧ ∀ a ∈ (nxt N now).take i, ∃ m, m ∈ K ∧ aget P a = some m)
section
variable {N : List (List Int)} {P : List (Int × Int)} {K L : List Int} {now : Int} {i : Nat}
theorem Sw.pop (b : Sw N P K (L ++ [now])) : Sf N P K L now 0 where
  nd := b.nd
  un := b.un
  all := b.all
  sub := fun s h => b.sub s (List.mem_append.mpr (.inl h))
  cur := b.sub now (by simp)
  done := fun s r => by
    rcases b.done s r with h | h
    · rcases List.mem_append.mp h with h | h
      · exact .inl h
      · have : s = now := by simpa using h
        exact .inr (.inr ⟨this, fun a ha => by simp at ha⟩)
    · exact .inr (.inl h)
theorem Sf.end_ (b : Sf N P K L now (nxt N now).length) : Sw N P K L where
  nd := b.nd
  un := b.un
  all := b.all
  sub := b.sub
  done := fun s r => by
    rcases b.done s r with h | h | ⟨rfl, h⟩
    · exact .inl h
    · exact .inr h
    · exact .inr fun a ha => h a (by rw [List.take_length]; exact ha)
theorem Sf.next (b : Sf N P K L now i) {a : Int} (e : (nxt N now)[i]? = some a) : ∃ m, aget P a = some m ∧ Un N P m :=
  (z18 N P now (b.un now b.cur)).2 a (List.mem_of_getElem? e)
theorem Sf.skip (b : Sf N P K L now i) {a m : Int} (e : (nxt N now)[i]? = some a) (hm : aget P a = some m) (hk : m ∈ K) : Sf N P K L now (i + 1) where
  nd := b.nd
  un := b.un
  all := b.all
  sub := b.sub
  cur := b.cur
  done := fun s r => by
    rcases b.done s r with q | q | ⟨q, z⟩
    · exact .inl q
    · exact .inr (.inl q)
    · refine .inr (.inr ⟨q, fun c hc => ?_⟩)
      rcases zu3 e hc with hc | rfl
      · exact z c hc
      · exact ⟨m, hk, hm⟩
theorem Sf.push (b : Sf N P K L now i) {a m : Int} (e : (nxt N now)[i]? = some a) (hm : aget P a = some m) (hk : m ∉ K) : Sf N P (K ++ [m]) (L ++ [m]) now (i + 1) where
  nd := by
    rw [List.nodup_append]
    exact ⟨b.nd, by simp, fun x hx y hy => by simp at hy; subst hy; exact fun z => hk (z ▸ hx)⟩
  un := fun s hs => by
    rcases List.mem_append.mp hs with hs | hs
    · exact b.un s hs
    · obtain ⟨m', h1, h2⟩ := b.next e
      rw [hm] at h1
      cases h1
      have : s = m := by simpa using hs
      rw [this]; exact h2
  all := fun u h1 h2 => List.mem_append.mpr (.inl (b.all u h1 h2))
  sub := fun s hs => by
    rcases List.mem_append.mp hs with hs | hs
    · exact List.mem_append.mpr (.inl (b.sub s hs))
    · exact List.mem_append.mpr (.inr hs)
  cur := List.mem_append.mpr (.inl b.cur)
  done := fun s hs => by
    have wk : ∀ c, (∃ m', m' ∈ K ∧ aget P c = some m') → ∃ m', m' ∈ K ++ [m] ∧ aget P c = some m' := fun c ⟨m', h1, h2⟩ => ⟨m', List.mem_append.mpr (.inl h1), h2⟩
    rcases List.mem_append.mp hs with hs | hs
    · rcases b.done s hs with q | q | ⟨q, z⟩
      · exact .inl (List.mem_append.mpr (.inl q))
      · exact .inr (.inl fun c hc => wk c (q c hc))
      · refine .inr (.inr ⟨q, fun c hc => ?_⟩)
        rcases zu3 e hc with hc | rfl
        · exact wk c (z c hc)
        · exact ⟨m, by simp, hm⟩
    · exact .inl (List.mem_append.mpr (.inr hs))
end
theorem zaa9 (P : List (Int × Int)) : (sw P).length = P.length := List.length_map ..
theorem z6v {d : D} {ks : List D} {G : DHp} {Q : DVK} (h : zwi d G = some ks) (q : ∀ p, G p = none → Q (.ref p) (up G p (.lst ks))) : z8h [d] G Q := by
  show (match zwi d G with | some ks => _ | none => False)
  rw [h]
  exact q
theorem zacr {α : Type} {l : List α} (nd : l.Nodup) {i : Nat} {x : α} (e : l[i]? = some x) : x ∉ l.take i := by
  intro hy
  obtain ⟨j, hj, e5⟩ := List.getElem_of_mem hy
  rw [List.getElem_take] at e5
  obtain ⟨hi, e6⟩ := List.getElem?_eq_some_iff.mp e
  rw [List.length_take] at hj
  have := (List.pairwise_iff_getElem.mp nd) j i (by omega) hi (by omega)
  exact this (e5.trans e6.symm)
end M
namespace M
open PySem PySem.Spec PyProof.Rows L2 DL
class CA where
  (MoonError BadGround BadCamera BadSky BadPicture BadStanding Ground Camera Sky TooMany Search BadDeed BadCraft BadBelief BadFlight BadCut BadText Values Looks Deed Craft Lander Flight Engines Crew Tree Survey Joint : Addr)
variable [CA]
abbrev isT : Value → Value → Option Bool := zuh [CA.Ground]
theorem z3a {ds : List D} {G : DHp} {Q : DVK} : dLen [.nd .tup ds] G Q = Q (.int ds.length) G := rfl
theorem len3 {a b c : D} {G : DHp} {Q : DVK} : dLen [.nd .tup [a, b, c]] G Q = Q (.int 3) G := rfl
theorem len4 {a b c d : D} {G : DHp} {Q : DVK} : dLen [.nd .tup [a, b, c, d]] G Q = Q (.int 4) G := rfl
/-- what is no whole number -/
def zadt (t : D) : Prop := t = .non ∨ (∃ b, t = .bl b) ∨ (∃ x, t = .str x) ∨ (∃ ds, t = .nd .tup ds) ∨ ∃ ds, t = .nd .lst ds
def zbe : DRn := d3 fun t l h G Q => (∃ i a b : Int, t = .int i ∧ l = .int a ∧ h = .int b ∧ Q (.bl (decide (a ≤ i ∧ i ≤ b))) G) ∨ (zadt t ∧ Q (.bl false) G)
theorem z2v {cs : List Addr} {G : DHp} {Q : DVK} : (dIsi (zuh cs)) [.non, .ty "int"] G Q ↔ Q (.bl false) G := Iff.rfl
theorem z6o {cs : List Addr} {b : Bool} {G : DHp} {Q : DVK} : (dIsi (zuh cs)) [.bl b, .ty "int"] G Q ↔ Q (.bl true) G := Iff.rfl
theorem z3q {cs : List Addr} {b : Bool} {G : DHp} {Q : DVK} : (dIsi (zuh cs)) [.bl b, .ty "bool"] G Q ↔ Q (.bl true) G := Iff.rfl
theorem z25 {cs : List Addr} {x : Str} {G : DHp} {Q : DVK} : (dIsi (zuh cs)) [.str x, .ty "int"] G Q ↔ Q (.bl false) G := Iff.rfl
theorem z2t {cs : List Addr} {ds : List D} {G : DHp} {Q : DVK} : (dIsi (zuh cs)) [.nd .tup ds, .ty "int"] G Q ↔ Q (.bl false) G := Iff.rfl
theorem z2z {cs : List Addr} {ds : List D} {G : DHp} {Q : DVK} : (dIsi (zuh cs)) [.nd .lst ds, .ty "int"] G Q ↔ Q (.bl false) G := Iff.rfl
abbrev zhk : List Str := ["thing", "low", "high"]
def zik : DTS :=
    (dRet (zmu (dCB (dIsi isT) (ze (zd 0) (ze (dC (.ty "int")) dNil))) (zmu (zrp (dCB (dIsi isT) (ze (zd 0) (ze (dC (.ty "bool")) dNil)))) (zhq dLe dLe (zd 1) (zd 0) (zd 2)))))
theorem z19 : ∀ ds G Q, zbe ds G Q → ds.length = 3 := fun ds G Q h => by
  match ds, h with
  | [_, _, _], _ => rfl
theorem z16 : ∀ ds G Q, zbe ds G Q → zik { nx := fun _ G' => Q .non G', rt := Q } (za4 zhk ds) G := fun ds G Q h => by
  match ds, h with
  | [_, _, _], .inr ⟨n, q⟩ =>
    rcases n with rfl | ⟨b, rfl⟩ | ⟨x, rfl⟩ | ⟨ds, rfl⟩ | ⟨ds, rfl⟩
    · simp_arith only [zik, zhk, z2v]; exact q
    · simp_arith only [zik, zhk, z6o, z3q]; exact q
    · simp_arith only [zik, zhk, z25]; exact q
    · simp_arith only [zik, zhk, z2t]; exact q
    · simp_arith only [zik, zhk, z2z]; exact q
  | [_, _, _], .inl ⟨i, a, b, rfl, rfl, rfl, q⟩ =>
    simp_arith only [zik, zhk, z2p, z2l]
    by_cases h1 : a ≤ i
    · rw [if_pos h1]
      simpa [h1] using q
    · rw [if_neg h1]
      simpa [h1] using q
def okPt (a b : Int) (p : Int × Int × Int) : Prop := (a ≤ p.1 ∧ p.1 ≤ b) ∧ (a ≤ p.2.1 ∧ p.2.1 ≤ b) ∧ 1 ≤ p.2.2 ∧ p.2.2 ≤ 99
instance (a b : Int) (p : Int × Int × Int) : Decidable (okPt a b p) := by unfold okPt; infer_instance
/-- what is no row of three -/
def zacg (t : D) : Prop := (∃ ds, t = .nd .lst ds) ∨ ∃ ds : List D, t = .nd .tup ds ∧ ds.length ≠ 3
theorem z3h {cs : List Addr} {ds : List D} {G : DHp} {Q : DVK} : (dIsi (zuh cs)) [.nd .lst ds, .ty "tuple"] G Q ↔ Q (.bl false) G := Iff.rfl
def zc8 : DRn := d3 fun t l h G Q => (∃ (p : Int × Int × Int) (a b : Int), t = e3 p ∧ l = .int a ∧ h = .int b ∧ Q (.bl (decide (okPt a b p))) G) ∨ (zacg t ∧ Q (.bl false) G)
abbrev zks : List Str := ["thing", "low", "high"]
def zmp : DTS :=
    (dSeq (dIfS (dOr (dNot (zau (dCB (dIsi isT) (ze (zd 0) (ze (dC (.ty "tuple")) dNil))))) (zau (dOp dNe (dCB dLen (ze (zd 0) dNil)) (dC (.int 3)))))
    (dRet (dC (.bl false)))
    zdh)
    (dRet (zmu (dCB zbe (ze (dOp dIx (zd 0) (dC (.int 0))) (ze (zd 1) (ze (zd 2) dNil)))) (zmu (dCB zbe (ze (dOp dIx (zd 0) (dC (.int 1))) (ze (zd 1) (ze (zd 2) dNil)))) (dCB zbe (ze (dOp dIx (zd 0) (dC (.int 2))) (ze (dC (.int 1)) (ze (dC (.int 99)) dNil))))))))
theorem z1p : ∀ ds G Q, zc8 ds G Q → ds.length = 3 := fun ds G Q h => by
  match ds, h with
  | [_, _, _], _ => rfl
theorem z1b : ∀ ds G Q, zc8 ds G Q → zmp { nx := fun _ G' => Q .non G', rt := Q } (za4 zks ds) G := fun ds G Q h => by
  match ds, h with
  | [_, _, _], .inr ⟨.inl ⟨ds, rfl⟩, q⟩ =>
    simp_arith only [zmp, zks, z3h]
    exact q
  | [_, _, _], .inr ⟨.inr ⟨ds, rfl, h⟩, q⟩ =>
    simp_arith only [zmp, zks, zhb]
    rw [z3a]
    simp_arith only [true_and]
    rw [if_pos (by simp; omega)]
    exact q
  | [_, _, _], .inl ⟨p, a, b, rfl, rfl, rfl, q⟩ =>
    simp_arith only [zmp, zks, e3, zhb]
    rw [len3]
    simp_arith only [true_and]
    rw [if_neg (by decide)]
    refine ze1 (by decide) rfl (.inl ⟨_, _, _, rfl, rfl, rfl, ?_⟩)
    dsimp only
    by_cases h1 : a ≤ p.1 ∧ p.1 ≤ b
    · rw [decide_eq_true h1, if_pos rfl]
      refine ze1 (by decide) rfl (.inl ⟨_, _, _, rfl, rfl, rfl, ?_⟩)
      dsimp only
      by_cases h2 : a ≤ p.2.1 ∧ p.2.1 ≤ b
      · rw [decide_eq_true h2, if_pos rfl]
        refine ze1 (by decide) rfl (.inl ⟨_, _, _, rfl, rfl, rfl, ?_⟩)
        have e : decide (okPt a b p) = decide (1 ≤ p.2.2 ∧ p.2.2 ≤ 99) := by rw [Bool.eq_iff_iff]; simp [okPt, h1, h2]
        rw [e] at q
        exact q
      · rw [decide_eq_false h2, if_neg Bool.false_ne_true]
        have e : decide (okPt a b p) = false := by rw [decide_eq_false_iff_not]; exact fun z => h2 z.2.1
        rw [e] at q
        exact q
    · rw [decide_eq_false h1, if_neg Bool.false_ne_true]
      have e : decide (okPt a b p) = false := by rw [decide_eq_false_iff_not]; exact fun z => h1 z.1
      rw [e] at q
      exact q
/-- a quarter turn, or more -/
def rot (x y t : Int) : Int × Int := if t = 0 then (x, y) else if t = 1 then (0 - y, x) else if t = 2 then (0 - x, 0 - y) else (y, 0 - x)
def zk7 : DRn := d3 fun x y t G Q => ∃ i j k : Int, x = .int i ∧ y = .int j ∧ t = .int k ∧ Q (e2 (rot i j k)) G
abbrev zvf : List Str := ["x", "y", "turn"]
def zz4 : DTS :=
    (dSeq (dIfS (zau (dOp dEq (zd 2) (dC (.int 0))))
    (dRet (dTup (ze (zd 0) (ze (zd 1) dNil))))
    zdh)
    (dSeq (dIfS (zau (dOp dEq (zd 2) (dC (.int 1))))
    (dRet (dTup (ze (dOp dSub (dC (.int 0)) (zd 1)) (ze (zd 0) dNil))))
    zdh)
    (dRet (dIf (zau (dOp dEq (zd 2) (dC (.int 2)))) (dTup (ze (dOp dSub (dC (.int 0)) (zd 0)) (ze (dOp dSub (dC (.int 0)) (zd 1)) dNil))) (dTup (ze (zd 1) (ze (dOp dSub (dC (.int 0)) (zd 0)) dNil)))))))
theorem z6f : ∀ ds G Q, zk7 ds G Q → ds.length = 3 := fun ds G Q h => by
  match ds, h with
  | [_, _, _], _ => rfl
theorem z57 : ∀ ds G Q, zk7 ds G Q → zz4 { nx := fun _ G' => Q .non G', rt := Q } (za4 zvf ds) G := fun ds G Q h => by
  match ds, h with
  | [_, _, _], ⟨i, j, k, rfl, rfl, rfl, q⟩ =>
    unfold rot at q
    simp_arith only [zz4, zvf]
    by_cases h0 : k = 0
    · rw [if_pos h0] at q ⊢
      exact q
    · rw [if_neg h0] at q ⊢
      by_cases h1 : k = 1
      · rw [if_pos h1] at q ⊢
        exact q
      · rw [if_neg h1] at q ⊢
        by_cases h2 : k = 2
        · rw [if_pos h2] at q ⊢
          exact q
        · rw [if_neg h2] at q ⊢
          exact q
structure Cam where
  w : Int
  h : Int
  er : Int
  fa : Int
  lo : Int
structure Sk where
  cs : List (Int × Int × Int)
  cam : Cam
  tu : List Int
  ar : Int × Int × Int × Int
def gD (cs : List (Int × Int × Int)) : D := .nd (.ins CA.Ground ["craters"]) [eT e3 cs]
def cD (c : Cam) : D := .nd (.ins CA.Camera ["width", "height", "error", "false", "lost"]) [.int c.w, .int c.h, .int c.er, .int c.fa, .int c.lo]
def e4 (a : Int × Int × Int × Int) : D := .nd .tup [.int a.1, .int a.2.1, .int a.2.2.1, .int a.2.2.2]
def sD (s : Sk) : D := .nd (.ins CA.Sky ["ground", "camera", "turns", "area"]) [gD s.cs, cD s.cam, eT .int s.tu, e4 s.ar]
def z3i (c : Cam) : Prop := (1 ≤ c.w ∧ c.w ≤ 1000) ∧ (1 ≤ c.h ∧ c.h ≤ 1000) ∧ (0 ≤ c.er ∧ c.er ≤ 100) ∧ (0 ≤ c.fa ∧ c.fa ≤ 100) ∧ (0 ≤ c.lo ∧ c.lo ≤ 100)
section
variable {T : DTE} {η : DSt} {G : DHp} {Q : DVK}
theorem zlg {C : Addr} {n : Str} {ns : List Str} {ds : List D} : fldD C n (.nd (.ins C ns) ds) G = (ns.zip ds).lookup n := if_pos rfl
theorem zyy {cs : List (Int × Int × Int)} : fldD CA.Ground "craters" (gD cs) G = some (eT e3 cs) := by unfold gD; rw [zlg]; rfl
theorem zsu {c : Cam} : fldD CA.Camera "width" (cD c) G = some (.int c.w) := by unfold cD; rw [zlg]; rfl
theorem zms {c : Cam} : fldD CA.Camera "height" (cD c) G = some (.int c.h) := by unfold cD; rw [zlg]; rfl
theorem znv {c : Cam} : fldD CA.Camera "error" (cD c) G = some (.int c.er) := by unfold cD; rw [zlg]; rfl
theorem zzg {c : Cam} : fldD CA.Camera "false" (cD c) G = some (.int c.fa) := by unfold cD; rw [zlg]; rfl
theorem z8r {c : Cam} : fldD CA.Camera "lost" (cD c) G = some (.int c.lo) := by unfold cD; rw [zlg]; rfl
theorem z8f {s : Sk} : fldD CA.Sky "ground" (sD s) G = some (gD s.cs) := by unfold sD; rw [zlg]; rfl
theorem zwy {s : Sk} : fldD CA.Sky "camera" (sD s) G = some (cD s.cam) := by unfold sD; rw [zlg]; rfl
end
end M
namespace M
open PySem PySem.Spec PyProof.Rows L2 DL
variable [CA]
def zag : DRn := d2 fun s c G Q => ∃ (x : Addr) (cs : List (Int × Int × Int)), s = .ref x ∧ (c = eL e3 cs ∨ c = eT e3 cs) ∧ G x = some (.ins CA.Ground []) ∧ cs.length ≤ 100 ∧ (∀ p ∈ cs, okPt (0 - 1000000) 1000000 p) ∧
  Q .non (up G x (.ins CA.Ground [("craters", eT e3 (srtT e3 cs))]))
abbrev zfv : List Str := ["self", "craters", "number", "crater"]
def zhe : DTS :=
    (dSeq (dFor (zjg (ze (zd 1) dNil)) (zgd (zam (zk 2) (zam (zk 3) zgc)) 2)
    (dIfS (dOr (zau (dOp dGe (zd 2) (dC (.int 100)))) (dNot (zau (dCB zc8 (ze (zd 3) (ze (dOp dSub (dC (.int 0)) (dC (.int 1000000))) (ze (dC (.int 1000000)) dNil)))))))
    zn8
    zdh))
    (zpt CA.Ground "craters" (zd 0) (dCB zmr (ze (dFz (dCB z4a (ze (zd 1) dNil))) dNil))))
theorem zqo : ∀ ds G Q, zag ds G Q → ds.length = 2 := fun ds G Q h => by
  match ds, h with
  | [_, _], _ => rfl
theorem zabu (p : Int × Int × Int) : (py (e3 p)).depth ≤ 60 := Nat.le_trans (zd0 p) (by decide)
/-- a field set -/
theorem z7s {C : Addr} {n : Str} {To Tv : DTE} {F : zmh} {η : DSt} {G : DHp} {x : Addr} {y : D} {fs : List (Str × D)} (ho : ∀ R : DVK, R (.ref x) G → To η G R) (hG : G x = some (.ins C fs)) (hl : fs.length < 1000)
    (k : F.nx η (up G x (.ins C (fput n y fs)))) (hv : ∀ R : DVK, R y G → Tv η G R) : zpt C n To Tv F η G := by
  refine hv _ (ho _ ?_)
  show (match G x with | some (.ins B fs) => _ | _ => False)
  rw [hG]
  exact ⟨⟨rfl, hl⟩, k⟩
theorem z99 {cs : List (Int × Int × Int)} {G : DHp} {Q : DVK} (q : ∀ p, G p = none → Q (.ref p) (up G p (.lst ((srtT e3 cs).map e3)))) : zsm [eT e3 cs] G Q := by
  refine ⟨⟨cleans_plain (zc1 zds cs), ?_, st3 cs, fun d hd => ?_⟩, fun p hn => by rw [zti]; exact q p hn⟩
  · rw [List.map_map]; exact PySem.W.AllAlike.of al3
  · obtain ⟨a, _, rfl⟩ := List.mem_map.mp hd; exact zabu a
theorem zqi : ∀ ds G Q, zag ds G Q → zhe { nx := fun _ G' => Q .non G', rt := Q } (za4 zfv ds) G := fun ds G Q h => by
  match ds, h with
  | [_, _], ⟨x, cs, rfl, hc, hG, hl, hok, q⟩ =>
    rcases hc with rfl | rfl
    · simp_arith only [zhe, zfv, dFor, zjg, eL]
      refine ⟨fun i η G' => ∃ nu cr, η = [some (.ref x), some (eL e3 cs), nu, cr] ∧ G' = G, ⟨none, none, rfl, rfl⟩, fun _ _ _ _ => trivial, ?_, ?_⟩
      · rintro i d η G' hd ⟨nu, cr, rfl, rfl⟩
        obtain ⟨z, hz, rfl⟩ := zhw hd
        obtain ⟨p, hp, rfl⟩ := zbz hz
        have hi : i < cs.length := (List.getElem?_eq_some_iff.mp hp).1
        simp_arith only [zn8]
        rw [if_neg (by omega)]
        refine .inl ⟨p, _, _, rfl, rfl, rfl, ?_⟩
        rw [decide_eq_true (hok p (List.mem_of_getElem? hp))]
        simp_arith only [true_and]
        exact ⟨_, (by repeat (first | exact Le.nil | apply Le.keep | apply Le.drop)), _, _, rfl, rfl⟩
      · rintro η G' ⟨nu, cr, rfl, rfl⟩
        refine z7s (fs := []) (y := eT e3 (srtT e3 cs)) (fun R r => r) hG (by decide) q fun R r => ?_
        simp_arith only [true_and]
        refine .inl (zpi (f := e3) (xs := cs) rfl (fun _ => rfl) al3 (st3 cs) zabu fun p hp => ?_)
        simp_arith only [zi, zbv hp]
        rw [zmj (ds := (srtT e3 cs).map e3) rfl]
        exact r
    · simp_arith only [zhe, zfv, dFor, zjg, eT]
      refine ⟨fun i η G' => ∃ nu cr, η = [some (.ref x), some (eT e3 cs), nu, cr] ∧ G' = G, ⟨none, none, rfl, rfl⟩, fun _ _ _ _ => trivial, ?_, ?_⟩
      · rintro i d η G' hd ⟨nu, cr, rfl, rfl⟩
        obtain ⟨z, hz, rfl⟩ := zhw hd
        obtain ⟨p, hp, rfl⟩ := zbz hz
        have hi : i < cs.length := (List.getElem?_eq_some_iff.mp hp).1
        simp_arith only [zn8]
        rw [if_neg (by omega)]
        refine .inl ⟨p, _, _, rfl, rfl, rfl, ?_⟩
        rw [decide_eq_true (hok p (List.mem_of_getElem? hp))]
        simp_arith only [true_and]
        exact ⟨_, (by repeat (first | exact Le.nil | apply Le.keep | apply Le.drop)), _, _, rfl, rfl⟩
      · rintro η G' ⟨nu, cr, rfl, rfl⟩
        refine z7s (fs := []) (y := eT e3 (srtT e3 cs)) (fun R r => r) hG (by decide) q fun R r => ?_
        simp_arith only [true_and]
        refine .inr (z99 fun p hp => ?_)
        simp_arith only [zi, zbv hp]
        rw [zmj (ds := (srtT e3 cs).map e3) rfl]
        exact r
def zc0 : DRn := fun ds G Q => ∃ (x : Addr) (c : Cam), ds = [.ref x, .int c.w, .int c.h, .int c.er, .int c.fa, .int c.lo] ∧ G x = some (.ins CA.Camera []) ∧ z3i c ∧
  Q .non (up G x (.ins CA.Camera [("width", .int c.w), ("height", .int c.h), ("error", .int c.er), ("false", .int c.fa), ("lost", .int c.lo)]))
abbrev zfs : List Str := ["self", "width", "height", "error", "false", "lost", "word", "number", "low", "high"]
def zic : DTS :=
    (dFor (zb5 (dTup (ze (dTup (ze (dC (.str "width")) (ze (zd 1) (ze (dC (.int 1)) (ze (dC (.int 1000)) dNil))))) (ze (dTup (ze (dC (.str "height")) (ze (zd 2) (ze (dC (.int 1)) (ze (dC (.int 1000)) dNil))))) (ze (dTup (ze (dC (.str "error")) (ze (zd 3) (ze (dC (.int 0)) (ze (dC (.int 100)) dNil))))) (ze (dTup (ze (dC (.str "false")) (ze (zd 4) (ze (dC (.int 0)) (ze (dC (.int 100)) dNil))))) (ze (dTup (ze (dC (.str "lost")) (ze (zd 5) (ze (dC (.int 0)) (ze (dC (.int 100)) dNil))))) dNil))))))) (zgd (zam (zk 6) (zam (zk 7) (zam (zk 8) (zam (zk 9) zgc)))) 4)
    (dIfS (dNot (zau (dCB zbe (ze (zd 7) (ze (zd 8) (ze (zd 9) dNil))))))
    zn8
    zdh))
def zk0 : DTS :=
    (zpt CA.Camera "width" (zd 0) (zd 1))
def zli : DTS :=
    (zpt CA.Camera "height" (zd 0) (zd 2))
def zla : DTS :=
    (zpt CA.Camera "error" (zd 0) (zd 3))
def zle : DTS :=
    (zpt CA.Camera "false" (zd 0) (zd 4))
def zll : DTS :=
    (zpt CA.Camera "lost" (zd 0) (zd 5))
def zlh : DTS :=
    zll
def zk3 : DTS :=
    (dSeq zle zlh)
def zk9 : DTS :=
    (dSeq zla zk3)
def zkv : DTS :=
    (dSeq zli zk9)
def zk4 : DTS :=
    (dSeq zk0 zkv)
def zmv : DTS :=
    (dSeq zic zk4)
theorem zqr : ∀ ds G Q, zc0 ds G Q → ds.length = 6 := fun ds G Q ⟨x, c, e, _⟩ => by rw [e]; rfl
theorem zaeq {F : zmh} {x : Addr} {c : Cam} {G : DHp} (ok : z3i c) (k : ∀ a b d e, F.nx [some (.ref x), some (.int c.w), some (.int c.h), some (.int c.er), some (.int c.fa), some (.int c.lo), a, b, d, e] G) : zic F (za4 zfs [.ref x, .int c.w, .int c.h, .int c.er, .int c.fa, .int c.lo]) G := by
  simp_arith only [zic, zfs, dFor, zb5]
  refine ⟨fun i η G' => ∃ a b d e, η = [some (.ref x), some (.int c.w), some (.int c.h), some (.int c.er), some (.int c.fa), some (.int c.lo), a, b, d, e] ∧ G' = G, ⟨none, none, none, none, rfl, rfl⟩, fun _ _ _ _ => trivial, ?_, ?_⟩
  · rintro i d η G' hd ⟨a, b, z, e, rfl, rfl⟩
    have hm := List.mem_of_getElem? hd
    have key : ∃ (w : Str) (n lo hi : Int), d = .nd .tup [.str w, .int n, .int lo, .int hi] ∧ lo ≤ n ∧ n ≤ hi := by
      simp only [List.mem_cons, List.not_mem_nil, or_false] at hm
      obtain ⟨o1, o2, o3, o4, o5⟩ := ok
      rcases hm with h | h | h | h | h
      · exact ⟨_, _, _, _, h, o1.1, o1.2⟩
      · exact ⟨_, _, _, _, h, o2.1, o2.2⟩
      · exact ⟨_, _, _, _, h, o3.1, o3.2⟩
      · exact ⟨_, _, _, _, h, o4.1, o4.2⟩
      · exact ⟨_, _, _, _, h, o5.1, o5.2⟩
    clear hd hm
    obtain ⟨w, n, lo, hi, rfl, h1, h2⟩ := key
    simp_arith only [true_and]
    refine .inl ⟨n, lo, hi, rfl, rfl, rfl, ?_⟩
    rw [decide_eq_true ⟨h1, h2⟩]
    simp_arith only [true_and]
    exact ⟨_, (by repeat (first | exact Le.nil | apply Le.keep | apply Le.drop)), _, _, _, _, rfl, rfl⟩
  · rintro η G' ⟨a, b, z, e, rfl, rfl⟩
    exact k _ _ _ _
/-- a field set, what stands then told -/
theorem zn4 {C : Addr} {n : Str} {To Tv : DTE} {F : zmh} {η : DSt} {G : DHp} {x : Addr} {y : D} {fs fs' : List (Str × D)} (ho : ∀ R : DVK, R (.ref x) G → To η G R) (hv : ∀ R : DVK, R y G → Tv η G R) (hG : G x = some (.ins C fs)) (hl : fs.length < 1000) (hf : fput n y fs = fs')
    (k : F.nx η (up G x (.ins C fs'))) : zpt C n To Tv F η G := z7s ho hG hl (by rw [hf]; exact k) hv
theorem zrf : ∀ ds G Q, zc0 ds G Q → zmv { nx := fun _ G' => Q .non G', rt := Q } (za4 zfs ds) G := fun ds G Q h => by
  obtain ⟨x, c, rfl, hG, ok, q⟩ := h
  refine zaeq ok fun a b d e => ?_
  dsimp only [zk4, zk0, dSeq]
  refine zn4 (fs' := [("width", .int c.w)]) (fun R r => r) (fun R r => r) hG (by decide) rfl ?_
  dsimp only [zkv, zli, dSeq]
  refine zn4 (fs' := [("width", .int c.w), ("height", .int c.h)]) (fun R r => r) (fun R r => r) zi (by show _ < 1000; simp) rfl ?_
  rw [zft]
  dsimp only [zk9, zla, dSeq]
  refine zn4 (fs' := [("width", .int c.w), ("height", .int c.h), ("error", .int c.er)]) (fun R r => r) (fun R r => r) zi (by show _ < 1000; simp) rfl ?_
  rw [zft]
  dsimp only [zk3, zle, dSeq]
  refine zn4 (fs' := [("width", .int c.w), ("height", .int c.h), ("error", .int c.er), ("false", .int c.fa)]) (fun R r => r) (fun R r => r) zi (by show _ < 1000; simp) rfl ?_
  rw [zft]
  dsimp only [zlh, zll, dSeq]
  refine zn4 (fs' := [("width", .int c.w), ("height", .int c.h), ("error", .int c.er), ("false", .int c.fa), ("lost", .int c.lo)]) (fun R r => r) (fun R r => r) zi (by show _ < 1000; simp) rfl ?_
  rw [zft]
  exact q
end M
namespace M
open PySem PySem.Spec PyProof.Rows L2 DL
variable [CA]
def inC (c : Cam) (x y m : Int) : Prop := (0 - m ≤ x ∧ x < c.w + m) ∧ 0 - m ≤ y ∧ y < c.h + m
instance (c : Cam) (x y m : Int) : Decidable (inC c x y m) := by unfold inC; infer_instance
def za5 : DRn := fun ds G Q => ∃ (c : Cam) (x y m : Int), ds = [cD c, .int x, .int y, .int m] ∧ Q (.bl (decide (inC c x y m))) G
abbrev zgq : List Str := ["self", "x", "y", "more"]
def zi7 : DTS :=
    (dRet (zmu (zhq dLe dLt (dOp dSub (dC (.int 0)) (zd 3)) (zd 1) (dOp dAdd (dFld CA.Camera "width" (zd 0)) (zd 3))) (zhq dLe dLt (dOp dSub (dC (.int 0)) (zd 3)) (zd 2) (dOp dAdd (dFld CA.Camera "height" (zd 0)) (zd 3)))))
theorem zpp : ∀ ds G Q, za5 ds G Q → ds.length = 4 := fun ds G Q ⟨c, x, y, m, e, _⟩ => by rw [e]; rfl
theorem zpn : ∀ ds G Q, za5 ds G Q → zi7 { nx := fun _ G' => Q .non G', rt := Q } (za4 zgq ds) G := fun ds G Q h => by
  obtain ⟨c, x, y, m, rfl, q⟩ := h
  simp_arith only [zi7, zgq, dFld, zsu, zms]
  have key : ∀ b : Bool, (b = true ↔ inC c x y m) → Q (.bl b) G := fun b hb => by
    have e : decide (inC c x y m) = b := by rw [Bool.eq_iff_iff, decide_eq_true_eq]; exact hb.symm
    rw [← e]; exact q
  by_cases h1 : 0 - m ≤ x
  · rw [if_pos h1]
    by_cases h2 : x < c.w + m
    · rw [if_pos h2]
      by_cases h3 : 0 - m ≤ y
      · rw [if_pos h3]
        exact key _ (by rw [decide_eq_true_eq]; exact ⟨fun z => ⟨⟨h1, h2⟩, h3, z⟩, fun z => z.2.2⟩)
      · rw [if_neg h3]
        exact key _ ⟨fun z => (by cases z), fun z => absurd z.2.1 h3⟩
    · rw [if_neg h2]
      exact key _ ⟨fun z => (by cases z), fun z => absurd z.1.2 h2⟩
  · rw [if_neg h1]
    exact key _ ⟨fun z => (by cases z), fun z => absurd z.1.1 h1⟩
theorem zth {c : Cam} {m : Str} {G : DHp} (h : (["width", "height", "error", "false", "lost"] : List Str).contains m = false) : insD CA.Camera m (cD c) G := ⟨rfl, h⟩
theorem zrd {s : Sk} {m : Str} {G : DHp} (h : (["ground", "camera", "turns", "area"] : List Str).contains m = false) : insD CA.Sky m (sD s) G := ⟨rfl, h⟩
def zda : DRn := fun ds G Q => ∃ (c : Cam) (x y : Int), ds = [cD c, .int x, .int y] ∧ Q (.bl (decide (inC c x y (0 - c.er)))) G
abbrev zh8 : List Str := ["self", "x", "y"]
def zkb : DTS :=
    (dRet (zje CA.Camera "is_within" za5 (zd 0) (ze (zd 1) (ze (zd 2) (ze (dOp dSub (dC (.int 0)) (dFld CA.Camera "error" (zd 0))) dNil)))))
theorem zsz : ∀ ds G Q, zda ds G Q → ds.length = 3 := fun ds G Q ⟨c, x, y, e, _⟩ => by rw [e]; rfl
theorem zrv : ∀ ds G Q, zda ds G Q → zkb { nx := fun _ G' => Q .non G', rt := Q } (za4 zh8 ds) G := fun ds G Q h => by
  obtain ⟨c, x, y, rfl, q⟩ := h
  simp_arith only [zkb, zh8, dFld, zje, znv]
  exact ⟨zth (by decide), c, x, y, _, rfl, q⟩
def plc (p st : Int × Int × Int) : Int × Int × Int := ((rot p.1 p.2.1 st.1).1 + st.2.1, (rot p.1 p.2.1 st.1).2 + st.2.2, p.2.2)
def zhc : DRn := fun ds G Q => ∃ (s : Sk) (p st : Int × Int × Int), ds = [sD s, e3 p, e3 st] ∧ Q (e3 (plc p st)) G
abbrev zm5 : List Str := ["self", "crater", "standing", "x", "y"]
def zq1 : DTS :=
    (dSeq (dAsg (dCB zk7 (ze (dOp dIx (zd 1) (dC (.int 0))) (ze (dOp dIx (zd 1) (dC (.int 1))) (ze (dOp dIx (zd 2) (dC (.int 0))) dNil)))) (zgd (zam (zk 3) (zam (zk 4) zgc)) 2))
    (dRet (dTup (ze (dOp dAdd (zd 3) (dOp dIx (zd 2) (dC (.int 1)))) (ze (dOp dAdd (zd 4) (dOp dIx (zd 2) (dC (.int 2)))) (ze (dOp dIx (zd 1) (dC (.int 2))) dNil))))))
theorem zz5 : ∀ ds G Q, zhc ds G Q → ds.length = 3 := fun ds G Q ⟨c, x, y, e, _⟩ => by rw [e]; rfl
theorem zz8 : ∀ ds G Q, zhc ds G Q → zq1 { nx := fun _ G' => Q .non G', rt := Q } (za4 zm5 ds) G := fun ds G Q h => by
  obtain ⟨s, p, st, rfl, q⟩ := h
  simp_arith only [zq1, zm5, e3]
  refine ze1 (by decide) rfl (ze1 (by decide) rfl (ze1 (by decide) rfl ⟨_, _, _, rfl, rfl, rfl, ?_⟩))
  simp_arith only [e2]
  refine ze1 (by decide) rfl ?_
  simp_arith only [true_and]
  refine ze1 (by decide) rfl ?_
  simp_arith only [true_and]
  refine ze1 (by decide) rfl ?_
  exact q
def zbw (s : Sk) (st : Int × Int × Int) : List (Int × Int × Int) := s.cs.map fun p => plc p st
def zap : DRn := fun ds G Q => ∃ (s : Sk) (st : Int × Int × Int), ds = [sD s, e3 st] ∧ s.cs.length ≤ 100 ∧ Q (eL e3 (zbw s st)) G
abbrev zjx : List Str := ["self", "standing", "crater"]
def zo1 : DTS :=
    (dRet (dFz (dLc (zb5 (dFld CA.Ground "craters" (dFld CA.Sky "ground" (zd 0)))) (zk 2) dYes (zje CA.Sky "place" zhc (zd 0) (ze (zd 2) (ze (zd 1) dNil))) [2])))
theorem zxe : ∀ ds G Q, zap ds G Q → ds.length = 2 := fun ds G Q ⟨c, x, e, _⟩ => by rw [e]; rfl
theorem zxn : ∀ ds G Q, zap ds G Q → zo1 { nx := fun _ G' => Q .non G', rt := Q } (za4 zjx ds) G := fun ds G Q h => by
  obtain ⟨s, st, rfl, hl, q⟩ := h
  simp_arith only [zo1, zjx, dLc, zb5, dFld, z8f, zyy, eT, zje]
  intro p hp
  refine ⟨fun i acc G' => acc = ((s.cs.take i).map fun p => plc p st).map e3 ∧ G' = up G p (.lst acc), ⟨rfl, rfl⟩, ?_, ?_, ?_⟩
  · rintro i acc G' ⟨rfl, rfl⟩
    exact ⟨trivial, zi⟩
  · rintro i d acc G' hd ⟨rfl, rfl⟩
    obtain ⟨x, hx, rfl⟩ := zbz hd
    simp_arith only [true_and]
    refine ⟨zrd (by decide), s, x, st, rfl, zas ?_, zi, ?_, ?_⟩
    · rw [List.length_map, List.length_map, List.length_take]; omega
    · rw [zdz hx, List.map_append, List.map_append]; rfl
    · rw [zft]
  · rintro acc G' ⟨rfl, rfl⟩
    rw [List.length_map, List.take_length]
    simp_arith only [zi, zbv hp]
    exact q
end M
namespace M
open PySem PySem.Spec PyProof.Rows L2 DL
variable [CA]
def zee (s : Sk) (st : Int × Int × Int) : List Int := ((zbw s st).mapIdx fun i p => ((i : Int), p)).filterMap fun x => if inC s.cam x.2.1 x.2.2.1 (0 - s.cam.er) then some x.1 else none
def zcp : DRn := fun ds G Q => ∃ (s : Sk) (st : Int × Int × Int), ds = [sD s, e3 st] ∧ s.cs.length ≤ 100 ∧ Q (eL .int (zee s st)) G
abbrev ze6 : List Str := ["self", "standing", "places", "number", "x", "y", "size"]
def zis : DTS :=
    (dSeq (dAsg (zje CA.Sky "places" zap (zd 0) (ze (zd 1) dNil)) (zk 2))
    (dRet (dFz (dLc (zjg (ze (zd 2) dNil)) (zgd (zam (zk 3) (zam (zgd (zam (zk 4) (zam (zk 5) (zam (zk 6) zgc))) 3) zgc)) 2) (zau (zje CA.Camera "is_sure" zda (dFld CA.Sky "camera" (zd 0)) (ze (zd 4) (ze (zd 5) dNil)))) (zd 3) [3, 4, 5, 6]))))
theorem zpl : ∀ ds G Q, zcp ds G Q → ds.length = 2 := fun ds G Q ⟨c, x, e, _⟩ => by rw [e]; rfl
theorem zpq : ∀ ds G Q, zcp ds G Q → zis { nx := fun _ G' => Q .non G', rt := Q } (za4 ze6 ds) G := fun ds G Q h => by
  obtain ⟨s, st, rfl, hl, q⟩ := h
  simp_arith only [zis, ze6, zje]
  refine ⟨zrd (by decide), s, st, rfl, hl, ?_⟩
  simp_arith only [dLc, zjg, eL]
  intro p hp
  refine ⟨fun i acc G' => acc = ((((zbw s st).mapIdx fun i p => ((i : Int), p)).take i).filterMap fun x => if inC s.cam x.2.1 x.2.2.1 (0 - s.cam.er) then some x.1 else none).map .int ∧ acc.length ≤ i ∧ G' = up G p (.lst acc), ⟨rfl, Nat.le_refl _, rfl⟩, ?_, ?_, ?_⟩
  · rintro i acc G' ⟨_, _, rfl⟩
    exact ⟨trivial, zi⟩
  · rintro i d acc G' hd ⟨ea, hla, rfl⟩
    obtain ⟨z, hz, rfl⟩ := zhw hd
    obtain ⟨x, hx, rfl⟩ := zbz hz
    have hi : i < 100 := by
      have := (List.getElem?_eq_some_iff.mp hx).1
      unfold zbw at this
      rw [List.length_map] at this
      omega
    have hx2 : ((zbw s st).mapIdx fun i p => ((i : Int), p))[i]? = some ((i : Int), x) := by rw [List.getElem?_mapIdx, hx]; rfl
    simp_arith only [e3, zje, dFld, zwy]
    refine ⟨zth (by decide), s.cam, x.1, x.2.1, rfl, ?_⟩
    by_cases h1 : inC s.cam x.1 x.2.1 (0 - s.cam.er)
    · rw [decide_eq_true h1]
      simp_arith only [true_and]
      refine ⟨zas (by omega), zi, ?_, ?_, ?_⟩
      · rw [zdz hx2, List.filterMap_append, List.map_append, ← ea]
        simp only [List.filterMap_cons, if_pos h1, List.filterMap_nil, List.map_cons, List.map_nil]
      · rw [List.length_append, List.length_singleton]; omega
      · rw [zft]
    · rw [decide_eq_false h1]
      simp_arith only [true_and]
      refine ⟨?_, by omega⟩
      rw [zdz hx2, List.filterMap_append, List.map_append, ← ea]
      simp only [List.filterMap_cons, if_neg h1, List.filterMap_nil, List.map_nil, List.append_nil]
  · rintro acc G' ⟨ea, hla, rfl⟩
    rw [zjw, List.length_map, show (zbw s st).length = ((zbw s st).mapIdx fun i p => ((i : Int), p)).length by rw [List.length_mapIdx], List.take_length] at ea
    simp_arith only [zi, zbv hp]
    rw [ea]
    exact q
def z1z (c : Cam) (pic : List (Int × Int × Int)) : Prop := ∀ p ∈ pic, okPt 0 1000 p ∧ inC c p.1 p.2.1 0
/-- what is no point of a picture -/
def z8i (c : Cam) (d : D) : Prop := zacg d ∨ ∃ p, d = e3 p ∧ ¬ (okPt 0 1000 p ∧ inC c p.1 p.2.1 0)
def zabm (n : Int) : XV := ⟨CA.BadPicture, [("number", .int n)]⟩
def zbk : DRnX := fun ds G Q E => ∃ (c : Cam) (pic : List (Int × Int × Int)) (rest : List D), ds = [cD c, .nd .tup (pic.map e3 ++ rest)] ∧ z1z c pic ∧ (rest = [] → Q .non G) ∧ ∀ d r, rest = d :: r → z8i c d ∧ E (zabm pic.length) G
abbrev zbb : List Str := ["self", "picture", "number", "point"]
def zel (U : DXK) : DTS :=
    (dSeq (dIfS (dNot (zau (dCB (dIsi isT) (ze (zd 1) (ze (dC (.ty "tuple")) dNil)))))
    (zlv CA.BadPicture "number" U (ze (dC (.int 0)) dNil))
    zdh)
    (dFor (zjg (ze (zd 1) dNil)) (zgd (zam (zk 2) (zam (zk 3) zgc)) 2)
    (dIfS (dOr (dNot (zau (dCB zc8 (ze (zd 3) (ze (dC (.int 0)) (ze (dC (.int 1000)) dNil)))))) (dNot (zau (zje CA.Camera "is_within" za5 (zd 0) (ze (dOp dIx (zd 3) (dC (.int 0))) (ze (dOp dIx (zd 3) (dC (.int 1))) (ze (dC (.int 0)) dNil)))))))
    (zlv CA.BadPicture "number" U (ze (zd 2) dNil))
    zdh)))
theorem zmw : ∀ ds G Q E, zbk ds G Q E → ds.length = 2 := fun ds G Q E ⟨c, x, y, e, _⟩ => by rw [e]; rfl
theorem zm2 : ∀ ds G Q E, zbk ds G Q E → zel (fun x _ G' => E x G') { nx := fun _ G' => Q .non G', rt := Q } (za4 zbb ds) G := fun ds G Q E h => by
  obtain ⟨c, pic, rest, rfl, hok, q1, q2⟩ := h
  simp_arith only [zel, zbb, zhb, dFor, zjg, zje]
  refine ⟨fun i η G' => ∃ nu po, η = [some (cD c), some (.nd .tup (pic.map e3 ++ rest)), nu, po] ∧ G' = G ∧ i ≤ pic.length, ⟨none, none, rfl, rfl, Nat.zero_le _⟩, fun _ _ _ _ => trivial, ?_, ?_⟩
  · rintro i d η G' hd ⟨nu, po, rfl, rfl, hi⟩
    obtain ⟨z, hz, rfl⟩ := zhw hd
    by_cases h1 : i < pic.length
    · rw [List.getElem?_append_left (by rw [List.length_map]; exact h1)] at hz
      obtain ⟨p, hp, rfl⟩ := zbz hz
      obtain ⟨h1', h2⟩ := hok p (List.mem_of_getElem? hp)
      simp_arith only [true_and]
      refine .inl ⟨p, _, _, rfl, rfl, rfl, ?_⟩
      rw [decide_eq_true h1']
      simp_arith only [e3]
      refine ⟨zth (by decide), ze1 (by decide) rfl ?_⟩
      refine ze1 (by decide) rfl ⟨c, p.1, p.2.1, 0, rfl, ?_⟩
      rw [decide_eq_true h2]
      simp_arith only [true_and]
      exact ⟨_, (by repeat (first | exact Le.nil | apply Le.keep | apply Le.drop)), _, _, rfl, rfl, h1⟩
    · have hi2 : i = pic.length := by omega
      rw [List.getElem?_append_right (by rw [List.length_map]; omega), List.length_map, hi2, Nat.sub_self] at hz
      cases rest with
      | nil => cases hz
      | cons d r =>
        cases hz
        obtain ⟨b, e⟩ := q2 _ _ rfl
        rw [← hi2] at e
        simp_arith only [true_and]
        rcases b with b | ⟨p, rfl, b⟩
        · refine .inr ⟨b, ?_⟩
          simp_arith only [zlv]
          exact e
        · refine .inl ⟨p, _, _, rfl, rfl, rfl, ?_⟩
          by_cases h2 : okPt 0 1000 p
          · rw [decide_eq_true h2]
            simp_arith only [e3]
            refine ⟨zth (by decide), ze1 (by decide) rfl ?_⟩
            refine ze1 (by decide) rfl ⟨c, p.1, p.2.1, 0, rfl, ?_⟩
            rw [decide_eq_false fun z => b ⟨h2, z⟩]
            simp_arith only [zlv]
            exact e
          · rw [decide_eq_false h2]
            simp_arith only [zlv]
            exact e
  · rintro η G' ⟨nu, po, rfl, rfl, hi⟩
    refine q1 ?_
    rw [zjw, List.length_append, List.length_map] at hi
    exact List.length_eq_zero_iff.mp (by omega)
end M
namespace M
open PySem PySem.Spec PyProof.Rows L2 DL
variable [CA]
/-- a sky such as the laws draw -/
structure OkSk (s : Sk) : Prop where
  cs : s.cs.length ≤ 100
  cb : ∀ c ∈ s.cs, okPt (0 - 1000000) 1000000 c
  cam : z3i s.cam
  tl : s.tu.length ≤ 4
  b1 : -1000 ≤ s.ar.1 ∧ s.ar.1 ≤ s.ar.2.1 ∧ s.ar.2.1 ≤ s.ar.1 + 99
  b2 : -1000 ≤ s.ar.2.2.1 ∧ s.ar.2.2.1 ≤ s.ar.2.2.2 ∧ s.ar.2.2.2 ≤ s.ar.2.2.1 + 99
  u1 : s.ar.1 ≤ 1000
  u2 : s.ar.2.2.1 ≤ 1000
theorem z66 {α β : Type} {l : List α} {f : α → List β} {i : Nat} {x : α} (e : l[i]? = some x) : (l.take (i + 1)).flatMap f = (l.take i).flatMap f ++ f x := by
  rw [zdz e, List.flatMap_append]; simp
theorem zt5 {s : Sk} {G : DHp} {Q : DVK} {i : Int} {z : Int} (h0 : 0 ≤ i) (h : [D.int s.ar.1, .int s.ar.2.1, .int s.ar.2.2.1, .int s.ar.2.2.2][i.toNat]? = some (.int z)) (q : Q (.int z) G) : dIx (e4 s.ar) (.int i) G Q := ze1 h0 h q
end M
namespace M
open PySem PySem.Spec PyProof.Rows L2 DL
variable [CA]
def upsI (G : DHp) : List (Addr × List Int) → DHp
  | [] => G
  | x :: l => up (upsI G l) x.1 (.lst (x.2.map .int))
theorem zsr {G : DHp} {a : Addr} : ∀ {l : List (Addr × List Int)}, a ∉ l.map (·.1) → upsI G l a = G a
  | [], _ => rfl
  | x :: l, h => by
    rw [List.map_cons, List.mem_cons, not_or] at h
    show up (upsI G l) x.1 _ a = _
    rw [zj2 h.1, zsr h.2]
theorem zzm {G : DHp} {a : Addr} {xs : List Int} : ∀ {l : List (Addr × List Int)} {k : Nat}, (l.map (·.1)).Nodup → l[k]? = some (a, xs) → upsI G l a = some (.lst (xs.map .int))
  | [], _, _, h => by simp at h
  | x :: l, 0, _, h => by
    simp at h
    subst h
    exact zi
  | x :: l, k + 1, nd, h => by
    rw [List.map_cons, List.nodup_cons] at nd
    rw [List.getElem?_cons_succ] at h
    show up (upsI G l) x.1 _ a = _
    rw [zj2 (fun e => nd.1 (by rw [← e]; exact List.mem_map.mpr ⟨_, List.mem_of_getElem? h, rfl⟩)), zzm nd.2 h]
theorem z2e {G : DHp} {a : Addr} {xs : List Int} : ∀ {l : List (Addr × List Int)}, a ∉ l.map (·.1) → up (upsI G l) a (.lst (xs.map .int)) = upsI G (l ++ [(a, xs)])
  | [], _ => rfl
  | x :: l, h => by
    rw [List.map_cons, List.mem_cons, not_or] at h
    show up (up (upsI G l) x.1 _) a _ = up (upsI G (l ++ [(a, xs)])) x.1 _
    rw [zl3 (Ne.symm h.1), z2e h.2]
theorem z37 {G : DHp} {a : Addr} {xs ys : List Int} : ∀ {l : List (Addr × List Int)} {k : Nat}, (l.map (·.1)).Nodup → l[k]? = some (a, xs) → up (upsI G l) a (.lst (ys.map .int)) = upsI G (l.set k (a, ys))
  | [], _, _, h => by simp at h
  | x :: l, 0, _, h => by
    simp at h
    subst h
    exact zft
  | x :: l, k + 1, nd, h => by
    rw [List.map_cons, List.nodup_cons] at nd
    rw [List.getElem?_cons_succ] at h
    have ne : x.1 ≠ a := fun e => nd.1 (by rw [e]; exact List.mem_map.mpr ⟨_, List.mem_of_getElem? h, rfl⟩)
    show up (up (upsI G l) x.1 _) a _ = up (upsI G (l.set k (a, ys))) x.1 _
    rw [zl3 ne, z37 nd.2 h]
theorem z4b {G : DHp} : ∀ {l : List (Addr × List Int)}, (l.map (·.1)).Nodup → (∀ a ∈ l.map (·.1), G a = none) → frL (l.map fun x => D.ref x.1) (upsI G l) = some (l.map fun x => eL .int x.2, G)
  | [], _, _ => rfl
  | x :: l, nd, h => by
    rw [List.map_cons, List.nodup_cons] at nd
    have h0 : upsI G l x.1 = none := by rw [zsr nd.1]; exact h _ (by simp)
    rw [List.map_cons, frL]
    show (match up (upsI G l) x.1 (.lst (x.2.map .int)) x.1 with | some (.lst es) => _ | _ => _) = _
    rw [zi]
    dsimp only
    rw [show dl (upsI G (x :: l)) x.1 = upsI G l from zbv h0, z4b nd.2 fun a ha => h a (by simp [ha])]
    rfl
/-- who of the pairs has a -/
def sel (P : List (Int × Int)) (a : Int) : List Int := (P.filter fun p => decide (p.2 = a)).map (·.1)
def prsL (N : List (List Int)) : List (Int × Int) := (N.mapIdx fun k r => r.map fun o => ((k : Int), o)).flatten
def bkN (N : List (List Int)) (M : Int) : List (List Int) := (ze9 0 M).map (sel (prsL N))
theorem z9u {N : List (List Int)} {i : Nat} {r : List Int} (h : N[i]? = some r) : prsL (N.take (i + 1)) = prsL (N.take i) ++ r.map fun o => ((i : Int), o) := by
  unfold prsL
  have hi := (List.getElem?_eq_some_iff.mp h).1
  rw [zdz h, List.mapIdx_concat, List.flatten_concat, List.length_take, Nat.min_eq_left (Nat.le_of_lt hi)]
theorem zace {N : List (List Int)} {i a : Int} : (i, a) ∈ prsL N ↔ InR N i ∧ a ∈ nxt N i := by
  unfold prsL
  rw [List.mem_flatten]
  constructor
  · rintro ⟨l, hl, h⟩
    rw [List.mem_mapIdx] at hl
    obtain ⟨k, hk, rfl⟩ := hl
    obtain ⟨o, ho, e⟩ := List.mem_map.mp h
    cases e
    refine ⟨⟨by omega, by omega⟩, ?_⟩
    unfold nxt
    rw [Int.toNat_natCast, List.getElem?_eq_getElem hk]
    exact ho
  · rintro ⟨⟨h0, h1⟩, h2⟩
    have hk : i.toNat < N.length := by omega
    unfold nxt at h2
    rw [List.getElem?_eq_getElem hk] at h2
    exact ⟨_, List.mem_mapIdx.mpr ⟨i.toNat, hk, rfl⟩, List.mem_map.mpr ⟨a, h2, by rw [Int.toNat_of_nonneg h0]⟩⟩
theorem zac5 {P : List (Int × Int)} {a i : Int} : i ∈ sel P a ↔ (i, a) ∈ P := by
  unfold sel
  rw [List.mem_map]
  constructor
  · rintro ⟨p, hp, rfl⟩
    rw [List.mem_filter, decide_eq_true_eq] at hp
    rw [← hp.2]
    exact hp.1
  · intro h
    exact ⟨_, List.mem_filter.mpr ⟨h, by simp⟩, rfl⟩
theorem zaea (N : List (List Int)) (M : Int) : (bkN N M).length = M.toNat := by unfold bkN; rw [List.length_map, zdk]; simp
theorem zy4 {lo hi : Int} {i : Nat} (h : (i : Int) < hi - lo) : (ze9 lo hi)[i]? = some (lo + i) := by
  unfold ze9
  rw [List.getElem?_map, List.getElem?_range (by omega)]
  rfl
theorem zabn {N : List (List Int)} {M i a : Int} (h0 : 0 ≤ a) (h1 : a < M) : i ∈ nxt (bkN N M) a ↔ InR N i ∧ a ∈ nxt N i := by
  rw [← zace, ← zac5]
  unfold nxt bkN
  rw [List.getElem?_map, zy4 (by omega), show (0 : Int) + (a.toNat : Int) = a by omega]
  rfl
theorem z5w (P : List (Int × Int)) (i o a : Int) : sel (P ++ [(i, o)]) a = if o = a then sel P a ++ [i] else sel P a := by
  unfold sel
  rw [List.filter_append, List.map_append]
  by_cases h : o = a
  · rw [if_pos h]; simp [h]
  · rw [if_neg h]; simp [h]
theorem zac1 (P : List (Int × Int)) (a : Int) : (sel P a).length ≤ P.length := by
  unfold sel; rw [List.length_map]; exact List.length_filter_le _ _
theorem zac7 {N : List (List Int)} {B : Nat} (h : ∀ r ∈ N, r.length ≤ B) : (prsL N).length ≤ N.length * B := by
  induction N using zph with
  | h0 => simp [prsL]
  | h1 N r ih =>
    have e : prsL (N ++ [r]) = prsL N ++ r.map fun o => ((N.length : Int), o) := by
      unfold prsL
      rw [List.mapIdx_concat, List.flatten_concat]
    rw [e, List.length_append, List.length_map, List.length_append, List.length_singleton, Nat.succ_mul]
    have := ih fun r hr => h r (List.mem_append.mpr (.inl hr))
    have := h r (by simp)
    omega
def zeg : DRn := d2 fun n m G Q => ∃ (N : List (List Int)) (M : Int), n = eN N ∧ m = .int M ∧ (0 ≤ M ∧ M ≤ 1000) ∧ N.length ≤ 1000 ∧ (∀ r ∈ N, r.length ≤ 1000) ∧ (∀ r ∈ N, ∀ a ∈ r, 0 ≤ a ∧ a < M) ∧ Q (eN (bkN N M)) G
abbrev zhz : List Str := ["nexts", "many", "found", "one", "others", "other"]
def zmc : DTS :=
    (dSeq (dAsg (dLc (ze7 (ze (zd 1) dNil)) (zk 5) dYes (zjn dNil) [5]) (zk 2))
    (dSeq (dFor (zjg (ze (zd 0) dNil)) (zgd (zam (zk 3) (zam (zk 4) zgc)) 2)
    (dFor (zb5 (zd 4)) (zk 5)
    (zhu (dM "list" zg8 (dOp dIx (zd 2) (zd 5)) (ze (zd 3) dNil)))))
    (z9l 2 (zpu (zd 2)))))
theorem zum : ∀ ds G Q, zeg ds G Q → ds.length = 2 := fun ds G Q h => by
  match ds, h with
  | [_, _], _ => rfl
/-- the lists, one for each number -/
structure Lsts (G : DHp) (f : Addr) (M : Int) (P : List (Int × Int)) (l : List (Addr × List Int)) : Prop where
  nd : (l.map (·.1)).Nodup
  nf : f ∉ l.map (·.1)
  fr : ∀ a ∈ l.map (·.1), G a = none
  cs : l.map (·.2) = (ze9 0 M).map (sel P)
theorem zve {l : List (Addr × List Int)} {k : Nat} {a : Addr} {xs ys : List Int} (h : l[k]? = some (a, xs)) : (l.set k (a, ys)).map (·.1) = l.map (·.1) := by
  rw [List.map_set]
  obtain ⟨hk, e⟩ := List.getElem?_eq_some_iff.mp h
  refine List.ext_getElem? fun j => ?_
  rw [List.getElem?_set]
  split
  · rename_i hj
    subst hj
    rw [List.length_map, if_pos hk, List.getElem?_map, h]
    rfl
  · rfl
theorem Lsts.at_ {G : DHp} {f : Addr} {M : Int} {P : List (Int × Int)} {l : List (Addr × List Int)} (h : Lsts G f M P l) {o : Int} (h0 : 0 ≤ o) (h1 : o < M) : ∃ a, l[o.toNat]? = some (a, sel P o) := by
  have e : (l.map (·.2))[o.toNat]? = some (sel P o) := by
    rw [h.cs, List.getElem?_map, zy4 (by omega), show (0 : Int) + (o.toNat : Int) = o by omega]
    rfl
  rw [List.getElem?_map] at e
  cases e2 : l[o.toNat]? with
  | none => rw [e2] at e; cases e
  | some x =>
    rw [e2] at e
    simp at e
    exact ⟨x.1, by rw [← e]⟩
theorem Lsts.step {G : DHp} {f : Addr} {M : Int} {P : List (Int × Int)} {l : List (Addr × List Int)} (h : Lsts G f M P l) {o i : Int} {a : Addr} (h0 : 0 ≤ o) (h1 : o < M) (e : l[o.toNat]? = some (a, sel P o)) : Lsts G f M (P ++ [(i, o)]) (l.set o.toNat (a, sel P o ++ [i])) := by
  refine ⟨by rw [zve e]; exact h.nd, by rw [zve e]; exact h.nf, by rw [zve e]; exact h.fr, ?_⟩
  rw [List.map_set, h.cs]
  refine List.ext_getElem? fun j => ?_
  rw [List.getElem?_set, List.getElem?_map, List.getElem?_map]
  by_cases hj : j < (ze9 0 M).length
  · have hj2 : (j : Int) < M - 0 := by rw [zdk] at hj; omega
    rw [zy4 hj2]
    split
    · rename_i e2
      rw [List.length_map, if_pos (by rw [e2]; exact hj)]
      rw [show (0 : Int) + (j : Int) = o by omega]
      show some _ = some (sel (P ++ [(i, o)]) o)
      rw [z5w, if_pos rfl]
    · rename_i e2
      show some _ = some (sel (P ++ [(i, o)]) _)
      rw [z5w, if_neg (by omega)]
  · rw [List.getElem?_eq_none (by omega)]
    split
    · rename_i e2
      rw [List.length_map, if_neg (by omega)]
      rfl
    · rfl
theorem zuj : ∀ ds G Q, zeg ds G Q → zmc { nx := fun _ G' => Q .non G', rt := Q } (za4 zhz ds) G := fun ds G Q h => by
  match ds, h with
  | [_, _], ⟨N, M, rfl, rfl, hM, hN, hr, hin, q⟩ =>
    simp_arith only [zmc, zhz, dLc, ze7]
    refine ⟨⟨by omega, by omega⟩, fun f hf => ?_⟩
    refine ⟨fun i acc G' => ∃ l : List (Addr × List Int), (l.map (·.1)).Nodup ∧ f ∉ l.map (·.1) ∧ (∀ a ∈ l.map (·.1), G a = none) ∧ l.map (·.2) = ((ze9 0 M).take i).map (sel []) ∧ acc = l.map (fun x => D.ref x.1) ∧ G' = up (upsI G l) f (.lst acc), ⟨[], by simp, by simp, by simp, by simp, rfl, rfl⟩, ?_, ?_, ?_⟩
    · rintro i acc G' ⟨l, _, _, _, _, rfl, rfl⟩
      exact ⟨trivial, zi⟩
    · rintro i d acc G' hd ⟨l, nd, nf, fr, cs, rfl, rfl⟩
      obtain ⟨a, ha, rfl⟩ := zbz hd
      have hlen : l.length ≤ 1000 := by
        have := congrArg List.length cs
        rw [List.length_map, List.length_map, List.length_take, zdk] at this
        omega
      simp_arith only [true_and]
      intro p hp
      have pf : p ≠ f := fun e => by rw [e, zi] at hp; cases hp
      rw [zj2 pf] at hp
      have pn : p ∉ l.map (·.1) := fun hm => by
        obtain ⟨x, hx, e⟩ := List.mem_map.mp hm
        obtain ⟨k, hk, e2⟩ := List.getElem_of_mem hx
        have : upsI G l p = some (.lst (x.2.map .int)) := zzm (k := k) (xs := x.2) nd (by rw [List.getElem?_eq_getElem hk, e2, ← e])
        rw [this] at hp; cases hp
      have hGp : G p = none := by have := zsr (G := G) pn; rw [← this]; exact hp
      refine ⟨zas (by rw [List.length_map]; omega), by rw [zj2 (Ne.symm pf), zi], l ++ [(p, [])], ?_, ?_, ?_, ?_, ?_, ?_⟩
      · rw [List.map_append, List.nodup_append]
        exact ⟨nd, by simp, fun x hx y hy => by simp at hy; subst hy; exact fun z => pn (z ▸ hx)⟩
      · rw [List.map_append, List.mem_append, not_or]
        exact ⟨nf, by simp; exact Ne.symm pf⟩
      · intro a ha
        rw [List.map_append, List.mem_append] at ha
        rcases ha with ha | ha
        · exact fr a ha
        · simp at ha; subst ha; exact hGp
      · rw [List.map_append, cs, zdz ha, List.map_append]
        rfl
      · rw [List.map_append]; rfl
      · rw [← z2e pn, zl3 pf.symm, zft]
        rfl
    · rintro acc G' ⟨l, nd, nf, fr, cs, rfl, rfl⟩
      rw [List.length_map, List.take_length] at cs
      simp_arith only [dFor, zjg]
      refine ⟨fun i η G' => ∃ l on ots oth, η = [some (eN N), some (.int M), some (.ref f), on, ots, oth] ∧ G' = up (upsI G l) f (.lst (l.map fun x => D.ref x.1)) ∧ Lsts G f M (prsL (N.take i)) l, ⟨l, none, none, none, rfl, rfl, nd, nf, fr, by rw [cs]; rfl⟩, fun _ _ _ _ => trivial, ?_, ?_⟩
      · rintro i d η G' hd ⟨l, on, ots, oth, rfl, rfl, L⟩
        obtain ⟨z, hz, rfl⟩ := zhw hd
        obtain ⟨r, hr2, rfl⟩ := zbz hz
        have hrm := List.mem_of_getElem? hr2
        simp_arith only [zb5, eL]
        refine ⟨fun j η G' => ∃ l oth, η = [some (eN N), some (.int M), some (.ref f), some (.int i), some (eL .int r), oth] ∧ G' = up (upsI G l) f (.lst (l.map fun x => D.ref x.1)) ∧ Lsts G f M (prsL (N.take i) ++ (r.take j).map fun o => ((i : Int), o)) l, ⟨l, oth, rfl, rfl, by simpa using L⟩, fun _ _ _ _ => trivial, ?_, ?_⟩
        · rintro j d η G' hd ⟨l, oth, rfl, rfl, L⟩
          obtain ⟨o, ho, rfl⟩ := zbz hd
          obtain ⟨h0, h1⟩ := hin r hrm o (List.mem_of_getElem? ho)
          obtain ⟨a, ea⟩ := L.at_ h0 h1
          have am : a ∈ l.map (·.1) := List.mem_map.mpr ⟨_, List.mem_of_getElem? ea, rfl⟩
          have af : a ≠ f := fun e => L.nf (e ▸ am)
          have hlen : (sel (prsL (N.take i) ++ (r.take j).map fun o => ((i : Int), o)) o).length ≤ 1000000 := by
            refine Nat.le_trans (zac1 _ _) ?_
            have hi := (List.getElem?_eq_some_iff.mp hr2).1
            have h1 := zac7 (N := N.take i) (B := 1000) fun r hr3 => hr r (List.mem_of_mem_take hr3)
            have h2 : (r.take j).length ≤ 1000 := by rw [List.length_take]; have := hr r hrm; omega
            rw [List.length_append, List.length_map]
            rw [List.length_take] at h1
            have : min i N.length ≤ 999 := by omega
            have := Nat.mul_le_mul_right 1000 this
            omega
          simp_arith only [true_and]
          refine z74 (d := .ref a) zi h0 (by rw [List.getElem?_map, ea]; rfl) ?_
          refine zka (xs := (sel (prsL (N.take i) ++ (r.take j).map fun o => ((i : Int), o)) o).map .int) (by rw [zj2 af]; exact zzm L.nd ea) (zas (by rw [List.length_map]; exact hlen)) ?_
          refine ⟨_, (by repeat (first | exact Le.nil | apply Le.keep | apply Le.drop)), l.set o.toNat (a, sel (prsL (N.take i) ++ (r.take j).map fun o => ((i : Int), o)) o ++ [(i : Int)]), _, rfl, ?_, ?_⟩
          · rw [zl3 (Ne.symm af)]
            have := z37 (G := G) (ys := sel (prsL (N.take i) ++ (r.take j).map fun o => ((i : Int), o)) o ++ [(i : Int)]) L.nd ea
            rw [List.map_append] at this
            rw [show (l.set o.toNat (a, sel (prsL (N.take i) ++ (r.take j).map fun o => ((i : Int), o)) o ++ [(i : Int)])).map (fun x => D.ref x.1) = l.map fun x => D.ref x.1 by
              have := congrArg (List.map D.ref) (zve (ys := sel (prsL (N.take i) ++ (r.take j).map fun o => ((i : Int), o)) o ++ [(i : Int)]) ea)
              rw [List.map_map, List.map_map] at this
              exact this]
            exact congrArg (fun x => up x f _) this
          · have := L.step (i := (i : Int)) h0 h1 ea
            rw [zdz ho, List.map_append, ← List.append_assoc]
            exact this
        · rintro η G' ⟨l, oth, rfl, rfl, L⟩
          rw [List.length_map, List.take_length] at L
          exact ⟨_, (by repeat (first | exact Le.nil | apply Le.keep | apply Le.drop)), l, _, _, _, rfl, rfl, by rw [z9u hr2]; exact L⟩
      · rintro η G' ⟨l, on, ots, oth, rfl, rfl, L⟩
        rw [zjw, List.length_map, List.take_length] at L
        have hf2 : upsI G l f = none := by rw [zsr L.nf]; exact hf
        simp_arith only [z9l, zi, zbv hf2, z4b L.nd L.fr]
        rw [show (l.map fun x => eL D.int x.2) = (bkN N M).map (eL .int) by
          unfold bkN
          rw [← L.cs, List.map_map]; rfl]
        exact q
end M
namespace M
open PySem PySem.Spec PyProof.Rows L2 DL
variable [CA]
def ab (i : Int) : Int := if i < 0 then -i else i
theorem zw1 {i : Int} {G : DHp} {Q : DVK} : dAbs [.int i] G Q = Q (.int (ab i)) G := rfl
abbrev Pt := Int × Int × Int
def zno (p q : Pt) (er : Int) : Prop := p.2.2 = q.2.2 ∧ ab (p.1 - q.1) ≤ er ∧ ab (p.2.1 - q.2.1) ≤ er
instance (p q : Pt) (er : Int) : Decidable (zno p q er) := by unfold zno; infer_instance
def zid : DRn := fun ds G Q => ∃ (p q : Pt) (er : Int), ds = [e3 p, e3 q, .int er] ∧ Q (.bl (decide (zno p q er))) G
abbrev zpd : List Str := ["point", "place", "error"]
def ztu : DTS :=
    (dRet (zmu (dOp dEq (dOp dIx (zd 0) (dC (.int 2))) (dOp dIx (zd 1) (dC (.int 2)))) (zmu (dOp dLe (dCB dAbs (ze (dOp dSub (dOp dIx (zd 0) (dC (.int 0))) (dOp dIx (zd 1) (dC (.int 0)))) dNil)) (zd 2)) (dOp dLe (dCB dAbs (ze (dOp dSub (dOp dIx (zd 0) (dC (.int 1))) (dOp dIx (zd 1) (dC (.int 1)))) dNil)) (zd 2)))))
theorem z1x : ∀ ds G Q, zid ds G Q → ds.length = 3 := fun ds G Q ⟨c, x, y, e, _⟩ => by rw [e]; rfl
theorem z8l {p : Pt} {G : DHp} {Q : DVK} (q : Q (.int p.1) G) : dIx (e3 p) (.int 0) G Q := ze1 (by decide) rfl q
theorem z88 {p : Pt} {G : DHp} {Q : DVK} (q : Q (.int p.2.1) G) : dIx (e3 p) (.int 1) G Q := ze1 (by decide) rfl q
theorem z9m {p : Pt} {G : DHp} {Q : DVK} (q : Q (.int p.2.2) G) : dIx (e3 p) (.int 2) G Q := ze1 (by decide) rfl q
theorem zadx {p : Prop} [Decidable p] {b : Bool} (h : b = true ↔ p) : decide p = b := by rw [Bool.eq_iff_iff, decide_eq_true_eq]; exact h.symm
theorem z2a : ∀ ds G Q, zid ds G Q → ztu { nx := fun _ G' => Q .non G', rt := Q } (za4 zpd ds) G := fun ds G Q h => by
  obtain ⟨p, q, er, rfl, k⟩ := h
  simp_arith only [ztu, zpd]
  refine z9m (z9m ?_)
  simp_arith only [zw1]
  by_cases h1 : p.2.2 = q.2.2
  · rw [if_pos h1]
    refine z8l (z8l ?_)
    simp_arith only [zw1]
    by_cases h2 : ab (p.1 - q.1) ≤ er
    · rw [if_pos h2]
      refine z88 (z88 ?_)
      simp_arith only [zw1]
      rw [zadx (p := zno p q er) (b := decide (ab (p.2.1 - q.2.1) ≤ er)) (by rw [decide_eq_true_eq]; exact ⟨fun z => ⟨h1, h2, z⟩, fun z => z.2.2⟩)] at k
      exact k
    · rw [if_neg h2]
      rw [decide_eq_false (fun z : zno p q er => h2 z.2.1)] at k
      exact k
  · rw [if_neg h1]
    rw [decide_eq_false (fun z : zno p q er => h1 z.1)] at k
    exact k
/-- the numbers of those with a property -/
def whr {α : Type} (f : α → Bool) (l : List α) : List Int := (l.mapIdx fun i p => ((i : Int), p)).filterMap fun x => if f x.2 then some x.1 else none
theorem z5b {α : Type} (f : α → Bool) (l : List α) (x : α) : whr f (l ++ [x]) = whr f l ++ if f x then [(l.length : Int)] else [] := by
  unfold whr
  rw [List.mapIdx_concat, List.filterMap_append]
  congr 1
  by_cases h : f x = true
  · simp [h]
  · simp [h]
theorem z39 {α : Type} (f : α → Bool) {l : List α} {i : Nat} {x : α} (h : l[i]? = some x) : whr f (l.take (i + 1)) = whr f (l.take i) ++ if f x then [(i : Int)] else [] := by
  rw [zdz h, z5b, List.length_take, Nat.min_eq_left (Nat.le_of_lt (List.getElem?_eq_some_iff.mp h).1)]
theorem z3t {α : Type} (f : α → Bool) (l : List α) : (whr f l).length ≤ l.length := by
  unfold whr
  refine Nat.le_trans (List.length_filterMap_le _ _) ?_
  rw [List.length_mapIdx]
  exact Nat.le_refl _
theorem zw8 {α : Type} {f : α → Bool} {l : List α} {a : Int} : a ∈ whr f l ↔ ∃ (i : Nat) (x : α), a = i ∧ l[i]? = some x ∧ f x = true := by
  unfold whr
  rw [List.mem_filterMap]
  constructor
  · rintro ⟨y, hy, e⟩
    rw [List.mem_mapIdx] at hy
    obtain ⟨i, hi, rfl⟩ := hy
    dsimp only at e
    split at e
    · rename_i h
      cases e
      exact ⟨i, l[i], rfl, List.getElem?_eq_getElem hi, h⟩
    · cases e
  · rintro ⟨i, x, rfl, h, hf⟩
    obtain ⟨hi, e⟩ := List.getElem?_eq_some_iff.mp h
    exact ⟨((i : Int), x), List.mem_mapIdx.mpr ⟨i, hi, by rw [e]⟩, by simp [hf]⟩
theorem z6d {α : Type} (f : α → Bool) (l : List α) : (whr f l).Pairwise (· < ·) := by
  induction l using zph with
  | h0 => simp [whr]
  | h1 l x ih =>
    rw [z5b, List.pairwise_append]
    refine ⟨ih, by split <;> simp, fun a ha b hb => ?_⟩
    obtain ⟨i, y, rfl, hi, _⟩ := zw8.mp ha
    have := (List.getElem?_eq_some_iff.mp hi).1
    split at hb
    · simp at hb; omega
    · cases hb
theorem z70 {α : Type} (f : α → Bool) (l : List α) : (whr f l).Nodup := (z6d f l).imp fun h => by omega
def zx9 (ps : List Pt) (er : Int) (p : Pt) : List Int := whr (fun q => decide (zno p q er)) ps
def nxL (s : Sk) (pic : List Pt) (st : Pt) : List (List Int) := pic.map (zx9 (zbw s st) s.cam.er)
theorem zsa (s : Sk) (st : Pt) : (zbw s st).length = s.cs.length := List.length_map ..
theorem zop (s : Sk) (st : Pt) : zee s st = whr (fun p => decide (inC s.cam p.1 p.2.1 (0 - s.cam.er))) (zbw s st) := by
  unfold zee whr
  congr 1
  funext x
  by_cases h : inC s.cam x.2.1 x.2.2.1 (0 - s.cam.er)
  · rw [if_pos h, if_pos (decide_eq_true h)]
  · rw [if_neg h, if_neg (fun z => h (of_decide_eq_true z))]
theorem z21 {s : Sk} {st : Pt} {n : Int} (h : n ∈ zee s st) : 0 ≤ n ∧ n < s.cs.length := by
  rw [zop] at h
  obtain ⟨i, x, rfl, hi, _⟩ := zw8.mp h
  have := (List.getElem?_eq_some_iff.mp hi).1
  rw [zsa] at this
  omega
theorem z5q (s : Sk) (st : Pt) : (zee s st).length ≤ s.cs.length := by
  rw [zop]
  refine Nat.le_trans (z3t _ _) (by rw [zsa]; exact Nat.le_refl _)
theorem zadp {ps : List Pt} {er : Int} {p : Pt} {a : Int} (h : a ∈ zx9 ps er p) : 0 ≤ a ∧ a < ps.length := by
  obtain ⟨i, x, rfl, hi, _⟩ := zw8.mp h
  have := (List.getElem?_eq_some_iff.mp hi).1
  omega
def bkS (s : Sk) (pic : List Pt) (st : Pt) : List (List Int) := (zee s st).map (nxt (bkN (nxL s pic st) s.cs.length))
end M
namespace M
open PySem PySem.Spec PyProof.Rows L2 DL
variable [CA]
def FitA (s : Sk) (pic : List Pt) (st : Pt) : Prop := ∃ P, Mt (nxL s pic st) P ∧ (pic.length : Int) - s.cam.fa ≤ P.length
def FitB (s : Sk) (pic : List Pt) (st : Pt) : Prop := ∃ P, Mt (bkS s pic st) P ∧ ((zee s st).length : Int) - s.cam.lo ≤ P.length
def FitP (s : Sk) (pic : List Pt) (st : Pt) : Prop := FitA s pic st ∧ FitB s pic st
noncomputable def fitb (s : Sk) (pic : List Pt) (st : Pt) : Bool := @decide (FitP s pic st) (Classical.propDecidable _)
theorem z0b {s : Sk} {pic : List Pt} {st : Pt} : fitb s pic st = true ↔ FitP s pic st := by
  unfold fitb; exact @decide_eq_true_iff _ (Classical.propDecidable _)
theorem zyk (s : Sk) (pic : List Pt) (st : Pt) : (nxL s pic st).length = pic.length := List.length_map ..
theorem z3o (s : Sk) (pic : List Pt) (st : Pt) : (bkS s pic st).length = (zee s st).length := List.length_map ..
theorem zyi {β : Type} {f : β → D} {kvs : List (Int × β)} {G : DHp} {Q : DVK} : dLen [eK f kvs] G Q = Q (.int kvs.length) G := by
  have e : dLen [eK f kvs] G Q = Q (.int (((enc kI f kvs).map (·.1)).zip ((enc kI f kvs).map (·.2))).length) G := rfl
  rw [e, List.length_zip, List.length_map, List.length_map, Nat.min_self]
  unfold enc
  rw [List.length_map]
theorem zaa5 {s : Sk} {pic : List Pt} {st : Pt} {P : List (Int × Int)} (g : Gr (nxL s pic st) P (nxL s pic st).length) (h : (P.length : Int) < pic.length - s.cam.fa) : ¬ FitA s pic st := by
  rintro ⟨P', m, h'⟩
  have := g.max m
  omega
theorem z90 {s : Sk} {pic : List Pt} {st : Pt} {P : List (Int × Int)} (g : Gr (bkS s pic st) P (bkS s pic st).length) (h : (P.length : Int) < (zee s st).length - s.cam.lo) : ¬ FitB s pic st := by
  rintro ⟨P', m, h'⟩
  have := g.max m
  omega
end M
namespace M
open PySem PySem.Spec PyProof.Rows L2 DL
variable [CA]
def inA (s : Sk) (sh : Int × Int) : Prop := (s.ar.1 ≤ sh.1 ∧ sh.1 ≤ s.ar.2.1) ∧ s.ar.2.2.1 ≤ sh.2 ∧ sh.2 ≤ s.ar.2.2.2
def z6j (s : Sk) : List (Int × Int) := (ze9 s.ar.1 (s.ar.2.1 + 1)).flatMap fun x => (ze9 s.ar.2.2.1 (s.ar.2.2.2 + 1)).map fun y => (x, y)
theorem z46 {s : Sk} {sh : Int × Int} : sh ∈ z6j s ↔ inA s sh := by
  unfold z6j inA
  rw [List.mem_flatMap]
  constructor
  · rintro ⟨x, hx, h⟩
    obtain ⟨y, hy, rfl⟩ := List.mem_map.mp h
    rw [mem_range] at hx hy
    dsimp only
    omega
  · rintro ⟨h1, h2⟩
    exact ⟨sh.1, mem_range.mpr (by omega), List.mem_map.mpr ⟨sh.2, mem_range.mpr (by omega), rfl⟩⟩
theorem z47 {s : Sk} (h : OkSk s) : (z6j s).length ≤ 10000 := by
  unfold z6j
  refine Nat.le_trans (zna (B := 100) fun x _ => ?_) ?_
  · rw [List.length_map, zdk]; have := h.b2; omega
  · rw [zdk]; have := h.b1; omega
def mx (i j : Int) : Int := if j > i then j else i
def mn (i j : Int) : Int := if j < i then j else i
/-- the shifts that are looked at for one crater -/
def r1 (s : Sk) (pt c : Pt) (t : Int) : List Int := ze9 (mx s.ar.1 (pt.1 - (rot c.1 c.2.1 t).1 - s.cam.er)) (mn s.ar.2.1 (pt.1 - (rot c.1 c.2.1 t).1 + s.cam.er) + 1)
def r2 (s : Sk) (pt c : Pt) (t : Int) : List Int := ze9 (mx s.ar.2.2.1 (pt.2.1 - (rot c.1 c.2.1 t).2 - s.cam.er)) (mn s.ar.2.2.2 (pt.2.1 - (rot c.1 c.2.1 t).2 + s.cam.er) + 1)
/-- the dict so far -/
structure Vd (s : Sk) (V : List (Int × Int)) (kvs : List ((Int × Int) × Bool)) : Prop where
  nd : (kvs.map (·.1)).Nodup
  mem : ∀ sh, sh ∈ kvs.map (·.1) ↔ sh ∈ V
  inn : ∀ sh ∈ V, inA s sh
theorem Vd.len {s : Sk} {V : List (Int × Int)} {kvs : List ((Int × Int) × Bool)} (ok : OkSk s) (h : Vd s V kvs) : kvs.length ≤ 10000 := by
  have := zjk (xs := z6j s) h.nd fun y hy => z46.mpr (h.inn y ((h.mem y).mp hy))
  rw [List.length_map] at this
  exact Nat.le_trans this (z47 ok)
theorem Vd.step {s : Sk} {V : List (Int × Int)} {kvs : List ((Int × Int) × Bool)} (h : Vd s V kvs) {sh : Int × Int} (hs : inA s sh) : Vd s (V ++ [sh]) (aput kvs sh true) := by
  refine ⟨zfq _ _ _ h.nd, fun c => ?_, fun c hc => ?_⟩
  · rw [z4k, h.mem, List.mem_append, List.mem_singleton]
  · rcases List.mem_append.mp hc with hc | hc
    · exact h.inn c hc
    · rw [List.mem_singleton] at hc; rw [hc]; exact hs
end M
namespace M
open PySem PySem.Spec PyProof.Rows L2 DL
variable [CA]
def cntO (n : Nat) : Option Int := if n = 0 then none else some (n : Int)
/-- the votes for the shifts of the area, by a turn -/
structure Vot (s : Sk) (kvs : List ((Int × Int) × Int)) (f : Int × Int → Nat) : Prop where
  nd : (kvs.map (·.1)).Nodup
  at_ : ∀ sh, aget kvs sh = cntO (f sh)
  inn : ∀ sh, f sh ≠ 0 → inA s sh
theorem z7z {n : Nat} : (cntO n).isSome = true ↔ n ≠ 0 := by
  unfold cntO
  split
  · rename_i h; simp [h]
  · rename_i h; simp [h]
theorem Vot.mem {s : Sk} {kvs : List ((Int × Int) × Int)} {f : Int × Int → Nat} (h : Vot s kvs f) {sh : Int × Int} : sh ∈ kvs.map (·.1) ↔ f sh ≠ 0 := by
  rw [← zgr, h.at_, z7z]
theorem Vot.len {s : Sk} {kvs : List ((Int × Int) × Int)} {f : Int × Int → Nat} (ok : OkSk s) (h : Vot s kvs f) : kvs.length ≤ 10000 := by
  have := zjk (xs := z6j s) h.nd fun y hy => z46.mpr (h.inn y (h.mem.mp hy))
  rw [List.length_map] at this
  exact Nat.le_trans this (z47 ok)
theorem Vot.step {s : Sk} {kvs : List ((Int × Int) × Int)} {f g : Int × Int → Nat} (h : Vot s kvs f) {sh : Int × Int} (hs : inA s sh) (hg : ∀ c, g c = if c = sh then f sh + 1 else f c) : Vot s (aput kvs sh ((aget kvs sh).getD 0 + 1)) g := by
  refine ⟨zfq _ _ _ h.nd, fun c => ?_, fun c hc => ?_⟩
  · rw [zcf, hg]
    split
    · rw [h.at_]
      unfold cntO
      by_cases h0 : f sh = 0
      · simp [h0]
      · simp [h0]
    · exact h.at_ c
  · rw [hg] at hc
    split at hc
    · rename_i e; rw [e]; exact hs
    · exact h.inn c hc
end M
namespace M
open PySem PySem.Spec PyProof.Rows L2 DL
/-- the numbers of a list, each once -/
structure Onc (K xs : List Int) : Prop where
  nd : K.Nodup
  mem : ∀ y, y ∈ K ↔ y ∈ xs
theorem Onc.len {K xs : List Int} (h : Onc K xs) : K.length ≤ xs.length := zjk h.nd fun y hy => (h.mem y).mp hy
end M
namespace M
open PySem PySem.Spec PyProof.Rows L2 DL
structure Bij (P : List (Int × Int)) : Prop where
  nd : (P.map (·.1)).Nodup
  nd2 : (P.map (·.2)).Nodup
theorem zp0 {l : List (Int × Int)} {a b : Int} (h : aget l a = some b) : (a, b) ∈ l := by
  unfold aget at h
  cases e : l.find? fun p => decide (p.1 = a) with
  | none => rw [e] at h; cases h
  | some p =>
    rw [e] at h
    have h1 := List.find?_some e
    have h2 := List.mem_of_find?_eq_some e
    rw [decide_eq_true_eq] at h1
    cases h
    rw [← h1]
    exact h2
theorem Bij.ag {P : List (Int × Int)} (h : Bij P) {a b : Int} : aget P a = some b ↔ (a, b) ∈ P := ⟨zp0, fun m => zkk h.nd m⟩
theorem zzd (P : List (Int × Int)) : (sw P).map (·.1) = P.map (·.2) := by unfold sw; rw [List.map_map]; rfl
theorem z73 {P : List (Int × Int)} {a b : Int} : (a, b) ∈ sw P ↔ (b, a) ∈ P := by
  unfold sw
  rw [List.mem_map]
  constructor
  · rintro ⟨x, hx, e⟩; cases e; exact hx
  · intro h; exact ⟨(b, a), h, rfl⟩
theorem Bij.agS {P : List (Int × Int)} (h : Bij P) {a b : Int} : aget (sw P) a = some b ↔ (b, a) ∈ P :=
  ⟨fun m => z73.mp (zp0 m), fun m => zkk (by rw [zzd]; exact h.nd2) (z73.mpr m)⟩
theorem Bij.inj1 {P : List (Int × Int)} (h : Bij P) {a b c : Int} (h1 : (a, b) ∈ P) (h2 : (a, c) ∈ P) : b = c := by
  have := (h.ag.mpr h1).symm.trans (h.ag.mpr h2)
  exact Option.some.inj this
/-- what the two tables say, so far; now: what has lost its place -/
structure Two (M1 M2 Fd Bk : List (Int × Int)) (done : Int → Prop) (now : Option Int) : Prop where
  ndF : (Fd.map (·.1)).Nodup
  ndB : (Bk.map (·.1)).Nodup
  inv : ∀ f s, aget Fd f = some s ↔ aget Bk s = some f
  src : ∀ f s, aget Fd f = some s → (f, s) ∈ M1 ∨ (f, s) ∈ M2
  dom : ∀ f, f ∈ M1.map (·.1) → (aget Fd f).isSome
  cov : ∀ s, done s → some s ≠ now → (aget Bk s).isSome
theorem Two.init {M1 M2 : List (Int × Int)} (h1 : Bij M1) : Two M1 M2 M1 (sw M1) (fun _ => False) none where
  ndF := h1.nd
  ndB := by rw [zzd]; exact h1.nd2
  inv := fun f s => by rw [h1.ag, h1.agS]
  src := fun f s h => .inl (h1.ag.mp h)
  dom := fun f h => (zgr _ _).mpr h
  cov := fun _ h => h.elim
/-- the pairs of the second that are not there yet -/
def z8y (M2 Fd : List (Int × Int)) : Nat := M2.countP fun p => decide (aget Fd p.1 ≠ some p.2)
def bkS' (Bk : List (Int × Int)) (now first : Int) (before : Option Int) : List (Int × Int) := match before with
  | none => aput Bk now first
  | some b => z3c (aput Bk now first) b
theorem zabo {Bk : List (Int × Int)} {now first s : Int} {before : Option Int} : aget (bkS' Bk now first before) s = if before = some s then none else if s = now then some first else aget Bk s := by
  cases before with
  | none =>
    show aget (aput Bk now first) s = _
    rw [zcf, if_neg (c := (none : Option Int) = some s) (by simp)]
  | some b =>
    show aget (z3c (aput Bk now first) b) s = _
    rw [z6k, zcf]
    by_cases h : s = b
    · rw [if_pos h, if_pos (by rw [h])]
    · rw [if_neg h, if_neg (fun z => h (Option.some.inj z).symm)]
theorem Two.step {M1 M2 Fd Bk : List (Int × Int)} {done : Int → Prop} {now first : Int} (h2 : Bij M2) (t : Two M1 M2 Fd Bk done (some now)) (hw : (first, now) ∈ M2) (hb : aget Bk now = none) :
    Two M1 M2 (aput Fd first now) (bkS' Bk now first (aget Fd first)) done (aget Fd first) ∧ z8y M2 (aput Fd first now) < z8y M2 Fd := by
  have hne : ∀ f, aget Fd f ≠ some now := fun f e => by rw [(t.inv f now).mp e] at hb; cases hb
  refine ⟨⟨zfq _ _ _ t.ndF, ?_, fun f s => ?_, fun f s h => ?_, fun f h => ?_, fun s hs hn => ?_⟩, ?_⟩
  · cases e : aget Fd first with
    | none => exact zfq _ _ _ t.ndB
    | some b => exact z29 _ (zfq _ _ _ t.ndB)
  · rw [zcf, zabo]
    by_cases hf : f = first
    · subst hf
      rw [if_pos rfl]
      by_cases hs : s = now
      · subst hs
        rw [if_neg (hne f), if_pos rfl]
        simp
      · constructor
        · intro z; exact absurd (Option.some.inj z).symm hs
        · intro z
          split at z
          · cases z
          · rename_i h
            exact absurd ((t.inv f s).mpr z) h
    · rw [if_neg hf]
      constructor
      · intro z
        have z' := (t.inv f s).mp z
        have h1 : ¬ aget Fd first = some s := fun y => by
          have := (t.inv first s).mp y
          rw [z'] at this
          exact hf (Option.some.inj this)
        have h3 : s ≠ now := fun y => by rw [y] at z; exact hne f z
        rw [if_neg h1, if_neg h3]
        exact z'
      · intro z
        split at z
        · cases z
        · split at z
          · exact absurd (Option.some.inj z).symm hf
          · exact (t.inv f s).mpr z
  · rw [zcf] at h
    split at h
    · rename_i e
      cases h
      rw [e]
      exact .inr hw
    · exact t.src f s h
  · rw [zcf]
    split
    · rfl
    · exact t.dom f h
  · rw [zabo, if_neg (fun z => hn z.symm)]
    split
    · rfl
    · rename_i h
      exact t.cov s hs (fun z => h (Option.some.inj z))
  · unfold z8y
    have key : ∀ l : List (Int × Int), (∀ p ∈ l, p ∈ M2) → (l.countP fun p => decide (aget (aput Fd first now) p.1 ≠ some p.2)) ≤ (l.countP fun p => decide (aget Fd p.1 ≠ some p.2)) ∧
        ((first, now) ∈ l → (l.countP fun p => decide (aget (aput Fd first now) p.1 ≠ some p.2)) < l.countP fun p => decide (aget Fd p.1 ≠ some p.2)) := by
      intro l
      induction l with
      | nil => intro _; exact ⟨Nat.le_refl _, fun h => (by cases h)⟩
      | cons p l ih =>
        intro hl
        obtain ⟨i1, i2⟩ := ih fun q hq => hl q (by simp [hq])
        have hp := hl p (by simp)
        rw [List.countP_cons, List.countP_cons, zcf]
        by_cases hf : p.1 = first
        · have e : p.2 = now := h2.inj1 (a := first) (by rw [← hf]; exact hp) hw
          rw [if_pos hf, e, if_neg (by simp), if_pos (by rw [hf]; simpa using hne first)]
          exact ⟨by omega, fun _ => by omega⟩
        · rw [if_neg hf]
          refine ⟨by omega, fun hm => ?_⟩
          rcases List.mem_cons.mp hm with e | hm
          · exact absurd (congrArg Prod.fst e).symm hf
          · have := i2 hm; omega
    exact (key M2 fun _ h => h).2 hw
/-- what comes of it -/
structure zabs (M1 M2 Fd : List (Int × Int)) : Prop where
  bij : Bij Fd
  src : ∀ p ∈ Fd, p ∈ M1 ∨ p ∈ M2
  dom : ∀ p ∈ M1, ∃ s, (p.1, s) ∈ Fd
  img : ∀ p ∈ M2, ∃ f, (f, p.2) ∈ Fd
theorem zaa7 {Fd : List (Int × Int)} (nd : (Fd.map (·.1)).Nodup) (inj : ∀ a b c, aget Fd a = some c → aget Fd b = some c → a = b) : (Fd.map (·.2)).Nodup := by
  induction Fd with
  | nil => exact List.nodup_nil
  | cons p Fd ih =>
    rw [List.map_cons, List.nodup_cons] at nd ⊢
    have up : ∀ a c, aget Fd a = some c → aget (p :: Fd) a = some c := fun a c h => by
      have ha : a ≠ p.1 := fun e => nd.1 (by rw [← e]; exact (zgr _ _).mp (by rw [h]; rfl))
      unfold aget at h ⊢
      rw [List.find?_cons_of_neg (by simpa using fun z : p.1 = a => ha z.symm)]
      exact h
    refine ⟨fun h => ?_, ih nd.2 fun a b c h1 h2 => inj a b c (up a c h1) (up b c h2)⟩
    obtain ⟨q, hq, e⟩ := List.mem_map.mp h
    have h1 := up q.1 q.2 (zkk nd.2 hq)
    have h2 : aget (p :: Fd) p.1 = some p.2 := by unfold aget; rw [List.find?_cons_of_pos (by simp)]; rfl
    have := inj q.1 p.1 p.2 (by rw [← e]; exact h1) h2
    exact nd.1 (by rw [← this]; exact List.mem_map.mpr ⟨q, hq, rfl⟩)
theorem Two.end_ {M1 M2 Fd Bk : List (Int × Int)} {done : Int → Prop} (t : Two M1 M2 Fd Bk done none) (hd : ∀ p ∈ M2, done p.2) : zabs M1 M2 Fd := by
  have inj : ∀ a b c, aget Fd a = some c → aget Fd b = some c → a = b := fun a b c h1 h2 => by
    have := ((t.inv a c).mp h1).symm.trans ((t.inv b c).mp h2)
    exact Option.some.inj this
  refine ⟨⟨t.ndF, zaa7 t.ndF inj⟩, fun p hp => t.src p.1 p.2 (zkk t.ndF hp), fun p hp => ?_, fun p hp => ?_⟩
  · obtain ⟨s, e⟩ := Option.isSome_iff_exists.mp (t.dom p.1 (List.mem_map.mpr ⟨p, hp, rfl⟩))
    exact ⟨s, zp0 e⟩
  · obtain ⟨f, e⟩ := Option.isSome_iff_exists.mp (t.cov p.2 (hd p hp) (nomatch ·))
    exact ⟨f, zp0 ((t.inv f p.2).mpr e)⟩
theorem z63 {P : List (Int × Int)} (h : Bij P) {a : Int} (e : aget (sw P) a = none) : a ∉ P.map (·.2) := fun m => by
  rw [← zzd] at m
  have := (zgr _ _).mpr m
  rw [e] at this
  cases this
theorem zadl {M1 M2 : List (Int × Int)} (b2 : Bij M2) {done : Int → Prop} (hd : ∀ s, done s → s ∈ M2.map (·.2)) : ∀ (m : Nat) (Fd Bk : List (Int × Int)) (now : Option Int), Two M1 M2 Fd Bk done now → z8y M2 Fd ≤ m → ∃ Fd' Bk', Two M1 M2 Fd' Bk' done none := by
  intro m
  induction m with
  | zero =>
    intro Fd Bk now t hm
    cases now with
    | none => exact ⟨Fd, Bk, t⟩
    | some n =>
      cases hw : aget (sw M2) n with
      | none => exact ⟨Fd, Bk, t.ndF, t.ndB, t.inv, t.src, t.dom, fun s h _ => t.cov s h fun e => by cases e; exact z63 b2 hw (hd _ h)⟩
      | some first =>
        cases hb : aget Bk n with
        | some y =>
          refine ⟨Fd, Bk, t.ndF, t.ndB, t.inv, t.src, t.dom, fun s h _ => ?_⟩
          by_cases e : s = n
          · rw [e, hb]; rfl
          · exact t.cov s h fun z => e (Option.some.inj z)
        | none =>
          have := (t.step b2 (b2.agS.mp hw) hb).2
          omega
  | succ m ih =>
    intro Fd Bk now t hm
    cases now with
    | none => exact ⟨Fd, Bk, t⟩
    | some n =>
      cases hw : aget (sw M2) n with
      | none => exact ⟨Fd, Bk, t.ndF, t.ndB, t.inv, t.src, t.dom, fun s h _ => t.cov s h fun e => by cases e; exact z63 b2 hw (hd _ h)⟩
      | some first =>
        cases hb : aget Bk n with
        | some y =>
          refine ⟨Fd, Bk, t.ndF, t.ndB, t.inv, t.src, t.dom, fun s h _ => ?_⟩
          by_cases e : s = n
          · rw [e, hb]; rfl
          · exact t.cov s h fun z => e (Option.some.inj z)
        | none =>
          obtain ⟨t', hlt⟩ := t.step b2 (b2.agS.mp hw) hb
          exact ih _ _ _ t' (by omega)
/-- two matchings come together in one that holds the firsts of the one and the seconds of the other -/
theorem zaez {M1 M2 : List (Int × Int)} (b1 : Bij M1) (b2 : Bij M2) : ∃ Fd, zabs M1 M2 Fd := by
  have go : ∀ L : List Int, (∀ s ∈ L, s ∈ M2.map (·.2)) → ∃ Fd Bk, Two M1 M2 Fd Bk (fun s => s ∈ L) none := by
    intro L
    induction L with
    | nil =>
      intro _
      have t := Two.init (M2 := M2) b1
      exact ⟨M1, sw M1, t.ndF, t.ndB, t.inv, t.src, t.dom, fun s h => (by simp at h)⟩
    | cons x L ih =>
      intro hL
      obtain ⟨Fd, Bk, t⟩ := ih fun s hs => hL s (by simp [hs])
      refine zadl b2 (fun s hs => hL s hs) (z8y M2 Fd) Fd Bk (some x) ⟨t.ndF, t.ndB, t.inv, t.src, t.dom, fun s h hn => ?_⟩ (Nat.le_refl _)
      rcases List.mem_cons.mp h with h | h
      · exact absurd (congrArg some h) hn
      · exact t.cov s h (nomatch ·)
  obtain ⟨Fd, Bk, t⟩ := go (M2.map (·.2)) fun _ h => h
  exact ⟨Fd, t.end_ fun p hp => List.mem_map.mpr ⟨p, hp, rfl⟩⟩
end M
namespace M
open PySem PySem.Spec PyProof.Rows L2 DL
section
variable {α : Type}
theorem zadm (a b : Int) : PySem.W.dataLe false py (.int a) (.int b) = decide (a ≤ b) := by
  rw [PySem.W.dataLe_eq]
  show (!PySem.W.dataLt (py (.int b)) (py (.int a))) = _
  rw [py, py, PySem.W.dataLt_int, PySem.W.not_lt_int]
theorem z3j (xs : List Int) : (srtT D.int xs).Pairwise (· ≤ ·) := by
  have e : srtT D.int xs = xs.mergeSort fun a b => decide (a ≤ b) := by
    unfold srtT
    congr 1
    funext a b
    exact zadm a b
  rw [e]
  have := List.pairwise_mergeSort (le := fun a b : Int => decide (a ≤ b)) (fun a b c h1 h2 => by
    simp only [decide_eq_true_eq] at *; omega) (fun a b => by simp only [Bool.or_eq_true, decide_eq_true_eq]; omega) xs
  exact this.imp fun h => of_decide_eq_true h
theorem zzl {xs : List Int} {y : Int} : y ∈ srtT D.int xs ↔ y ∈ xs := (zdj .int xs).mem_iff
theorem zyh {xs : List Int} : (srtT D.int xs).Nodup ↔ xs.Nodup := (zdj .int xs).nodup_iff
theorem zacc {xs : List Int} (h : xs.Nodup) : (srtT D.int xs).Pairwise (· < ·) := by
  have h1 := z3j xs
  have h2 := zyh.mpr h
  refine (h1.and h2).imp fun {a b} h => ?_
  have := h.1
  have := h.2
  omega
def zae6 : Nat → Int → List Int
  | 0, _ => []
  | n + 1, s => s :: zae6 n (s + 1)
theorem zy7 : ∀ (n : Nat) (s : Int) (lot : List Int), lot.Pairwise (· < ·) → (∀ x ∈ lot, s ≤ x ∧ x < s + n) → lot.Sublist (zae6 n s)
  | 0, s, lot, _, h => by
    cases lot with
    | nil => exact .slnil
    | cons x l => have := h x (by simp); omega
  | n + 1, s, lot, pw, h => by
    cases lot with
    | nil => exact List.nil_sublist _
    | cons x l =>
      rw [List.pairwise_cons] at pw
      have hx := h x (by simp)
      by_cases e : x = s
      · subst e
        refine .cons₂ _ (zy7 n _ l pw.2 fun y hy => ?_)
        have h1 := pw.1 y hy
        have h2 := h y (by simp [hy])
        omega
      · refine .cons _ (zy7 n _ (x :: l) (List.pairwise_cons.mpr pw) fun y hy => ?_)
        rcases List.mem_cons.mp hy with rfl | hy
        · omega
        · have h1 := pw.1 y hy
          have h2 := h y (by simp [hy])
          omega
/-- a lot of places that points have for their own, each point one at most -/
inductive Lot (near : α → Int → Prop) : List α → List Int → Prop
  | nil : Lot near [] []
  | skip {pts : List α} {p : α} {lot : List Int} : Lot near pts lot → Lot near (pts ++ [p]) lot
  | take {pts : List α} {p : α} {lot : List Int} {a : Int} : Lot near pts lot → near p a → a ∉ lot → Lot near (pts ++ [p]) (srtT D.int (lot ++ [a]))
theorem Lot.nd {near : α → Int → Prop} {pts : List α} {lot : List Int} (h : Lot near pts lot) : lot.Nodup := by
  induction h with
  | nil => exact List.nodup_nil
  | skip _ ih => exact ih
  | take _ _ hn ih => exact zyh.mpr (nd_snoc ih hn)
theorem Lot.lt {near : α → Int → Prop} {pts : List α} {lot : List Int} (h : Lot near pts lot) : lot.Pairwise (· < ·) := by
  induction h with
  | nil => exact .nil
  | skip _ ih => exact ih
  | take h _ hn ih => exact zacc (nd_snoc h.nd hn)
theorem Lot.inn {near : α → Int → Prop} {n : Nat} (hn : ∀ p a, near p a → 0 ≤ a ∧ a < n) {pts : List α} {lot : List Int} (h : Lot near pts lot) : ∀ a ∈ lot, 0 ≤ a ∧ a < n := by
  induction h with
  | nil => intro a h; cases h
  | skip _ ih => exact ih
  | take _ hr _ ih =>
    intro a ha
    rcases List.mem_append.mp (zzl.mp ha) with ha | ha
    · exact ih a ha
    · rw [List.mem_singleton] at ha; rw [ha]; exact hn _ _ hr
theorem Lot.len {near : α → Int → Prop} {pts : List α} {lot : List Int} (h : Lot near pts lot) : lot.length ≤ pts.length := by
  induction h with
  | nil => exact Nat.le_refl _
  | skip _ ih => rw [List.length_append]; omega
  | take _ _ _ ih =>
    rw [(zdj .int _).length_eq, List.length_append, List.length_append, List.length_singleton, List.length_singleton]
    omega
theorem Lot.sub6 {near : α → Int → Prop} {n : Nat} (h6 : n ≤ 6) (hn : ∀ p a, near p a → 0 ≤ a ∧ a < n) {pts : List α} {lot : List Int} (h : Lot near pts lot) : lot.Sublist [0, 1, 2, 3, 4, 5] :=
  zy7 6 0 lot h.lt fun x hx => by have := h.inn hn x hx; omega
/-- a lot is the places of a matching of points with places -/
theorem Lot.match_ {near : α → Int → Prop} {pts : List α} {lot : List Int} (h : Lot near pts lot) : ∃ P : List (Int × Nat), (P.map (·.1)).Nodup ∧ (P.map (·.2)).Nodup ∧ (∀ x ∈ P, ∃ p, pts[x.2]? = some p ∧ near p x.1) ∧ ∀ a, a ∈ P.map (·.1) ↔ a ∈ lot := by
  induction h with
  | nil => exact ⟨[], List.nodup_nil, List.nodup_nil, fun x h => (by cases h), by simp⟩
  | @skip pts p lot _ ih =>
    obtain ⟨P, h1, h2, h3, h4⟩ := ih
    refine ⟨P, h1, h2, fun x hx => ?_, h4⟩
    obtain ⟨q, e, n⟩ := h3 x hx
    exact ⟨q, by rw [List.getElem?_append_left (List.getElem?_eq_some_iff.mp e).1]; exact e, n⟩
  | @take pts p lot a _ hr hn ih =>
    obtain ⟨P, h1, h2, h3, h4⟩ := ih
    refine ⟨P ++ [(a, pts.length)], ?_, ?_, fun x hx => ?_, fun b => ?_⟩
    · rw [List.map_append]
      exact nd_snoc h1 fun z => hn ((h4 a).mp z)
    · rw [List.map_append]
      refine nd_snoc h2 fun z => ?_
      obtain ⟨x, hx, e⟩ := List.mem_map.mp z
      obtain ⟨q, e2, _⟩ := h3 x hx
      have := (List.getElem?_eq_some_iff.mp e2).1
      have e' : x.2 = pts.length := e
      omega
    · rcases List.mem_append.mp hx with hx | hx
      · obtain ⟨q, e, n⟩ := h3 x hx
        exact ⟨q, by rw [List.getElem?_append_left (List.getElem?_eq_some_iff.mp e).1]; exact e, n⟩
      · rw [List.mem_singleton] at hx
        subst hx
        exact ⟨p, by simp, hr⟩
    · rw [List.map_append, List.mem_append, h4, zzl, List.mem_append]
      simp
/-- .. and each matching's places are a lot -/
theorem zabc {near : α → Int → Prop} : ∀ {pts : List α} {P : List (Int × Nat)}, (P.map (·.1)).Nodup → (P.map (·.2)).Nodup → (∀ x ∈ P, ∃ p, pts[x.2]? = some p ∧ near p x.1) → ∃ lot, Lot near pts lot ∧ ∀ a, a ∈ lot ↔ a ∈ P.map (·.1) := by
  intro pts
  induction pts using zph with
  | h0 =>
    intro P h1 h2 h3
    cases P with
    | nil => exact ⟨[], .nil, by simp⟩
    | cons x P => obtain ⟨p, e, _⟩ := h3 x (by simp); simp at e
  | h1 pts p ih =>
    intro P h1 h2 h3
    have old : ∀ x ∈ P, x.2 ≠ pts.length → ∃ q, pts[x.2]? = some q ∧ near q x.1 := fun x hx hne => by
      obtain ⟨q, e, n⟩ := h3 x hx
      have hl := (List.getElem?_eq_some_iff.mp e).1
      rw [List.length_append, List.length_singleton] at hl
      exact ⟨q, by rw [List.getElem?_append_left (by omega)] at e; exact e, n⟩
    by_cases hp : pts.length ∈ P.map (·.2)
    · obtain ⟨x, hx, ex⟩ := List.mem_map.mp hp
      obtain ⟨lot, hl, hm⟩ := ih (P := P.filter fun y => decide (y.2 ≠ pts.length)) (h1.sublist (List.filter_sublist.map _)) (h2.sublist (List.filter_sublist.map _)) fun y hy => by
        rw [List.mem_filter, decide_eq_true_eq] at hy
        exact old y hy.1 hy.2
      obtain ⟨q, e, n⟩ := h3 x hx
      rw [ex, List.getElem?_append_right (Nat.le_refl _), Nat.sub_self] at e
      cases e
      have hn : x.1 ∉ lot := fun z => by
        obtain ⟨y, hy, ey⟩ := List.mem_map.mp ((hm x.1).mp z)
        rw [List.mem_filter, decide_eq_true_eq] at hy
        have := zir (·.1) h1 y hy.1 x hx ey
        rw [this] at hy
        exact hy.2 ex
      refine ⟨_, .take hl n hn, fun a => ?_⟩
      rw [zzl, List.mem_append, hm, List.mem_singleton]
      constructor
      · rintro (h | rfl)
        · obtain ⟨y, hy, ey⟩ := List.mem_map.mp h
          exact List.mem_map.mpr ⟨y, (List.mem_filter.mp hy).1, ey⟩
        · exact List.mem_map.mpr ⟨x, hx, rfl⟩
      · intro h
        obtain ⟨y, hy, ey⟩ := List.mem_map.mp h
        by_cases e2 : y.2 = pts.length
        · have := zir (·.2) h2 y hy x hx (e2.trans ex.symm)
          exact .inr (by rw [← ey, this])
        · exact .inl (List.mem_map.mpr ⟨y, List.mem_filter.mpr ⟨hy, decide_eq_true e2⟩, ey⟩)
    · obtain ⟨lot, hl, hm⟩ := ih h1 h2 fun x hx => old x hx fun e => hp (List.mem_map.mpr ⟨x, hx, e⟩)
      exact ⟨lot, .skip hl, hm⟩
end
end M
namespace M
open PySem PySem.Spec PyProof.Rows L2 DL
variable [CA]
def zqp (pl : List Pt) (er : Int) (p : Pt) (a : Int) : Prop := ∃ (i : Nat) (q : Pt), a = i ∧ pl[i]? = some q ∧ zno p q er
theorem zzw {pl : List Pt} {er : Int} : ∀ p a, zqp pl er p a → 0 ≤ a ∧ a < pl.length := fun p a ⟨i, q, e, h, _⟩ => by
  have := (List.getElem?_eq_some_iff.mp h).1
  omega
theorem z9n {α : Type} {near : α → Int → Prop} {pts : List α} {p : α} {lot : List Int} : Lot near (pts ++ [p]) lot ↔ Lot near pts lot ∨ ∃ a lot0, Lot near pts lot0 ∧ near p a ∧ a ∉ lot0 ∧ lot = srtT D.int (lot0 ++ [a]) := by
  constructor
  · intro h
    generalize e : pts ++ [p] = ys at h
    cases h with
    | nil => simp at e
    | skip h =>
      obtain ⟨e1, e2⟩ := List.append_inj' e rfl
      subst e1
      exact .inl h
    | take h n hn =>
      obtain ⟨e1, e2⟩ := List.append_inj' e rfl
      subst e1
      cases e2
      exact .inr ⟨_, _, h, n, hn, rfl⟩
  · rintro (h | ⟨a, l0, h, n, hn, rfl⟩)
    · exact .skip h
    · exact .take h n hn
/-- the keys so far -/
structure Shs (S : List Int → Prop) (kvs : List (List Int × Bool)) : Prop where
  nd : (kvs.map (·.1)).Nodup
  mem : ∀ lot, lot ∈ kvs.map (·.1) ↔ S lot
  sub : ∀ lot, S lot → lot.Sublist [0, 1, 2, 3, 4, 5]
theorem Shs.len {S : List Int → Prop} {kvs : List (List Int × Bool)} (h : Shs S kvs) : kvs.length ≤ 64 := by
  have := zjk (xs := z04 [0, 1, 2, 3, 4, 5]) h.nd fun y hy => zou (h.sub y ((h.mem y).mp hy))
  rw [List.length_map] at this
  exact this
theorem Shs.put {S : List Int → Prop} {kvs : List (List Int × Bool)} (h : Shs S kvs) {lot : List Int} (hs : lot.Sublist [0, 1, 2, 3, 4, 5]) : Shs (fun l => S l ∨ l = lot) (aput kvs lot true) :=
  ⟨zfq _ _ _ h.nd, fun l => by rw [z4k, h.mem], fun l hl => hl.elim (h.sub l) fun e => by rw [e]; exact hs⟩
theorem Shs.iff {S S' : List Int → Prop} {kvs : List (List Int × Bool)} (h : Shs S kvs) (e : ∀ l, S' l ↔ S l) : Shs S' kvs :=
  ⟨h.nd, fun l => by rw [h.mem, e], fun l hl => h.sub l ((e l).mp hl)⟩
theorem z87 {kvs : List (List Int × Bool)} {S : List Int → Prop} (h : Shs S kvs) {x : D} {G : DHp} {Q : DVK} (hx : dicN x G = some (enc kL D.bl kvs)) (q : ∀ p, G p = none → Q (.ref p) (up G p (.dN (enc kL D.bl kvs)))) : z9g [x] G Q := by
  show (match dicN x G with | some kvs => _ | none => False)
  rw [hx]
  refine ⟨fun p hp => ?_, fun w => ?_, q⟩
  · obtain ⟨y, _, rfl⟩ := List.mem_map.mp hp
    exact ⟨_, rfl⟩
  · have := z52 h.nd (fun s hs => h.sub s ((h.mem s).mp hs)) w
    unfold enc
    rw [List.map_map] at this ⊢
    exact this
theorem zoo {xs ys : List D} {G : DHp} {Q : DVK} (hl : xs.length + ys.length ≤ sizeLine) (q : Q (.nd .tup (xs ++ ys)) G) : dAdd (.nd .tup xs) (.nd .tup ys) G Q := ⟨hl, q⟩
def zfm : DRn := fun ds G Q => ∃ (pts pl : List Pt) (er : Int), ds = [eT e3 pts, eL e3 pl, .int er] ∧ pl.length ≤ 6 ∧ ∀ lots : List (List Int), (∀ lot, lot ∈ lots ↔ Lot (zqp pl er) pts lot) → Q (eL (eT .int) lots) G
abbrev zin : List Str := ["points", "places", "error", "found", "point", "late", "at", "place", "lot", "one"]
def znn : DTS :=
    (dSeq (dAsg (dFz (z8s (dTup dNil) (dC (.bl true)))) (zk 3))
    (dSeq (dFor (zb5 (zd 0)) (zk 4)
    (dSeq (dAsg (dCB z9g (ze (zd 3) dNil)) (zk 5))
    (dSeq (dFor (zjg (ze (zd 1) dNil)) (zgd (zam (zk 6) (zam (zk 7) zgc)) 2)
    (dIfS (dAnd (zau (dOp dLe (dCB dAbs (ze (dOp dSub (dOp dIx (zd 4) (dC (.int 0))) (dOp dIx (zd 7) (dC (.int 0)))) dNil)) (zd 2))) (dAnd (zau (dOp dLe (dCB dAbs (ze (dOp dSub (dOp dIx (zd 4) (dC (.int 1))) (dOp dIx (zd 7) (dC (.int 1)))) dNil)) (zd 2))) (zau (dOp dEq (dOp dIx (zd 4) (dC (.int 2))) (dOp dIx (zd 7) (dC (.int 2)))))))
    (dFor (zb5 (dFz (dLc (z82 (zd 3)) (zk 9) (zau (dOp (dIn true) (zd 6) (zd 9))) (zd 9) [9]))) (zk 8)
    (dAsg (dC (.bl true)) (zok (zd 5) (dCB zmr (ze (dFz (dCB zsm (ze (dOp dAdd (zd 8) (dTup (ze (zd 6) dNil))) dNil))) dNil)) dSet)))
    zdh))
    (dFrz 5 (dAsg (zd 5) (zk 3))))))
    (dRet (dFz (dCB z8h (ze (zd 3) dNil))))))
theorem zxa : ∀ ds G Q, zfm ds G Q → ds.length = 3 := fun ds G Q ⟨c, x, y, e, _⟩ => by rw [e]; rfl
/-- the lots behind some places of a point -/
def behind (pl : List Pt) (er : Int) (pts : List Pt) (p : Pt) (j : Nat) (lot : List Int) : Prop := Lot (zqp pl er) pts lot ∨ ∃ a lot0, a < (j : Int) ∧ Lot (zqp pl er) pts lot0 ∧ zqp pl er p a ∧ a ∉ lot0 ∧ lot = srtT D.int (lot0 ++ [a])
theorem zaa0 (f : Bool → D) (kvs : List (List Int × Bool)) : dicP (eD kL f kvs) = some (kvs.map fun p => (eT .int p.1, f p.2)) := by
  unfold eD dicP enc
  simp only [List.map_map, Option.some.injEq]
  induction kvs with
  | nil => rfl
  | cons x l ih =>
    simp only [List.map_cons, List.zip_cons_cons, Function.comp]
    rw [z7i]
    exact congrArg _ ih
theorem z6t {xs : List Int} {G : DHp} {Q : DVK} (q : ∀ p, G p = none → Q (.ref p) (up G p (.lst ((srtT .int xs).map .int)))) : zsm [eT .int xs] G Q := by
  refine ⟨⟨?_, ?_, ?_, fun d hd => ?_⟩, fun p hp => by rw [zti]; exact q p hp⟩
  · exact cleans_plain (zc1 zsy xs)
  · rw [List.map_map]; exact PySem.W.AllAlike.of fun a b => by simp [py, PySem.W.alike]
  · rw [List.map_map]; exact PySem.W.Sortable.others fun b => ⟨by simp [py], by simp [py]⟩
  · obtain ⟨a, _, rfl⟩ := List.mem_map.mp hd; rw [zfc]; decide
theorem z9k (f : Bool → D) (kvs : List (List Int × Bool)) (G : DHp) : zwi (eD kL f kvs) G = some ((kvs.map (·.1)).map (eT .int)) := by
  unfold zwi
  rw [z0h]
  show some _ = some _
  unfold enc
  simp only [List.map_map]
  congr 1
  refine List.map_congr_left fun p _ => ?_
  simp only [Function.comp]
  exact z7i p.1
theorem zacw {α : Type} {near : α → Int → Prop} {lot : List Int} : Lot near [] lot ↔ lot = [] := by
  constructor
  · intro h
    generalize e : ([] : List α) = ys at h
    cases h with
    | nil => rfl
    | skip h => simp at e
    | take h => simp at e
  · rintro rfl; exact .nil
theorem zvh : ∀ ds G Q, zfm ds G Q → znn { nx := fun _ G' => Q .non G', rt := Q } (za4 zin ds) G := fun ds G Q h => by
  obtain ⟨pts, pl, er, rfl, h6, q⟩ := h
  have sub : ∀ {ps : List Pt} {lot : List Int}, Lot (zqp pl er) ps lot → lot.Sublist [0, 1, 2, 3, 4, 5] := fun h => h.sub6 h6 zzw
  have line : 1000000 ≤ sizeLine := by rw [sizeLine_eq]; decide
  simp_arith only [znn, zin, z8s]
  intro p hp
  refine ⟨zi, kL [], rfl, ⟨[], rfl⟩, by decide, ?_⟩
  rw [zft]
  simp_arith only [zi, zbv hp]
  rw [show (DO.dN [(kL [], D.bl true)]).tree = eD kL D.bl [([], true)] from rfl]
  simp_arith only [dFor, zb5, eT]
  refine ⟨fun n η G' => ∃ kvs o4 o5 o6 o7 o8 o9, η = [some (eT e3 pts), some (eL e3 pl), some (.int er), some (eD kL .bl kvs), o4, o5, o6, o7, o8, o9] ∧ G' = G ∧ Shs (Lot (zqp pl er) (pts.take n)) kvs,
    ⟨[([], true)], none, none, none, none, none, none, rfl, rfl, ⟨by simp, fun l => by rw [List.take_zero, zacw]; simp, fun l h => sub h⟩⟩, fun _ _ _ _ => trivial, ?_, ?_⟩
  · rintro n d η G' hd ⟨kvs, o4, o5, o6, o7, o8, o9, rfl, rfl, sh⟩
    obtain ⟨pt, hpt, rfl⟩ := zbz hd
    simp_arith only [true_and]
    refine z87 sh (z0h kL D.bl kvs _) fun r hr => ?_
    simp_arith only [dFor, zjg, eL]
    refine ⟨fun j η G2 => ∃ kv2 o6 o7 o8 o9, η = [some (eT e3 pts), some (eL e3 pl), some (.int er), some (eD kL .bl kvs), some (e3 pt), some (.ref r), o6, o7, o8, o9] ∧ G2 = up G' r (.dN (enc kL .bl kv2)) ∧ Shs (behind pl er (pts.take n) pt j) kv2,
      ⟨kvs, o6, o7, o8, o9, rfl, rfl, sh.iff fun l => ⟨fun h => h.elim id fun ⟨a, l0, h1, h2, h3, _⟩ => by have := zzw _ _ h3; omega, .inl⟩⟩, fun _ _ _ _ => trivial, ?_, ?_⟩
    · rintro j d η G2 hd ⟨kv2, o6, o7, o8, o9, rfl, rfl, sh2⟩
      obtain ⟨z, hz, rfl⟩ := zhw hd
      obtain ⟨pq, hpq, rfl⟩ := zbz hz
      have step : ¬ zno pt pq er → Shs (behind pl er (pts.take n) pt (j + 1)) kv2 := fun hn => sh2.iff fun l => or_congr Iff.rfl
        ⟨fun ⟨a, l0, h1, h2, h3, h4⟩ => ⟨a, l0, by
          rcases h3 with ⟨i, q', e1, e2, e3'⟩
          by_cases hi : i = j
          · subst hi; rw [hpq] at e2; cases e2; exact absurd e3' hn
          · omega, h2, h3, h4⟩, fun ⟨a, l0, h1, h2, h3, h4⟩ => ⟨a, l0, by omega, h2, h3, h4⟩⟩
      simp_arith only [true_and]
      refine z8l (z8l ?_)
      simp_arith only [zw1]
      by_cases c1 : ab (pt.1 - pq.1) ≤ er
      · rw [if_pos c1]
        refine z88 (z88 ?_)
        simp_arith only [zw1]
        by_cases c2 : ab (pt.2.1 - pq.2.1) ≤ er
        · rw [if_pos c2]
          refine z9m (z9m ?_)
          simp_arith only [true_and]
          by_cases c3 : pt.2.2 = pq.2.2
          · rw [if_pos c3]
            have near : zno pt pq er := ⟨c3, c1, c2⟩
            refine z2o (xs := kvs.map (·.1)) (f := eT .int) (fun l => decide ((j : Int) ∉ l)) (eT .int) (by rw [List.length_map]; have := sh.len; omega) (fun R rr => ?_) (fun l hl G1 A B ka kb => ?_) fun w hw => ?_
            · simp_arith only [z82]
              rw [zaa0]
              dsimp only
              rw [List.map_map] at rr ⊢
              exact rr
            · simp_arith only [true_and]
              refine z4q (ds := l.map .int) (.inr rfl) rfl (zc1 zsy l) (by rw [zfc]; decide) (decide ((j : Int) ∈ l)) (by
                rw [decide_eq_true_eq, List.mem_map]
                exact ⟨fun h => ⟨_, h, rfl⟩, fun ⟨x, hx, e⟩ => by cases e; exact hx⟩) ?_
              by_cases hj : (j : Int) ∈ l
              · rw [decide_eq_true hj]
                simp_arith only [true_and]
                exact kb (decide_eq_false fun z => z hj)
              · rw [decide_eq_false hj]
                simp_arith only [true_and]
                exact ka (decide_eq_true hj)
            · simp_arith only [zi, zbv hw]
              generalize hLd : (kvs.map (·.1)).filter (fun l => decide ((j : Int) ∉ l)) = L
              have hLm : ∀ l, l ∈ L ↔ Lot (zqp pl er) (pts.take n) l ∧ (j : Int) ∉ l := fun l => by
                rw [← hLd, List.mem_filter, decide_eq_true_eq, sh.mem]
              refine ⟨fun k η G3 => ∃ kv3 o8 o9, η = [some (eT e3 pts), some (eL e3 pl), some (.int er), some (eD kL .bl kvs), some (e3 pt), some (.ref r), some (.int (j : Int)), some (e3 pq), o8, o9] ∧ G3 = up G' r (.dN (enc kL .bl kv3)) ∧ Shs (fun l => behind pl er (pts.take n) pt j l ∨ ∃ l0 ∈ L.take k, l = srtT D.int (l0 ++ [(j : Int)])) kv3,
                ⟨kv2, o8, o9, rfl, rfl, sh2.iff fun l => ⟨fun h => h.elim id fun ⟨l0, h, _⟩ => by simp at h, .inl⟩⟩, fun _ _ _ _ => trivial, ?_, ?_⟩
              · rintro k d η G3 hd ⟨kv3, o8, o9, rfl, rfl, sh3⟩
                obtain ⟨l0, hl0, rfl⟩ := zbz hd
                obtain ⟨m1, m2⟩ := (hLm l0).mp (List.mem_of_getElem? hl0)
                have hl3 := sh3.len
                have hln := m1.nd
                have hlen : l0.length ≤ 6 := by
                  have := (sub m1).length_le
                  simpa using this
                have hsub : (srtT D.int (l0 ++ [(j : Int)])).Sublist [0, 1, 2, 3, 4, 5] := sub (.take m1 ⟨j, pq, rfl, hpq, near⟩ m2)
                simp_arith only [eT]
                refine zoo (by rw [List.length_map, List.length_singleton]; omega) ?_
                rw [show D.nd Kd.tup (l0.map D.int ++ [D.int (j : Int)]) = eT .int (l0 ++ [(j : Int)]) by unfold eT; rw [List.map_append]; rfl]
                refine z6t fun w2 hw2 => ?_
                simp_arith only [zi, zbv hw2]
                rw [zmj (ds := (srtT D.int (l0 ++ [(j : Int)])).map .int) rfl]
                refine z3x tkL (a := srtT D.int (l0 ++ [(j : Int)])) (b := true) (f := D.bl) zi (zas (by omega)) ?_
                rw [zft]
                refine ⟨_, (by repeat (first | exact Le.nil | apply Le.keep | apply Le.drop)), _, _, _, rfl, rfl, (sh3.put hsub).iff fun l => ?_⟩
                rw [zdz hl0]
                constructor
                · rintro (h | ⟨l1, h, e⟩)
                  · exact .inl (.inl h)
                  · rcases List.mem_append.mp h with h | h
                    · exact .inl (.inr ⟨l1, h, e⟩)
                    · rw [List.mem_singleton] at h; subst h; exact .inr e
                · rintro ((h | ⟨l1, h, e⟩) | e)
                  · exact .inl h
                  · exact .inr ⟨l1, List.mem_append.mpr (.inl h), e⟩
                  · exact .inr ⟨l0, by simp, e⟩
              · rintro η G3 ⟨kv3, o8, o9, rfl, rfl, sh3⟩
                rw [List.length_map, List.take_length] at sh3
                refine ⟨_, (by repeat (first | exact Le.nil | apply Le.keep | apply Le.drop)), kv3, _, _, _, _, rfl, rfl, sh3.iff fun l => ?_⟩
                constructor
                · rintro (h | ⟨a, l0, h1, h2, h3, h4, e⟩)
                  · exact .inl (.inl h)
                  · by_cases ha : a = (j : Int)
                    · subst ha; exact .inr ⟨l0, (hLm l0).mpr ⟨h2, h4⟩, e⟩
                    · exact .inl (.inr ⟨a, l0, by omega, h2, h3, h4, e⟩)
                · rintro ((h | ⟨a, l0, h1, h2, h3, h4, e⟩) | ⟨l0, h, e⟩)
                  · exact .inl h
                  · exact .inr ⟨a, l0, by omega, h2, h3, h4, e⟩
                  · obtain ⟨m1, m2⟩ := (hLm l0).mp h
                    exact .inr ⟨(j : Int), l0, by omega, m1, ⟨j, pq, rfl, hpq, near⟩, m2, e⟩
          · rw [if_neg c3]
            exact ⟨_, (by repeat (first | exact Le.nil | apply Le.keep | apply Le.drop)), kv2, _, _, _, _, rfl, rfl, step fun z => c3 z.1⟩
        · rw [if_neg c2]
          exact ⟨_, (by repeat (first | exact Le.nil | apply Le.keep | apply Le.drop)), kv2, _, _, _, _, rfl, rfl, step fun z => c2 z.2.2⟩
      · rw [if_neg c1]
        exact ⟨_, (by repeat (first | exact Le.nil | apply Le.keep | apply Le.drop)), kv2, _, _, _, _, rfl, rfl, step fun z => c1 z.2.1⟩
    · rintro η G2 ⟨kv2, o6, o7, o8, o9, rfl, rfl, sh2⟩
      rw [zjw, List.length_map] at sh2
      simp_arith only [zi, zbv hr, zadc]
      refine ⟨_, (by repeat (first | exact Le.nil | apply Le.keep | apply Le.drop)), kv2, _, _, _, _, _, _, rfl, rfl, sh2.iff fun l => ?_⟩
      rw [zdz hpt, z9n]
      refine or_congr Iff.rfl ⟨fun ⟨a, l0, h1, h2, h3, e⟩ => ⟨a, l0, (zzw _ _ h2).2, h1, h2, h3, e⟩, fun ⟨a, l0, _, h1, h2, h3, e⟩ => ⟨a, l0, h1, h2, h3, e⟩⟩
  · rintro η G' ⟨kvs, o4, o5, o6, o7, o8, o9, rfl, rfl, sh⟩
    rw [List.length_map, List.take_length] at sh
    simp_arith only [true_and]
    refine z6v (z9k D.bl kvs _) fun w hw => ?_
    simp_arith only [zi, zbv hw]
    exact q (kvs.map (·.1)) sh.mem
end M
namespace M
open PySem PySem.Spec PyProof.Rows L2 DL
variable [CA]
theorem zab5 {s : Sk} {pic : List Pt} {st : Pt} {m : Int} (h0 : 0 ≤ m) (h1 : m < pic.length) {a : Int} : a ∈ nxt (nxL s pic st) m ↔ ∃ p, pic[m.toNat]? = some p ∧ zqp (zbw s st) s.cam.er p a := by
  have hl : m.toNat < pic.length := by omega
  unfold nxt nxL
  rw [List.getElem?_map, List.getElem?_eq_getElem hl]
  show a ∈ zx9 _ _ _ ↔ _
  unfold zx9
  rw [zw8]
  constructor
  · rintro ⟨i, x, e, hx, hn⟩
    exact ⟨_, rfl, i, x, e, hx, of_decide_eq_true hn⟩
  · rintro ⟨p, e, i, x, e2, hx, hn⟩
    cases e
    exact ⟨i, x, e2, hx, decide_eq_true hn⟩
theorem zly {α β : Type} (f : α → β) {l : List α} (h : (l.map f).Nodup) : l.Nodup := by
  induction l with
  | nil => exact List.nodup_nil
  | cons x l ih =>
    rw [List.map_cons, List.nodup_cons] at h
    exact List.nodup_cons.mpr ⟨fun m => h.1 (List.mem_map.mpr ⟨x, m, rfl⟩), ih h.2⟩
theorem Mt.bij {N : List (List Int)} {P : List (Int × Int)} (m : Mt N P) : Bij P := ⟨m.nd, zaa7 m.nd m.inj⟩
theorem Bij.sw {P : List (Int × Int)} (h : Bij P) : Bij (sw P) := ⟨by rw [zzd]; exact h.nd2, by unfold M.sw; rw [List.map_map]; exact h.nd⟩
/-- the lost ones of a lot -/
def z2x (s : Sk) (st : Pt) (lot : List Int) : List Int := (zee s st).filter fun a => decide (a ∉ lot)
def z58 (s : Sk) (pic : List Pt) (st : Pt) (lot : List Int) : Prop := (pic.length : Int) - lot.length ≤ s.cam.fa ∧ ((z2x s st lot).length : Int) ≤ s.cam.lo
theorem zqu (s : Sk) (st : Pt) : (zee s st).Nodup := by rw [zop]; exact z70 _ _
theorem z8x {s : Sk} {pic : List Pt} {st : Pt} (h : FitP s pic st) : ∃ lot, Lot (zqp (zbw s st) s.cam.er) pic lot ∧ z58 s pic st lot := by
  obtain ⟨⟨PA, mA, lA⟩, PB, mB, lB⟩ := h
  have b1 : Bij (sw PA) := mA.bij.sw
  have okB : ∀ x ∈ PB, (0 ≤ x.2 ∧ x.2 < (zee s st).length) ∧ x.1 ∈ nxt (bkS s pic st) x.2 := fun x hx => by
    have := mB.ok x.1 x.2 (zkk mB.nd hx)
    unfold InR at this
    rw [z3o] at this
    exact this
  let g : Int × Int → Int := fun x => ((zee s st)[x.2.toNat]?).getD 0
  have hg : ∀ x ∈ PB, (zee s st)[x.2.toNat]? = some (g x) := fun x hx => by
    have := (okB x hx).1
    show _ = some (((zee s st)[x.2.toNat]?).getD 0)
    rw [List.getElem?_eq_getElem (by omega)]
    rfl
  have b2 : Bij (PB.map fun x => (x.1, g x)) := by
    refine ⟨by rw [List.map_map]; exact mB.nd, ?_⟩
    rw [List.map_map]
    refine zym _ (zly _ mB.nd) fun x hx y hy e => ?_
    have e1 := hg x hx
    have e2 := hg y hy
    have e3 : g x = g y := e
    rw [e3] at e1
    have r1 := (okB x hx).1
    have r2 := (okB y hy).1
    have := (List.getElem?_inj (i := x.2.toNat) (j := y.2.toNat) (by omega) (zqu s st)).mp (e1.trans e2.symm)
    have e4 : x.2 = y.2 := by omega
    have := mB.inj x.1 y.1 x.2 (zkk mB.nd hx) (by rw [e4]; exact zkk mB.nd hy)
    exact Prod.ext this e4
  obtain ⟨Fd, T⟩ := zaez b1 b2
  have near : ∀ x ∈ Fd, 0 ≤ x.1 ∧ ∃ p, pic[x.1.toNat]? = some p ∧ zqp (zbw s st) s.cam.er p x.2 := fun x hx => by
    rcases T.src x hx with h | h
    · have := mA.ok x.2 x.1 (zkk mA.nd (z73.mp h))
      obtain ⟨⟨r0, r1⟩, hn⟩ := this
      rw [zyk] at r1
      exact ⟨r0, (zab5 r0 r1).mp hn⟩
    · obtain ⟨y, hy, e⟩ := List.mem_map.mp h
      cases e
      obtain ⟨⟨r0, r1⟩, hn⟩ := okB y hy
      have hgy := hg y hy
      have hs : g y ∈ zee s st := List.mem_of_getElem? hgy
      have hin := z21 hs
      unfold nxt bkS at hn
      rw [List.getElem?_map, hgy] at hn
      have := (zabn hin.1 hin.2).mp (show y.1 ∈ nxt (bkN (nxL s pic st) s.cs.length) (g y) from hn)
      obtain ⟨⟨q0, q1⟩, hn2⟩ := this
      rw [zyk] at q1
      exact ⟨q0, (zab5 q0 q1).mp hn2⟩
  obtain ⟨lot, hl, hm⟩ := zabc (near := zqp (zbw s st) s.cam.er) (pts := pic) (P := Fd.map fun x => (x.2, x.1.toNat)) (by rw [List.map_map]; exact T.bij.nd2) (by
      rw [List.map_map]
      refine zym _ (zly _ T.bij.nd) fun x hx y hy e => ?_
      have e' : x.1.toNat = y.1.toNat := e
      have h1 := (near x hx).1
      have h2 := (near y hy).1
      exact zir (·.1) T.bij.nd x hx y hy (show x.1 = y.1 by omega))
    (fun x hx => by
      obtain ⟨y, hy, e⟩ := List.mem_map.mp hx
      cases e
      exact (near y hy).2)
  rw [List.map_map] at hm
  have hm' : ∀ a, a ∈ lot ↔ a ∈ Fd.map (·.2) := hm
  refine ⟨lot, hl, ?_, ?_⟩
  · have h1 : Fd.length ≤ lot.length := by
      have := zjk (xs := lot) T.bij.nd2 fun y hy => (hm' y).mpr hy
      rwa [List.length_map] at this
    have h2 : PA.length ≤ Fd.length := by
      have := zjk (xs := Fd.map (·.1)) b1.nd fun y hy => by
        obtain ⟨x, hx, rfl⟩ := List.mem_map.mp hy
        obtain ⟨t, ht⟩ := T.dom x hx
        exact List.mem_map.mpr ⟨_, ht, rfl⟩
      rw [List.length_map, List.length_map] at this
      unfold M.sw at this
      rwa [List.length_map] at this
    omega
  · have h1 : ∀ x ∈ PB, g x ∈ lot := fun x hx => by
      obtain ⟨f, hf⟩ := T.img _ (List.mem_map.mpr ⟨x, hx, rfl⟩)
      exact (hm' _).mpr (List.mem_map.mpr ⟨_, hf, rfl⟩)
    have h2 : PB.length ≤ ((zee s st).filter fun a => decide (a ∈ lot)).length := by
      have := zjk (xs := (zee s st).filter fun a => decide (a ∈ lot)) b2.nd2 fun y hy => by
        rw [List.map_map] at hy
        obtain ⟨x, hx, rfl⟩ := List.mem_map.mp hy
        exact List.mem_filter.mpr ⟨List.mem_of_getElem? (hg x hx), decide_eq_true (h1 x hx)⟩
      rw [List.length_map, List.length_map] at this
      exact this
    have h3 : ∀ l : List Int, (l.filter fun a => decide (a ∈ lot)).length + (l.filter fun a => decide (a ∉ lot)).length = l.length := fun l => by
      induction l with
      | nil => rfl
      | cons a l ih =>
        by_cases ha : a ∈ lot
        · rw [List.filter_cons_of_pos (by simpa using ha), List.filter_cons_of_neg (by simpa using ha), List.length_cons, List.length_cons]; omega
        · rw [List.filter_cons_of_neg (by simpa using ha), List.filter_cons_of_pos (by simpa using ha), List.length_cons, List.length_cons]; omega
    have := h3 (zee s st)
    unfold z2x
    omega
theorem zacy {lot : List Int} (l : List Int) : (l.filter fun a => decide (a ∈ lot)).length + (l.filter fun a => decide (a ∉ lot)).length = l.length := by
  induction l with
  | nil => rfl
  | cons a l ih =>
    by_cases ha : a ∈ lot
    · rw [List.filter_cons_of_pos (by simpa using ha), List.filter_cons_of_neg (by simpa using ha), List.length_cons, List.length_cons]; omega
    · rw [List.filter_cons_of_neg (by simpa using ha), List.filter_cons_of_pos (by simpa using ha), List.length_cons, List.length_cons]; omega
theorem z7v {s : Sk} {pic : List Pt} {st : Pt} {lot : List Int} (hl : Lot (zqp (zbw s st) s.cam.er) pic lot) (g : z58 s pic st lot) : FitP s pic st := by
  obtain ⟨P, h1, h2, h3, h4⟩ := hl.match_
  have len : lot.length ≤ P.length := by
    have := zjk (xs := P.map (·.1)) hl.nd fun y hy => (h4 y).mpr hy
    rwa [List.length_map] at this
  have nx : ∀ x ∈ P, (0 ≤ (x.2 : Int) ∧ (x.2 : Int) < pic.length) ∧ x.1 ∈ nxt (nxL s pic st) (x.2 : Int) := fun x hx => by
    obtain ⟨p, e, n⟩ := h3 x hx
    have hlt := (List.getElem?_eq_some_iff.mp e).1
    exact ⟨⟨by omega, by omega⟩, (zab5 (by omega) (by omega)).mpr ⟨p, by rw [Int.toNat_natCast]; exact e, n⟩⟩
  refine ⟨⟨P.map fun x => (x.1, (x.2 : Int)), ⟨by rw [List.map_map]; exact h1, fun a b m ha hb => ?_, fun a m ha => ?_⟩, ?_⟩, ?_⟩
  · obtain ⟨x, hx, ex⟩ := List.mem_map.mp (zp0 ha)
    obtain ⟨y, hy, ey⟩ := List.mem_map.mp (zp0 hb)
    cases ex
    have e1 : y.1 = b := congrArg Prod.fst ey
    have e2 : (y.2 : Int) = x.2 := congrArg Prod.snd ey
    have := zir (·.2) h2 y hy x hx (by show y.2 = x.2; omega)
    rw [← e1, this]
  · obtain ⟨x, hx, ex⟩ := List.mem_map.mp (zp0 ha)
    cases ex
    obtain ⟨⟨r0, r1⟩, n⟩ := nx x hx
    exact ⟨⟨r0, by rw [zyk]; exact r1⟩, n⟩
  · rw [List.length_map]
    have := g.1
    omega
  · let ix : Int → Nat := fun a => (zee s st).idxOf a
    have hix : ∀ a ∈ zee s st, (zee s st)[ix a]? = some a := fun a ha => by
      have hlt : (zee s st).idxOf a < (zee s st).length := List.idxOf_lt_length_iff.mpr ha
      rw [List.getElem?_eq_getElem hlt, List.getElem_idxOf hlt]
    have hf : ∀ x, x ∈ P.filter (fun x => decide (x.1 ∈ zee s st)) → x ∈ P ∧ x.1 ∈ zee s st := fun x hx => by
      rw [List.mem_filter, decide_eq_true_eq] at hx
      exact hx
    have keysnd : (((P.filter fun x => decide (x.1 ∈ zee s st)).map fun x => ((x.2 : Int), (ix x.1 : Int))).map (·.1)).Nodup := by
      rw [List.map_map]
      have nd := h2.sublist (List.filter_sublist (l := P) (p := fun x => decide (x.1 ∈ zee s st)) |>.map (·.2))
      refine zym _ (zly _ nd) fun x hx y hy e => zir (·.2) h2 x (hf x hx).1 y (hf y hy).1 ?_
      have e' : (x.2 : Int) = (y.2 : Int) := e
      show x.2 = y.2
      omega
    refine ⟨(P.filter fun x => decide (x.1 ∈ zee s st)).map fun x => ((x.2 : Int), (ix x.1 : Int)), ⟨keysnd, fun a b m ha hb => ?_, fun a m ha => ?_⟩, ?_⟩
    · obtain ⟨x, hx, ex⟩ := List.mem_map.mp (zp0 ha)
      obtain ⟨y, hy, ey⟩ := List.mem_map.mp (zp0 hb)
      cases ex
      have e1 : (y.2 : Int) = b := congrArg Prod.fst ey
      have e2 : (ix y.1 : Int) = ix x.1 := congrArg Prod.snd ey
      have i1 := hix x.1 (hf x hx).2
      have i2 := hix y.1 (hf y hy).2
      rw [show ix y.1 = ix x.1 by omega, i1] at i2
      have := zir (·.1) h1 y (hf y hy).1 x (hf x hx).1 (Option.some.inj i2).symm
      rw [← e1, this]
    · obtain ⟨x, hx, ex⟩ := List.mem_map.mp (zp0 ha)
      cases ex
      have i1 := hix x.1 (hf x hx).2
      have hlt := (List.getElem?_eq_some_iff.mp i1).1
      refine ⟨⟨by omega, by rw [z3o]; omega⟩, ?_⟩
      unfold nxt bkS
      rw [List.getElem?_map, Int.toNat_natCast, i1]
      have hin := z21 (hf x hx).2
      show (x.2 : Int) ∈ nxt (bkN (nxL s pic st) s.cs.length) x.1
      obtain ⟨⟨r0, r1⟩, n⟩ := nx x (hf x hx).1
      exact (zabn hin.1 hin.2).mpr ⟨⟨r0, by rw [zyk]; exact r1⟩, n⟩
    · rw [List.length_map]
      have e1 := zacy (lot := lot) (zee s st)
      have e2 : ((zee s st).filter fun a => decide (a ∈ lot)).length ≤ (P.filter fun x => decide (x.1 ∈ zee s st)).length := by
        have := zjk (xs := (P.filter fun x => decide (x.1 ∈ zee s st)).map (·.1)) ((zqu s st).filter fun a => decide (a ∈ lot)) fun y hy => by
          rw [List.mem_filter, decide_eq_true_eq] at hy
          obtain ⟨x, hx, e⟩ := List.mem_map.mp ((h4 y).mpr hy.2)
          exact List.mem_map.mpr ⟨x, List.mem_filter.mpr ⟨hx, decide_eq_true (by rw [e]; exact hy.1)⟩, e⟩
        rwa [List.length_map] at this
      have := g.2
      unfold z2x at this
      omega
theorem z10 {s : Sk} {pic : List Pt} {st : Pt} {lots : List (List Int)} (h : ∀ lot, lot ∈ lots ↔ Lot (zqp (zbw s st) s.cam.er) pic lot) : fitb s pic st = true ↔ ∃ lot ∈ lots, z58 s pic st lot := by
  rw [z0b]
  constructor
  · intro f
    obtain ⟨lot, hl, g⟩ := z8x f
    exact ⟨lot, (h lot).mpr hl, g⟩
  · rintro ⟨lot, hl, g⟩
    exact z7v ((h lot).mp hl) g
end M
namespace M
open PySem PySem.Spec PyProof.Rows L2 DL
variable [CA]
/-- a picture fits by one matching of craters with numbers of points -/
structure FitM (s : Sk) (pic : List Pt) (st : Pt) (P : List (Int × Nat)) : Prop where
  nd : (P.map (·.1)).Nodup
  nd2 : (P.map (·.2)).Nodup
  near : ∀ x ∈ P, ∃ p, pic[x.2]? = some p ∧ zqp (zbw s st) s.cam.er p x.1
  fa : (pic.length : Int) - P.length ≤ s.cam.fa
  lo : (((zee s st).filter fun a => decide (a ∉ P.map (·.1))).length : Int) ≤ s.cam.lo
theorem zad7 {s : Sk} {pic : List Pt} {st : Pt} (h : FitP s pic st) : ∃ P, FitM s pic st P := by
  obtain ⟨lot, hl, g1, g2⟩ := z8x h
  obtain ⟨P, h1, h2, h3, h4⟩ := hl.match_
  refine ⟨P, h1, h2, h3, ?_, ?_⟩
  · have := zjk (xs := P.map (·.1)) hl.nd fun y hy => (h4 y).mpr hy
    rw [List.length_map] at this
    omega
  · unfold z2x at g2
    rw [show (fun a => decide (a ∉ P.map (·.1))) = fun a => decide (a ∉ lot) by funext a; rw [decide_eq_decide]; exact not_congr (h4 a)]
    exact g2
theorem zadz {s : Sk} {pic : List Pt} {st : Pt} {P : List (Int × Nat)} (h : FitM s pic st P) : FitP s pic st := by
  obtain ⟨lot, hl, hm⟩ := zabc h.nd h.nd2 h.near
  refine z7v hl ⟨?_, ?_⟩
  · have := zjk (xs := lot) h.nd fun y hy => (hm y).mpr hy
    rw [List.length_map] at this
    have := h.fa
    omega
  · unfold z2x
    rw [show (fun a => decide (a ∉ lot)) = fun a => decide (a ∉ P.map (·.1)) by funext a; rw [decide_eq_decide]; exact not_congr (hm a)]
    exact h.lo
theorem zadf {α : Type} {l1 l2 : List α} (h : l1.Perm l2) : ∃ σ : Nat → Nat, (∀ i < l1.length, l2[σ i]? = l1[i]?) ∧ ∀ i j, i < l1.length → j < l1.length → σ i = σ j → i = j := by
  induction h with
  | nil => exact ⟨id, fun i h => (by simp at h), fun i j h => (by simp at h)⟩
  | @cons x l1 l2 _ ih =>
    obtain ⟨σ, h1, h2⟩ := ih
    refine ⟨fun i => if i = 0 then 0 else σ (i - 1) + 1, fun i hi => ?_, fun i j hi hj e => ?_⟩
    · cases i with
      | zero => rfl
      | succ i =>
        rw [List.length_cons] at hi
        simp only [Nat.add_one_ne_zero, if_false, Nat.add_sub_cancel, List.getElem?_cons_succ]
        exact h1 i (by omega)
    · rw [List.length_cons] at hi hj
      cases i with
      | zero => cases j with
        | zero => rfl
        | succ j => simp at e
      | succ i => cases j with
        | zero => simp at e
        | succ j =>
          simp only [Nat.add_one_ne_zero, if_false, Nat.add_sub_cancel, Nat.add_right_cancel_iff] at e
          have := h2 i j (by omega) (by omega) e
          omega
  | @swap x y l =>
    refine ⟨fun i => if i = 0 then 1 else if i = 1 then 0 else i, fun i hi => ?_, fun i j hi hj e => ?_⟩
    · match i with
      | 0 => rfl
      | 1 => rfl
      | i + 2 => simp
    · match i, j with
      | 0, 0 => rfl
      | 0, 1 => simp at e
      | 0, j + 2 => simp at e
      | 1, 0 => simp at e
      | 1, 1 => rfl
      | 1, j + 2 => simp at e
      | i + 2, 0 => simp at e
      | i + 2, 1 => simp at e
      | i + 2, j + 2 => simpa using e
  | @trans l1 l2 l3 p q ih1 ih2 =>
    obtain ⟨σ, h1, h2⟩ := ih1
    obtain ⟨τ, g1, g2⟩ := ih2
    have hs : ∀ i < l1.length, σ i < l2.length := fun i hi => by
      have := h1 i hi
      rw [List.getElem?_eq_getElem hi] at this
      exact (List.getElem?_eq_some_iff.mp this).1
    refine ⟨fun i => τ (σ i), fun i hi => ?_, fun i j hi hj e => ?_⟩
    · rw [g1 _ (hs i hi), h1 i hi]
    · exact h2 i j hi hj (g2 _ _ (hs i hi) (hs j hj) e)
theorem zaab {s : Sk} {pic pic' : List Pt} {st : Pt} (p : pic.Perm pic') (h : FitP s pic st) : FitP s pic' st := by
  obtain ⟨P, m⟩ := zad7 h
  obtain ⟨σ, h1, h2⟩ := zadf p
  have hlt : ∀ x ∈ P, x.2 < pic.length := fun x hx => by
    obtain ⟨q, e, _⟩ := m.near x hx
    exact (List.getElem?_eq_some_iff.mp e).1
  refine zadz (P := P.map fun x => (x.1, σ x.2)) ⟨by rw [List.map_map]; exact m.nd, ?_, fun x hx => ?_, by rw [List.length_map, ← p.length_eq]; exact m.fa, by rw [List.map_map]; exact m.lo⟩
  · rw [List.map_map]
    refine zym _ (zly _ m.nd) fun x hx y hy e => ?_
    exact zir (·.2) m.nd2 x hx y hy (h2 x.2 y.2 (hlt x hx) (hlt y hy) e)
  · obtain ⟨y, hy, e⟩ := List.mem_map.mp hx
    cases e
    obtain ⟨q, e, n⟩ := m.near y hy
    exact ⟨q, by rw [h1 _ (hlt y hy)]; exact e, n⟩
end M
namespace M
open PySem PySem.Spec PyProof.Rows L2 DL
variable [CA]
def zgx : DRn := fun ds G Q => ∃ (s : Sk) (pic : List Pt) (st : Pt), ds = [sD s, eT e3 pic, e3 st] ∧ s.cs.length ≤ 6 ∧ pic.length ≤ 1000 ∧ Q (.bl (fitb s pic st)) G
abbrev zkx : List Str := ["sky", "picture", "standing", "places", "camera", "sure", "at", "place", "lot", "lost"]
def zq7 : DTS :=
    (dSeq (dPar 3 4 (ze (zje CA.Sky "places" zap (zd 0) (ze (zd 2) dNil)) (ze (dFld CA.Sky "camera" (zd 0)) dNil)))
    (dSeq (dAsg (zjn dNil) (zk 5))
    (dSeq (dFor (zjg (ze (zd 3) dNil)) (zgd (zam (zk 6) (zam (zk 7) zgc)) 2)
    (dIfS (dAnd (zau (zhq dLe dLt (dFld CA.Camera "error" (zd 4)) (dOp dIx (zd 7) (dC (.int 0))) (dOp dSub (dFld CA.Camera "width" (zd 4)) (dFld CA.Camera "error" (zd 4))))) (zau (zhq dLe dLt (dFld CA.Camera "error" (zd 4)) (dOp dIx (zd 7) (dC (.int 1))) (dOp dSub (dFld CA.Camera "height" (zd 4)) (dFld CA.Camera "error" (zd 4))))))
    (zhu (dM "list" zg8 (zd 5) (ze (zd 6) dNil)))
    zdh))
    (dFrz 5 (dSeq (dFor (zb5 (dCB zfm (ze (zd 1) (ze (zd 3) (ze (dFld CA.Camera "error" (zd 4)) dNil))))) (zk 8)
    (dSeq (dAsg (dLc (zb5 (zd 5)) (zk 6) (zau (dOp (dIn true) (zd 6) (zd 8))) (zd 6) [6]) (zk 9))
    (dFrz 9 (dIfS (dAnd (zau (dOp dLe (dOp dSub (dCB dLen (ze (zd 1) dNil)) (dCB dLen (ze (zd 8) dNil))) (dFld CA.Camera "false" (zd 4)))) (zau (dOp dLe (dCB dLen (ze (zd 9) dNil)) (dFld CA.Camera "lost" (zd 4)))))
    (dRet (dC (.bl true)))
    zdh))))
    (dRet (dC (.bl false))))))))
theorem zzr : ∀ ds G Q, zgx ds G Q → ds.length = 3 := fun ds G Q ⟨c, x, y, e, _⟩ => by rw [e]; rfl
theorem z68 (s : Sk) (st : Pt) : (zbw s st).length = s.cs.length := by unfold zbw; rw [List.length_map]
theorem z8n {xs : List Int} {G : DHp} {Q : DVK} : dLen [eT .int xs] G Q = Q (.int xs.length) G := by
  rw [zqx (ds := xs.map .int) rfl, List.length_map]
theorem z7y {xs : List Int} {G : DHp} {Q : DVK} : dLen [eL .int xs] G Q = Q (.int xs.length) G := by
  rw [zqx (ds := xs.map .int) rfl, List.length_map]
theorem zz6 : ∀ ds G Q, zgx ds G Q → zq7 { nx := fun _ G' => Q .non G', rt := Q } (za4 zkx ds) G := fun ds G Q h => by
  obtain ⟨s, pic, st, rfl, h6, hp1, q⟩ := h
  simp_arith only [zq7, zkx, zje, dFld, zwy]
  refine ⟨zrd (by decide), s, st, rfl, by omega, ?_⟩
  simp_arith only [true_and]
  intro p hp
  simp_arith only [dFor, zjg, eL]
  refine ⟨fun i η G' => ∃ o6 o7 o8 o9, η = [some (sD s), some (eT e3 pic), some (e3 st), some (eL e3 (zbw s st)), some (cD s.cam), some (.ref p), o6, o7, o8, o9] ∧ G' = up G p (.lst ((whr (fun q => decide (inC s.cam q.1 q.2.1 (0 - s.cam.er))) ((zbw s st).take i)).map .int)), ⟨none, none, none, none, rfl, rfl⟩, fun _ _ _ _ => trivial, ?_, ?_⟩
  · rintro i d η G' hd ⟨o6, o7, o8, o9, rfl, rfl⟩
    obtain ⟨z, hz, rfl⟩ := zhw hd
    obtain ⟨x, hx, rfl⟩ := zbz hz
    have hwl : (whr (fun q => decide (inC s.cam q.1 q.2.1 (0 - s.cam.er))) ((zbw s st).take i)).length ≤ 6 := by
      refine Nat.le_trans (z3t _ _) ?_
      rw [List.length_take, z68]
      omega
    have no : ¬ inC s.cam x.1 x.2.1 (0 - s.cam.er) → whr (fun q => decide (inC s.cam q.1 q.2.1 (0 - s.cam.er))) ((zbw s st).take (i + 1)) = whr (fun q => decide (inC s.cam q.1 q.2.1 (0 - s.cam.er))) ((zbw s st).take i) := fun hn => by
      rw [z39 _ hx, decide_eq_false hn]
      simp
    simp_arith only [dFld, znv, zsu, zms]
    refine z8l ?_
    simp_arith only [true_and]
    by_cases a1 : s.cam.er ≤ x.1
    · rw [if_pos a1]
      by_cases a2 : x.1 < s.cam.w - s.cam.er
      · rw [if_pos a2]
        refine z88 ?_
        simp_arith only [true_and]
        by_cases a3 : s.cam.er ≤ x.2.1
        · rw [if_pos a3]
          by_cases a4 : x.2.1 < s.cam.h - s.cam.er
          · rw [if_pos a4]
            have yes : inC s.cam x.1 x.2.1 (0 - s.cam.er) := by unfold inC; omega
            refine ⟨by simp only [tyD, zi], (zka (y := .int (i : Int)) zi (zas (by rw [List.length_map]; omega)) ?_).2⟩
            rw [zft]
            refine ⟨_, (by repeat (first | exact Le.nil | apply Le.keep | apply Le.drop)), _, _, _, _, rfl, ?_⟩
            rw [z39 _ hx, decide_eq_true yes, List.map_append]
            rfl
          · rw [if_neg a4]
            exact ⟨_, (by repeat (first | exact Le.nil | apply Le.keep | apply Le.drop)), _, _, _, _, rfl, by rw [no (fun z => by unfold inC at z; omega)]⟩
        · rw [if_neg a3]
          exact ⟨_, (by repeat (first | exact Le.nil | apply Le.keep | apply Le.drop)), _, _, _, _, rfl, by rw [no (fun z => by unfold inC at z; omega)]⟩
      · rw [if_neg a2]
        exact ⟨_, (by repeat (first | exact Le.nil | apply Le.keep | apply Le.drop)), _, _, _, _, rfl, by rw [no (fun z => by unfold inC at z; omega)]⟩
    · rw [if_neg a1]
      exact ⟨_, (by repeat (first | exact Le.nil | apply Le.keep | apply Le.drop)), _, _, _, _, rfl, by rw [no (fun z => by unfold inC at z; omega)]⟩
  · rintro η G' ⟨o6, o7, o8, o9, rfl, rfl⟩
    rw [zjw, List.length_map, List.take_length, ← zop]
    simp_arith only [zi, zbv hp, dFld, znv, zb5]
    rw [show (DO.lst ((zee s st).map D.int)).tree = eL .int (zee s st) from rfl]
    refine ⟨pic, zbw s st, s.cam.er, rfl, by rw [z68]; exact h6, fun lots hm => ?_⟩
    rw [show eL (eT D.int) lots = D.nd Kd.lst (lots.map (eT .int)) from rfl]
    dsimp only
    refine ⟨fun i η G' => ∃ o6 o7 o8 o9, η = [some (sD s), some (eT e3 pic), some (e3 st), some (eL e3 (zbw s st)), some (cD s.cam), some (eL .int (zee s st)), o6, o7, o8, o9] ∧ G' = G ∧ ∀ lot ∈ lots.take i, ¬ z58 s pic st lot, ⟨o6, o7, o8, o9, rfl, rfl, by simp⟩, fun _ _ _ _ => trivial, ?_, ?_⟩
    · rintro i d η G' hd ⟨o6, o7, o8, o9, rfl, rfl, bad⟩
      obtain ⟨lot, hlot, rfl⟩ := zbz hd
      have hsl := z5q s st
      simp_arith only [true_and]
      refine z2o (xs := zee s st) (f := .int) (fun a => decide (a ∉ lot)) .int (by omega) (fun R rr => by simp_arith only [zb5, eL]; exact rr) (fun a ha G1 A B ka kb => ?_) fun w hw => ?_
      · simp_arith only [true_and]
        refine z4q (ds := lot.map .int) (.inr rfl) rfl (zc1 zsy lot) (by rw [zfc]; decide) (decide (a ∈ lot)) (by
          rw [decide_eq_true_eq, List.mem_map]
          exact ⟨fun h => ⟨_, h, rfl⟩, fun ⟨x, hx, e⟩ => by cases e; exact hx⟩) ?_
        by_cases hj : a ∈ lot
        · rw [decide_eq_true hj]
          simp_arith only [true_and]
          exact kb (decide_eq_false fun z => z hj)
        · rw [decide_eq_false hj]
          simp_arith only [true_and]
          exact ka (decide_eq_true hj)
      · simp_arith only [zi, zbv hw, ztk, z8n, dFld, zzg, z8r]
        rw [show (DO.lst (((zee s st).filter fun a => decide (a ∉ lot)).map D.int)).tree = eL .int (z2x s st lot) from rfl]
        simp_arith only [z7y]
        have snoc : ¬ z58 s pic st lot → ∀ l ∈ lots.take (i + 1), ¬ z58 s pic st l := fun hb l hl => by
          rw [zdz hlot] at hl
          rcases List.mem_append.mp hl with hl | hl
          · exact bad l hl
          · rw [List.mem_singleton] at hl; rw [hl]; exact hb
        by_cases g1 : (pic.length : Int) - lot.length ≤ s.cam.fa
        · rw [if_pos g1]
          by_cases g2 : ((z2x s st lot).length : Int) ≤ s.cam.lo
          · rw [if_pos g2]
            rw [(z10 hm).mpr ⟨lot, List.mem_of_getElem? hlot, g1, g2⟩] at q
            exact q
          · rw [if_neg g2]
            exact ⟨_, (by repeat (first | exact Le.nil | apply Le.keep | apply Le.drop)), _, _, _, _, rfl, rfl, snoc fun z => g2 z.2⟩
        · rw [if_neg g1]
          exact ⟨_, (by repeat (first | exact Le.nil | apply Le.keep | apply Le.drop)), _, _, _, _, rfl, rfl, snoc fun z => g1 z.1⟩
    · rintro η G' ⟨o6, o7, o8, o9, rfl, rfl, bad⟩
      rw [List.length_map, List.take_length] at bad
      have e : fitb s pic st = false := by
        cases e : fitb s pic st with
        | false => rfl
        | true =>
          obtain ⟨lot, hl, g⟩ := (z10 hm).mp e
          exact absurd g (bad lot hl)
      rw [e] at q
      exact q
end M
namespace M
open PySem PySem.Spec PyProof.Rows L2 DL
variable [CA]
structure OkSI (tu : List Int) (ar : Int × Int × Int × Int) : Prop where
  ne : tu ≠ []
  t3 : ∀ t ∈ tu, 0 ≤ t ∧ t ≤ 3
  asc : tu.Pairwise (· < ·)
  tl : tu.length ≤ 4
  a1 : -1000000 ≤ ar.1 ∧ ar.1 ≤ ar.2.1 ∧ ar.2.1 ≤ 1000000
  a2 : -1000000 ≤ ar.2.2.1 ∧ ar.2.2.1 ≤ ar.2.2.2 ∧ ar.2.2.2 ≤ 1000000
  few : (tu.length : Int) * (ar.2.1 - ar.1 + 1) * (ar.2.2.2 - ar.2.2.1 + 1) ≤ 40000
def zb0 : DRn := fun ds G Q => ∃ (x : Addr) (s : Sk), ds = [.ref x, gD s.cs, cD s.cam, eT .int s.tu, e4 s.ar] ∧ G x = some (.ins CA.Sky []) ∧ OkSI s.tu s.ar ∧
  Q .non (up G x (.ins CA.Sky [("ground", gD s.cs), ("camera", cD s.cam), ("turns", eT .int s.tu), ("area", e4 s.ar)]))
abbrev zgk : List Str := ["self", "ground", "camera", "turns", "area", "turn", "one", "other", "number"]
def zj7 : DTS :=
    (dIfS (dOr (dNot (zau (dCB (dIsi isT) (ze (zd 3) (ze (dC (.ty "tuple")) dNil))))) (dOr (zau (dOp dEq (zd 3) (dTup dNil))) (dNot (zau (dCB dAll (ze (dFz (dLc (zb5 (zd 3)) (zk 5) dYes (dCB zbe (ze (zd 5) (ze (dC (.int 0)) (ze (dC (.int 3)) dNil)))) [5])) dNil))))))
    zn8
    zdh)
def zkc : DTS :=
    (dIfS (dNot (zau (dCB dAll (ze (dFz (dLc (zadj (ze (zd 3) (ze (zeh dSl (zd 3) (zjh (dC (.int 1))) zc7) dNil))) (zgd (zam (zk 6) (zam (zk 7) zgc)) 2) dYes (dOp dLt (zd 6) (zd 7)) [6, 7])) dNil))))
    zn8
    zdh)
def zj8 : DTS :=
    (dIfS (dOr (dNot (zau (dCB (dIsi isT) (ze (zd 4) (ze (dC (.ty "tuple")) dNil))))) (zau (dOp dNe (dCB dLen (ze (zd 4) dNil)) (dC (.int 4)))))
    zn8
    zdh)
def zj1 : DTS :=
    (dIfS (dNot (zau (dCB dAll (ze (dFz (dLc (zb5 (zd 4)) (zk 8) dYes (dCB zbe (ze (zd 8) (ze (dOp dSub (dC (.int 0)) (dC (.int 1000000))) (ze (dC (.int 1000000)) dNil)))) [8])) dNil))))
    zn8
    zdh)
def zj4 : DTS :=
    (dIfS (dOr (zau (dOp dGt (dOp dIx (zd 4) (dC (.int 0))) (dOp dIx (zd 4) (dC (.int 1))))) (zau (dOp dGt (dOp dIx (zd 4) (dC (.int 2))) (dOp dIx (zd 4) (dC (.int 3))))))
    zn8
    zdh)
def zj3 : DTS :=
    (dIfS (zau (dOp dGt (dOp dMul (dOp dMul (dCB dLen (ze (zd 3) dNil)) (dOp dAdd (dOp dSub (dOp dIx (zd 4) (dC (.int 1))) (dOp dIx (zd 4) (dC (.int 0)))) (dC (.int 1)))) (dOp dAdd (dOp dSub (dOp dIx (zd 4) (dC (.int 3))) (dOp dIx (zd 4) (dC (.int 2)))) (dC (.int 1)))) (dC (.int 40000))))
    zn8
    zdh)
def zod : DTS :=
    (zpt CA.Sky "ground" (zd 0) (zd 1))
def zn3 : DTS :=
    (zpt CA.Sky "camera" (zd 0) (zd 2))
def zn2 : DTS :=
    (zpt CA.Sky "turns" (zd 0) (zd 3))
def zoe : DTS :=
    (zpt CA.Sky "area" (zd 0) (zd 4))
def zn1 : DTS :=
    zoe
def zog : DTS :=
    (dSeq zn2 zn1)
def zoa : DTS :=
    (dSeq zn3 zog)
def zn5 : DTS :=
    (dSeq zod zoa)
def zn7 : DTS :=
    (dSeq zj3 zn5)
def zoc : DTS :=
    (dSeq zj4 zn7)
def zoi : DTS :=
    (dSeq zj1 zoc)
def zn6 : DTS :=
    (dSeq zj8 zoi)
def zoh : DTS :=
    (dSeq zkc zn6)
def zpz : DTS :=
    (dSeq zj7 zoh)
theorem zup : ∀ ds G Q, zb0 ds G Q → ds.length = 5 := fun ds G Q ⟨x, c, e, _⟩ => by rw [e]; rfl
def stSk (x : Addr) (s : Sk) : DSt := [some (.ref x), some (gD s.cs), some (cD s.cam), some (eT .int s.tu), some (e4 s.ar), none, none, none, none]
theorem zae0 {F : zmh} {x : Addr} {s : Sk} {G : DHp} (ok : OkSI s.tu s.ar) (k : F.nx (stSk x s) G) : zj7 F (stSk x s) G := by
  simp_arith only [zj7, stSk, eT, zhb]
  refine z9d (ziw (f := .int) zsy s.tu) rfl (Nat.le_trans (zjf (B := 0) (f := .int) (fun a => Nat.le_of_eq (zfc a)) s.tu) (by decide)) (show PyData.depth (py (.nd .tup [])) ≤ 64 by decide) false ⟨fun z => (by cases z), fun z => ?_⟩ ?_
  · exfalso
    have z2 : D.nd .tup (s.tu.map .int) = .nd .tup [] := z
    have z3 : s.tu.map D.int = [] := by injection z2
    exact ok.ne (List.map_eq_nil_iff.mp z3)
  · simp_arith only [true_and]
    refine zmn (xs := s.tu) (f := .int) (fun t : Int => .bl (decide (0 ≤ t ∧ t ≤ 3))) (by have := ok.tl; omega) (fun R r => by simp_arith only [zb5]; exact r) (fun t ht G1 A a => ?_) fun p hp => ?_
    · simp_arith only [true_and]
      exact .inl ⟨_, _, _, rfl, rfl, rfl, a⟩
    · simp_arith only [zi, zbv hp, DO.tree]
      refine znb ?_
      rw [List.all_eq_true.mpr fun t ht => decide_eq_true (ok.t3 t ht)]
      simp_arith only [true_and]
      exact k
theorem zae4 {F : zmh} {x : Addr} {s : Sk} {G : DHp} (ok : OkSI s.tu s.ar) (k : F.nx (stSk x s) G) : zkc F (stSk x s) G := by
  simp_arith only [zkc, stSk]
  refine zmn (xs := s.tu.zip (s.tu.drop 1)) (f := e2) (fun t : Int × Int => .bl (decide (t.1 < t.2))) (by have := ok.tl; rw [List.length_zip]; omega) (fun R r => ?_) (fun t ht G1 A a => ?_) fun p hp => ?_
  · simp_arith only [zadj, eT]
    unfold dSl
    have e : cutD (s.tu.map D.int) (some 1) none = (s.tu.drop 1).map .int := by
      have := zu8 (s.tu.map D.int) 1
      rw [List.map_drop]
      exact this
    dsimp only [der]
    rw [e]
    have e2' : zipL (s.tu.map D.int) ((s.tu.drop 1).map .int) = (s.tu.zip (s.tu.drop 1)).map e2 := by
      unfold zipL
      rw [List.zipWith_map, List.zip, List.map_zipWith]
      rfl
    rw [e2']
    exact r
  · simp_arith only [e2]
    exact a
  · simp_arith only [zi, zbv hp, DO.tree]
    refine znb ?_
    rw [List.all_eq_true.mpr fun t ht => decide_eq_true ?_]
    · simp_arith only [true_and]
      exact k
    · obtain ⟨i, hi, e⟩ := List.getElem_of_mem ht
      rw [List.length_zip, List.length_drop] at hi
      rw [List.getElem_zip, List.getElem_drop] at e
      rw [← e]
      exact (List.pairwise_iff_getElem.mp ok.asc) i (1 + i) (by omega) (by omega) (by omega)
theorem zad1 {F : zmh} {x : Addr} {s : Sk} {G : DHp} (k : F.nx (stSk x s) G) : zj8 F (stSk x s) G := by
  simp_arith only [zj8, stSk, e4, zhb]
  rw [len4]
  simp_arith only [true_and]
  rw [if_neg (by decide)]
  exact k
theorem zaef {F : zmh} {x : Addr} {s : Sk} {G : DHp} (ok : OkSI s.tu s.ar) (k : F.nx (stSk x s) G) : zj1 F (stSk x s) G := by
  simp_arith only [zj1, stSk]
  have a1 := ok.a1
  have a2 := ok.a2
  refine zmn (xs := [s.ar.1, s.ar.2.1, s.ar.2.2.1, s.ar.2.2.2]) (f := .int) (fun t : Int => .bl (decide (0 - 1000000 ≤ t ∧ t ≤ 1000000))) (show 4 ≤ 1000000 by omega) (fun R r => by simp_arith only [zb5, e4]; exact r) (fun t ht G1 A a => ?_) fun p hp => ?_
  · simp_arith only [true_and]
    exact .inl ⟨_, _, _, rfl, rfl, rfl, a⟩
  · simp_arith only [zi, zbv hp, DO.tree]
    refine znb (xs := [s.ar.1, s.ar.2.1, s.ar.2.2.1, s.ar.2.2.2]) (b := fun t : Int => decide (0 - 1000000 ≤ t ∧ t ≤ 1000000)) ?_
    rw [List.all_eq_true.mpr fun t ht => decide_eq_true ?_]
    · simp_arith only [true_and]
      exact k
    · simp only [List.mem_cons, List.not_mem_nil, or_false] at ht
      rcases ht with rfl | rfl | rfl | rfl <;> omega
theorem zads {F : zmh} {x : Addr} {s : Sk} {G : DHp} (ok : OkSI s.tu s.ar) (k : F.nx (stSk x s) G) : zj4 F (stSk x s) G := by
  simp_arith only [zj4, stSk]
  have a1 := ok.a1
  have a2 := ok.a2
  refine zt5 (by decide) rfl (zt5 (by decide) rfl ?_)
  simp_arith only [true_and]
  rw [if_neg (by omega)]
  refine zt5 (by decide) rfl (zt5 (by decide) rfl ?_)
  simp_arith only [true_and]
  rw [if_neg (by omega)]
  exact k
theorem zaeg {F : zmh} {x : Addr} {s : Sk} {G : DHp} (ok : OkSI s.tu s.ar) (k : F.nx (stSk x s) G) : zj3 F (stSk x s) G := by
  simp_arith only [zj3, stSk, ztk]
  have a1 := ok.a1
  have a2 := ok.a2
  have tl := ok.tl
  refine zt5 (by decide) rfl (zt5 (by decide) rfl ?_)
  simp_arith only [true_and]
  refine ⟨zwm (by omega), ?_⟩
  refine zt5 (by decide) rfl (zt5 (by decide) rfl ?_)
  simp_arith only [true_and]
  refine ⟨?_, ?_⟩
  · exact .inr ⟨by omega, by omega⟩
  · have := ok.few
    rw [if_neg (by omega)]
    exact k
theorem zul : ∀ ds G Q, zb0 ds G Q → zpz { nx := fun _ G' => Q .non G', rt := Q } (za4 zgk ds) G := fun ds G Q h => by
  obtain ⟨x, s, rfl, hG, ok, q⟩ := h
  refine zae0 ok ?_
  dsimp only [zoh, dSeq]
  refine zae4 ok ?_
  dsimp only [zn6, dSeq]
  refine zad1 ?_
  dsimp only [zoi, dSeq]
  refine zaef ok ?_
  dsimp only [zoc, dSeq]
  refine zads ok ?_
  dsimp only [zn7, dSeq]
  refine zaeg ok ?_
  dsimp only [zn5, zod, dSeq]
  refine zn4 (fs' := [("ground", gD s.cs)]) (fun R r => r) (fun R r => r) hG (by decide) rfl ?_
  dsimp only [zoa, zn3, dSeq]
  refine zn4 (fs' := [("ground", gD s.cs), ("camera", cD s.cam)]) (fun R r => r) (fun R r => r) zi (by show _ < 1000; simp) rfl ?_
  rw [zft]
  dsimp only [zog, zn2, dSeq]
  refine zn4 (fs' := [("ground", gD s.cs), ("camera", cD s.cam), ("turns", eT .int s.tu)]) (fun R r => r) (fun R r => r) zi (by show _ < 1000; simp) rfl ?_
  rw [zft]
  dsimp only [zn1, zoe, dSeq]
  refine zn4 (fs' := [("ground", gD s.cs), ("camera", cD s.cam), ("turns", eT .int s.tu), ("area", e4 s.ar)]) (fun R r => r) (fun R r => r) zi (by show _ < 1000; simp) rfl ?_
  rw [zft]
  exact q
def zd7 : DRn := fun l G Q => ∃ (a : Addr) (ns : List Int) (c : Int) (G0 : DHp) (it : D) (ds : List D), l = [.ref a, it] ∧ G = Gw G0 a ns c ∧ ns.length ≤ 63 ∧ (it = .nd .lst ds ∨ it = .nd .tup ds) ∧ 0 < ds.length ∧ ∀ d ∈ ds, Q d (Gw G0 a ns (c + 1))
abbrev znm : List Str := ["draw", "items"]
def zq3 : DTS :=
    (dRet (dOp dIx (zd 1) (dCB zl (ze (zd 0) (ze (dCB dLen (ze (zd 1) dNil)) dNil)))))
theorem zzy : ∀ ds G Q, zd7 ds G Q → ds.length = 2 := fun ds G Q ⟨_, _, _, _, _, _, e, _⟩ => by rw [e]; rfl
theorem zaad {it : D} {ds : List D} {i : Int} {d : D} {G : DHp} {Q : DVK} (hi : it = .nd .lst ds ∨ it = .nd .tup ds) (h0 : 0 ≤ i) (e : ds[i.toNat]? = some d) (q : Q d G) : dIx it (.int i) G Q := by
  rcases hi with rfl | rfl
  · exact zo6 h0 e q
  · exact zo6 h0 e q
theorem zzc : ∀ ds G Q, zd7 ds G Q → zq3 { nx := fun _ G' => Q .non G', rt := Q } (za4 znm ds) G := fun l G Q h => by
  obtain ⟨a, ns, c, G0, it, ds, rfl, rfl, hl, hi, hd, q⟩ := h
  simp_arith only [zq3, znm]
  rw [zqx (ds := ds) (by rcases hi with rfl | rfl <;> rfl)]
  refine zer (by omega) hl fun r h0 h1 => ?_
  have hr : ds[r.toNat]? = some ds[r.toNat] := List.getElem?_eq_getElem (by omega)
  exact zaad hi h0 hr (q _ (List.mem_of_getElem? hr))
/-- a drawn ground -/
structure GrD (most side : Int) (cs : List Pt) : Prop where
  len : (cs.length : Int) ≤ most
  bd : ∀ p ∈ cs, (-1 ≤ p.1 ∧ p.1 ≤ side - 2) ∧ (-1 ≤ p.2.1 ∧ p.2.1 ≤ side - 2) ∧ 1 ≤ p.2.2 ∧ p.2.2 ≤ 2
  nd : cs.Nodup
  srt : srtT e3 cs = cs
def zfh : DRn := fun l G Q => ∃ (a : Addr) (ns : List Int) (c : Int) (G0 : DHp) (most side : Int), l = [.ref a, .int most, .int side] ∧ G = Gw G0 a ns c ∧ ns.length ≤ 63 ∧ (0 ≤ most ∧ most ≤ 90) ∧ (1 ≤ side ∧ side ≤ 1000) ∧ ∀ cs c', GrD most side cs → Q (gD cs) (Gw G0 a ns c')
abbrev zkp : List Str := ["draw", "most", "side", "found", "turn", "crater"]
def zns : DTS :=
    (dSeq (dAsg (zjn dNil) (zk 3))
    (dSeq (dFor (ze7 (ze (dCB zl (ze (zd 0) (ze (dOp dAdd (zd 1) (dC (.int 1))) dNil))) dNil)) (zk 4)
    (dSeq (dAsg (dTup (ze (dOp dSub (dCB zl (ze (zd 0) (ze (zd 2) dNil))) (dC (.int 1))) (ze (dOp dSub (dCB zl (ze (zd 0) (ze (zd 2) dNil))) (dC (.int 1))) (ze (dOp dAdd (dC (.int 1)) (dCB zl (ze (zd 0) (ze (dC (.int 2)) dNil)))) dNil)))) (zk 5))
    (dIfS (zau (dOp (dIn true) (zd 5) (zd 3)))
    (zhu (dM "list" zg8 (zd 3) (ze (zd 5) dNil)))
    zdh)))
    (dFrz 3 (dRet (dFz (zrt CA.Ground zag (ze (zd 3) dNil)))))))
theorem zw4 : ∀ ds G Q, zfh ds G Q → ds.length = 3 := fun ds G Q ⟨_, _, _, _, _, _, e, _⟩ => by rw [e]; rfl
theorem gi3 (a b : Pt) (e : ([a.1, a.2.1, a.2.2] : List Int) = [b.1, b.2.1, b.2.2]) : a = b := by
  simp at e; exact Prod.ext e.1 (Prod.ext e.2.1 e.2.2)
theorem z61 (cs : List Pt) : srtT e3 (srtT e3 cs) = srtT e3 cs := z7g (g := fun a : Pt => [a.1, a.2.1, a.2.2]) (fun a b => zad6 a b) gi3 (zdj e3 cs)
theorem zwz : ∀ ds G Q, zfh ds G Q → zns { nx := fun _ G' => Q .non G', rt := Q } (za4 zkp ds) G := fun l G Q h => by
  obtain ⟨a, ns, c, G0, most, side, rfl, rfl, hl, hm, hs, q⟩ := h
  simp_arith only [zns, zkp]
  intro p hp
  obtain ⟨e, hap⟩ := z1f (o := .lst []) hp
  have hgp := zw3 hap hp
  rw [e]
  simp_arith only [dFor, ze7]
  refine zer (by omega) hl fun n n0 n1 => ⟨⟨by omega, by omega⟩, ?_⟩
  refine ⟨fun i η G' => ∃ o1 o2 cs c', η = [some (.ref a), some (.int most), some (.int side), some (.ref p), o1, o2] ∧ G' = Gw (up G0 p (.lst (cs.map e3))) a ns c' ∧ cs.length ≤ i ∧ cs.Nodup ∧ ∀ p ∈ cs, (-1 ≤ p.1 ∧ p.1 ≤ side - 2) ∧ (-1 ≤ p.2.1 ∧ p.2.1 ≤ side - 2) ∧ 1 ≤ p.2.2 ∧ p.2.2 ≤ 2, ⟨none, none, [], _, rfl, rfl, Nat.le_refl _, List.nodup_nil, by simp⟩, fun _ _ _ _ => trivial, ?_, ?_⟩
  · rintro i d η G' hd ⟨o1, o2, cs, c', rfl, rfl, hc, nd, bd⟩
    obtain ⟨z, hz, rfl⟩ := zbz hd
    have hi := (List.getElem?_eq_some_iff.mp hz).1
    rw [zdk] at hi
    simp_arith only [true_and]
    refine zer (by omega) hl fun x x0 x1 => ?_
    simp_arith only [true_and]
    refine zer (by omega) hl fun y y0 y1 => ?_
    simp_arith only [true_and]
    refine zer (by decide) hl fun w w0 w1 => ?_
    simp_arith only [true_and]
    refine z4q (ds := cs.map e3) (.inl (zsd (zm4 hap))) (zds (x - 1, y - 1, 1 + w)) (zc1 zds _) (Nat.le_trans (zd0 (x - 1, y - 1, 1 + w)) (by decide)) (decide ((x - 1, y - 1, 1 + w) ∈ cs)) ?_ ?_
    · rw [decide_eq_true_eq]
      exact ⟨fun h => List.mem_map.mpr ⟨_, h, rfl⟩, fun h => by obtain ⟨u, hu, e⟩ := List.mem_map.mp h; have := (z8p (a := u) (b := (x - 1, y - 1, 1 + w))).mp e; rw [← this]; exact hu⟩
    · by_cases hin : (x - 1, y - 1, 1 + w) ∈ cs
      · rw [decide_eq_true hin]
        simp_arith only [true_and]
        exact ⟨_, (by repeat (first | exact Le.nil | apply Le.keep | apply Le.drop)), _, _, cs, _, rfl, rfl, by omega, nd, bd⟩
      · rw [decide_eq_false hin]
        simp_arith only [true_and]
        refine zka (y := e3 (x - 1, y - 1, 1 + w)) (zm4 hap) (zas (by rw [List.length_map]; omega)) ?_
        rw [z33 hap]
        refine ⟨_, (by repeat (first | exact Le.nil | apply Le.keep | apply Le.drop)), _, _, cs ++ [(x - 1, y - 1, 1 + w)], _, rfl, by rw [List.map_append]; rfl, by rw [List.length_append, List.length_singleton]; omega, ?_, ?_⟩
        · rw [List.nodup_append]
          exact ⟨nd, by simp, fun u hu v hv => by rw [List.mem_singleton] at hv; subst hv; exact fun e => hin (e ▸ hu)⟩
        · intro u hu
          rcases List.mem_append.mp hu with hu | hu
          · exact bd u hu
          · rw [List.mem_singleton] at hu
            subst hu
            exact ⟨⟨by dsimp only; omega, by dsimp only; omega⟩, ⟨by dsimp only; omega, by dsimp only; omega⟩, by dsimp only; omega, by dsimp only; omega⟩
  · rintro η G' ⟨o1, o2, cs, c', rfl, rfl, hc, nd, bd⟩
    rw [List.length_map, zdk] at hc
    simp_arith only [zm4 hap, zacb hap hgp, zrt]
    intro x hx
    refine ⟨x, cs, rfl, .inl rfl, zi, by omega, fun p hp => ?_, ?_⟩
    · obtain ⟨b1, b2, b3⟩ := bd p hp
      exact ⟨⟨by omega, by omega⟩, ⟨by omega, by omega⟩, by omega, by omega⟩
    · rw [zft]
      refine ⟨rfl, ?_⟩
      simp_arith only [zi, zbv hx]
      refine q (srtT e3 cs) c' ⟨by rw [(zdj e3 cs).length_eq]; omega, fun p hp => bd p ((zdj e3 cs).mem_iff.mp hp), (zdj e3 cs).nodup_iff.mpr nd, z61 cs⟩
def zfi : DRn := fun l G Q => ∃ (a : Addr) (ns : List Int) (c : Int) (G0 : DHp), l = [.ref a] ∧ G = Gw G0 a ns c ∧ ns.length ≤ 63 ∧ ∀ cam c', ((2 ≤ cam.w ∧ cam.w ≤ 4) ∧ (1 ≤ cam.h ∧ cam.h ≤ 3) ∧ (0 ≤ cam.er ∧ cam.er ≤ 1) ∧ (0 ≤ cam.fa ∧ cam.fa ≤ 1) ∧ (0 ≤ cam.lo ∧ cam.lo ≤ 1)) → Q (cD cam) (Gw G0 a ns c')
abbrev zkq : List Str := ["draw"]
def zny : DTS :=
    (dRet (dFz (zrt CA.Camera zc0 (ze (dOp dAdd (dC (.int 2)) (dCB zl (ze (zd 0) (ze (dC (.int 3)) dNil)))) (ze (dOp dAdd (dC (.int 1)) (dCB zl (ze (zd 0) (ze (dC (.int 3)) dNil)))) (ze (dCB zl (ze (zd 0) (ze (dC (.int 2)) dNil))) (ze (dCB zl (ze (zd 0) (ze (dC (.int 2)) dNil))) (ze (dCB zl (ze (zd 0) (ze (dC (.int 2)) dNil))) dNil))))))))
theorem zwv : ∀ ds G Q, zfi ds G Q → ds.length = 1 := fun ds G Q ⟨_, _, _, _, e, _⟩ => by rw [e]; rfl
theorem zv3 : ∀ ds G Q, zfi ds G Q → zny { nx := fun _ G' => Q .non G', rt := Q } (za4 zkq ds) G := fun l G Q h => by
  obtain ⟨a, ns, c, G0, rfl, rfl, hl, q⟩ := h
  simp_arith only [zny, zkq, zrt]
  refine zer (by decide) hl fun w w0 w1 => ?_
  simp_arith only [true_and]
  refine zer (by decide) hl fun h h0 h1 => ?_
  simp_arith only [true_and]
  refine zer (by decide) hl fun er er0 er1 => ?_
  refine zer (by decide) hl fun fa fa0 fa1 => ?_
  refine zer (by decide) hl fun lo lo0 lo1 => ?_
  intro x hx
  refine ⟨x, ⟨2 + w, 1 + h, er, fa, lo⟩, rfl, zi, ⟨by dsimp only; omega, by dsimp only; omega, by dsimp only; omega, by dsimp only; omega, by dsimp only; omega⟩, ?_⟩
  rw [zft]
  refine ⟨rfl, ?_⟩
  simp_arith only [zi, zbv hx]
  exact q ⟨2 + w, 1 + h, er, fa, lo⟩ _ ⟨by dsimp only; omega, by dsimp only; omega, by dsimp only; omega, by dsimp only; omega, by dsimp only; omega⟩
end M
namespace M
open PySem PySem.Spec PyProof.Rows L2 DL
variable [CA]
def z01 (c : Cam) (p : Pt) : Prop := okPt 0 1000 p ∧ inC c p.1 p.2.1 0
/-- all cells of the frame with both sizes -/
def z6u (x y : Int) : List Pt := [(x, y, 1), (x, y, 2)]
def zy1 (cam : Cam) (x : Int) : List Pt := (ze9 0 cam.h).flatMap (z6u x)
def z2r (cam : Cam) : List Pt := (ze9 0 cam.w).flatMap (zy1 cam)
theorem z5c {cam : Cam} {p : Pt} : p ∈ z2r cam ↔ inC cam p.1 p.2.1 0 ∧ (p.2.2 = 1 ∨ p.2.2 = 2) := by
  unfold z2r zy1 z6u inC
  obtain ⟨x, y, z⟩ := p
  simp only [List.mem_flatMap, mem_range, List.mem_cons, List.not_mem_nil, or_false, Prod.mk.injEq]
  constructor
  · rintro ⟨a, ha, b, hb, ⟨rfl, rfl, rfl⟩ | ⟨rfl, rfl, rfl⟩⟩
    · exact ⟨by omega, .inl rfl⟩
    · exact ⟨by omega, .inr rfl⟩
  · rintro ⟨⟨⟨h1, h2⟩, h3, h4⟩, h⟩
    refine ⟨x, by omega, y, by omega, ?_⟩
    rcases h with rfl | rfl
    · exact .inl ⟨rfl, rfl, rfl⟩
    · exact .inr ⟨rfl, rfl, rfl⟩
theorem z96 {cam : Cam} (ok : z3i cam) : ∀ p ∈ z2r cam, z01 cam p := fun p hp => by
  obtain ⟨h1, h2⟩ := z5c.mp hp
  obtain ⟨o1, o2, o3, o4, o5⟩ := ok
  refine ⟨?_, h1⟩
  unfold inC at h1
  unfold okPt
  omega
theorem zacm {cam : Cam} (ok : z3i cam) : z2r cam ≠ [] := fun e => by
  obtain ⟨o1, o2, o3, o4, o5⟩ := ok
  have : ((0, 0, 1) : Pt) ∈ z2r cam := z5c.mpr ⟨by unfold inC; dsimp only; omega, .inl rfl⟩
  rw [e] at this
  cases this
theorem z08 (cam : Cam) (x : Int) (k : Nat) : (((ze9 0 cam.h).take k).flatMap (z6u x)).length ≤ k * 2 := by
  refine Nat.le_trans (zna (B := 2) fun y _ => Nat.le_refl 2) ?_
  exact Nat.mul_le_mul_right 2 (by rw [List.length_take]; omega)
theorem zaa1 (cam : Cam) (i : Nat) : (((ze9 0 cam.w).take i).flatMap (zy1 cam)).length ≤ i * (cam.h.toNat * 2) := by
  refine Nat.le_trans (zna (B := cam.h.toNat * 2) fun x _ => ?_) (Nat.mul_le_mul_right _ (by rw [List.length_take]; omega))
  have := z08 cam x (ze9 0 cam.h).length
  rw [List.take_length, zdk] at this
  unfold zy1
  exact Nat.le_trans this (Nat.mul_le_mul_right 2 (by omega))
def zf5 : DRn := fun l G Q => ∃ cam : Cam, l = [cD cam] ∧ z3i cam ∧ cam.w ≤ 100 ∧ cam.h ≤ 100 ∧ Q (eL e3 (z2r cam)) G
abbrev zlu : List Str := ["camera", "found", "x", "y"]
def zo8 : DTS :=
    (dSeq (dAsg (zjn dNil) (zk 1))
    (dSeq (dFor (ze7 (ze (dFld CA.Camera "width" (zd 0)) dNil)) (zk 2)
    (dFor (ze7 (ze (dFld CA.Camera "height" (zd 0)) dNil)) (zk 3)
    (dAug 1 (zjq (ze (dTup (ze (zd 2) (ze (zd 3) (ze (dC (.int 1)) dNil)))) (ze (dTup (ze (zd 2) (ze (zd 3) (ze (dC (.int 2)) dNil)))) dNil))) zy8)))
    (zpu (zd 1))))
theorem zxr : ∀ ds G Q, zf5 ds G Q → ds.length = 1 := fun ds G Q ⟨_, e, _⟩ => by rw [e]; rfl
theorem zx6 : ∀ ds G Q, zf5 ds G Q → zo8 { nx := fun _ G' => Q .non G', rt := Q } (za4 zlu ds) G := fun ds G Q h => by
  obtain ⟨cam, rfl, ok, w1, h1, q⟩ := h
  obtain ⟨o1, o2, o3, o4, o5⟩ := ok
  simp_arith only [zo8, zlu]
  intro p hp
  simp_arith only [dFor, ze7, dFld, zsu, zms]
  refine ⟨⟨by omega, by omega⟩, fun i η G' => ∃ a b, η = [some (cD cam), some (.ref p), a, b] ∧ G' = up G p (.lst ((((ze9 0 cam.w).take i).flatMap (zy1 cam)).map e3)), ⟨none, none, rfl, rfl⟩, fun _ _ _ _ => trivial, ?_, ?_⟩
  · rintro i d η G' hd ⟨a, b, rfl, rfl⟩
    obtain ⟨x, hx, rfl⟩ := zbz hd
    have hi := (List.getElem?_eq_some_iff.mp hx).1
    rw [zdk] at hi
    simp_arith only [zms]
    refine ⟨⟨by omega, by omega⟩, fun j η G' => ∃ b, η = [some (cD cam), some (.ref p), some (.int x), b] ∧ G' = up G p (.lst ((((ze9 0 cam.w).take i).flatMap (zy1 cam) ++ ((ze9 0 cam.h).take j).flatMap (z6u x)).map e3)), ⟨b, rfl, by simp⟩, fun _ _ _ _ => trivial, ?_, ?_⟩
    · rintro j d η G' hd ⟨b, rfl, rfl⟩
      obtain ⟨y, hy, rfl⟩ := zbz hd
      have hj := (List.getElem?_eq_some_iff.mp hy).1
      rw [zdk] at hj
      simp_arith only [true_and]
      refine z5d (ys := (z6u x y).map e3) zi rfl (zkz ?_) ?_
      · have l1 := zaa1 cam i
        have l2 := z08 cam x j
        have : i * (cam.h.toNat * 2) ≤ 100 * 200 := Nat.mul_le_mul (by omega) (by omega)
        rw [List.length_map, List.length_append, List.length_map]
        show _ + 2 ≤ _
        omega
      · rw [zft]
        refine ⟨_, (by repeat (first | exact Le.nil | apply Le.keep | apply Le.drop)), _, rfl, ?_⟩
        rw [z66 hy, ← List.append_assoc, List.map_append (l₂ := z6u x y)]
    · rintro η G' ⟨b, rfl, rfl⟩
      rw [List.length_map, List.take_length]
      refine ⟨_, (by repeat (first | exact Le.nil | apply Le.keep | apply Le.drop)), _, _, rfl, ?_⟩
      rw [z66 hx]
      rfl
  · rintro η G' ⟨a, b, rfl, rfl⟩
    rw [List.length_map, List.take_length]
    simp_arith only [zi, zbv hp]
    exact q
end M
namespace M
open PySem PySem.Spec PyProof.Rows L2 DL
variable [CA]
theorem z77 {x : D} {lo hi : Option Int} {ds : List D} {G : DHp} {Q : DVK} (h : der x G = .nd .lst ds) (q : Q (.nd .lst (cutD ds lo hi)) G) : dSl x lo hi G Q := by
  unfold dSl
  rw [h]
  exact q
def zej : DRn := fun l G Q => ∃ (a : Addr) (ns : List Int) (c : Int) (G0 : DHp) (s : Sk) (st : Pt), l = [.ref a, sD s, e3 st] ∧ G = Gw G0 a ns c ∧ ns.length ≤ 63 ∧ OkSk s ∧ s.cam.w ≤ 100 ∧ s.cam.h ≤ 100 ∧ ∀ pic c', z1z s.cam pic → pic.length ≤ 300 → Q (eT e3 pic) (Gw G0 a ns c')
abbrev zjr : List Str := ["draw", "sky", "standing", "camera", "found", "x", "y", "size", "point", "turn", "at"]
def zl1 : DTS :=
    (dSeq (dPar 3 4 (ze (dFld CA.Sky "camera" (zd 1)) (ze (zjn dNil) dNil)))
    (dSeq (dFor (zb5 (zje CA.Sky "places" zap (zd 1) (ze (zd 2) dNil))) (zgd (zam (zk 5) (zam (zk 6) (zam (zk 7) zgc))) 3)
    (dSeq (dAsg (dTup (ze (dOp dSub (dOp dAdd (zd 5) (dCB zl (ze (zd 0) (ze (dOp dAdd (dOp dMul (dC (.int 2)) (dFld CA.Camera "error" (zd 3))) (dC (.int 1))) dNil)))) (dFld CA.Camera "error" (zd 3))) (ze (dOp dSub (dOp dAdd (zd 6) (dCB zl (ze (zd 0) (ze (dOp dAdd (dOp dMul (dC (.int 2)) (dFld CA.Camera "error" (zd 3))) (dC (.int 1))) dNil)))) (dFld CA.Camera "error" (zd 3))) (ze (zd 7) dNil)))) (zk 8))
    (dIfS (dAnd (zau (zhq dLe dLt (dC (.int 0)) (dOp dIx (zd 8) (dC (.int 0))) (dFld CA.Camera "width" (zd 3)))) (dAnd (zau (zhq dLe dLt (dC (.int 0)) (dOp dIx (zd 8) (dC (.int 1))) (dFld CA.Camera "height" (zd 3)))) (zau (dOp dGt (dCB zl (ze (zd 0) (ze (dC (.int 6)) dNil))) (dC (.int 0))))))
    (zhu (dM "list" zg8 (zd 4) (ze (zd 8) dNil)))
    zdh)))
    (dSeq (dFor (ze7 (ze (dCB zl (ze (zd 0) (ze (dOp dAdd (dFld CA.Camera "false" (zd 3)) (dC (.int 2))) dNil))) dNil)) (zk 9)
    (zhu (dM "list" zg8 (zd 4) (ze (dCB zd7 (ze (zd 0) (ze (dCB zf5 (ze (zd 3) dNil)) dNil))) dNil))))
    (dSeq (dIfS (dAnd (zau (dOp dNe (zd 4) (zjq dNil))) (zau (dOp dEq (dCB zl (ze (zd 0) (ze (dC (.int 9)) dNil))) (dC (.int 0)))))
    (zhu (dM "list" zg8 (zd 4) (ze (dOp dIx (zd 4) (dC (.int 0))) dNil)))
    zdh)
    (dSeq (dAsg (dCB zl (ze (zd 0) (ze (dOp dAdd (dCB dLen (ze (zd 4) dNil)) (dC (.int 1))) dNil))) (zk 10))
    (dFrz 4 (dRet (dCB zmr (ze (dOp dAdd (zeh dSl (zd 4) (zjh (zd 10)) zc7) (zeh dSl (zd 4) zc7 (zjh (zd 10)))) dNil)))))))))
theorem zus : ∀ ds G Q, zej ds G Q → ds.length = 3 := fun ds G Q ⟨_, _, _, _, _, _, e, _⟩ => by rw [e]; rfl
theorem zzh {c : Cam} {L : List Pt} {p : Pt} (h : ∀ p ∈ L, z01 c p) (hp : z01 c p) : ∀ q ∈ L ++ [p], z01 c q := fun q hq => by
  rcases List.mem_append.mp hq with hq | hq
  · exact h q hq
  · rw [List.mem_singleton] at hq; rw [hq]; exact hp
theorem z9q {s : Sk} (ok : OkSk s) {st p : Pt} (h : p ∈ zbw s st) : 1 ≤ p.2.2 ∧ p.2.2 ≤ 99 := by
  unfold zbw at h
  obtain ⟨c, hc, rfl⟩ := List.mem_map.mp h
  exact (ok.cb c hc).2.2
theorem zuu : ∀ ds G Q, zej ds G Q → zl1 { nx := fun _ G' => Q .non G', rt := Q } (za4 zjr ds) G := fun l G Q h => by
  obtain ⟨a, ns, c, G0, s, st, rfl, rfl, hl, ok, w1, h1, q⟩ := h
  have okc := ok.cam
  obtain ⟨o1, o2, o3, o4, o5⟩ := okc
  simp_arith only [zl1, zjr, dFld, zwy]
  intro p hp
  obtain ⟨e, hap⟩ := z1f (o := .lst []) hp
  have hgp := zw3 hap hp
  rw [e]
  simp_arith only [dFor, zb5, zje]
  refine ⟨zrd (by decide), s, st, rfl, ok.cs, ?_⟩
  unfold eL
  dsimp only
  refine ⟨fun i η G' => ∃ x1 x2 x3 x4 x5 x6 L c', η = [some (.ref a), some (sD s), some (e3 st), some (cD s.cam), some (.ref p), x1, x2, x3, x4, x5, x6] ∧ G' = Gw (up G0 p (.lst (L.map e3))) a ns c' ∧ L.length ≤ i ∧ ∀ p ∈ L, z01 s.cam p, ⟨none, none, none, none, none, none, [], _, rfl, rfl, Nat.le_refl _, by simp⟩, fun _ _ _ _ => trivial, ?_, ?_⟩
  · rintro i d η G' hd ⟨x1, x2, x3, x4, x5, x6, L, c', rfl, rfl, hL, bd⟩
    obtain ⟨z, hz, rfl⟩ := zbz hd
    have hi := (List.getElem?_eq_some_iff.mp hz).1
    rw [zsa] at hi
    have hcs := ok.cs
    have zs := z9q ok (List.mem_of_getElem? hz)
    simp_arith only [e3, znv, dFld]
    refine ⟨zwm (by decide), zer (by omega) hl fun u u0 u1 => ?_⟩
    simp_arith only [znv]
    refine ⟨zwm (by decide), zer (by omega) hl fun v v0 v1 => ?_⟩
    simp_arith only [znv]
    have no : ∀ c'', Wk (fun η G' => ∃ (x1 x2 x3 x4 x5 x6 : Option D) (L : List Pt) (c' : Int), η = [some (.ref a), some (sD s), some (e3 st), some (cD s.cam), some (.ref p), x1, x2, x3, x4, x5, x6] ∧ G' = Gw (up G0 p (.lst (L.map e3))) a ns c' ∧ L.length ≤ i + 1 ∧ ∀ p ∈ L, z01 s.cam p) [some (.ref a), some (sD s), some (e3 st), some (cD s.cam), some (.ref p), some (.int z.1), some (.int z.2.1), some (.int z.2.2), some (e3 (z.1 + u - s.cam.er, z.2.1 + v - s.cam.er, z.2.2)), x5, x6] (Gw (up G0 p (.lst (L.map e3))) a ns c'') := fun c'' => ⟨_, (by repeat (first | exact Le.nil | apply Le.keep | apply Le.drop)), _, _, _, _, _, _, L, c'', rfl, rfl, by omega, bd⟩
    refine ze1 (by decide) rfl ?_
    simp_arith only [zsu]
    by_cases c1 : 0 ≤ z.1 + u - s.cam.er
    · rw [if_pos c1]
      by_cases c2 : z.1 + u - s.cam.er < s.cam.w
      · rw [if_pos c2]
        refine ze1 (by decide) rfl ?_
        simp_arith only [zms]
        by_cases c3 : 0 ≤ z.2.1 + v - s.cam.er
        · rw [if_pos c3]
          by_cases c4 : z.2.1 + v - s.cam.er < s.cam.h
          · rw [if_pos c4]
            refine zer (by decide) hl fun w w0 w1 => ?_
            simp_arith only [true_and]
            by_cases c5 : 0 < w
            · rw [if_pos c5]
              refine zka (y := e3 (z.1 + u - s.cam.er, z.2.1 + v - s.cam.er, z.2.2)) (zm4 hap) (zas (by rw [List.length_map]; omega)) ?_
              rw [z33 hap]
              refine ⟨_, (by repeat (first | exact Le.nil | apply Le.keep | apply Le.drop)), _, _, _, _, _, _, L ++ [(z.1 + u - s.cam.er, z.2.1 + v - s.cam.er, z.2.2)], _, rfl, by rw [List.map_append]; rfl, by rw [List.length_append, List.length_singleton]; omega, zzh bd ⟨⟨⟨by dsimp only; omega, by dsimp only; omega⟩, ⟨by dsimp only; omega, by dsimp only; omega⟩, by dsimp only; omega, by dsimp only; omega⟩, ⟨by dsimp only; omega, by dsimp only; omega⟩, by dsimp only; omega, by dsimp only; omega⟩⟩
            · rw [if_neg c5]
              exact no _
          · rw [if_neg c4]
            exact no _
        · rw [if_neg c3]
          exact no _
      · rw [if_neg c2]
        exact no _
    · rw [if_neg c1]
      exact no _
  · rintro η G' ⟨x1, x2, x3, x4, x5, x6, L, c', rfl, rfl, hL, bd⟩
    rw [List.length_map, zsa] at hL
    have hcs := ok.cs
    simp_arith only [ze7, dFld, zzg]
    refine zer (by omega) hl fun n n0 n1 => ⟨⟨by omega, by omega⟩, ?_⟩
    refine ⟨fun i η G' => ∃ x5 L c', η = [some (.ref a), some (sD s), some (e3 st), some (cD s.cam), some (.ref p), x1, x2, x3, x4, x5, x6] ∧ G' = Gw (up G0 p (.lst (L.map e3))) a ns c' ∧ L.length ≤ 100 + i ∧ ∀ p ∈ L, z01 s.cam p, ⟨x5, L, _, rfl, rfl, by omega, bd⟩, fun _ _ _ _ => trivial, ?_, ?_⟩
    · rintro i d η G' hd ⟨x5, L, c', rfl, rfl, hL, bd⟩
      obtain ⟨z, hz, rfl⟩ := zbz hd
      have hi := (List.getElem?_eq_some_iff.mp hz).1
      rw [zdk] at hi
      simp_arith only [true_and]
      refine ⟨by simp only [tyD, zm4 hap], s.cam, rfl, ⟨o1, o2, o3, o4, o5⟩, w1, h1, ?_⟩
      have hS := zacm (cam := s.cam) ⟨o1, o2, o3, o4, o5⟩
      have hSb := z96 (cam := s.cam) ⟨o1, o2, o3, o4, o5⟩
      generalize z2r s.cam = S at hS hSb ⊢
      refine ⟨a, ns, c', _, _, S.map e3, rfl, rfl, hl, .inl rfl, by rw [List.length_map]; exact List.length_pos_iff.mpr hS, fun d hd => ?_⟩
      obtain ⟨u, hu, rfl⟩ := List.mem_map.mp hd
      refine (zka (y := e3 u) (zm4 hap) (zas (by rw [List.length_map]; omega)) ?_).2
      rw [z33 hap]
      exact ⟨_, (by repeat (first | exact Le.nil | apply Le.keep | apply Le.drop)), _, L ++ [u], _, rfl, by rw [List.map_append]; rfl, by rw [List.length_append, List.length_singleton]; omega, zzh bd (hSb u hu)⟩
    · rintro η G' ⟨x5, L, c', rfl, rfl, hL, bd⟩
      rw [List.length_map, zdk] at hL
      have fin : ∀ (L : List Pt) (c' : Int), L.length ≤ 202 → (∀ p ∈ L, z01 s.cam p) → (dSeq (dAsg (dCB zl (ze (zd 0) (ze (dOp dAdd (dCB dLen (ze (zd 4) dNil)) (dC (.int 1))) dNil))) (zk 10))
    (dFrz 4 (dRet (dCB zmr (ze (dOp dAdd (zeh dSl (zd 4) (zjh (zd 10)) zc7) (zeh dSl (zd 4) zc7 (zjh (zd 10)))) dNil))))) { nx := fun _ G' => Q .non G', rt := Q } [some (.ref a), some (sD s), some (e3 st), some (cD s.cam), some (.ref p), x1, x2, x3, x4, x5, x6] (Gw (up G0 p (.lst (L.map e3))) a ns c') := fun L c' hL bd => by
        simp_arith only [true_and]
        rw [zqx (ds := L.map e3) (by show sqD (.ref p) _ = _; unfold sqD; rw [zsd (zm4 hap)])]
        simp_arith only [true_and]
        refine zer (by rw [List.length_map]; omega) hl fun n n0 n1 => ?_
        simp_arith only [zm4 hap, zacb hap hgp, DO.tree]
        obtain ⟨k, rfl⟩ := Int.eq_ofNat_of_zero_le n0
        refine z77 rfl (z77 rfl ?_)
        refine zib (xs := (L.drop k).map e3) (ys := (L.take k).map e3) (by rw [zu8, List.map_drop]; rfl) (by rw [zze, List.map_take]; rfl) (zkz ?_) ?_
        · rw [List.length_map, List.length_map, List.length_drop, List.length_take]; omega
        · rw [zmj (ds := (L.drop k ++ L.take k).map e3) (by rw [List.map_append]; rfl)]
          exact q _ _ (fun p hp => bd p (by
            rcases List.mem_append.mp hp with hp | hp
            · exact List.mem_of_mem_drop hp
            · exact List.mem_of_mem_take hp)) (by rw [List.length_append, List.length_drop, List.length_take]; omega)
      simp_arith only [true_and]
      refine zz9 (zsd (zm4 hap)) (zc1 zds _) (fun d hd => by obtain ⟨z, _, rfl⟩ := List.mem_map.mp hd; exact Nat.le_trans (zd0 z) (by decide)) ?_
      cases L with
      | nil =>
        simp_arith only [List.isEmpty_nil, List.map_nil]
        exact fin [] _ (by simp) (by simp)
      | cons u L =>
        simp_arith only [List.isEmpty_cons]
        refine zer (by decide) hl fun n n0 n1 => ?_
        simp_arith only [true_and]
        rw [List.length_cons] at hL
        by_cases c1 : n = 0
        · rw [if_pos c1]
          refine ⟨by simp only [tyD, zm4 hap], z74 (zm4 hap) (d := e3 u) (by decide) rfl ((zka (y := e3 u) (zm4 hap) (zas (by rw [List.length_cons, List.length_map]; omega)) ?_).2)⟩
          rw [z33 hap]
          have := fin (u :: L ++ [u]) (c' + 1) (by rw [List.length_append, List.length_singleton, List.length_cons]; omega) (zzh bd (bd u (by simp)))
          rw [List.map_append] at this
          exact this
        · rw [if_neg c1]
          exact fin (u :: L) _ (by rw [List.length_cons]; omega) bd
end M
namespace M
open PySem PySem.Spec PyProof.Rows L2 DL
abbrev Ce := Int × Int
def tch (a b : Ce) : Prop := (-1 ≤ a.1 - b.1 ∧ a.1 - b.1 ≤ 1) ∧ -1 ≤ a.2 - b.2 ∧ a.2 - b.2 ≤ 1
instance (a b : Ce) : Decidable (tch a b) := by unfold tch; infer_instance
theorem z9v (a : Ce) : tch a a := by unfold tch; omega
theorem z4u {a b : Ce} (h : tch a b) : tch b a := by unfold tch at h ⊢; omega
/-- from x to y through cells of S -/
inductive Way2 (S : List Ce) (x : Ce) : Ce → Prop
  | here : x ∈ S → Way2 S x x
  | on {y z : Ce} : Way2 S x y → z ∈ S → tch y z → Way2 S x z
theorem Way2.mono {S T : List Ce} (h : ∀ x ∈ S, x ∈ T) {x y : Ce} (w : Way2 S x y) : Way2 T x y := by
  induction w with
  | here hx => exact .here (h _ hx)
  | on _ hz t ih => exact .on ih (h _ hz) t
theorem Way2.last {S : List Ce} {x y : Ce} (w : Way2 S x y) : y ∈ S := by
  cases w with
  | here h => exact h
  | on _ h _ => exact h
theorem Way2.trans {S : List Ce} {x y z : Ce} (w : Way2 S x y) (v : Way2 S y z) : Way2 S x z := by
  induction v with
  | here _ => exact w
  | on _ hz t ih => exact .on ih hz t
theorem Way2.symm {S : List Ce} {x y : Ce} (w : Way2 S x y) : Way2 S y x := by
  induction w with
  | here h => exact .here h
  | on w hz t ih => exact Way2.trans (.on (.here hz) w.last (z4u t)) ih
/-- blocks of cells: each hangs together, no two touch -/
structure zzs (cells : List Ce) (L : List (List Ce)) : Prop where
  cov : ∀ x, x ∈ cells ↔ ∃ b ∈ L, x ∈ b
  ne : ∀ b ∈ L, b ≠ []
  hang : ∀ b ∈ L, ∀ x ∈ b, ∀ y ∈ b, Way2 b x y
  apart : L.Pairwise fun b b' => ∀ x ∈ b, ∀ y ∈ b', ¬ tch x y
  nd : ∀ b ∈ L, b.Nodup
theorem z86 {α : Type} {R : α → α → Prop} (sy : ∀ a b, R a b → R b a) : ∀ {L : List α}, L.Pairwise R → ∀ a ∈ L, ∀ b ∈ L, a ≠ b → R a b
  | [], _, a, ha, _, _, _ => by cases ha
  | x :: L, h, a, ha, b, hb, n => by
    obtain ⟨h1, h2⟩ := List.pairwise_cons.mp h
    rcases List.mem_cons.mp ha with e1 | ha2
    · rcases List.mem_cons.mp hb with e2 | hb2
      · exact absurd (e1.trans e2.symm) n
      · rw [e1]; exact h1 b hb2
    · rcases List.mem_cons.mp hb with e2 | hb2
      · rw [e2]; exact sy _ _ (h1 a ha2)
      · exact z86 sy h2 a ha2 b hb2 n
theorem zzs.far {cells : List Ce} {L : List (List Ce)} (P : zzs cells L) {b b' : List Ce} (hb : b ∈ L) (hb' : b' ∈ L) (n : b ≠ b') : ∀ x ∈ b, ∀ y ∈ b', ¬ tch x y :=
  z86 (R := fun b b' => ∀ x ∈ b, ∀ y ∈ b', ¬ tch x y) (fun _ _ h x hx y hy t => h y hy x hx (z4u t)) P.apart b hb b' hb' n
theorem zzs.mem {cells : List Ce} {L : List (List Ce)} (P : zzs cells L) {b : List Ce} (hb : b ∈ L) {x : Ce} (hx : x ∈ b) {y : Ce} : y ∈ b ↔ Way2 cells x y := by
  constructor
  · intro hy
    exact (P.hang b hb x hx y hy).mono fun z hz => (P.cov z).mpr ⟨b, hb, hz⟩
  · intro w
    induction w with
    | here _ => exact hx
    | @on u v _ hv t ih =>
      obtain ⟨b', hb', hvb⟩ := (P.cov v).mp hv
      by_cases e : b = b'
      · rw [e]; exact hvb
      · exact absurd t (P.far hb hb' e u ih v hvb)
theorem zzs.nodup {cells : List Ce} {L : List (List Ce)} (P : zzs cells L) : L.Nodup := by
  have h := P.apart
  have hn := P.ne
  clear P
  induction L with
  | nil => exact List.nodup_nil
  | cons b L ih =>
    obtain ⟨h1, h2⟩ := List.pairwise_cons.mp h
    refine List.nodup_cons.mpr ⟨fun hb => ?_, ih h2 fun b hb => hn b (List.mem_cons_of_mem _ hb)⟩
    cases e : b with
    | nil => exact hn b List.mem_cons_self e
    | cons x r =>
      have hx : x ∈ b := by rw [e]; exact List.mem_cons_self
      exact h1 b hb x hx x hx (z9v x)
/-- the blocks are told by the cells alone -/
theorem zzs.same {cells : List Ce} {L L' : List (List Ce)} (P : zzs cells L) (P' : zzs cells L') {b : List Ce} (hb : b ∈ L) : ∃ b' ∈ L', b.Perm b' := by
  obtain ⟨x, hx⟩ := List.exists_mem_of_ne_nil _ (P.ne b hb)
  obtain ⟨b', hb', hx'⟩ := (P'.cov x).mp ((P.cov x).mpr ⟨b, hb, hx⟩)
  exact ⟨b', hb', zmy (P.nd b hb) (P'.nd b' hb') fun y => (P.mem hb hx).trans (P'.mem hb' hx').symm⟩
end M
namespace M
open PySem PySem.Spec PyProof.Rows L2 DL
section
variable {α : Type} {f : α → D}
theorem zaai (cl : ∀ a, zb6 (f a) = true) (al : ∀ a b, PySem.W.alike (py (f a)) (py (f b)) = true) (fi : ∀ a b, f a = f b → a = b) {a b : α} (h : PySem.W.keyToks (py (f a)) = PySem.W.keyToks (py (f b))) : a = b := by
  cases e : PyData.eqv (py (f a)) (py (f b)) with
  | true => exact fi _ _ ((zs2 (cl a) (cl b)).mp e)
  | false =>
    have := (PySem.W.toks_eqv _ _ (al a b)).2 e [.inl 0] [.inl 1]
    rw [h, PySem.W.lex_pre, PySem.W.lex_one, PyProof.Rows.lex_irrefl] at this
    exact absurd this (by decide)
theorem z49 (a b : α) : PySem.W.dataLe false py (f a) (f b) = !PyProof.Rows.lexLt itemOrd (PySem.W.keyToks (py (f b))) (PySem.W.keyToks (py (f a))) := by
  rw [PySem.W.dataLe_eq]
  rfl
theorem zafi (a b c : α) (h1 : PySem.W.dataLe false py (f a) (f b) = true) (h2 : PySem.W.dataLe false py (f b) (f c) = true) : PySem.W.dataLe false py (f a) (f c) = true := by
  rw [z49, Bool.not_eq_true'] at *
  cases e : PyProof.Rows.lexLt itemOrd (PySem.W.keyToks (py (f c))) (PySem.W.keyToks (py (f a))) with
  | false => rfl
  | true =>
    rcases PyProof.Rows.lex_negTrans _ (PySem.W.keyToks (py (f b))) _ e with h | h
    · rw [h] at h2; cases h2
    · rw [h] at h1; cases h1
theorem zae5 (a b : α) : (PySem.W.dataLe false py (f a) (f b) || PySem.W.dataLe false py (f b) (f a)) = true := by
  rw [z49, z49]
  cases e : PyProof.Rows.lexLt itemOrd (PySem.W.keyToks (py (f b))) (PySem.W.keyToks (py (f a))) with
  | false => rfl
  | true =>
    cases e2 : PyProof.Rows.lexLt itemOrd (PySem.W.keyToks (py (f a))) (PySem.W.keyToks (py (f b))) with
    | false => rfl
    | true =>
      have := PyProof.Rows.lex_trans _ _ _ e e2
      rw [PyProof.Rows.lex_irrefl] at this
      cases this
theorem zach (cl : ∀ a, zb6 (f a) = true) (al : ∀ a b, PySem.W.alike (py (f a)) (py (f b)) = true) (fi : ∀ a b, f a = f b → a = b) (a b : α) (h1 : PySem.W.dataLe false py (f a) (f b) = true) (h2 : PySem.W.dataLe false py (f b) (f a) = true) : a = b := by
  rw [z49, Bool.not_eq_true'] at h1 h2
  exact zaai cl al fi ((PyProof.Rows.listOrd itemOrd).total _ _ h2 h1)
theorem z4v (xs : List α) : (srtT f xs).Pairwise fun a b => PySem.W.dataLe false py (f a) (f b) = true :=
  List.pairwise_mergeSort (le := fun a b => PySem.W.dataLe false py (f a) (f b)) zafi zae5 xs
theorem z9z (cl : ∀ a, zb6 (f a) = true) (al : ∀ a b, PySem.W.alike (py (f a)) (py (f b)) = true) (fi : ∀ a b, f a = f b → a = b) {xs ys : List α} (p : xs.Perm ys) : srtT f xs = srtT f ys :=
  znd (le := fun a b => PySem.W.dataLe false py (f a) (f b)) (zach cl al fi) ((zdj f xs).trans (p.trans (zdj f ys).symm)) (z4v xs) (z4v ys)
end
theorem z4e {α β : Type} {f : α → β} (h : ∀ {a b}, f a = f b → a = b) : ∀ {xs ys : List α}, xs.map f = ys.map f → xs = ys
  | [], [], _ => rfl
  | [], _ :: _, e => by cases e
  | _ :: _, [], e => by cases e
  | x :: xs, y :: ys, e => by
    simp only [List.map_cons, List.cons.injEq] at e
    rw [h e.1, z4e h e.2]
theorem zabi {α : Type} {f : α → D} (h : ∀ {a b}, f a = f b → a = b) {xs ys : List α} (e : eT f xs = eT f ys) : xs = ys := by
  have e2 : D.nd .tup (xs.map f) = .nd .tup (ys.map f) := e
  injection e2 with _ e3
  exact z4e h e3
end M
namespace M
open PySem PySem.Spec PyProof.Rows L2 DL
variable [CA]
/-- points with a crater each, near its place; the rest few, sure craters besides few -/
structure FitI (c : Cam) (cs : List Pt) (pic : List Pt) (st : Pt) (Z : List (Pt × Pt)) (rest M : List Pt) : Prop where
  pp : (Z.map (·.1) ++ rest).Perm pic
  inn : ∀ z ∈ Z, z.2 ∈ cs
  nd : (Z.map (·.2)).Nodup
  near : ∀ z ∈ Z, zno z.1 (plc z.2 st) c.er
  fa : (rest.length : Int) ≤ c.fa
  su : ∀ x ∈ cs, x ∉ Z.map (·.2) → inC c (plc x st).1 (plc x st).2.1 (0 - c.er) → x ∈ M
  lo : (M.length : Int) ≤ c.lo
theorem z1c {s : Sk} {st : Pt} {a : Int} : a ∈ zee s st ↔ ∃ (i : Nat) (p : Pt), a = i ∧ (zbw s st)[i]? = some p ∧ inC s.cam p.1 p.2.1 (0 - s.cam.er) := by
  rw [zop, zw8]
  constructor
  · rintro ⟨i, p, e, h, d⟩; exact ⟨i, p, e, h, of_decide_eq_true d⟩
  · rintro ⟨i, p, e, h, d⟩; exact ⟨i, p, e, h, decide_eq_true d⟩
theorem zady {s : Sk} {st : Pt} {i : Nat} {p : Pt} (h : (zbw s st)[i]? = some p) : ∃ x, s.cs[i]? = some x ∧ plc x st = p := by
  unfold zbw at h
  rw [List.getElem?_map] at h
  cases e : s.cs[i]? with
  | none => rw [e] at h; cases h
  | some x => rw [e] at h; exact ⟨x, rfl, Option.some.inj h⟩
theorem zaek {s : Sk} {pic : List Pt} {st : Pt} {Z : List (Pt × Pt)} {rest M : List Pt} (nd : s.cs.Nodup) (F : FitI s.cam s.cs pic st Z rest M) : FitP s pic st := by
  have ix : ∀ c ∈ s.cs, s.cs[s.cs.idxOf c]? = some c := fun c hc => by
    have hlt := List.idxOf_lt_length_iff.mpr hc
    rw [List.getElem?_eq_getElem hlt, List.getElem_idxOf hlt]
  have ixi : ∀ {i : Nat} {c : Pt}, s.cs[i]? = some c → s.cs.idxOf c = i := fun {i c} h => by
    have hlt := (List.getElem?_eq_some_iff.mp h).1
    exact ((List.getElem?_inj (i := i) (j := s.cs.idxOf c) hlt nd).mp (h.trans (ix c (List.mem_of_getElem? h)).symm)).symm
  have k1 : (Z.mapIdx fun i z => (((s.cs.idxOf z.2 : Nat) : Int), i)).map (·.1) = Z.map fun z => ((s.cs.idxOf z.2 : Nat) : Int) := by
    refine List.ext_getElem? fun i => ?_
    rw [List.getElem?_map, List.getElem?_mapIdx, List.getElem?_map]
    cases Z[i]? <;> rfl
  have k2 : (Z.mapIdx fun i z => (((s.cs.idxOf z.2 : Nat) : Int), i)).map (·.2) = List.range Z.length := by
    refine List.ext_getElem? fun i => ?_
    rw [List.getElem?_map, List.getElem?_mapIdx]
    by_cases hi : i < Z.length
    · rw [List.getElem?_eq_getElem hi, List.getElem?_eq_getElem (by rw [List.length_range]; exact hi), List.getElem_range]; rfl
    · rw [List.getElem?_eq_none (by omega), List.getElem?_eq_none (by rw [List.length_range]; omega)]; rfl
  have lost : ∀ a ∈ (zee s st).filter fun a => decide (a ∉ Z.map fun z => ((s.cs.idxOf z.2 : Nat) : Int)), ∃ (i : Nat) (c : Pt), a = i ∧ s.cs[i]? = some c ∧ c ∈ M := fun a ha => by
    obtain ⟨g1, g2⟩ := List.mem_filter.mp ha
    have g2 := of_decide_eq_true g2
    obtain ⟨i, p, rfl, hp, hin⟩ := z1c.mp g1
    obtain ⟨c, ec, rfl⟩ := zady hp
    refine ⟨i, c, rfl, ec, F.su c (List.mem_of_getElem? ec) (fun hz => g2 ?_) hin⟩
    obtain ⟨z, hz, e⟩ := List.mem_map.mp hz
    exact List.mem_map.mpr ⟨z, hz, by rw [e, ixi ec]⟩
  refine zaab F.pp (zadz (P := Z.mapIdx fun i z => (((s.cs.idxOf z.2 : Nat) : Int), i)) ⟨?_, ?_, fun x hx => ?_, ?_, ?_⟩)
  · rw [k1]
    refine List.pairwise_map.mpr ((List.pairwise_map.mp F.nd).imp_of_mem fun {a b} ha hb n e => n ?_)
    have e2 : s.cs.idxOf a.2 = s.cs.idxOf b.2 := by omega
    have h3 := ix _ (F.inn a ha)
    rw [e2, ix _ (F.inn b hb)] at h3
    exact (Option.some.inj h3).symm
  · rw [k2]; exact List.nodup_range
  · rw [List.mem_mapIdx] at hx
    obtain ⟨i, hi, e⟩ := hx
    cases e
    have hz := List.getElem_mem hi
    refine ⟨Z[i].1, ?_, s.cs.idxOf Z[i].2, plc Z[i].2 st, rfl, ?_, F.near _ hz⟩
    · rw [List.getElem?_append_left (by rw [List.length_map]; exact hi), List.getElem?_map, List.getElem?_eq_getElem hi]; rfl
    · unfold zbw
      rw [List.getElem?_map, ix _ (F.inn _ hz)]
      rfl
  · have := F.fa
    rw [List.length_append, List.length_map, List.length_mapIdx]
    omega
  · rw [k1]
    refine Int.le_trans ?_ F.lo
    have nd2 := (zqu s st).filter fun a => decide (a ∉ Z.map fun z => ((s.cs.idxOf z.2 : Nat) : Int))
    generalize (zee s st).filter (fun a => decide (a ∉ Z.map fun z => ((s.cs.idxOf z.2 : Nat) : Int))) = L at lost nd2 ⊢
    have hnd : (L.map fun a : Int => (s.cs[a.toNat]?).getD (0, 0, 0)).Nodup := List.pairwise_map.mpr (nd2.imp_of_mem fun {a b} ha hb n e => n (by
      obtain ⟨i, c, rfl, ec, _⟩ := lost a ha
      obtain ⟨j, d, rfl, ed, _⟩ := lost b hb
      rw [Int.toNat_natCast, Int.toNat_natCast, ec, ed] at e
      have e2 : c = d := e
      subst e2
      rw [← ixi ec, ← ixi ed]))
    have := zjk (xs := M) hnd fun y hy => by
      obtain ⟨a, ha, rfl⟩ := List.mem_map.mp hy
      obtain ⟨i, c, rfl, ec, hM⟩ := lost a ha
      rw [Int.toNat_natCast, ec]
      exact hM
    rw [List.length_map] at this
    omega
theorem zaem {s : Sk} {pic : List Pt} {st : Pt} (nd : s.cs.Nodup) (h : FitP s pic st) : ∃ Z rest M, FitI s.cam s.cs pic st Z rest M := by
  obtain ⟨P, m⟩ := zad7 h
  have at_ : ∀ x ∈ P, ∃ (p c : Pt), pic[x.2]? = some p ∧ s.cs[x.1.toNat]? = some c ∧ 0 ≤ x.1 ∧ zno p (plc c st) s.cam.er := fun x hx => by
    obtain ⟨p, e, i, q, e1, e2, n⟩ := m.near x hx
    obtain ⟨c, ec, rfl⟩ := zady e2
    exact ⟨p, c, e, by rw [e1, Int.toNat_natCast]; exact ec, by omega, n⟩
  let g : Int × Nat → Pt × Pt := fun x => ((pic[x.2]?).getD (0, 0, 0), (s.cs[x.1.toNat]?).getD (0, 0, 0))
  have hg : ∀ x ∈ P, pic[x.2]? = some (g x).1 ∧ s.cs[x.1.toNat]? = some (g x).2 ∧ 0 ≤ x.1 ∧ zno (g x).1 (plc (g x).2 st) s.cam.er := fun x hx => by
    obtain ⟨p, c, e1, e2, e3', n⟩ := at_ x hx
    have h1 : (g x).1 = p := by show (pic[x.2]?).getD _ = p; rw [e1]; rfl
    have h2 : (g x).2 = c := by show (s.cs[x.1.toNat]?).getD _ = c; rw [e2]; rfl
    rw [h1, h2]
    exact ⟨e1, e2, e3', n⟩
  let nr : List Nat := (List.range pic.length).filter fun n => decide (n ∉ P.map (·.2))
  let rp : Nat → Pt := fun n => (pic[n]?).getD (0, 0, 0)
  have hnr : (P.map (·.2) ++ nr).Perm (List.range pic.length) := by
    refine zmy (List.nodup_append.mpr ⟨m.nd2, List.nodup_range.filter _, fun a ha b hb e => ?_⟩) List.nodup_range fun n => ?_
    · have := of_decide_eq_true (List.mem_filter.mp hb).2
      rw [← e] at this
      exact this ha
    · rw [List.mem_append, List.mem_range]
      constructor
      · rintro (h | h)
        · obtain ⟨x, hx, rfl⟩ := List.mem_map.mp h
          exact (List.getElem?_eq_some_iff.mp (hg x hx).1).1
        · exact List.mem_range.mp (List.mem_filter.mp h).1
      · intro h
        by_cases hn : n ∈ P.map (·.2)
        · exact .inl hn
        · exact .inr (List.mem_filter.mpr ⟨List.mem_range.mpr h, decide_eq_true hn⟩)
  have hrange : (List.range pic.length).map rp = pic := by
    refine List.ext_getElem? fun i => ?_
    rw [List.getElem?_map]
    by_cases hi : i < pic.length
    · rw [List.getElem?_range hi]
      show some ((pic[i]?).getD _) = _
      rw [List.getElem?_eq_getElem hi]; rfl
    · rw [List.getElem?_eq_none (by rw [List.length_range]; omega), List.getElem?_eq_none (by omega)]; rfl
  have hlen : P.length + nr.length = pic.length := by
    have := hnr.length_eq
    rw [List.length_append, List.length_map, List.length_range] at this
    exact this
  refine ⟨P.map g, nr.map rp, (((zee s st).filter fun a => decide (a ∉ P.map (·.1))).map fun a : Int => (s.cs[a.toNat]?).getD (0, 0, 0)), ⟨?_, fun z hz => ?_, ?_, fun z hz => ?_, ?_, fun x hx hn hin => ?_, ?_⟩⟩
  · have e : (P.map g).map (·.1) = (P.map (·.2)).map rp := by rw [List.map_map, List.map_map]; rfl
    rw [e, ← List.map_append]
    have := hnr.map rp
    rwa [hrange] at this
  · obtain ⟨x, hx, rfl⟩ := List.mem_map.mp hz
    exact List.mem_of_getElem? (hg x hx).2.1
  · rw [List.map_map]
    refine List.pairwise_map.mpr ((List.pairwise_map.mp m.nd).imp_of_mem fun {a b} ha hb n e => n ?_)
    have e1 := (hg a ha).2
    have e2 := (hg b hb).2
    have e3' : (g a).2 = (g b).2 := e
    rw [e3'] at e1
    have hlt := (List.getElem?_eq_some_iff.mp e1.1).1
    have := (List.getElem?_inj (i := a.1.toNat) (j := b.1.toNat) hlt nd).mp (e1.1.trans e2.1.symm)
    have := e1.2.1
    have := e2.2.1
    omega
  · obtain ⟨x, hx, rfl⟩ := List.mem_map.mp hz
    exact (hg x hx).2.2.2
  · have := m.fa
    rw [List.length_map]
    omega
  · obtain ⟨i, hi, ei⟩ := List.getElem_of_mem hx
    have ec : s.cs[i]? = some x := by rw [List.getElem?_eq_getElem hi, ei]
    refine List.mem_map.mpr ⟨(i : Int), List.mem_filter.mpr ⟨z1c.mpr ⟨i, plc x st, rfl, ?_, hin⟩, decide_eq_true fun hz => hn ?_⟩, ?_⟩
    · unfold zbw
      rw [List.getElem?_map, ec]; rfl
    · obtain ⟨y, hy, e⟩ := List.mem_map.mp hz
      refine List.mem_map.mpr ⟨g y, List.mem_map.mpr ⟨y, hy, rfl⟩, ?_⟩
      have e1 := (hg y hy).2.1
      have e' : y.1 = (i : Int) := e
      rw [e', Int.toNat_natCast, ec] at e1
      exact (Option.some.inj e1).symm
    · show (s.cs[((i : Int)).toNat]?).getD _ = x
      rw [Int.toNat_natCast, ec]; rfl
  · rw [List.length_map]
    exact m.lo
def camA (c : Cam) (n : Int) : Cam := ⟨c.w, c.h, c.er, c.fa, n⟩
def camB (c : Cam) (n : Int) : Cam := ⟨c.w, c.h, c.er, n, c.lo⟩
theorem z9p {s : Sk} {pic : List Pt} {st : Pt} : FitA s pic st ↔ FitP ⟨s.cs, camA s.cam (zee s st).length, s.tu, s.ar⟩ pic st := by
  constructor
  · intro h
    refine ⟨h, [], .nil _, ?_⟩
    show ((zee s st).length : Int) - ((zee s st).length : Int) ≤ 0
    omega
  · rintro ⟨h, _⟩
    exact h
theorem z5f {s : Sk} {pic : List Pt} {st : Pt} : FitB s pic st ↔ FitP ⟨s.cs, camB s.cam pic.length, s.tu, s.ar⟩ pic st := by
  constructor
  · intro h
    refine ⟨⟨[], .nil _, ?_⟩, h⟩
    show (pic.length : Int) - (pic.length : Int) ≤ 0
    omega
  · rintro ⟨_, h⟩
    exact h
/-- the sky of some craters, one standing alone -/
def skAt (c : Cam) (cr : List Pt) (st : Pt) : Sk := ⟨srtT e3 cr, c, [st.1], (st.2.1, st.2.1, st.2.2, st.2.2)⟩
theorem z0c {c : Cam} {cr : List Pt} {st : Pt} : (skAt c cr st).cs.Nodup ↔ cr.Nodup := (zdj e3 cr).nodup_iff
theorem zne {c : Cam} {cr : List Pt} {st x : Pt} : x ∈ (skAt c cr st).cs ↔ x ∈ cr := (zdj e3 cr).mem_iff
/-- more craters: points are told as well -/
theorem z7x {c : Cam} {cr cr' : List Pt} {pic : List Pt} {st : Pt} (nd : cr.Nodup) (nd' : cr'.Nodup) (h : ∀ x ∈ cr, x ∈ cr') (f : FitA (skAt c cr st) pic st) : FitA (skAt c cr' st) pic st := by
  obtain ⟨Z, rest, M, F⟩ := zaem (s := ⟨(skAt c cr st).cs, camA c _, _, _⟩) (z0c.mpr nd) (z9p.mp f)
  obtain ⟨P, _⟩ : FitP ⟨(skAt c cr' st).cs, camA c (skAt c cr' st).cs.length, [st.1], (st.2.1, st.2.1, st.2.2, st.2.2)⟩ pic st :=
    zaek (Z := Z) (rest := rest) (M := (skAt c cr' st).cs) (z0c.mpr nd') ⟨F.pp, fun z hz => zne.mpr (h _ (zne.mp (F.inn z hz))), F.nd, F.near, F.fa, fun x hx _ _ => hx, Int.le_refl _⟩
  exact P
/-- fewer craters: they are seen as well -/
theorem z62 {c : Cam} {cr cr' : List Pt} {pic : List Pt} {st : Pt} (nd : cr.Nodup) (nd' : cr'.Nodup) (h : ∀ x ∈ cr, x ∈ cr') (f : FitB (skAt c cr' st) pic st) : FitB (skAt c cr st) pic st := by
  obtain ⟨Z, rest, M, F⟩ := zaem (s := ⟨(skAt c cr' st).cs, camB c pic.length, _, _⟩) (z0c.mpr nd') (z5f.mp f)
  refine z5f.mpr (zaek (s := ⟨(skAt c cr st).cs, camB c pic.length, _, _⟩) (Z := Z.filter fun z => decide (z.2 ∈ cr)) (rest := (Z.filter fun z => !decide (z.2 ∈ cr)).map (·.1) ++ rest) (M := M) (z0c.mpr nd) ⟨?_, fun z hz => ?_, ?_, fun z hz => F.near z (List.mem_filter.mp hz).1, ?_, fun x hx hn hin => ?_, F.lo⟩)
  · refine List.Perm.trans ?_ F.pp
    rw [← List.append_assoc, ← List.map_append]
    exact List.Perm.append_right _ ((List.filter_append_perm (fun z : Pt × Pt => decide (z.2 ∈ cr)) Z).map _)
  · exact zne.mpr (of_decide_eq_true (List.mem_filter.mp hz).2)
  · exact F.nd.sublist (List.filter_sublist.map _)
  · show (_ : Int) ≤ (pic.length : Int)
    have h1 := F.pp.length_eq
    have h2 := List.length_filter_le (fun z : Pt × Pt => !decide (z.2 ∈ cr)) Z
    rw [List.length_append, List.length_map] at h1
    rw [List.length_append, List.length_map]
    omega
  · refine F.su x (zne.mpr (h x (zne.mp hx))) (fun hz => hn ?_) hin
    obtain ⟨z, hz, e⟩ := List.mem_map.mp hz
    exact List.mem_map.mpr ⟨z, List.mem_filter.mpr ⟨hz, decide_eq_true (by rw [e]; exact zne.mp hx)⟩, e⟩
end M
namespace M
open PySem PySem.Spec PyProof.Rows L2 DL
variable [CA]
structure Su where
  si : List Pt
  cam : Cam
  lk : List (Pt × List Pt)
def eLk (l : Pt × List Pt) : D := .nd .tup [e3 l.1, eT e3 l.2]
def suD (u : Su) : D := .nd (.ins CA.Survey ["sites", "camera", "looks"]) [eT e3 u.si, cD u.cam, eT eLk u.lk]
theorem zu6 {u : Su} {G : DHp} : fldD CA.Survey "sites" (suD u) G = some (eT e3 u.si) := by unfold suD; rw [zlg]; rfl
theorem z0v {u : Su} {G : DHp} : fldD CA.Survey "camera" (suD u) G = some (cD u.cam) := by unfold suD; rw [zlg]; rfl
theorem z5k {u : Su} {G : DHp} : fldD CA.Survey "looks" (suD u) G = some (eT eLk u.lk) := by unfold suD; rw [zlg]; rfl
theorem zy2 {u : Su} {m : Str} {G : DHp} (h : (["sites", "camera", "looks"] : List Str).contains m = false) : insD CA.Survey m (suD u) G := ⟨rfl, h⟩
structure OkSt (st : Pt) : Prop where
  t : 0 ≤ st.1 ∧ st.1 ≤ 3
  x : -1000000 ≤ st.2.1 ∧ st.2.1 ≤ 1000000
  y : -1000000 ≤ st.2.2 ∧ st.2.2 ≤ 1000000
structure z30 (cr : List Pt) : Prop where
  len : cr.length ≤ 90
  bd : ∀ p ∈ cr, okPt (0 - 1000000) 1000000 p
structure OkSu (u : Su) : Prop where
  lk : ∀ l ∈ u.lk, OkSt l.1 ∧ l.2.length ≤ 1000
theorem z93 {st : Pt} (h : OkSt st) : OkSI [st.1] (st.2.1, st.2.1, st.2.2, st.2.2) := by
  have h1 := h.t
  have h2 := h.x
  have h3 := h.y
  refine ⟨by simp, fun t ht => by rw [List.mem_singleton.mp ht]; exact h1, List.pairwise_singleton _ _, Nat.le_of_ble_eq_true rfl, ⟨h2.1, Int.le_refl _, h2.2⟩, ⟨h3.1, Int.le_refl _, h3.2⟩, ?_⟩
  show (1 : Int) * (st.2.1 - st.2.1 + 1) * (st.2.2 - st.2.2 + 1) ≤ 40000
  rw [Int.sub_self, Int.sub_self]
  decide
theorem zr5 {c : Cam} {cr : List Pt} {st : Pt} : (skAt c cr st).cs.length = cr.length := (zdj e3 cr).length_eq
/-- a sky of one standing, made -/
theorem z5y {c : Cam} {cr : List Pt} {st : Pt} {G : DHp} {Q : DVK} (h : OkSt st) (q : Q (sD (skAt c cr st)) G) {x : Addr} (hx : G x = none) :
    zb0 [.ref x, gD (srtT e3 cr), cD c, .nd .tup [.int st.1], .nd .tup [.int st.2.1, .int st.2.1, .int st.2.2, .int st.2.2]] (up G x (.ins CA.Sky [])) fun d G2 => d = .non ∧ (match G2 x with | some o => Q o.tree (dl G2 x) | none => False) := by
  refine ⟨x, skAt c cr st, rfl, zi, z93 h, ?_⟩
  rw [zft]
  refine ⟨rfl, ?_⟩
  simp_arith only [zi, zbv hx]
  exact q
def zdg : DRn := fun ds G Q => ∃ (u : Su) (cr : List Pt) (st : Pt), ds = [suD u, eT e3 cr, e3 st] ∧ z30 cr ∧ OkSt st ∧ Q (sD (skAt u.cam cr st)) G
abbrev zlw : List Str := ["self", "craters", "standing", "turn", "first", "second"]
def zo3 : DTS :=
    (dSeq (dAsg (zd 2) (zgd (zam (zk 3) (zam (zk 4) (zam (zk 5) zgc))) 3))
    (dRet (dFz (zrt CA.Sky zb0 (ze (dFz (zrt CA.Ground zag (ze (zd 1) dNil))) (ze (dFld CA.Survey "camera" (zd 0)) (ze (dTup (ze (zd 3) dNil)) (ze (dTup (ze (zd 4) (ze (zd 4) (ze (zd 5) (ze (zd 5) dNil))))) dNil))))))))
theorem zxw : ∀ ds G Q, zdg ds G Q → ds.length = 3 := fun ds G Q ⟨_, _, _, e, _⟩ => by rw [e]; rfl
theorem zxh : ∀ ds G Q, zdg ds G Q → zo3 { nx := fun _ G' => Q .non G', rt := Q } (za4 zlw ds) G := fun ds G Q h => by
  obtain ⟨u, cr, st, rfl, oc, os, q⟩ := h
  have hl := oc.len
  simp_arith only [zo3, zlw, e3, zrt]
  intro x hx
  refine ⟨x, cr, rfl, .inr rfl, zi, by omega, oc.bd, ?_⟩
  rw [zft]
  refine ⟨rfl, ?_⟩
  simp_arith only [zi, zbv hx, dFld, z0v]
  intro y hy
  exact z5y os q hy
def zax : DRn := fun ds G Q => ∃ (u : Su) (p : Pt) (pl : List Pt), ds = [suD u, e3 p, eL e3 pl] ∧ pl.length ≤ 100 ∧ Q (eL .int (zx9 pl u.cam.er p)) G
abbrev zef : List Str := ["self", "point", "places", "at", "place"]
def zie : DTS :=
    (dRet (dFz (dLc (zjg (ze (zd 2) dNil)) (zgd (zam (zk 3) (zam (zk 4) zgc)) 2) (zau (dCB zid (ze (zd 1) (ze (zd 4) (ze (dFld CA.Camera "error" (dFld CA.Survey "camera" (zd 0))) dNil))))) (zd 3) [3, 4])))
theorem zol : ∀ ds G Q, zax ds G Q → ds.length = 3 := fun ds G Q ⟨_, _, _, e, _⟩ => by rw [e]; rfl
theorem zpb : ∀ ds G Q, zax ds G Q → zie { nx := fun _ G' => Q .non G', rt := Q } (za4 zef ds) G := fun ds G Q h => by
  obtain ⟨u, p, pl, rfl, hl, q⟩ := h
  simp_arith only [zie, zef]
  refine z2o (xs := pl.mapIdx fun i x => ((i : Int), x)) (f := fun z => .nd .tup [.int z.1, e3 z.2]) (fun z => decide (zno p z.2 u.cam.er)) (fun z => .int z.1) (by rw [List.length_mapIdx]; omega) (fun R r => ?_) (fun z hz G1 A B ka kb => ?_) fun w hw => ?_
  · simp_arith only [zjg, eL]
    rw [z64]
    exact r
  · simp_arith only [dFld, z0v, znv]
    refine ⟨p, z.2, u.cam.er, rfl, ?_⟩
    by_cases h1 : zno p z.2 u.cam.er
    · rw [decide_eq_true h1]
      simp_arith only [true_and]
      exact ka (decide_eq_true h1)
    · rw [decide_eq_false h1]
      simp_arith only [true_and]
      exact kb (decide_eq_false h1)
  · simp_arith only [zi, zbv hw, DO.tree]
    have e : ((pl.mapIdx fun i x => ((i : Int), x)).filter fun z => decide (zno p z.2 u.cam.er)).map (fun z => D.int z.1) = (zx9 pl u.cam.er p).map .int := by
      unfold zx9 whr
      generalize (pl.mapIdx fun i x => ((i : Int), x)) = L
      induction L with
      | nil => rfl
      | cons z L ih =>
        by_cases hz : zno p z.2 u.cam.er
        · have hz1 : decide (zno p z.2 u.cam.er) = true := decide_eq_true hz
          simp only [List.filter_cons, List.filterMap_cons, hz1, if_true, List.map_cons]
          rw [ih]
        · have hz1 : decide (zno p z.2 u.cam.er) = false := decide_eq_false hz
          simp only [List.filter_cons, List.filterMap_cons, hz1, if_false, Bool.false_eq_true]
          exact ih
    rw [e]
    exact q
def zab : DRn := fun ds G Q => ∃ (u : Su) (cr : List Pt), ds = [suD u, eT e3 cr] ∧ OkSu u ∧ z30 cr ∧ ∀ b : Bool, (b = true ↔ ∀ l ∈ u.lk, FitA (skAt u.cam cr l.1) l.2 l.1) → Q (.bl b) G
abbrev zct : List Str := ["self", "craters", "standing", "picture", "places", "nexts", "point"]
def zfp : DTS :=
    (dSeq (dFor (zb5 (dFld CA.Survey "looks" (zd 0))) (zgd (zam (zk 2) (zam (zk 3) zgc)) 2)
    (dSeq (dAsg (zje CA.Sky "places" zap (zje CA.Survey "sky" zdg (zd 0) (ze (zd 1) (ze (zd 2) dNil))) (ze (zd 2) dNil)) (zk 4))
    (dSeq (dAsg (dLc (zb5 (zd 3)) (zk 6) dYes (zje CA.Survey "places_for" zax (zd 0) (ze (zd 6) (ze (zd 4) dNil))) [6]) (zk 5))
    (dFrz 5 (dIfS (zau (dOp dGt (dOp dSub (dCB dLen (ze (zd 3) dNil)) (dCB dLen (ze (dCB zfj (ze (zd 5) dNil)) dNil))) (dFld CA.Camera "false" (dFld CA.Survey "camera" (zd 0)))))
    (dRet (dC (.bl false)))
    zdh)))))
    (dRet (dC (.bl true))))
theorem zlp : ∀ ds G Q, zab ds G Q → ds.length = 2 := fun ds G Q ⟨_, _, e, _⟩ => by rw [e]; rfl
theorem zlq : ∀ ds G Q, zab ds G Q → zfp { nx := fun _ G' => Q .non G', rt := Q } (za4 zct ds) G := fun ds G Q h => by
  obtain ⟨u, cr, rfl, ou, oc, q⟩ := h
  have hl := oc.len
  simp_arith only [zfp, zct, dFor, zb5, dFld, z5k]
  refine ⟨fun i η G' => ∃ x2 x3 x4 x5 x6, η = [some (suD u), some (eT e3 cr), x2, x3, x4, x5, x6] ∧ G' = G ∧ ∀ l ∈ u.lk.take i, FitA (skAt u.cam cr l.1) l.2 l.1, ⟨none, none, none, none, none, rfl, rfl, fun l hl => by simp at hl⟩, fun _ _ _ _ => trivial, ?_, ?_⟩
  · rintro i d η G' hd ⟨x2, x3, x4, x5, x6, rfl, rfl, ok⟩
    obtain ⟨l, hlk, rfl⟩ := zbz hd
    obtain ⟨ost, opl⟩ := ou.lk l (List.mem_of_getElem? hlk)
    simp_arith only [eLk, zje]
    refine ⟨zy2 (by decide), u, cr, l.1, rfl, oc, ost, zrd (by decide), skAt u.cam cr l.1, l.1, rfl, by rw [zr5]; omega, ?_⟩
    simp_arith only [true_and]
    refine zmn (xs := l.2) (f := e3) (fun p => eL .int (zx9 (zbw (skAt u.cam cr l.1) l.1) u.cam.er p)) (by omega) (fun R r => by simp_arith only [zb5, eT]; exact r) (fun p hp G1 A k => ?_) fun w hw => ?_
    · simp_arith only [true_and]
      exact ⟨zy2 (by decide), u, p, _, rfl, by rw [zsa, zr5]; omega, k⟩
    · simp_arith only [zi, zbv hw, DO.tree]
      refine ⟨nxL (skAt u.cam cr l.1) l.2 l.1, ?_, by rw [zyk]; exact opl, fun P gr => ?_⟩
      · unfold nxL eN eL
        rw [List.map_map]
        rfl
      · simp_arith only [zyi, z3a, List.length_map, ztk, dFld, z0v, zzg, zaa9]
        by_cases h1 : u.cam.fa < (l.2.length : Int) - P.length
        · rw [if_pos h1]
          refine q false ⟨fun z => (by cases z), fun z => ?_⟩
          exact absurd (z l (List.mem_of_getElem? hlk)) (zaa5 gr (by show (P.length : Int) < l.2.length - u.cam.fa; omega))
        · rw [if_neg h1]
          refine ⟨_, (by repeat (first | exact Le.nil | apply Le.keep | apply Le.drop)), _, _, _, _, _, rfl, rfl, fun m hm => ?_⟩
          rw [zdz hlk] at hm
          rcases List.mem_append.mp hm with hm | hm
          · exact ok m hm
          · rw [List.mem_singleton.mp hm]
            exact ⟨P, gr.mt, by show (l.2.length : Int) - u.cam.fa ≤ P.length; omega⟩
  · rintro η G' ⟨x2, x3, x4, x5, x6, rfl, rfl, ok⟩
    rw [List.length_map, List.take_length] at ok
    exact q true ⟨fun _ => ok, fun _ => rfl⟩
def z4 : DRn := fun ds G Q => ∃ (u : Su) (cr : List Pt), ds = [suD u, eT e3 cr] ∧ OkSu u ∧ z30 cr ∧ ∀ b : Bool, (b = true ↔ ∀ l ∈ u.lk, FitB (skAt u.cam cr l.1) l.2 l.1) → Q (.bl b) G
abbrev zbp : List Str := ["self", "craters", "standing", "picture", "sky", "places", "backs", "sure", "point", "number"]
def zfl : DTS :=
    (dSeq (dFor (zb5 (dFld CA.Survey "looks" (zd 0))) (zgd (zam (zk 2) (zam (zk 3) zgc)) 2)
    (dSeq (dAsg (zje CA.Survey "sky" zdg (zd 0) (ze (zd 1) (ze (zd 2) dNil))) (zk 4))
    (dSeq (dAsg (zje CA.Sky "places" zap (zd 4) (ze (zd 2) dNil)) (zk 5))
    (dSeq (dAsg (dCB zeg (ze (dFz (dLc (zb5 (zd 3)) (zk 8) dYes (zje CA.Survey "places_for" zax (zd 0) (ze (zd 8) (ze (zd 5) dNil))) [8])) (ze (dCB dLen (ze (zd 5) dNil)) dNil))) (zk 6))
    (dSeq (dAsg (zje CA.Sky "sure_craters" zcp (zd 4) (ze (zd 2) dNil)) (zk 7))
    (dIfS (zau (dOp dGt (dOp dSub (dCB dLen (ze (zd 7) dNil)) (dCB dLen (ze (dCB zfj (ze (dFz (dLc (zb5 (zd 7)) (zk 9) dYes (dOp dIx (zd 6) (zd 9)) [9])) dNil)) dNil))) (dFld CA.Camera "lost" (dFld CA.Survey "camera" (zd 0)))))
    (dRet (dC (.bl false)))
    zdh))))))
    (dRet (dC (.bl true))))
theorem zlj : ∀ ds G Q, z4 ds G Q → ds.length = 2 := fun ds G Q ⟨_, _, e, _⟩ => by rw [e]; rfl
theorem zk5 : ∀ ds G Q, z4 ds G Q → zfl { nx := fun _ G' => Q .non G', rt := Q } (za4 zbp ds) G := fun ds G Q h => by
  obtain ⟨u, cr, rfl, ou, oc, q⟩ := h
  have hl := oc.len
  simp_arith only [zfl, zbp, dFor, zb5, dFld, z5k]
  refine ⟨fun i η G' => ∃ x2 x3 x4 x5 x6 x7 x8 x9, η = [some (suD u), some (eT e3 cr), x2, x3, x4, x5, x6, x7, x8, x9] ∧ G' = G ∧ ∀ l ∈ u.lk.take i, FitB (skAt u.cam cr l.1) l.2 l.1, ⟨none, none, none, none, none, none, none, none, rfl, rfl, fun l hl => by simp at hl⟩, fun _ _ _ _ => trivial, ?_, ?_⟩
  · rintro i d η G' hd ⟨x2, x3, x4, x5, x6, x7, x8, x9, rfl, rfl, ok⟩
    obtain ⟨l, hlk, rfl⟩ := zbz hd
    obtain ⟨ost, opl⟩ := ou.lk l (List.mem_of_getElem? hlk)
    generalize hs : skAt u.cam cr l.1 = s
    have hscam : s.cam = u.cam := by rw [← hs]; rfl
    have hsl : s.cs.length = cr.length := by rw [← hs]; exact zr5
    simp_arith only [eLk, zje]
    refine ⟨zy2 (by decide), u, cr, l.1, rfl, oc, ost, ?_⟩
    rw [hs]
    refine ⟨zrd (by decide), s, l.1, rfl, by omega, ?_⟩
    simp_arith only [true_and]
    refine zmn (xs := l.2) (f := e3) (fun p => eL .int (zx9 (zbw s l.1) u.cam.er p)) (by omega) (fun R r => by simp_arith only [zb5, eT]; exact r) (fun p hp G1 A k => ?_) fun w hw => ?_
    · simp_arith only [true_and]
      exact ⟨zy2 (by decide), u, p, _, rfl, by rw [zsa]; omega, k⟩
    · simp_arith only [zi, zbv hw, DO.tree]
      rw [show (D.lst (l.2.map fun p => eL D.int (zx9 (zbw s l.1) u.cam.er p))) = eN (nxL s l.2 l.1) by unfold nxL eN eL; rw [List.map_map, hscam]; rfl]
      simp_arith only [zm0, zsa]
      refine ⟨nxL s l.2 l.1, (s.cs.length : Int), rfl, rfl, ⟨by omega, by omega⟩, by rw [zyk]; exact opl, fun r hr => ?_, fun r hr a ha => ?_, ?_⟩
      · obtain ⟨p, _, rfl⟩ := List.mem_map.mp hr
        exact Nat.le_trans (z3t _ _) (by rw [zsa]; omega)
      · obtain ⟨p, _, rfl⟩ := List.mem_map.mp hr
        have := zadp ha
        rw [zsa] at this
        exact this
      · simp_arith only [true_and]
        refine ⟨zrd (by decide), s, l.1, rfl, by omega, ?_⟩
        have hsu := z5q s l.1
        simp_arith only [zm0]
        refine zmn (xs := zee s l.1) (f := .int) (fun n => eL .int (nxt (bkN (nxL s l.2 l.1) s.cs.length) n)) (by omega) (fun R r => by simp_arith only [zb5, eL]; exact r) (fun n hn G1 A k => ?_) fun w2 hw2 => ?_
        · obtain ⟨n0, n1⟩ := z21 hn
          simp_arith only [true_and]
          exact z3s (f := eL .int) n0 (zabh ⟨n0, by rw [zaea]; omega⟩) k
        · simp_arith only [zi, zbv hw2, DO.tree]
          refine ⟨bkS s l.2 l.1, ?_, by rw [z3o]; omega, fun P gr => ?_⟩
          · unfold bkS eN eL
            rw [List.map_map]
            rfl
          · simp_arith only [zyi, dFld, z0v, z8r, zaa9]
            by_cases h1 : u.cam.lo < ((zee s l.1).length : Int) - P.length
            · rw [if_pos h1]
              refine q false ⟨fun z => (by cases z), fun z => ?_⟩
              have := z l (List.mem_of_getElem? hlk)
              rw [hs] at this
              exact absurd this (z90 gr (by rw [hscam]; omega))
            · rw [if_neg h1]
              refine ⟨_, (by repeat (first | exact Le.nil | apply Le.keep | apply Le.drop)), _, _, _, _, _, _, _, _, rfl, rfl, fun m hm => ?_⟩
              rw [zdz hlk] at hm
              rcases List.mem_append.mp hm with hm | hm
              · exact ok m hm
              · rw [List.mem_singleton.mp hm, hs]
                exact ⟨P, gr.mt, by rw [hscam]; omega⟩
  · rintro η G' ⟨x2, x3, x4, x5, x6, x7, x8, x9, rfl, rfl, ok⟩
    rw [List.length_map, List.take_length] at ok
    exact q true ⟨fun _ => ok, fun _ => rfl⟩
end M
namespace M
open PySem PySem.Spec PyProof.Rows L2 DL
variable [CA]
def zadd (si : List Pt) (d : D) : Prop := zacg d ∨ ∃ p ∈ si, d = e3 p
def zafj (n : Int) : XV := ⟨CA.BadGround, [("number", .int n)]⟩
def zafm (d : D) : XV := ⟨CA.BadStanding, [("standing", d)]⟩
def zbf : DRnX := fun ds G Q E => ∃ (x : Addr) (si : List Pt) (r1 : List D) (c : Cam) (lk : List (Pt × List Pt)) (r2 : List D),
  ds = [.ref x, .nd .lst (si.map e3 ++ r1), cD c, .nd .lst (lk.map eLk ++ r2)] ∧ G x = some (.ins CA.Survey []) ∧ si.length ≤ 90 ∧ (∀ p ∈ si, okPt (0 - 1000000) 1000000 p) ∧ si.Nodup ∧
  (∀ d r, r1 = d :: r → zadd si d ∧ ∀ k o, G k = none → E (zafj si.length) (up G k o)) ∧
  (r1 = [] → (∀ l ∈ lk, OkSt l.1 ∧ z1z c l.2) ∧ (r2 = [] → Q .non (up G x (.ins CA.Survey [("sites", eT e3 (srtT e3 si)), ("camera", cD c), ("looks", eT eLk lk)]))) ∧
    ∀ d r, r2 = d :: r → (∃ (st : Pt) (z : D), d = .nd .tup [e3 st, z] ∧ 3 < st.1 ∧ ∀ k o, G k = none → E (zafm (e3 st)) (up G k o)) ∨
      ∃ (st : Pt) (pic : List Pt) (b : D) (rr : List D), d = .nd .tup [e3 st, .nd .tup (pic.map e3 ++ b :: rr)] ∧ OkSt st ∧ z1z c pic ∧ z8i c b ∧ ∀ k o, G k = none → E (zabm pic.length) (up G k o))
abbrev zb3 : List Str := ["self", "sites", "camera", "looks", "known", "number", "site", "standing", "picture"]
def zhn (U : DXK) : DTS :=
    (dSeq (dAsg z89 (zk 4))
    (dSeq (dFor (zjg (ze (zd 1) dNil)) (zgd (zam (zk 5) (zam (zk 6) zgc)) 2)
    (dSeq (dIfS (dOr (zau (dOp dGe (zd 5) (dC (.int 100)))) (dOr (dNot (zau (dCB zc8 (ze (zd 6) (ze (dOp dSub (dC (.int 0)) (dC (.int 1000000))) (ze (dC (.int 1000000)) dNil)))))) (zau (dOp (dIn false) (zd 6) (zd 4)))))
    (zlv CA.BadGround "number" U (ze (zd 5) dNil))
    zdh)
    (dAsg (dC (.bl true)) (zok (zd 4) (zd 6) dSet))))
    (dSeq (dFor (zb5 (zd 3)) (zgd (zam (zk 7) (zam (zk 8) zgc)) 2)
    (dSeq (dIfS (dOr (dNot (zau (dCB (dIsi isT) (ze (zd 7) (ze (dC (.ty "tuple")) dNil))))) (dOr (zau (dOp dNe (dCB dLen (ze (zd 7) dNil)) (dC (.int 3)))) (dNot (zau (dCB zbe (ze (dOp dIx (zd 7) (dC (.int 0))) (ze (dC (.int 0)) (ze (dC (.int 3)) dNil))))))))
    (zlv CA.BadStanding "standing" U (ze (zd 7) dNil))
    zdh)
    (dSeq (dIfS (dNot (zau (dCB dAll (ze (dFz (dLc (zb5 (zeh dSl (zd 7) (zjh (dC (.int 1))) zc7)) (zk 5) dYes (dCB zbe (ze (zd 5) (ze (dOp dSub (dC (.int 0)) (dC (.int 1000000))) (ze (dC (.int 1000000)) dNil)))) [5])) dNil))))
    (zlv CA.BadStanding "standing" U (ze (zd 7) dNil))
    zdh)
    (zhu (z4h CA.Camera "check_picture" zbk U (zd 2) (ze (zd 8) dNil))))))
    (dFrz 4 (dSeq (zpt CA.Survey "sites" (zd 0) (dCB zmr (ze (dFz (dCB zvb (ze (zd 4) dNil))) dNil)))
    (dSeq (zpt CA.Survey "camera" (zd 0) (zd 2))
    (zpt CA.Survey "looks" (zd 0) (dCB zmr (ze (zd 3) dNil)))))))))
theorem zqs : ∀ ds G Q E, zbf ds G Q E → ds.length = 4 := fun ds G Q E ⟨_, _, _, _, _, _, e, _⟩ => by rw [e]; rfl
theorem z48 {α β : Type} [DecidableEq α] {kvs : List (α × β)} {k x : α} {v : β} : x ∈ (aput kvs k v).map (·.1) ↔ x ∈ kvs.map (·.1) ∨ x = k := by
  rw [zvl]
  cases e : (aget kvs k).isSome with
  | true =>
    rw [if_pos rfl]
    have := (zgr kvs k).mp e
    exact ⟨.inl, fun h => h.elim id fun h => by rw [h]; exact this⟩
  | false =>
    rw [if_neg (by simp), List.mem_append, List.mem_singleton]
theorem z1j {xs ys : List Pt} (p : xs.Perm ys) : srtT e3 xs = srtT e3 ys := z7g (g := fun a : Pt => [a.1, a.2.1, a.2.2]) (fun a b => zad6 a b) gi3 p
theorem zu4 {a : D} {ds : List D} {G : DHp} {Q : DVK} (q : Q (.nd .tup ds) G) : dSl (.nd .tup (a :: ds)) (some 1) none G Q := by
  show Q (.nd .tup (DL.cutD (a :: ds) (some 1) none)) G
  have := DL.zu8 (a :: ds) 1
  have e : DL.cutD (a :: ds) (some 1) none = ds := this
  rw [e]
  exact q
theorem zra : ∀ ds G Q E, zbf ds G Q E → zhn (fun x _ G' => E x G') { nx := fun _ G' => Q .non G', rt := Q } (za4 zb3 ds) G := fun ds G Q E h => by
  obtain ⟨x, si, r1, c, lk, r2, rfl, hG, hl, hok, nd, h1, h2⟩ := h
  simp_arith only [zhn, zb3, z89]
  intro k hk
  have hxk : x ≠ k := fun e => by rw [← e, hG] at hk; cases hk
  simp_arith only [dFor, zjg]
  refine ⟨fun i η G' => ∃ (kvs : List (Pt × Bool)) (x5 x6 : Option D), η = [some (.ref x), some (.nd .lst (si.map e3 ++ r1)), some (cD c), some (.nd .lst (lk.map eLk ++ r2)), some (.ref k), x5, x6, none, none] ∧ G' = up G k (.dN (enc DL.k3 .bl kvs)) ∧ i ≤ si.length ∧ (kvs.map (·.1)).Nodup ∧ (∀ y, y ∈ kvs.map (·.1) ↔ y ∈ si.take i) ∧ kvs.length ≤ i, ⟨[], none, none, rfl, rfl, Nat.zero_le _, List.nodup_nil, by simp, Nat.le_refl _⟩, fun _ _ _ _ => trivial, ?_, ?_⟩
  · rintro i d η G' hd ⟨kvs, x5, x6, rfl, rfl, hi, nk, hm, hkl⟩
    obtain ⟨z, hz, rfl⟩ := zhw hd
    by_cases hlt : i < si.length
    · rw [List.getElem?_append_left (by rw [List.length_map]; exact hlt)] at hz
      obtain ⟨p, hp, rfl⟩ := zbz hz
      have hnew : p ∉ kvs.map (·.1) := fun z => zacr nd hp ((hm p).mp z)
      simp_arith only [true_and]
      rw [if_neg (by omega)]
      refine .inl ⟨p, _, _, rfl, rfl, rfl, ?_⟩
      rw [decide_eq_true (hok p (List.mem_of_getElem? hp))]
      simp_arith only [true_and]
      refine z7u tk3 (f := D.bl) (kvs := kvs) (by show (match (up G k _) k with | some (.dN kvs) => some kvs | _ => none) = _; rw [zi]) ?_
      have hf : (aget kvs p).isSome = false := by
        cases e : (aget kvs p).isSome with
        | false => rfl
        | true => exact absurd ((zgr kvs p).mp e) hnew
      rw [hf]
      simp_arith only [true_and]
      refine z3x (f := D.bl) (b := true) tk3 zi (zas (by omega)) ?_
      rw [zft]
      have hlp := zux kvs p true
      refine ⟨_, (by repeat (first | exact Le.nil | apply Le.keep | apply Le.drop)), _, _, _, rfl, rfl, hlt, zfq _ _ _ nk, fun y => ?_, by omega⟩
      rw [z48, hm, zdz hp, List.mem_append, List.mem_singleton]
    · have ei : i = si.length := by omega
      subst ei
      rw [List.getElem?_append_right (by rw [List.length_map]; exact Nat.le_refl _), List.length_map, Nat.sub_self] at hz
      cases r1 with
      | nil => cases hz
      | cons d r =>
        cases hz
        obtain ⟨b, e⟩ := h1 _ _ rfl
        simp_arith only [true_and]
        rw [if_neg (by omega)]
        rcases b with b | ⟨p, hp, rfl⟩
        · refine .inr ⟨b, ?_⟩
          simp_arith only [zlv]
          exact e k _ hk
        · refine .inl ⟨p, _, _, rfl, rfl, rfl, ?_⟩
          rw [decide_eq_true (hok p hp)]
          simp_arith only [true_and]
          refine z7u tk3 (f := D.bl) (kvs := kvs) (by show (match (up G k _) k with | some (.dN kvs) => some kvs | _ => none) = _; rw [zi]) ?_
          have hf : (aget kvs p).isSome = true := (zgr kvs p).mpr ((hm p).mpr (by rw [List.take_length]; exact hp))
          rw [hf]
          simp_arith only [zlv]
          exact e k _ hk
  · rintro η G' ⟨kvs, x5, x6, rfl, rfl, hi, nk, hm, hkl⟩
    rw [zjw, List.length_append, List.length_map] at hi hm hkl
    have e1 : r1 = [] := List.length_eq_zero_iff.mp (by omega)
    subst e1
    rw [List.length_nil, Nat.add_zero, List.take_length] at hm
    obtain ⟨ok2, q1, q2⟩ := h2 rfl
    simp_arith only [dFor, zb5]
    refine ⟨fun i η G' => ∃ (x5 x7 x8 : Option D), η = [some (.ref x), some (.nd .lst (si.map e3)), some (cD c), some (.nd .lst (lk.map eLk ++ r2)), some (.ref k), x5, x6, x7, x8] ∧ G' = up G k (.dN (enc DL.k3 .bl kvs)) ∧ i ≤ lk.length, ⟨x5, none, none, rfl, rfl, Nat.zero_le _⟩, fun _ _ _ _ => trivial, ?_, ?_⟩
    · rintro i d η G' hd ⟨x5, x7, x8, rfl, rfl, hi2⟩
      by_cases hlt : i < lk.length
      · rw [List.getElem?_append_left (by rw [List.length_map]; exact hlt)] at hd
        obtain ⟨l, hlk, rfl⟩ := zbz hd
        obtain ⟨os, op⟩ := ok2 l (List.mem_of_getElem? hlk)
        have t1 := os.t
        have t2 := os.x
        have t3 := os.y
        simp_arith only [eLk, e3, zhb, len3]
        rw [if_neg (by decide)]
        refine ze1 (by decide) rfl (.inl ⟨_, _, _, rfl, rfl, rfl, ?_⟩)
        rw [decide_eq_true ⟨t1.1, t1.2⟩]
        simp_arith only [true_and]
        refine zmn (xs := [l.1.2.1, l.1.2.2]) (f := .int) (fun n => .bl (decide ((0 - 1000000 : Int) ≤ n ∧ n ≤ 1000000))) (show 2 ≤ 1000000 by omega) (fun R r => by simp_arith only [zb5, zeh]; exact zu4 r) (fun n hn G1 A kk => ?_) fun w hw => ?_
        · simp_arith only [true_and]
          exact .inl ⟨_, _, _, rfl, rfl, rfl, kk⟩
        · simp_arith only [zi, zbv hw, DO.tree]
          refine znb (xs := [l.1.2.1, l.1.2.2]) (b := fun n : Int => decide ((0 - 1000000 : Int) ≤ n ∧ n ≤ 1000000)) ?_
          rw [List.all_eq_true.mpr fun n hn => decide_eq_true (by
            simp only [List.mem_cons, List.not_mem_nil, or_false] at hn
            rcases hn with rfl | rfl <;> omega)]
          simp_arith only [z4h]
          refine ⟨zth (by decide), c, l.2, [], by rw [List.append_nil]; rfl, op, fun _ => ?_, fun d r e => by cases e⟩
          simp_arith only [true_and]
          exact ⟨_, (by repeat (first | exact Le.nil | apply Le.keep | apply Le.drop)), _, _, _, rfl, rfl, hlt⟩
      · have ei : i = lk.length := by omega
        subst ei
        rw [List.getElem?_append_right (by rw [List.length_map]; exact Nat.le_refl _), List.length_map, Nat.sub_self] at hd
        cases r2 with
        | nil => cases hd
        | cons d r =>
          cases hd
          rcases q2 _ _ rfl with ⟨st, z, rfl, hst, e⟩ | ⟨st, pic, b, rr, rfl, os, op, hb, e⟩
          · simp_arith only [e3, zhb, len3]
            rw [if_neg (by decide)]
            refine ze1 (by decide) rfl (.inl ⟨_, _, _, rfl, rfl, rfl, ?_⟩)
            rw [decide_eq_false (by omega)]
            simp_arith only [zlv]
            exact e k _ hk
          · have t1 := os.t
            have t2 := os.x
            have t3 := os.y
            simp_arith only [e3, zhb, len3]
            rw [if_neg (by decide)]
            refine ze1 (by decide) rfl (.inl ⟨_, _, _, rfl, rfl, rfl, ?_⟩)
            rw [decide_eq_true ⟨t1.1, t1.2⟩]
            simp_arith only [true_and]
            refine zmn (xs := [st.2.1, st.2.2]) (f := .int) (fun n => .bl (decide ((0 - 1000000 : Int) ≤ n ∧ n ≤ 1000000))) (show 2 ≤ 1000000 by omega) (fun R r => by simp_arith only [zb5, zeh]; exact zu4 r) (fun n hn G1 A kk => ?_) fun w hw => ?_
            · simp_arith only [true_and]
              exact .inl ⟨_, _, _, rfl, rfl, rfl, kk⟩
            · simp_arith only [zi, zbv hw, DO.tree]
              refine znb (xs := [st.2.1, st.2.2]) (b := fun n : Int => decide ((0 - 1000000 : Int) ≤ n ∧ n ≤ 1000000)) ?_
              rw [List.all_eq_true.mpr fun n hn => decide_eq_true (by
                simp only [List.mem_cons, List.not_mem_nil, or_false] at hn
                rcases hn with rfl | rfl <;> omega)]
              simp_arith only [z4h]
              refine ⟨zth (by decide), c, pic, b :: rr, rfl, op, (nomatch ·), fun d' r' e' => ?_⟩
              cases e'
              exact ⟨hb, e k _ hk⟩
    · rintro η G' ⟨x5, x7, x8, rfl, rfl, hi2⟩
      rw [List.length_append, List.length_map] at hi2
      have e2' : r2 = [] := List.length_eq_zero_iff.mp (by omega)
      subst e2'
      have q := q1 rfl
      simp_arith only [zi, zbv hk]
      refine zn4 (fs' := [("sites", eT e3 (srtT e3 si))]) (fun R r => r) (fun R r => ?_) hG (by decide) rfl ?_
      · simp_arith only [true_and]
        refine zww (f := D.bl) tk3 (kvs := kvs) (z0h DL.k3 D.bl kvs _) al3 (st3 _) (fun a => Nat.le_trans (zd0 a) (by decide)) fun w hw => ?_
        simp_arith only [zi, zbv hw, DO.tree]
        rw [zmj (ds := (srtT e3 (kvs.map (·.1))).map e3) rfl, z1j (zmy nk nd hm)]
        exact r
      · simp_arith only [true_and]
        refine zn4 (fs := [("sites", eT e3 (srtT e3 si))]) (fs' := [("sites", eT e3 (srtT e3 si)), ("camera", cD c)]) (fun R r => r) (fun R r => r) zi (by show (1 : Nat) < 1000; decide) rfl ?_
        rw [zft]
        simp_arith only [true_and]
        refine zn4 (fs := [("sites", eT e3 (srtT e3 si)), ("camera", cD c)]) (fs' := [("sites", eT e3 (srtT e3 si)), ("camera", cD c), ("looks", eT eLk lk)]) (fun R r => r) (fun R r => ?_) zi (by show (2 : Nat) < 1000; decide) rfl ?_
        · simp_arith only [true_and]
          rw [zmj (ds := lk.map eLk) rfl]
          exact r
        · rw [zft]
          exact q
end M
namespace M
open PySem PySem.Spec PyProof.Rows L2 DL
variable [CA]
def ztm : List Pt → List (List Pt)
  | [] => [[]]
  | x :: xs => ztm xs ++ (ztm xs).map (x :: ·)
theorem zkw : ∀ {l s : List Pt}, s ∈ ztm l ↔ s.Sublist l
  | [], s => by
    show s ∈ [[]] ↔ _
    rw [List.mem_singleton, List.sublist_nil]
  | x :: l, s => by
    show s ∈ ztm l ++ (ztm l).map (x :: ·) ↔ _
    rw [List.mem_append, List.mem_map]
    constructor
    · rintro (h | ⟨t, h, rfl⟩)
      · exact .cons _ (zkw.mp h)
      · exact .cons₂ _ (zkw.mp h)
    · intro h
      cases h with
      | cons _ h => exact .inl (zkw.mpr h)
      | cons_cons _ h => exact .inr ⟨_, zkw.mpr h, rfl⟩
theorem zwh : ∀ {l : List Pt}, l.Nodup → (ztm l).Nodup
  | [], _ => by
    show ([[]] : List (List Pt)).Nodup
    simp
  | x :: l, h => by
    obtain ⟨h1, h2⟩ := List.nodup_cons.mp h
    have ih := zwh h2
    refine List.nodup_append.mpr ⟨ih, List.pairwise_map.mpr (ih.imp fun {a b} n e => n (List.cons.inj e).2), fun a ha b hb e => ?_⟩
    obtain ⟨t, _, rfl⟩ := List.mem_map.mp hb
    exact h1 ((zkw.mp ha).subset (by rw [e]; exact List.mem_cons_self))
abbrev Wt := List Pt × List Pt
def zpo (w : Wt) : List (List Pt) := (ztm w.2).map (w.1 ++ ·)
theorem z5z (cr : List Pt) : zpo (cr, []) = [cr] := by
  show [cr ++ []] = [cr]
  rw [List.append_nil]
theorem z6s (cr : List Pt) (a : Pt) (rest : List Pt) : zpo (cr, a :: rest) = zpo (cr, rest) ++ zpo (cr ++ [a], rest) := by
  show (ztm rest ++ (ztm rest).map (a :: ·)).map (cr ++ ·) = (ztm rest).map (cr ++ ·) ++ (ztm rest).map ((cr ++ [a]) ++ ·)
  rw [List.map_append, List.map_map]
  congr 1
  refine List.map_congr_left fun t _ => ?_
  show cr ++ a :: t = cr ++ [a] ++ t
  rw [List.append_assoc]
  rfl
def z0l (u : Su) (r : List Pt) : Prop := ∀ l ∈ u.lk, FitP (skAt u.cam r l.1) l.2 l.1
structure GrI (u : Su) (found : List (List Pt)) (wait : List Wt) : Prop where
  nd : (found ++ wait.flatMap zpo).Nodup
  sub : ∀ w ∈ wait, (w.1 ++ w.2).Sublist u.si
  ok : ∀ r ∈ found, r.Sublist u.si ∧ z0l u r
  all : ∀ r, r.Sublist u.si → z0l u r → r ∈ found ++ wait.flatMap zpo
section
variable {u : Su} {found : List (List Pt)} {wait : List Wt} {cr rest : List Pt}
theorem ztd {w : Wt} : (wait ++ [w]).flatMap zpo = wait.flatMap zpo ++ zpo w := by rw [List.flatMap_append, List.flatMap_cons, List.flatMap_nil, List.append_nil]
theorem GrI.start (nd : u.si.Nodup) : GrI u [] [([], u.si)] := by
  have e : ([] : List (List Pt)) ++ [(([] : List Pt), u.si)].flatMap zpo = ztm u.si := by
    show [(([] : List Pt), u.si)].flatMap zpo = _
    rw [List.flatMap_cons, List.flatMap_nil, List.append_nil]
    show (ztm u.si).map ([] ++ ·) = _
    simp
  refine ⟨by rw [e]; exact zwh nd, fun w hw => ?_, fun r hr => (by cases hr), fun r hr _ => by rw [e]; exact zkw.mpr hr⟩
  rw [List.mem_singleton.mp hw]
  exact List.Sublist.refl _
theorem GrI.skip (ns : u.si.Nodup) (h : GrI u found (wait ++ [(cr, rest)])) (no : ¬ ((∀ l ∈ u.lk, FitA (skAt u.cam (cr ++ rest) l.1) l.2 l.1) ∧ ∀ l ∈ u.lk, FitB (skAt u.cam cr l.1) l.2 l.1)) : GrI u found wait := by
  have hs := h.sub (cr, rest) (List.mem_append.mpr (.inr (List.mem_singleton.mpr rfl)))
  have nd := h.nd
  rw [ztd, ← List.append_assoc] at nd
  refine ⟨(List.nodup_append.mp nd).1, fun w hw => h.sub w (List.mem_append.mpr (.inl hw)), h.ok, fun r hr g => ?_⟩
  have := h.all r hr g
  rw [ztd, ← List.append_assoc] at this
  rcases List.mem_append.mp this with h1 | h1
  · exact h1
  · obtain ⟨t, ht, e⟩ := List.mem_map.mp h1
    have e : cr ++ t = r := e
    have hts := zkw.mp ht
    have nr : r.Nodup := hr.nodup ns
    have nc : (cr ++ rest).Nodup := hs.nodup ns
    exfalso
    refine no ⟨fun l hl => ?_, fun l hl => ?_⟩
    · refine z7x nr nc (fun x hx => ?_) (g l hl).1
      rw [← e] at hx
      rcases List.mem_append.mp hx with hx | hx
      · exact List.mem_append.mpr (.inl hx)
      · exact List.mem_append.mpr (.inr (hts.subset hx))
    · exact z62 (List.nodup_append.mp nc).1 nr (fun x hx => by rw [← e]; exact List.mem_append.mpr (.inl hx)) (g l hl).2
theorem GrI.leaf (h : GrI u found (wait ++ [(cr, [])])) (a : ∀ l ∈ u.lk, FitA (skAt u.cam cr l.1) l.2 l.1) (b : ∀ l ∈ u.lk, FitB (skAt u.cam cr l.1) l.2 l.1) : GrI u (found ++ [cr]) wait := by
  have hs := h.sub (cr, []) (List.mem_append.mpr (.inr (List.mem_singleton.mpr rfl)))
  have pp : (found ++ (wait ++ [(cr, [])]).flatMap zpo).Perm (found ++ [cr] ++ wait.flatMap zpo) := by
    rw [ztd, z5z, List.append_assoc]
    exact List.Perm.append_left _ List.perm_append_comm
  refine ⟨pp.nodup_iff.mp h.nd, fun w hw => h.sub w (List.mem_append.mpr (.inl hw)), fun r hr => ?_, fun r hr g => pp.mem_iff.mp (h.all r hr g)⟩
  rcases List.mem_append.mp hr with hr | hr
  · exact h.ok r hr
  · rw [List.mem_singleton.mp hr]
    rw [List.append_nil] at hs
    exact ⟨hs, fun l hl => ⟨a l hl, b l hl⟩⟩
theorem GrI.node {x : Pt} (h : GrI u found (wait ++ [(cr, x :: rest)])) : GrI u found (wait ++ [(cr, rest)] ++ [(cr ++ [x], rest)]) := by
  have hs := h.sub (cr, x :: rest) (List.mem_append.mpr (.inr (List.mem_singleton.mpr rfl)))
  have e : (wait ++ [(cr, rest)] ++ [(cr ++ [x], rest)]).flatMap zpo = (wait ++ [(cr, x :: rest)]).flatMap zpo := by
    rw [ztd, ztd, ztd, z6s, List.append_assoc]
  refine ⟨by rw [e]; exact h.nd, fun w hw => ?_, h.ok, fun r hr g => by rw [e]; exact h.all r hr g⟩
  rcases List.mem_append.mp hw with hw | hw
  · rcases List.mem_append.mp hw with hw | hw
    · exact h.sub w (List.mem_append.mpr (.inl hw))
    · rw [List.mem_singleton.mp hw]
      exact (List.Sublist.append (List.Sublist.refl cr) (List.sublist_cons_self x rest)).trans hs
  · rw [List.mem_singleton.mp hw]
    show ((cr ++ [x]) ++ rest).Sublist u.si
    rw [List.append_assoc]
    exact hs
theorem GrI.fin (h : GrI u found []) : found.Nodup ∧ ∀ r, r ∈ found ↔ r.Sublist u.si ∧ z0l u r := by
  have e : found ++ ([] : List Wt).flatMap zpo = found := List.append_nil _
  have h1 := h.nd
  have h2 := h.all
  rw [e] at h1 h2
  exact ⟨h1, fun r => ⟨h.ok r, fun g => h2 r g.1 g.2⟩⟩
end
/-- how many rows are looked at yet -/
def wgt (wait : List Wt) : Nat := (wait.map fun w => 2 ^ (w.2.length + 1) - 1).sum
theorem zu9 (wait : List Wt) (w : Wt) : wgt (wait ++ [w]) = wgt wait + (2 ^ (w.2.length + 1) - 1) := by
  unfold wgt
  rw [List.map_append, List.sum_append]
  simp
theorem zacl (wait : List Wt) : wait.length ≤ wgt wait := by
  induction wait with
  | nil => exact Nat.zero_le _
  | cons w l ih =>
    unfold wgt at ih ⊢
    rw [List.map_cons, List.sum_cons, List.length_cons]
    have : 0 < 2 ^ (w.2.length + 1) := Nat.pow_pos (by decide)
    have h2 : 2 ^ (w.2.length + 1) = 2 * 2 ^ w.2.length := by rw [Nat.pow_succ, Nat.mul_comm]
    have h3 : 0 < 2 ^ w.2.length := Nat.pow_pos (by decide)
    omega
def eW (w : Wt) : D := eT (eT e3) [w.1, w.2]
theorem z4g (w : Wt) : zb6 (eW w) = true := ziw (fun a => ziw zds a) _
theorem z5o (w : Wt) : (py (eW w)).depth ≤ 60 := Nat.le_trans (zjf (B := 2) (fun a => zjf zd0 a) _) (by decide)
structure OkSi (u : Su) : Prop where
  su : OkSu u
  nd : u.si.Nodup
  len : u.si.length ≤ 10
  bd : ∀ p ∈ u.si, okPt (0 - 1000000) 1000000 p
theorem OkSi.crs {u : Su} (o : OkSi u) {cr : List Pt} (h : cr.Sublist u.si) : z30 cr := ⟨by have := h.length_le; have := o.len; omega, fun p hp => o.bd p (h.subset hp)⟩
def zbq : DRn := fun ds G Q => ∃ (u : Su) (most : Int), ds = [suD u, .int most] ∧ OkSi u ∧ 100000 ≤ most ∧ ∀ F : List (List Pt), F.Nodup → (∀ r, r ∈ F ↔ r.Sublist u.si ∧ z0l u r) → F.length ≤ 3000 → Q (eL (eT e3) (srtT (eT e3) F)) G
abbrev zkl : List Str := ["survey", "most", "found", "looked", "waiting", "craters", "rest"]
def zm7 : DTS :=
    (dSeq (z76 2 3 4 (ze (zjn dNil) (ze (dC (.int 0)) (ze (zjn (ze (dTup (ze (dTup dNil) (ze (dFld CA.Survey "sites" (zd 0)) dNil))) dNil)) dNil))))
    (dSeq (zv0 (zau (dOp dNe (zd 4) (zjq dNil)))
    (dSeq (dAsg (dM0 "list" dPop (zd 4)) (zgd (zam (zk 5) (zam (zk 6) zgc)) 2))
    (dSeq (dIfS (zau (dOp dEq (zd 3) (zd 1)))
    zn8
    zdh)
    (dSeq (dAug 3 (dC (.int 1)) zy8)
    (dSeq (dIfS (dOr (dNot (zau (zje CA.Survey "are_points_told" zab (zd 0) (ze (dTup (z1a (zd 5) (z1a (zd 6) dNil))) dNil)))) (dNot (zau (zje CA.Survey "are_craters_seen" z4 (zd 0) (ze (zd 5) dNil)))))
    zqk
    zdh)
    (dIfS (zau (dOp dEq (zd 6) (dTup dNil)))
    (zhu (dM "list" zg8 (zd 2) (ze (zd 5) dNil)))
    (dSeq (zhu (dM "list" zg8 (zd 4) (ze (dTup (ze (zd 5) (ze (zeh dSl (zd 6) (zjh (dC (.int 1))) zc7) dNil))) dNil)))
    (zhu (dM "list" zg8 (zd 4) (ze (dTup (ze (dTup (z1a (zd 5) (ze (dOp dIx (zd 6) (dC (.int 0))) dNil))) (ze (zeh dSl (zd 6) (zjh (dC (.int 1))) zc7) dNil))) dNil))))))))))
    (dFrz 4 (dFrz 2 (dRet (dFz (dCB zs5 (ze (zd 2) dNil))))))))
theorem zwn : ∀ ds G Q, zbq ds G Q → ds.length = 2 := fun ds G Q ⟨_, _, e, _⟩ => by rw [e]; rfl
def grH (G : DHp) (f w : Addr) (found : List (List Pt)) (wait : List Wt) : DHp := up (up G f (.lst (found.map (eT e3)))) w (.lst (wait.map eW))
section
variable {G : DHp} {f w : Addr} {found found' : List (List Pt)} {wait wait' : List Wt}
theorem gr_w : grH G f w found wait w = some (.lst (wait.map eW)) := zi
theorem gr_f (h : w ≠ f) : grH G f w found wait f = some (.lst (found.map (eT e3))) := by unfold grH; rw [zj2 (Ne.symm h), zi]
theorem zac0 : up (grH G f w found wait) w (.lst (wait'.map eW)) = grH G f w found wait' := by unfold grH; rw [zft]
theorem zafg (h : w ≠ f) : up (grH G f w found wait) f (.lst (found'.map (eT e3))) = grH G f w found' wait := by unfold grH; rw [zl3 h, zft]
end
theorem zwb : ∀ xs ys : List Pt, PySem.W.alikeAll (pys (xs.map e3)) (pys (ys.map e3)) = true
  | [], _ => by rw [List.map_nil, pys, PySem.W.alikeAll]
  | _ :: _, [] => by rw [List.map_nil, List.map_cons, pys, pys, PySem.W.alikeAll]
  | x :: xs, y :: ys => by
    rw [List.map_cons, List.map_cons, pys, pys, PySem.W.alikeAll, al3 x y, zwb xs ys]
    rfl
theorem zws (a b : List Pt) : PySem.W.alike (py (eT e3 a)) (py (eT e3 b)) = true := by
  show PySem.W.alike (py (.nd .tup (a.map e3))) (py (.nd .tup (b.map e3))) = true
  rw [py, py, PySem.W.alike]
  exact zwb a b
theorem zafw (a b : List Pt) : D.nd .tup (a.map e3 ++ b.map e3) = eT e3 (a ++ b) := by
  unfold eT
  rw [List.map_append]
theorem zv6 : ∀ ds G Q, zbq ds G Q → zm7 { nx := fun _ G' => Q .non G', rt := Q } (za4 zkl ds) G := fun ds G Q h => by
  obtain ⟨u, most, rfl, ou, hmo, q⟩ := h
  have hsl := ou.len
  simp_arith only [zm7, zkl, z76]
  intro f hf
  simp_arith only [dFld, zu6]
  intro w hw
  have hwf : w ≠ f := fun e => by rw [e, zi] at hw; cases hw
  have hGw : G w = none := by rwa [zj2 hwf] at hw
  have hw' : ∀ A, up G f A w = none := fun A => by rw [zj2 hwf]; exact hGw
  simp_arith only [zv0]
  refine ⟨fun m η G' => ∃ (found : List (List Pt)) (wait : List Wt) (k : Nat) (o5 o6 : Option D), m = wgt wait ∧ η = [some (suD u), some (.int most), some (.ref f), some (.int (k : Int)), some (.ref w), o5, o6] ∧ G' = grH G f w found wait ∧ GrI u found wait ∧ k + wgt wait ≤ 2047 ∧ found.length ≤ k, ⟨_, [], [([], u.si)], 0, none, none, rfl, rfl, rfl, .start ou.nd, ?_, Nat.le_refl _⟩, ?_⟩
  · show 0 + wgt ([] ++ [([], u.si)]) ≤ 2047
    rw [zu9]
    have : 2 ^ (u.si.length + 1) ≤ 2 ^ 11 := Nat.pow_le_pow_right (by decide) (by omega)
    show 0 + (0 + (2 ^ (u.si.length + 1) - 1)) ≤ 2047
    omega
  · rintro m η G' ⟨found, wait, k, o5, o6, rfl, rfl, rfl, I, hk, hfl⟩
    simp_arith only [true_and]
    refine zz9 (xs := wait.map eW) (zsd gr_w) (zc1 z4g _) (fun d hd => ?_) ?_
    · obtain ⟨y, _, rfl⟩ := List.mem_map.mp hd
      exact z5o y
    · rcases List.eq_nil_or_concat wait with e | ⟨wait0, y, e⟩
      · subst e
        obtain ⟨fn, fm⟩ := I.fin
        simp_arith only [List.isEmpty_nil, gr_w]
        rw [show dl (grH G f w found []) w = up G f (.lst (found.map (eT e3))) by unfold grH; rw [zbv (hw' _)]]
        simp_arith only [zi, zbv hf, DO.tree]
        refine zv9 (f := eT e3) (xs := found) rfl (fun a => ziw zds a) (fun a b => zws a b) (fun a => ⟨_, rfl⟩) (fun a => Nat.le_trans (zjf zd0 a) (by decide)) fun z hz => ?_
        simp_arith only [zi, zbv hz, DO.tree]
        exact q found fn fm (by omega)
      · obtain ⟨cr, rest⟩ := y
        rw [List.concat_eq_append] at e
        subst e
        have hsub := I.sub (cr, rest) (List.mem_append.mpr (.inr (List.mem_singleton.mpr rfl)))
        have hsub : (cr ++ rest).Sublist u.si := hsub
        have hcr : cr.Sublist u.si := (List.sublist_append_left cr rest).trans hsub
        have hwg := zu9 wait0 (cr, rest)
        have hpw : 2 ^ (rest.length + 1) = 2 * 2 ^ rest.length := by rw [Nat.pow_succ, Nat.mul_comm]
        have hp0 : 0 < 2 ^ rest.length := Nat.pow_pos (by decide)
        have hwg : wgt (wait0 ++ [(cr, rest)]) = wgt wait0 + (2 ^ (rest.length + 1) - 1) := hwg
        have hwl := zacl wait0
        simp_arith only [List.map_append]
        rw [show (wait0.map eW ++ [eW (cr, rest)]).isEmpty = false by simp]
        simp_arith only [true_and]
        refine z5j (ds := wait0.map eW) (d := eW (cr, rest)) (by rw [gr_w, List.map_append]; rfl) ?_
        rw [zac0]
        rw [show eW (cr, rest) = .nd .tup [eT e3 cr, eT e3 rest] from rfl]
        simp_arith only [true_and]
        rw [if_neg (by omega)]
        simp_arith only [zje, eT]
        refine ⟨zy2 (by decide), ?_⟩
        simp_arith only [z1a]
        have hlen := hsub.length_le
        rw [List.length_append] at hlen
        refine ⟨by rw [List.length_append, List.length_map, List.length_map]; omega, ?_⟩
        refine ⟨u, cr ++ rest, by rw [zafw], ou.su, ou.crs hsub, fun b hb => ?_⟩
        cases b with
        | false =>
          simp_arith only [true_and]
          exact ⟨wgt wait0, by omega, _, (by repeat (first | exact Le.nil | apply Le.keep | apply Le.drop)), found, wait0, k + 1, _, _, rfl, rfl, rfl, I.skip ou.nd fun z => (by have := hb.mpr z.1; cases this), by omega, by omega⟩
        | true =>
          simp_arith only [true_and]
          refine ⟨zy2 (by decide), u, cr, rfl, ou.su, ou.crs hcr, fun b2 hb2 => ?_⟩
          cases b2 with
          | false =>
            simp_arith only [true_and]
            exact ⟨wgt wait0, by omega, _, (by repeat (first | exact Le.nil | apply Le.keep | apply Le.drop)), found, wait0, k + 1, _, _, rfl, rfl, rfl, I.skip ou.nd fun z => (by have := hb2.mpr z.2; cases this), by omega, by omega⟩
          | true =>
            simp_arith only [true_and]
            refine z9d (ziw zds rest) rfl (Nat.le_trans (zjf zd0 _) (by decide)) (Nat.le_trans (zjf (f := D.int) (B := 0) (fun a => Nat.le_of_eq (zfc a)) []) (by decide)) (decide (rest = [])) ?_ ?_
            · rw [decide_eq_true_eq]
              show rest = [] ↔ D.nd .tup (rest.map e3) = .nd .tup []
              cases rest <;> simp
            · cases rest with
              | nil =>
                rw [decide_eq_true rfl]
                simp_arith only [true_and]
                refine zka (y := eT e3 cr) (gr_f hwf) (zas (by rw [List.length_map]; omega)) ?_
                rw [show found.map (eT e3) ++ [eT e3 cr] = (found ++ [cr]).map (eT e3) by rw [List.map_append]; rfl, zafg hwf]
                rw [List.append_nil] at hb
                exact ⟨wgt wait0, by omega, _, (by repeat (first | exact Le.nil | apply Le.keep | apply Le.drop)), found ++ [cr], wait0, k + 1, _, _, rfl, rfl, rfl, I.leaf (hb.mp rfl) (hb2.mp rfl), by omega, by rw [List.length_append, List.length_singleton]; omega⟩
              | cons x rest =>
                rw [decide_eq_false (by simp)]
                have w1 := zu9 wait0 (cr, rest)
                have w2 := zu9 (wait0 ++ [(cr, rest)]) (cr ++ [x], rest)
                have w1 : wgt (wait0 ++ [(cr, rest)]) = wgt wait0 + (2 ^ (rest.length + 1) - 1) := w1
                have w2 : wgt (wait0 ++ [(cr, rest)] ++ [(cr ++ [x], rest)]) = wgt (wait0 ++ [(cr, rest)]) + (2 ^ (rest.length + 1) - 1) := w2
                rw [List.length_cons] at hwg hpw hp0 hlen
                simp_arith only [true_and]
                refine ⟨by simp only [tyD, gr_w], zu4 (zka (y := eW (cr, rest)) gr_w (zas (by rw [List.length_map]; omega)) ?_).2⟩
                rw [show wait0.map eW ++ [eW (cr, rest)] = (wait0 ++ [(cr, rest)]).map eW by rw [List.map_append]; rfl, zac0]
                refine ⟨by simp only [tyD, gr_w], ?_⟩
                refine ze1 (by decide) rfl ?_
                refine ⟨by rw [List.length_append, List.length_map, List.length_singleton]; omega, zu4 ?_⟩
                rw [show D.nd Kd.tup [D.nd Kd.tup (cr.map e3 ++ [e3 x]), D.nd Kd.tup (rest.map e3)] = eW (cr ++ [x], rest) by unfold eW; rw [show cr.map e3 ++ [e3 x] = (cr ++ [x]).map e3 by rw [List.map_append]; rfl]; rfl]
                refine (zka (y := eW (cr ++ [x], rest)) gr_w (zas (by rw [List.length_map, List.length_append, List.length_singleton]; omega)) ?_).2
                rw [show (wait0 ++ [(cr, rest)]).map eW ++ [eW (cr ++ [x], rest)] = (wait0 ++ [(cr, rest)] ++ [(cr ++ [x], rest)]).map eW by rw [List.map_append (l₁ := wait0 ++ [(cr, rest)])]; rfl, zac0]
                exact ⟨wgt (wait0 ++ [(cr, rest)] ++ [(cr ++ [x], rest)]), by omega, _, (by repeat (first | exact Le.nil | apply Le.keep | apply Le.drop)), found, _, k + 1, _, _, rfl, rfl, rfl, I.node, by omega, by omega⟩
end M
namespace M
open PySem PySem.Spec PyProof.Rows L2 DL
variable [CA]
def tooM (n : Int) : XV := ⟨CA.TooMany, [("most", .int n)]⟩
def zdw : DRnX := fun ds G Q E => ∃ u : Su, ds = [suD u, .int 0] ∧ ∀ f w A B, G f = none → up G f A w = none → E (tooM 0) (up (up G f A) w B)
abbrev zdn : List Str := ["survey", "most", "found", "looked", "waiting", "craters", "rest"]
def zi0 (U : DXK) : DTS :=
    (dSeq (z76 2 3 4 (ze (zjn dNil) (ze (dC (.int 0)) (ze (zjn (ze (dTup (ze (dTup dNil) (ze (dFld CA.Survey "sites" (zd 0)) dNil))) dNil)) dNil))))
    (dSeq (zv0 (zau (dOp dNe (zd 4) (zjq dNil)))
    (dSeq (dAsg (dM0 "list" dPop (zd 4)) (zgd (zam (zk 5) (zam (zk 6) zgc)) 2))
    (dSeq (dIfS (zau (dOp dEq (zd 3) (zd 1)))
    (zlv CA.TooMany "most" U (ze (zd 1) dNil))
    zdh)
    (dSeq (dAug 3 (dC (.int 1)) zy8)
    (dSeq (dIfS (dOr (dNot (zau (zje CA.Survey "are_points_told" zab (zd 0) (ze (dTup (z1a (zd 5) (z1a (zd 6) dNil))) dNil)))) (dNot (zau (zje CA.Survey "are_craters_seen" z4 (zd 0) (ze (zd 5) dNil)))))
    zqk
    zdh)
    (dIfS (zau (dOp dEq (zd 6) (dTup dNil)))
    (zhu (dM "list" zg8 (zd 2) (ze (zd 5) dNil)))
    (dSeq (zhu (dM "list" zg8 (zd 4) (ze (dTup (ze (zd 5) (ze (zeh dSl (zd 6) (zjh (dC (.int 1))) zc7) dNil))) dNil)))
    (zhu (dM "list" zg8 (zd 4) (ze (dTup (ze (dTup (z1a (zd 5) (ze (dOp dIx (zd 6) (dC (.int 0))) dNil))) (ze (zeh dSl (zd 6) (zjh (dC (.int 1))) zc7) dNil))) dNil))))))))))
    (dFrz 4 (dFrz 2 (dRet (dFz (dCB zs5 (ze (zd 2) dNil))))))))
theorem ztx : ∀ ds G Q E, zdw ds G Q E → ds.length = 2 := fun ds G Q E ⟨_, e, _⟩ => by rw [e]; rfl
theorem ztq : ∀ ds G Q E, zdw ds G Q E → zi0 (fun x _ G' => E x G') { nx := fun _ G' => Q .non G', rt := Q } (za4 zdn ds) G := fun ds G Q E h => by
  obtain ⟨u, rfl, q⟩ := h
  simp_arith only [zi0, zdn, z76]
  intro f hf
  simp_arith only [dFld, zu6]
  intro w hw
  simp_arith only [zv0]
  refine ⟨fun m η G' => η = [some (suD u), some (.int 0), some (.ref f), some (.int 0), some (.ref w), none, none] ∧ G' = up (up G f (.lst [])) w (.lst [eW ([], u.si)]), ⟨0, rfl, rfl⟩, ?_⟩
  rintro m η G' ⟨rfl, rfl⟩
  simp_arith only [true_and]
  refine zz9 (xs := [eW ([], u.si)]) (zsd zi) (zc1 z4g [_]) (fun d hd => by rw [List.mem_singleton.mp hd]; exact z5o _) ?_
  simp_arith only [List.isEmpty_cons]
  refine z5j (ds := []) (d := eW ([], u.si)) zi ?_
  rw [show eW (([] : List Pt), u.si) = .nd .tup [eT e3 [], eT e3 u.si] from rfl]
  simp_arith only [decide_true]
  simp_arith only [zlv]
  rw [zft]
  exact q f w _ _ hf hw
theorem zu2 {p : Pt} {r : List Pt} {G : DHp} {Q : DVK} (q : Q (.bl (decide (p ∈ r))) G) : dIn false (e3 p) (eT e3 r) G Q := by
  refine z4q (neg := false) (ds := r.map e3) (.inr rfl) (zds _) (zc1 zds _) (Nat.le_trans (zd0 _) (by decide)) (decide (p ∈ r)) ?_ (by rw [show (false != decide (p ∈ r)) = decide (p ∈ r) by cases decide (p ∈ r) <;> rfl]; exact q)
  rw [decide_eq_true_eq]
  exact ⟨fun h => List.mem_map.mpr ⟨_, h, rfl⟩, fun h => by obtain ⟨y, hy, e⟩ := List.mem_map.mp h; rw [← z8p.mp e]; exact hy⟩
def zui (si : List Pt) (S : List (List Pt)) : D := if S = [] then .non else eT e3 (si.filter fun x => S.all fun r => decide (x ∈ r))
def mayV (si : List Pt) (S : List (List Pt)) : D := eT e3 (si.filter fun x => S.any fun r => decide (x ∈ r))
theorem zyg {si : List Pt} {S S' : List (List Pt)} (p : S.Perm S') : zui si S = zui si S' := by
  unfold zui
  have e : (S = []) = (S' = []) := propext ⟨fun e => by rw [e] at p; exact p.symm.eq_nil, fun e => by rw [e] at p; exact p.eq_nil⟩
  have ef : (fun x : Pt => S.all fun r => decide (x ∈ r)) = fun x => S'.all fun r => decide (x ∈ r) := funext fun x => by
    rw [Bool.eq_iff_iff, List.all_eq_true, List.all_eq_true]
    exact ⟨fun h r hr => h r (p.mem_iff.mpr hr), fun h r hr => h r (p.mem_iff.mp hr)⟩
  simp only [e, ef]
theorem z2j {si : List Pt} {S S' : List (List Pt)} (p : S.Perm S') : mayV si S = mayV si S' := by
  unfold mayV
  have ef : (fun x : Pt => S.any fun r => decide (x ∈ r)) = fun x => S'.any fun r => decide (x ∈ r) := funext fun x => by
    rw [Bool.eq_iff_iff, List.any_eq_true, List.any_eq_true]
    exact ⟨fun ⟨r, hr, h⟩ => ⟨r, p.mem_iff.mp hr, h⟩, fun ⟨r, hr, h⟩ => ⟨r, p.mem_iff.mpr hr, h⟩⟩
  rw [ef]
/-- [site for site in sites if all([site in row for row in rows])] -/
theorem z4s {wi : DTI} {g : DTG} {tt : DTT} {te : DTE} {own : List Nat} {η : DSt} {G : DHp} {Q : DVK} {si : List Pt} (f : Pt → Bool) (hl : si.length ≤ 1000000)
    (hw : ∀ R, R (si.map e3) zdd G → wi η G R) (hb : ∀ x ∈ si, ∀ (G1 : DHp) (A : DVK) (B : DHp → Prop), (f x = true → A (e3 x) G1) → (f x = false → B G1) → g (e3 x) (zjv η own) G1 fun η2 G2 => tt η2 G2 fun b G3 => if b = true then te η2 G3 A else B G3)
    (q : ∀ p, G p = none → Q (.ref p) (up G p (.lst ((si.filter f).map e3)))) : dLc wi g tt te own η G Q := z2o (f := e3) f e3 hl hw hb q
theorem z40 {α : Type} {f : α → D} {xs : List α} {G : DHp} {Q : DVK} (q : Q (.bl xs.isEmpty) G) : dEmp false (eL f xs) (.nd .lst []) G Q := by
  show Q (.bl (false != (xs.map f).isEmpty)) G
  rw [show (false != (xs.map f).isEmpty) = xs.isEmpty by cases xs <;> rfl]
  exact q
def zf6 : DRn := fun ds G Q => ∃ (u : Su) (most : Int), ds = [suD u, .int most] ∧ OkSi u ∧ 100000 ≤ most ∧ ∀ F : List (List Pt), F.Nodup → (∀ r, r ∈ F ↔ r.Sublist u.si ∧ z0l u r) → Q (zui u.si F) G
abbrev zj0 : List Str := ["survey", "most", "rows", "site", "row"]
def zo5 : DTS :=
    (dSeq (dAsg (dCB zbq (ze (zd 0) (ze (zd 1) dNil))) (zk 2))
    (dSeq (dIfS (zau (dOp (dEmp false) (zd 2) (zjq dNil)))
    (dRet (dC .non))
    zdh)
    (dRet (dCB zmr (ze (dFz (dLc (zb5 (dFld CA.Survey "sites" (zd 0))) (zk 3) (zau (dCB dAll (ze (dFz (dLc (zb5 (zd 2)) (zk 4) dYes (dOp (dIn false) (zd 3) (zd 4)) [4])) dNil))) (zd 3) [3])) dNil)))))
theorem zx7 : ∀ ds G Q, zf6 ds G Q → ds.length = 2 := fun ds G Q ⟨_, _, e, _⟩ => by rw [e]; rfl
theorem zya : ∀ ds G Q, zf6 ds G Q → zo5 { nx := fun _ G' => Q .non G', rt := Q } (za4 zj0 ds) G := fun ds G Q h => by
  obtain ⟨u, most, rfl, ou, hmo, q⟩ := h
  have hsl := ou.len
  simp_arith only [zo5, zj0]
  refine ⟨u, most, rfl, ou, hmo, fun F fn fm fl => ?_⟩
  have pm := zdj (eT e3) F
  have q := q F fn fm
  rw [← zyg pm] at q
  have hSl : (srtT (eT e3) F).length ≤ 3000 := by rw [pm.length_eq]; exact fl
  generalize srtT (eT e3) F = S at q hSl ⊢
  simp_arith only [true_and]
  refine z40 ?_
  simp_arith only [true_and]
  by_cases e : S = []
  · rw [e] at q ⊢
    simp_arith only [List.isEmpty_nil]
    exact q
  · rw [show S.isEmpty = false by cases S with | nil => exact absurd rfl e | cons _ _ => rfl]
    unfold zui at q
    rw [if_neg e] at q
    simp_arith only [true_and]
    refine z4s (si := u.si) (fun x => S.all fun r => decide (x ∈ r)) (by omega) (fun R r => by simp_arith only [zb5, dFld, zu6, eT]; exact r) (fun x hx G1 A B ka kb => ?_) fun w hw => ?_
    · simp_arith only [true_and]
      refine zmn (xs := S) (f := eT e3) (fun r => .bl (decide (x ∈ r))) (by omega) (fun R r => by simp_arith only [zb5, eL]; exact r) (fun r hr G2 A2 k2 => by simp_arith only [true_and]; exact zu2 k2) fun w hw => ?_
      simp_arith only [zi, zbv hw, DO.tree]
      refine znb ?_
      cases ha : S.all fun r => decide (x ∈ r) with
      | true => simp_arith only [true_and]; exact ka ha
      | false => simp_arith only [true_and]; exact kb ha
    · simp_arith only [zi, zbv hw, DO.tree]
      rw [zmj (ds := (u.si.filter fun x => S.all fun r => decide (x ∈ r)).map e3) rfl]
      exact q
def zc9 : DRn := fun ds G Q => ∃ (u : Su) (most : Int), ds = [suD u, .int most] ∧ OkSi u ∧ 100000 ≤ most ∧ ∀ F : List (List Pt), F.Nodup → (∀ r, r ∈ F ↔ r.Sublist u.si ∧ z0l u r) → Q (mayV u.si F) G
abbrev zgf : List Str := ["survey", "most", "rows", "site", "row"]
def zj5 : DTS :=
    (dSeq (dAsg (dCB zbq (ze (zd 0) (ze (zd 1) dNil))) (zk 2))
    (dRet (dCB zmr (ze (dFz (dLc (zb5 (dFld CA.Survey "sites" (zd 0))) (zk 3) (zau (dCB dAny (ze (dFz (dLc (zb5 (zd 2)) (zk 4) dYes (dOp (dIn false) (zd 3) (zd 4)) [4])) dNil))) (zd 3) [3])) dNil))))
theorem zr0 : ∀ ds G Q, zc9 ds G Q → ds.length = 2 := fun ds G Q ⟨_, _, e, _⟩ => by rw [e]; rfl
theorem zri : ∀ ds G Q, zc9 ds G Q → zj5 { nx := fun _ G' => Q .non G', rt := Q } (za4 zgf ds) G := fun ds G Q h => by
  obtain ⟨u, most, rfl, ou, hmo, q⟩ := h
  have hsl := ou.len
  simp_arith only [zj5, zgf]
  refine ⟨u, most, rfl, ou, hmo, fun F fn fm fl => ?_⟩
  have pm := zdj (eT e3) F
  have q := q F fn fm
  rw [← z2j pm] at q
  have hSl : (srtT (eT e3) F).length ≤ 3000 := by rw [pm.length_eq]; exact fl
  generalize srtT (eT e3) F = S at q hSl ⊢
  simp_arith only [true_and]
  refine z4s (si := u.si) (fun x => S.any fun r => decide (x ∈ r)) (by omega) (fun R r => by simp_arith only [zb5, dFld, zu6, eT]; exact r) (fun x hx G1 A B ka kb => ?_) fun w hw => ?_
  · simp_arith only [true_and]
    refine zmn (xs := S) (f := eT e3) (fun r => .bl (decide (x ∈ r))) (by omega) (fun R r => by simp_arith only [zb5, eL]; exact r) (fun r hr G2 A2 k2 => by simp_arith only [true_and]; exact zu2 k2) fun w hw => ?_
    simp_arith only [zi, zbv hw, DO.tree]
    refine z9c ?_
    cases ha : S.any fun r => decide (x ∈ r) with
    | true => simp_arith only [true_and]; exact ka ha
    | false => simp_arith only [true_and]; exact kb ha
  · simp_arith only [zi, zbv hw, DO.tree]
    rw [zmj (ds := (u.si.filter fun x => S.any fun r => decide (x ∈ r)).map e3) rfl]
    exact q
end M
namespace M
open PySem PySem.Spec PyProof.Rows L2 DL
variable [CA]
def zfk : DRn := fun ds G Q => ∃ xs : List Pt, ds = [eL e3 xs] ∧ xs.length ≤ 1000 ∧ ∀ ys : List Pt, ys.Nodup → (∀ y, y ∈ ys ↔ y ∈ xs) → Q (eL e3 (srtT e3 ys)) G
abbrev zkg : List Str := ["items", "found", "one"]
def znu : DTS :=
    (dSeq (dAsg z89 (zk 1))
    (dSeq (dFor (zb5 (zd 0)) (zk 2)
    (dAsg (dC (.bl true)) (zok (zd 1) (zd 2) dSet)))
    (dFrz 1 (dRet (dFz (dCB zvb (ze (zd 1) dNil)))))))
theorem zwj : ∀ ds G Q, zfk ds G Q → ds.length = 1 := fun ds G Q ⟨_, e, _⟩ => by rw [e]; rfl
theorem zwp : ∀ ds G Q, zfk ds G Q → znu { nx := fun _ G' => Q .non G', rt := Q } (za4 zkg ds) G := fun ds G Q h => by
  obtain ⟨xs, rfl, hl, q⟩ := h
  simp_arith only [znu, zkg, z89]
  intro p hp
  simp_arith only [dFor, zb5, eL]
  refine ⟨fun i η G' => ∃ (kvs : List (Pt × Bool)) (x2 : Option D), η = [some (eL e3 xs), some (.ref p), x2] ∧ G' = up G p (.dN (enc DL.k3 .bl kvs)) ∧ (kvs.map (·.1)).Nodup ∧ (∀ y, y ∈ kvs.map (·.1) ↔ y ∈ xs.take i) ∧ kvs.length ≤ i, ⟨[], none, rfl, rfl, List.nodup_nil, by simp, Nat.le_refl _⟩, fun _ _ _ _ => trivial, ?_, ?_⟩
  · rintro i d η G' hd ⟨kvs, x2, rfl, rfl, nd, hm, hk⟩
    obtain ⟨x, hx, rfl⟩ := zbz hd
    have hi := (List.getElem?_eq_some_iff.mp hx).1
    simp_arith only [true_and]
    refine z3x (f := D.bl) (b := true) tk3 zi (zas (by omega)) ?_
    rw [zft]
    have hlp := zux kvs x true
    refine ⟨_, (by repeat (first | exact Le.nil | apply Le.keep | apply Le.drop)), _, _, rfl, rfl, zfq _ _ _ nd, fun y => ?_, by omega⟩
    rw [z48, hm, zdz hx, List.mem_append, List.mem_singleton]
  · rintro η G' ⟨kvs, x2, rfl, rfl, nd, hm, hk⟩
    rw [List.length_map, List.take_length] at hm
    simp_arith only [zi, zbv hp]
    refine zww (f := D.bl) tk3 (kvs := kvs) (z0h DL.k3 D.bl kvs _) al3 (st3 _) (fun a => Nat.le_trans (zd0 a) (by decide)) fun w hw => ?_
    simp_arith only [zi, zbv hw, DO.tree]
    exact q (kvs.map (·.1)) nd hm
def zd3 : DRn := fun ds G Q => ∃ (cr : List Pt) (c : Cam) (st : Pt), ds = [gD (srtT e3 cr), cD c, e3 st] ∧ OkSt st ∧ Q (sD (skAt c cr st)) G
abbrev zko : List Str := ["ground", "camera", "standing"]
def znz : DTS :=
    (dRet (dFz (zrt CA.Sky zb0 (ze (zd 0) (ze (zd 1) (ze (dTup (ze (dOp dIx (zd 2) (dC (.int 0))) dNil)) (ze (dTup (ze (dOp dIx (zd 2) (dC (.int 1))) (ze (dOp dIx (zd 2) (dC (.int 1))) (ze (dOp dIx (zd 2) (dC (.int 2))) (ze (dOp dIx (zd 2) (dC (.int 2))) dNil))))) dNil)))))))
theorem zvi : ∀ ds G Q, zd3 ds G Q → ds.length = 3 := fun ds G Q ⟨_, _, _, e, _⟩ => by rw [e]; rfl
theorem zwd : ∀ ds G Q, zd3 ds G Q → znz { nx := fun _ G' => Q .non G', rt := Q } (za4 zko ds) G := fun ds G Q h => by
  obtain ⟨cr, c, st, rfl, os, q⟩ := h
  simp_arith only [znz, zko, zrt]
  refine ze1 (by decide) rfl ?_
  refine ze1 (by decide) rfl (ze1 (by decide) rfl (ze1 (by decide) rfl (ze1 (by decide) rfl ?_)))
  intro x hx
  exact z5y os q hx
def zlr (l : List Pt) : List (List Pt) := l.foldl (fun R x => R ++ R.map (· ++ [x])) [[]]
theorem zpj (l : List Pt) (x : Pt) : zlr (l ++ [x]) = zlr l ++ (zlr l).map (· ++ [x]) := by
  unfold zlr
  rw [List.foldl_append]
  rfl
theorem zs7 {l : List Pt} : ∀ {s : List Pt}, s ∈ zlr l ↔ s.Sublist l := by
  induction l using zph with
  | h0 =>
    intro s
    show s ∈ [[]] ↔ _
    rw [List.mem_singleton, List.sublist_nil]
  | h1 l x ih =>
    intro s
    rw [zpj, List.mem_append, List.mem_map, List.sublist_append_iff]
    constructor
    · rintro (h | ⟨t, h, rfl⟩)
      · exact ⟨s, [], (List.append_nil s).symm, ih.mp h, List.nil_sublist _⟩
      · exact ⟨t, [x], rfl, ih.mp h, List.Sublist.refl _⟩
    · rintro ⟨l1, l2, rfl, h1, h2⟩
      cases h2 with
      | cons _ h2 =>
        rw [List.sublist_nil.mp h2, List.append_nil]
        exact .inl (ih.mpr h1)
      | cons_cons _ h2 =>
        rw [List.sublist_nil.mp h2]
        exact .inr ⟨l1, ih.mpr h1, rfl⟩
theorem z28 {l : List Pt} : l.Nodup → (zlr l).Nodup := by
  induction l using zph with
  | h0 =>
    intro _
    show ([[]] : List (List Pt)).Nodup
    simp
  | h1 l x ih =>
    intro h
    obtain ⟨h1, _, h3⟩ := List.nodup_append.mp h
    rw [zpj]
    refine List.nodup_append.mpr ⟨ih h1, List.pairwise_map.mpr ((ih h1).imp fun {a b} n e => n (List.append_cancel_right e)), fun a ha b hb e => ?_⟩
    obtain ⟨t, _, rfl⟩ := List.mem_map.mp hb
    have hx : x ∈ l := (zs7.mp ha).subset (by rw [e]; exact List.mem_append.mpr (.inr (List.mem_singleton.mpr rfl)))
    exact h3 x hx x (List.mem_singleton.mpr rfl) rfl
theorem zwc (l : List Pt) : (zlr l).length = 2 ^ l.length := by
  induction l using zph with
  | h0 => rfl
  | h1 l x ih =>
    rw [zpj, List.length_append, List.length_map, ih, List.length_append, List.length_singleton, Nat.pow_succ]
    omega
/-- a comprehension over a list that is tracked -/
theorem zacu {wi : DTI} {g : DTG} {te : DTE} {own : List Nat} {η : DSt} {G : DHp} {Q : DVK} {α : Type} {xs : List α} {f : α → D} {a : Addr} (h : α → D) (hl : xs.length ≤ 1000000) (ha : G a = some (.lst (xs.map f)))
    (hw : ∀ R : List D → (DHp → Prop) → DHp → Prop, R (xs.map f) (fun G => G a = some (.lst (xs.map f))) G → wi η G R)
    (hb : ∀ x ∈ xs, ∀ (G1 : DHp) (A : DVK), A (h x) G1 → g (f x) (zjv η own) G1 fun η2 G2 => te η2 G2 A)
    (q : ∀ p, G p = none → Q (.ref p) (up G p (.lst (xs.map h)))) : dLc wi g dYes te own η G Q := by
  refine hw _ ?_
  intro p hp
  have hne : a ≠ p := fun e => by rw [e, hp] at ha; cases ha
  refine ⟨fun i acc G' => acc = (xs.take i).map h ∧ G' = up G p (.lst acc), ⟨rfl, rfl⟩, ?_, ?_, ?_⟩
  · rintro i acc G' ⟨rfl, rfl⟩
    exact ⟨by show up G p _ a = _; rw [zj2 hne]; exact ha, zi⟩
  · rintro i d acc G' hd ⟨rfl, rfl⟩
    obtain ⟨x, hx, rfl⟩ := zbz hd
    have := hb x (List.mem_of_getElem? hx) (up G p (.lst ((xs.take i).map h))) (fun y G4 => ((xs.take i).map h).length < sizeLine ∧ G4 p = some (.lst ((xs.take i).map h)) ∧ ((xs.take i).map h ++ [y] = (xs.take (i + 1)).map h ∧ up G4 p (.lst ((xs.take i).map h ++ [y])) = up G p (.lst ((xs.take i).map h ++ [y])))) ?_
    · simpa only [dYes, if_true] using this
    · refine ⟨zas ?_, zi, ?_, by rw [zft]⟩
      · rw [List.length_map, List.length_take]; omega
      · rw [zdz hx, List.map_append]; rfl
  · rintro acc G' ⟨rfl, rfl⟩
    rw [List.length_map, List.take_length]
    exact q p hp
end M
namespace M
open PySem PySem.Spec PyProof.Rows L2 DL
variable [CA]
abbrev zfa : List Str := ["draw", "camera", "sites", "craters", "looks", "turn", "standing", "survey", "due", "rows", "site", "row", "ground", "sure", "bad", "at", "spoilt", "many", "picture"]
def zp7 : DTS :=
    (dAsg (dTup (ze (dCB zfi (ze (zd 0) dNil)) (ze (dFz (dCB z6w (ze (dCB zfk (ze (dFz (dCB z6w (ze (dFld CA.Ground "craters" (dCB zfh (ze (zd 0) (ze (dC (.int 6)) (ze (dC (.int 5)) dNil))))) dNil))) dNil)) dNil))) dNil))) (zgd (zam (zk 1) (zam (zk 2) zgc)) 2))
def zp8 : DTS :=
    (dAsg (dLc (zb5 (zd 2)) (zk 10) (zau (dOp dEq (dCB zl (ze (zd 0) (ze (dC (.int 2)) dNil))) (dC (.int 0)))) (zd 10) [10]) (zk 3))
def zp9 : DTS :=
    (dAsg (zjn dNil) (zk 4))
def zpk : DTS :=
    (dFor (ze7 (ze (dOp dAdd (dC (.int 1)) (dCB zl (ze (zd 0) (ze (dC (.int 3)) dNil)))) dNil)) (zk 5)
    (dSeq (dAsg (dTup (ze (dCB zl (ze (zd 0) (ze (dC (.int 4)) dNil))) (ze (dOp dSub (dCB zl (ze (zd 0) (ze (dC (.int 5)) dNil))) (dC (.int 2))) (ze (dOp dSub (dCB zl (ze (zd 0) (ze (dC (.int 5)) dNil))) (dC (.int 2))) dNil)))) (zk 6))
    (zhu (dM "list" zg8 (zd 4) (ze (dTup (ze (zd 6) (ze (zeh dSl (dCB zej (ze (zd 0) (ze (dCB zd3 (ze (dFz (zrt CA.Ground zag (ze (zd 3) dNil))) (ze (zd 1) (ze (zd 6) dNil)))) (ze (zd 6) dNil)))) zc7 (zjh (dC (.int 4)))) dNil))) dNil)))))
def zqe : DTS :=
    zpk
def zpv : DTS :=
    (dAsg (dTup (ze (dFz (zse CA.Survey zbf (fun _ _ _ => False) (ze (zd 2) (ze (zd 1) (ze (zd 4) dNil))))) (ze (zjn dNil) dNil))) (zgd (zam (zk 7) (zam (zk 8) zgc)) 2))
def zp2 : DTS :=
    (dAsg (zjn (ze (dTup dNil) dNil)) (zk 9))
def zs0 : DTS :=
    (dFor (zb5 (dFz (dCB zty (ze (zd 2) dNil)))) (zk 10)
    (dAug 9 (dFz (dLc (zb5 (zd 9)) (zk 11) dYes (dOp dAdd (zd 11) (dTup (ze (zd 10) dNil))) [11])) zy8))
def zqc : DTS :=
    zs0
def zzk : DTS :=
    (dFor (zb5 (zd 9)) (zk 11)
    (dSeq (dAsg (dFz (zrt CA.Ground zag (ze (zd 11) dNil))) (zk 12))
    (dIfS (zau (dCB dAll (ze (dFz (dLc (zb5 (zd 4)) (zgd (zam (zk 6) (zam (zk 18) zgc)) 2) dYes (dCB zgx (ze (dCB zd3 (ze (zd 12) (ze (zd 1) (ze (zd 6) dNil)))) (ze (zd 18) (ze (zd 6) dNil)))) [6, 18])) dNil)))
    (zhu (dM "list" zg8 (zd 8) (ze (zd 11) dNil)))
    zdh)))
def zpy : DTS :=
    zzk
def z2s : DTS :=
    (dIfS (zau (dOp dNe (dCB zbq (ze (zd 7) (ze (dOp dPow (dC (.int 10)) (dC (.int 9))) dNil))) (dFz (dCB zs5 (ze (zd 8) dNil)))))
    (dRet (dC (.bl false)))
    zdh)
def zp4 : DTS :=
    z2s
def zrj : DTS :=
    (dAsg (dIf (zau (dOp (dEmp false) (zd 8) (zjq dNil))) (dC .non) (dCB zmr (ze (dFz (dLc (zb5 (dFz (dCB zty (ze (zd 2) dNil)))) (zk 10) (zau (dCB dAll (ze (dFz (dLc (zb5 (zd 8)) (zk 11) dYes (dOp (dIn false) (zd 10) (zd 11)) [11])) dNil))) (zd 10) [10])) dNil))) (zk 13))
def zqb : DTS :=
    zrj
def zuw : DTS :=
    (dIfS (zau (dOp dNe (dCB zf6 (ze (zd 7) (ze (dOp dPow (dC (.int 10)) (dC (.int 9))) dNil))) (zd 13)))
    (dRet (dC (.bl false)))
    zdh)
def zos : DTS :=
    zuw
def zva : DTS :=
    (dIfS (zau (dOp dNe (dCB zc9 (ze (zd 7) (ze (dOp dPow (dC (.int 10)) (dC (.int 9))) dNil))) (dCB zmr (ze (dFz (dLc (zb5 (dFz (dCB zty (ze (zd 2) dNil)))) (zk 10) (zau (dCB dAny (ze (dFz (dLc (zb5 (zd 8)) (zk 11) dYes (dOp (dIn false) (zd 10) (zd 11)) [11])) dNil))) (zd 10) [10])) dNil))))
    (dRet (dC (.bl false)))
    zdh)
def zox : DTS :=
    zva
def zsi : DTS :=
    (zy6 CA.BadGround [] 14 (fun _ _ _ => False) (fun U1 => (dSeq (zhu (dFz (zse CA.Survey zbf U1 (ze (dOp dAdd (dOp dAdd (zd 2) (zeh dSl (zd 2) zc7 (zjh (dC (.int 1))))) (zjq (ze (dTup (ze (dC (.int 0)) (ze (dC (.int 0)) dNil))) dNil))) (ze (zd 1) (ze (zd 4) dNil))))))
    (dRet (dC (.bl false)))))
    (fun a1 x1 => (dIfS (zau (dOp dNe (dXF a1 CA.BadGround x1 "number" (zd 14)) (dCB dLen (ze (zd 2) dNil))))
    (dRet (dC (.bl false)))
    zdh)))
def zov : DTS :=
    zsi
def zru : DTS :=
    (zy6 CA.BadStanding [] 14 (fun _ _ _ => False) (fun U2 => (dSeq (zhu (dFz (zse CA.Survey zbf U2 (ze (zd 2) (ze (zd 1) (ze (dOp dAdd (zd 4) (zjq (ze (dTup (ze (dTup (ze (dC (.int 4)) (ze (dC (.int 0)) (ze (dC (.int 0)) dNil)))) (ze (dTup dNil) dNil))) dNil))) dNil))))))
    (dRet (dC (.bl false)))))
    (fun a2 x2 => (dIfS (zau (dOp dNe (dXF a2 CA.BadStanding x2 "standing" (zd 14)) (dTup (ze (dC (.int 4)) (ze (dC (.int 0)) (ze (dC (.int 0)) dNil))))))
    (dRet (dC (.bl false)))
    zdh)))
def zoq : DTS :=
    zru
def zk6 : DTS :=
    (dPar 15 6 (ze (dCB zl (ze (zd 0) (ze (dOp dAdd (dCB dLen (ze (zd 4) dNil)) (dC (.int 1))) dNil))) (ze (dTup (ze (dC (.int 0)) (ze (dC (.int 0)) (ze (dC (.int 0)) dNil)))) dNil)))
def zpa : DTS :=
    (dAsg (dOp dAdd (dOp dIx (dOp dIx (zd 4) (dC (.int 0))) (dC (.int 1))) (dTup (ze (dCB zd7 (ze (zd 0) (ze (zjq (ze (dTup (ze (dFld CA.Camera "width" (zd 1)) (ze (dC (.int 0)) (ze (dC (.int 1)) dNil)))) (ze (dTup (ze (dC (.int 0)) (ze (dFld CA.Camera "height" (zd 1)) (ze (dC (.int 1)) dNil)))) (ze (dTup (ze (dC (.int 0)) (ze (dNeg (dC (.int 1))) (ze (dC (.int 1)) dNil)))) (ze (dTup (ze (dC (.int 0)) (ze (dC (.int 0)) (ze (dC (.int 0)) dNil)))) (ze (dTup (ze (dC (.int 0)) (ze (dC (.int 0)) (ze (dC (.int 100)) dNil)))) (ze (dTup (ze (dC (.int 0)) (ze (dC (.int 0)) dNil))) (ze (zjq (ze (dC (.int 0)) (ze (dC (.int 0)) (ze (dC (.int 1)) dNil)))) dNil)))))))) dNil))) dNil))) (zk 16))
def zsl : DTS :=
    (zy6 CA.BadPicture [] 14 (fun _ _ _ => False) (fun U3 => (dSeq (zhu (dFz (zse CA.Survey zbf U3 (ze (zd 2) (ze (zd 1) (ze (dOp dAdd (dOp dAdd (dOp dAdd (zeh dSl (zd 4) zc7 (zjh (zd 15))) (zjq (ze (dTup (ze (zd 6) (ze (zd 16) dNil))) dNil))) (zeh dSl (zd 4) (zjh (zd 15)) zc7)) (zjq (ze (dTup (ze (dTup (ze (dC (.int 4)) (ze (dC (.int 0)) (ze (dC (.int 0)) dNil)))) (ze (dTup dNil) dNil))) dNil))) dNil))))))
    (dRet (dC (.bl false)))))
    (fun a3 x3 => (dIfS (zau (dOp dNe (dXF a3 CA.BadPicture x3 "number" (zd 14)) (dOp dSub (dCB dLen (ze (zd 16) dNil)) (dC (.int 1)))))
    (dRet (dC (.bl false)))
    zdh)))
def zot : DTS :=
    zsl
def zrs : DTS :=
    (zy6 CA.TooMany [] 17 (fun _ _ _ => False) (fun U4 => (zhu (dCX zdw U4 (ze (zd 7) (ze (dC (.int 0)) dNil)))))
    (fun a4 x4 => (dRet (dOp dEq (dXF a4 CA.TooMany x4 "most" (zd 17)) (dC (.int 0))))))
def zpc : DTS :=
    zrs
def zv5 : DTS :=
    (dRet (dC (.bl false)))
def zom : DTS :=
    zv5
def zit : DTS :=
    (dFgt (dSeq zpc zom))
def zlk : DTS :=
    (dSeq zot zit)
def zk1 : DTS :=
    (dSeq zpa zlk)
def zi2 : DTS :=
    (dFgt (dSeq zk6 zk1))
def zjb : DTS :=
    (dFgt (dSeq zoq zi2))
def zgy : DTS :=
    (dSeq zov zjb)
def zjc : DTS :=
    (dSeq zox zgy)
def zix : DTS :=
    (dSeq zos zjc)
def zmi : DTS :=
    (dSeq zqb zix)
def zqa : DTS :=
    (dFrz 8 (dSeq zp4 zmi))
def zmb : DTS :=
    (dFrz 9 (dSeq zpy zqa))
def zl5 : DTS :=
    (dSeq zqc zmb)
def zme : DTS :=
    (dSeq zp2 zl5)
def zl9 : DTS :=
    (dFrz 4 (dSeq zpv zme))
def zl2 : DTS :=
    (dSeq zqe zl9)
def zp6 : DTS :=
    (dSeq zp9 zl2)
def zpx : DTS :=
    (dSeq zp8 (dFrz 3 zp6))
def zo9 : DTS :=
    (dSeq zp7 zpx)
def stA (a : Addr) (c : Cam) (si : List Pt) (o3 o4 o5 o6 o7 o8 o9 o10 o11 o12 o13 o14 o15 o16 o17 o18 : Option D) : DSt := [some (.ref a), some (cD c), some (eL e3 si), o3, o4, o5, o6, o7, o8, o9, o10, o11, o12, o13, o14, o15, o16, o17, o18]
structure CamP (c : Cam) : Prop where
  w : 2 ≤ c.w ∧ c.w ≤ 4
  h : 1 ≤ c.h ∧ c.h ≤ 3
  er : 0 ≤ c.er ∧ c.er ≤ 1
  fa : 0 ≤ c.fa ∧ c.fa ≤ 1
  lo : 0 ≤ c.lo ∧ c.lo ≤ 1
theorem CamP.ok {c : Cam} (h : CamP c) : z3i c := by
  obtain ⟨h1, h2, h3, h4, h5⟩ := h
  exact ⟨by omega, by omega, by omega, by omega, by omega⟩
structure SiP (si : List Pt) : Prop where
  len : si.length ≤ 6
  nd : si.Nodup
  srt : srtT e3 si = si
  bd : ∀ p ∈ si, okPt (0 - 1000000) 1000000 p
def LkP (c : Cam) (lk : List (Pt × List Pt)) : Prop := ∀ l ∈ lk, OkSt l.1 ∧ z1z c l.2 ∧ l.2.length ≤ 4
theorem zacx {pic : List Pt} {G : DHp} {Q : DVK} (q : Q (eT e3 (pic.take 4)) G) : dSl (eT e3 pic) none (some 4) G Q := by
  show Q (.nd .tup (DL.cutD (pic.map e3) none (some 4))) G
  have e : DL.cutD (pic.map e3) none (some 4) = (pic.take 4).map e3 := by
    have := DL.zze (pic.map e3) 4
    rw [List.map_take]
    exact this
  rw [e]
  exact q
theorem z6h {c : Cam} {pic : List Pt} (h : z1z c pic) : z1z c (pic.take 4) := fun p hp => h p (List.mem_of_mem_take hp)
theorem zab7 {c : Cam} {cr : List Pt} {st : Pt} (hc : CamP c) (h : z30 cr) (b1 : -2 ≤ st.2.1 ∧ st.2.1 ≤ 2) (b2 : -2 ≤ st.2.2 ∧ st.2.2 ≤ 2) : OkSk (skAt c cr st) := by
  have hl := h.len
  refine ⟨by rw [zr5]; omega, fun x hx => h.bd x (zne.mp hx), hc.ok, Nat.le_of_ble_eq_true rfl, ?_, ?_, ?_, ?_⟩
  · show -1000 ≤ st.2.1 ∧ st.2.1 ≤ st.2.1 ∧ st.2.1 ≤ st.2.1 + 99; omega
  · show -1000 ≤ st.2.2 ∧ st.2.2 ≤ st.2.2 ∧ st.2.2 ≤ st.2.2 + 99; omega
  · show st.2.1 ≤ 1000; omega
  · show st.2.2 ≤ 1000; omega
section
variable {F : zmh} {G0 : DHp} {a p : Addr} {ns : List Int} {n : Int} {c : Cam} {si cr : List Pt} {lk : List (Pt × List Pt)}
theorem zaan (hc : CamP c) (oc : z30 cr) (hl : ns.length ≤ 63) (hap : a ≠ p) (k : ∀ lk n' o5 o6, 1 ≤ lk.length → lk.length ≤ 3 → LkP c lk → F.nx (stA a c si (some (eL e3 cr)) (some (.ref p)) o5 o6 none none none none none none none none none none none none) (Gw (up G0 p (.lst (lk.map eLk))) a ns n')) :
    zpk F (stA a c si (some (eL e3 cr)) (some (.ref p)) none none none none none none none none none none none none none none) (Gw (up G0 p (.lst [])) a ns n) := by
  have hw := hc.w
  have hh := hc.h
  have hcl := oc.len
  simp_arith only [zpk, stA, dFor, ze7]
  refine zer (by decide) hl fun m m0 m1 => ⟨⟨by omega, by omega⟩, ?_⟩
  refine ⟨fun i η G' => ∃ lk n' o5 o6, η = stA a c si (some (eL e3 cr)) (some (.ref p)) o5 o6 none none none none none none none none none none none none ∧ G' = Gw (up G0 p (.lst (lk.map eLk))) a ns n' ∧ lk.length = i ∧ LkP c lk, ⟨[], _, none, none, rfl, rfl, rfl, fun l hl => by cases hl⟩, fun _ _ _ _ => trivial, ?_, ?_⟩
  · rintro i d η G' hd ⟨lk, n', o5, o6, rfl, rfl, rfl, hlk⟩
    have hlt := (List.getElem?_eq_some_iff.mp hd).1
    rw [List.length_map, zdk] at hlt
    obtain ⟨t, _, rfl⟩ := zbz hd
    simp_arith only [stA]
    refine zer (by decide) hl fun t t0 t1 => ?_
    refine zer (by decide) hl fun x x0 x1 => ?_
    simp_arith only [true_and]
    refine zer (by decide) hl fun y y0 y1 => ?_
    simp_arith only [true_and]
    have os : OkSt (t, x - 2, y - 2) := ⟨by dsimp only; omega, by dsimp only; omega, by dsimp only; omega⟩
    refine ⟨by simp only [tyD, zm4 hap], ?_⟩
    simp_arith only [zrt]
    intro z hz
    refine ⟨z, cr, rfl, .inl rfl, zi, by omega, oc.bd, ?_⟩
    rw [zft]
    refine ⟨rfl, ?_⟩
    simp_arith only [zi, zbv hz]
    refine ⟨cr, c, (t, x - 2, y - 2), rfl, os, ?_⟩
    refine ⟨a, ns, _, _, skAt c cr (t, x - 2, y - 2), (t, x - 2, y - 2), rfl, rfl, hl, zab7 hc oc (by dsimp only; omega) (by dsimp only; omega), by show c.w ≤ 100; omega, by show c.h ≤ 100; omega, fun pic n2 op opl => ?_⟩
    simp_arith only [zeh]
    refine zacx ?_
    refine (zka (y := eLk ((t, x - 2, y - 2), pic.take 4)) (zm4 hap) (zas (by rw [List.length_map]; omega)) ?_).2
    rw [z33 hap, show lk.map eLk ++ [eLk ((t, x - 2, y - 2), pic.take 4)] = (lk ++ [((t, x - 2, y - 2), pic.take 4)]).map eLk by rw [List.map_append]; rfl]
    refine ⟨_, (by repeat (first | exact Le.nil | apply Le.keep | apply Le.drop)), _, _, _, _, rfl, rfl, by rw [List.length_append]; rfl, fun l hl => ?_⟩
    rcases List.mem_append.mp hl with hl | hl
    · exact hlk l hl
    · rw [List.mem_singleton.mp hl]
      exact ⟨os, z6h op, by rw [List.length_take]; omega⟩
  · rintro η G' ⟨lk, n', o5, o6, rfl, rfl, hi, hlk⟩
    rw [List.length_map, zdk] at hi
    exact k lk n' o5 o6 (by omega) (by omega) hlk
theorem zado {G : DHp} {o3 o4 o5 o6 o7 o8 : Option D} (S : SiP si) (hp : G p = none) (k : ∀ o10, F.nx (stA a c si o3 o4 o5 o6 o7 o8 (some (.ref p)) o10 none none none none none none none none) (up G p (.lst ((zlr si).map (eT e3))))) :
    zs0 F (stA a c si o3 o4 o5 o6 o7 o8 (some (.ref p)) none none none none none none none none none) (up G p (.lst [.nd .tup []])) := by
  have hsl := S.len
  simp_arith only [zs0, stA, dFor, zb5]
  refine zpi (f := e3) (xs := si) rfl zds al3 (st3 _) (fun a => Nat.le_trans (zd0 a) (by decide)) fun w hw => ?_
  rw [S.srt]
  simp_arith only [zi, zbv hw, DO.tree]
  refine ⟨fun i η G' => ∃ o10 o11, η = stA a c si o3 o4 o5 o6 o7 o8 (some (.ref p)) o10 o11 none none none none none none none ∧ G' = up G p (.lst ((zlr (si.take i)).map (eT e3))) ∧ o11 = none, ⟨none, none, rfl, rfl, rfl⟩, fun _ _ _ _ => trivial, ?_, ?_⟩
  · rintro i d η G' hd ⟨o10, o11, rfl, rfl, rfl⟩
    obtain ⟨x, hx, rfl⟩ := zbz hd
    have hi := (List.getElem?_eq_some_iff.mp hx).1
    have hrl := zwc (si.take i)
    rw [List.length_take] at hrl
    have hpw : 2 ^ min i si.length ≤ 2 ^ 6 := Nat.pow_le_pow_right (by decide) (by omega)
    simp_arith only [stA]
    refine zacu (xs := zlr (si.take i)) (f := eT e3) (a := p) (fun r => eT e3 (r ++ [x])) (by omega) zi (fun R r => by simp_arith only [zb5, zi]; exact r) (fun r hr G1 A kk => ?_) fun w2 hw2 => ?_
    · simp_arith only [true_and]
      have hrl := (zs7.mp hr).length_le
      rw [List.length_take] at hrl
      refine zoo (xs := r.map e3) (ys := [e3 x]) (zkz (by rw [List.length_map, List.length_singleton]; omega)) ?_
      rw [show D.nd Kd.tup (r.map e3 ++ [e3 x]) = eT e3 (r ++ [x]) by unfold eT; rw [List.map_append]; rfl]
      exact kk
    · simp_arith only [zi, zbv hw2, DO.tree]
      refine z5d (xs := (zlr (si.take i)).map (eT e3)) (ys := (zlr (si.take i)).map fun r => eT e3 (r ++ [x])) zi rfl (zkz (by rw [List.length_map, List.length_map]; omega)) ?_
      rw [zft]
      refine ⟨_, (by repeat (first | exact Le.nil | apply Le.keep | apply Le.drop)), _, none, rfl, ?_, rfl⟩
      rw [zdz hx, zpj, List.map_append (f := eT e3), List.map_map]
      rfl
  · rintro η G' ⟨o10, o11, rfl, rfl, rfl⟩
    rw [List.length_map, List.take_length]
    exact k o10
end
noncomputable def zz3 (c : Cam) (lk : List (Pt × List Pt)) (r : List Pt) : Bool := lk.all fun l => fitb (skAt c r l.1) l.2 l.1
theorem z78 {c : Cam} {si : List Pt} {lk : List (Pt × List Pt)} {r : List Pt} : zz3 c lk r = true ↔ z0l ⟨si, c, lk⟩ r := by
  unfold zz3 z0l
  rw [List.all_eq_true]
  exact ⟨fun h l hl => z0b.mp (h l hl), fun h l hl => z0b.mpr (h l hl)⟩
section
variable {F : zmh} {G : DHp} {a p : Addr} {c : Cam} {si : List Pt} {lk : List (Pt × List Pt)} {o3 o5 o7 o10 : Option D}
theorem zad4 (S : SiP si) (hlk : LkP c lk) (hll : lk.length ≤ 3) {o6 : Option D} (k : ∀ o6 o11 o12 o18, F.nx (stA a c si o3 (some (eL eLk lk)) o5 o6 o7 (some (.ref p)) (some (eL (eT e3) (zlr si))) o10 o11 o12 none none none none none o18) (up G p (.lst (((zlr si).filter (zz3 c lk)).map (eT e3))))) :
    zzk F (stA a c si o3 (some (eL eLk lk)) o5 o6 o7 (some (.ref p)) (some (eL (eT e3) (zlr si))) o10 none none none none none none none none) (up G p (.lst [])) := by
  have hsl := S.len
  have hrl := zwc si
  have hpw : 2 ^ si.length ≤ 2 ^ 6 := Nat.pow_le_pow_right (by decide) (by omega)
  simp_arith only [zzk, stA, dFor, zb5]
  rw [show eL (eT e3) (zlr si) = D.nd Kd.lst ((zlr si).map (eT e3)) from rfl]
  dsimp only
  refine ⟨fun i η G' => ∃ o6 o11 o12 o18, η = stA a c si o3 (some (eL eLk lk)) o5 o6 o7 (some (.ref p)) (some (eL (eT e3) (zlr si))) o10 o11 o12 none none none none none o18 ∧ G' = up G p (.lst ((((zlr si).take i).filter (zz3 c lk)).map (eT e3))), ⟨o6, none, none, none, rfl, rfl⟩, fun _ _ _ _ => trivial, ?_, ?_⟩
  · rintro i d η G' hd ⟨o6, o11, o12, o18, rfl, rfl⟩
    obtain ⟨r, hr, rfl⟩ := zbz hd
    have hi := (List.getElem?_eq_some_iff.mp hr).1
    have hsub := zs7.mp (List.mem_of_getElem? hr)
    have hr6 := hsub.length_le
    simp_arith only [stA, zrt]
    intro z hz
    refine ⟨z, r, rfl, .inr rfl, zi, by omega, fun x hx => S.bd x (hsub.subset hx), ?_⟩
    rw [zft]
    refine ⟨rfl, ?_⟩
    simp_arith only [zi, zbv hz]
    refine zmn (xs := lk) (f := eLk) (fun l => .bl (fitb (skAt c r l.1) l.2 l.1)) (by omega) (fun R r => by simp_arith only [zb5, eL]; exact r) (fun l hl G1 A kk => ?_) fun w hw => ?_
    · obtain ⟨os, op, opl⟩ := hlk l hl
      simp_arith only [eLk]
      refine ⟨r, c, l.1, rfl, os, ?_⟩
      exact ⟨skAt c r l.1, l.2, l.1, rfl, by rw [zr5]; omega, by omega, kk⟩
    · simp_arith only [zi, zbv hw, DO.tree]
      refine znb (xs := lk) (b := fun l => fitb (skAt c r l.1) l.2 l.1) ?_
      have hfl : (((zlr si).take i).filter (zz3 c lk)).length ≤ i := by
        refine Nat.le_trans (List.length_filter_le _ _) ?_
        rw [List.length_take]; omega
      cases hg : lk.all fun l => fitb (skAt c r l.1) l.2 l.1 with
      | true =>
        have hg2 : zz3 c lk r = true := hg
        simp_arith only [true_and]
        refine zka (y := eT e3 r) zi (zas (by rw [List.length_map]; omega)) ?_
        rw [zft]
        refine ⟨_, (by repeat (first | exact Le.nil | apply Le.keep | apply Le.drop)), _, _, _, _, rfl, ?_⟩
        rw [zdz hr, List.filter_append, List.map_append]
        simp only [List.filter_cons, hg2, if_true, List.filter_nil, List.map_cons, List.map_nil]
      | false =>
        have hg2 : zz3 c lk r = false := hg
        simp_arith only [true_and]
        refine ⟨_, (by repeat (first | exact Le.nil | apply Le.keep | apply Le.drop)), _, _, _, _, rfl, ?_⟩
        rw [zdz hr, List.filter_append, List.map_append]
        simp only [List.filter_cons, hg2, if_false, Bool.false_eq_true, List.filter_nil, List.map_nil, List.append_nil]
  · rintro η G' ⟨o6, o11, o12, o18, rfl, rfl⟩
    rw [List.length_map, List.take_length]
    exact k _ _ _ _
end
end M
namespace M
open PySem PySem.Spec PyProof.Rows L2 DL
variable [CA]
theorem zada {a b : List Pt} (h : eT e3 a = eT e3 b) : a = b := zabi (f := e3) (fun h => z8p.mp h) h
theorem z7f {xs ys : List (List Pt)} (p : xs.Perm ys) : srtT (eT e3) xs = srtT (eT e3) ys := z9z (fun a => ziw zds a) zws (fun _ _ h => zada h) p
/-- what stands of a survey behind the rows -/
structure AsP (c : Cam) (si : List Pt) (lk : List (Pt × List Pt)) : Prop where
  cam : CamP c
  si : SiP si
  l1 : 1 ≤ lk.length ∧ lk.length ≤ 3
  lk : LkP c lk
theorem AsP.ou {c : Cam} {si : List Pt} {lk : List (Pt × List Pt)} (h : AsP c si lk) : OkSi ⟨si, c, lk⟩ := ⟨⟨fun l hl => by obtain ⟨a, _, b⟩ := h.lk l hl; exact ⟨a, by omega⟩⟩, h.si.nd, by have := h.si.len; show si.length ≤ 10; omega, h.si.bd⟩
noncomputable def dueR (c : Cam) (si : List Pt) (lk : List (Pt × List Pt)) : List (List Pt) := (zlr si).filter (zz3 c lk)
theorem zwt {c : Cam} {si : List Pt} {lk : List (Pt × List Pt)} (S : SiP si) {F : List (List Pt)} (nd : F.Nodup) (h : ∀ r, r ∈ F ↔ r.Sublist si ∧ z0l ⟨si, c, lk⟩ r) : F.Perm (dueR c si lk) := by
  refine zmy nd ((z28 S.nd).filter _) fun r => ?_
  unfold dueR
  rw [h, List.mem_filter, zs7, z78]
theorem z4o {c : Cam} {si : List Pt} {lk : List (Pt × List Pt)} (S : SiP si) : (dueR c si lk).length ≤ 64 := by
  have hsl := S.len
  have hrl := zwc si
  have hpw : 2 ^ si.length ≤ 2 ^ 6 := Nat.pow_le_pow_right (by decide) (by omega)
  have := List.length_filter_le (zz3 c lk) (zlr si)
  unfold dueR
  omega
section
variable {F : zmh} {G : DHp} {a : Addr} {c : Cam} {si : List Pt} {lk : List (Pt × List Pt)} {o3 o5 o6 o9 o10 o11 o12 o13 o18 : Option D}
theorem zafh (h : AsP c si lk) (k : F.nx (stA a c si o3 (some (eL eLk lk)) o5 o6 (some (suD ⟨si, c, lk⟩)) (some (eL (eT e3) (dueR c si lk))) o9 o10 o11 o12 none none none none none o18) G) :
    z2s F (stA a c si o3 (some (eL eLk lk)) o5 o6 (some (suD ⟨si, c, lk⟩)) (some (eL (eT e3) (dueR c si lk))) o9 o10 o11 o12 none none none none none o18) G := by
  simp_arith only [z2s, stA]
  refine ⟨by unfold CPow; decide, ?_⟩
  refine ⟨⟨si, c, lk⟩, _, rfl, h.ou, by decide, fun Fd fn fm fl => ?_⟩
  refine zv9 (f := eT e3) (xs := dueR c si lk) rfl (fun a => ziw zds a) zws (fun a => ⟨_, rfl⟩) (fun a => Nat.le_trans (zjf zd0 a) (by decide)) fun z hz => ?_
  simp_arith only [zi, zbv hz, DO.tree]
  rw [z7f (zwt h.si fn fm)]
  refine z11 (z5r (fun a => ziw zds a) _) (z5r (fun a => ziw zds a) _) (Nat.le_trans (z5i (B := 2) (fun a => zjf zd0 a) _) (by decide)) (Nat.le_trans (z5i (B := 2) (fun a => zjf zd0 a) _) (by decide)) false ⟨fun z => (by cases z), fun z => absurd rfl z⟩ ?_
  simp_arith only [true_and]
  exact k
theorem zadr (h : AsP c si lk) (k : F.nx (stA a c si o3 (some (eL eLk lk)) o5 o6 (some (suD ⟨si, c, lk⟩)) (some (eL (eT e3) (dueR c si lk))) o9 o10 o11 o12 (some (zui si (dueR c si lk))) none none none none o18) G) :
    zrj F (stA a c si o3 (some (eL eLk lk)) o5 o6 (some (suD ⟨si, c, lk⟩)) (some (eL (eT e3) (dueR c si lk))) o9 o10 o11 o12 none none none none none o18) G := by
  have hdl := z4o (c := c) (lk := lk) h.si
  have hsl := h.si.len
  simp_arith only [zrj, stA]
  refine z40 ?_
  simp_arith only [true_and]
  generalize dueR c si lk = S at hdl k ⊢
  by_cases e : S = []
  · rw [e] at k ⊢
    simp_arith only [List.isEmpty_nil]
    exact k
  · rw [show S.isEmpty = false by cases S with | nil => exact absurd rfl e | cons _ _ => rfl]
    unfold zui at k
    rw [if_neg e] at k
    simp_arith only [true_and]
    refine z4s (si := si) (fun x => S.all fun r => decide (x ∈ r)) (by omega) (fun R r => ?_) (fun x hx G1 A B ka kb => ?_) fun w hw => ?_
    · simp_arith only [zb5]
      refine zpi (f := e3) (xs := si) rfl zds al3 (st3 _) (fun a => Nat.le_trans (zd0 a) (by decide)) fun w hw => ?_
      rw [h.si.srt]
      simp_arith only [zi, zbv hw, DO.tree]
      exact r
    · simp_arith only [true_and]
      refine zmn (xs := S) (f := eT e3) (fun r => .bl (decide (x ∈ r))) (by omega) (fun R r => by simp_arith only [zb5, eL]; exact r) (fun r hr G2 A2 k2 => by simp_arith only [true_and]; exact zu2 k2) fun w hw => ?_
      simp_arith only [zi, zbv hw, DO.tree]
      refine znb ?_
      cases ha : S.all fun r => decide (x ∈ r) with
      | true => simp_arith only [true_and]; exact ka ha
      | false => simp_arith only [true_and]; exact kb ha
    · simp_arith only [zi, zbv hw, DO.tree]
      rw [zmj (ds := (si.filter fun x => S.all fun r => decide (x ∈ r)).map e3) rfl]
      exact k
theorem zacz {G : DHp} {Q : DVK} (q : Q (.bl false) G) : dNe .non .non G Q := by
  refine ⟨⟨rfl, rfl, by show SeqAt.shaped (py .non) = true; rw [py]; rfl, by show SeqAt.shaped (py .non) = true; rw [py]; rfl⟩, ?_⟩
  show Q (.bl (!PyData.eqv (py .non) (py .non))) G
  rw [py, PyData.eqv]
  exact q
theorem z9e {x : List Pt} {G : DHp} {Q : DVK} (q : Q (.bl false) G) : dNe (eT e3 x) (eT e3 x) G Q :=
  z11 (ziw zds _) (ziw zds _) (Nat.le_trans (zjf zd0 _) (by decide)) (Nat.le_trans (zjf zd0 _) (by decide)) false ⟨fun z => (by cases z), fun z => absurd rfl z⟩ q
theorem zae9 (h : AsP c si lk) (k : F.nx (stA a c si o3 (some (eL eLk lk)) o5 o6 (some (suD ⟨si, c, lk⟩)) (some (eL (eT e3) (dueR c si lk))) o9 o10 o11 o12 (some (zui si (dueR c si lk))) none none none none o18) G) :
    zuw F (stA a c si o3 (some (eL eLk lk)) o5 o6 (some (suD ⟨si, c, lk⟩)) (some (eL (eT e3) (dueR c si lk))) o9 o10 o11 o12 (some (zui si (dueR c si lk))) none none none none o18) G := by
  simp_arith only [zuw, stA]
  refine ⟨by unfold CPow; decide, ?_⟩
  refine ⟨⟨si, c, lk⟩, _, rfl, h.ou, by decide, fun Fd fn fm => ?_⟩
  rw [zyg (zwt h.si fn fm)]
  have k2 : dNe (zui si (dueR c si lk)) (zui si (dueR c si lk)) G fun d G1 => d = .bl false ∧ G1 = G := by
    unfold zui
    by_cases e : dueR c si lk = []
    · rw [if_pos e]; exact zacz ⟨rfl, rfl⟩
    · rw [if_neg e]; exact z9e ⟨rfl, rfl⟩
  obtain ⟨k3, k4, k5⟩ := k2
  refine ⟨k3, ?_⟩
  rw [k4]
  simp_arith only [true_and]
  exact k
theorem zaed (h : AsP c si lk) (k : F.nx (stA a c si o3 (some (eL eLk lk)) o5 o6 (some (suD ⟨si, c, lk⟩)) (some (eL (eT e3) (dueR c si lk))) o9 o10 o11 o12 o13 none none none none o18) G) :
    zva F (stA a c si o3 (some (eL eLk lk)) o5 o6 (some (suD ⟨si, c, lk⟩)) (some (eL (eT e3) (dueR c si lk))) o9 o10 o11 o12 o13 none none none none o18) G := by
  have hdl := z4o (c := c) (lk := lk) h.si
  have hsl := h.si.len
  simp_arith only [zva, stA]
  refine ⟨by unfold CPow; decide, ?_⟩
  refine ⟨⟨si, c, lk⟩, _, rfl, h.ou, by decide, fun Fd fn fm => ?_⟩
  rw [z2j (zwt h.si fn fm)]
  generalize dueR c si lk = S at hdl k ⊢
  refine z4s (si := si) (fun x => S.any fun r => decide (x ∈ r)) (by omega) (fun R r => ?_) (fun x hx G1 A B ka kb => ?_) fun w hw => ?_
  · simp_arith only [zb5]
    refine zpi (f := e3) (xs := si) rfl zds al3 (st3 _) (fun a => Nat.le_trans (zd0 a) (by decide)) fun w hw => ?_
    rw [h.si.srt]
    simp_arith only [zi, zbv hw, DO.tree]
    exact r
  · simp_arith only [true_and]
    refine zmn (xs := S) (f := eT e3) (fun r => .bl (decide (x ∈ r))) (by omega) (fun R r => by simp_arith only [zb5, eL]; exact r) (fun r hr G2 A2 k2 => by simp_arith only [true_and]; exact zu2 k2) fun w hw => ?_
    simp_arith only [zi, zbv hw, DO.tree]
    refine z9c ?_
    cases ha : S.any fun r => decide (x ∈ r) with
    | true => simp_arith only [true_and]; exact ka ha
    | false => simp_arith only [true_and]; exact kb ha
  · simp_arith only [zi, zbv hw, DO.tree]
    rw [zmj (ds := (si.filter fun x => S.any fun r => decide (x ∈ r)).map e3) rfl]
    refine z9e ?_
    simp_arith only [true_and]
    exact k
end
end M
namespace M
open PySem PySem.Spec PyProof.Rows L2 DL
variable [CA]
theorem z43 {α : Type} {f : α → D} {xs : List α} {t : Int} {G : DHp} {Q : DVK} (h0 : 0 ≤ t) (q : Q (eL f (xs.take t.toNat)) G) : dSl (eL f xs) none (some t) G Q := by
  show Q (.nd .lst (DL.cutD (xs.map f) none (some t))) G
  have e : DL.cutD (xs.map f) none (some t) = (xs.take t.toNat).map f := by
    have := DL.zze (xs.map f) t.toNat
    rw [Int.toNat_of_nonneg h0] at this
    rw [this, List.map_take]
  rw [e]
  exact q
theorem z9y {α : Type} {f : α → D} {xs : List α} {t : Int} {G : DHp} {Q : DVK} (h0 : 0 ≤ t) (q : Q (eL f (xs.drop t.toNat)) G) : dSl (eL f xs) (some t) none G Q := by
  show Q (.nd .lst (DL.cutD (xs.map f) (some t) none)) G
  have e : DL.cutD (xs.map f) (some t) none = (xs.drop t.toNat).map f := by
    have := DL.zu8 (xs.map f) t.toNat
    rw [Int.toNat_of_nonneg h0] at this
    rw [this, List.map_drop]
  rw [e]
  exact q
section
variable {F : zmh} {G : DHp} {a : Addr} {c : Cam} {si : List Pt} {lk : List (Pt × List Pt)} {o3 o5 o6 o7 o8 o9 o10 o11 o12 o13 o15 o16 o18 : Option D}
theorem zab8 (h : AsP c si lk) (k : ∀ x w o o', G x = none → up G x o w = none → F.nx (stA a c si o3 (some (eL eLk lk)) o5 o6 o7 o8 o9 o10 o11 o12 o13 none none none none o18) (up (up G x o) w o')) :
    zsi F (stA a c si o3 (some (eL eLk lk)) o5 o6 o7 o8 o9 o10 o11 o12 o13 none none none none o18) G := by
  have hsl := h.si.len
  simp_arith only [zsi, stA, zy6, zse, zeh]
  refine z43 (by decide) ?_
  refine zib (xs := si.map e3) (ys := (si.take 1).map e3) rfl rfl (zkz (by rw [List.length_map, List.length_map, List.length_take]; omega)) ?_
  refine zib (xs := si.map e3 ++ (si.take 1).map e3) (ys := [.nd .tup [.int 0, .int 0]]) rfl rfl (zkz (by rw [List.length_append, List.length_map, List.length_map, List.length_take, List.length_singleton]; omega)) ?_
  intro x hx
  refine ⟨x, si, (si.take 1).map e3 ++ [.nd .tup [.int 0, .int 0]], c, lk, [], by rw [List.append_assoc, List.append_nil]; rfl, zi, by omega, h.si.bd, h.si.nd, fun d r e => ⟨?_, fun w o hw => ?_⟩, fun e => ?_⟩
  · cases si with
    | nil =>
      cases e
      exact .inl (.inr ⟨_, rfl, by decide⟩)
    | cons y l =>
      cases e
      exact .inr ⟨y, List.mem_cons_self, rfl⟩
  · refine .inl ⟨rfl, fun y => ?_⟩
    simp_arith only [dXF]
    refine ⟨rfl, .int si.length, rfl, ?_⟩
    simp_arith only [zm0, decide_true]
    exact k _ _ _ _ hx hw
  · exact absurd e (by simp)
theorem zact (h : AsP c si lk) (k : ∀ x w o o', G x = none → up G x o w = none → F.nx (stA a c si o3 (some (eL eLk lk)) o5 o6 o7 o8 o9 o10 o11 o12 o13 none none none none o18) (up (up G x o) w o')) :
    zru F (stA a c si o3 (some (eL eLk lk)) o5 o6 o7 o8 o9 o10 o11 o12 o13 none none none none o18) G := by
  have hsl := h.si.len
  have hll := h.l1
  simp_arith only [zru, stA, zy6, zse]
  refine zib (xs := lk.map eLk) (ys := [.nd .tup [e3 (4, 0, 0), .nd .tup []]]) rfl rfl (zkz (by rw [List.length_map, List.length_singleton]; omega)) ?_
  intro x hx
  refine ⟨x, si, [], c, lk, [.nd .tup [e3 (4, 0, 0), .nd .tup []]], by rw [List.append_nil]; rfl, zi, by omega, h.si.bd, h.si.nd, fun d r e => (by cases e), fun _ => ⟨fun l hl => ?_, fun e => (by cases e), fun d r e => ?_⟩⟩
  · obtain ⟨o1, o2, _⟩ := h.lk l hl
    exact ⟨o1, o2⟩
  · cases e
    refine .inl ⟨(4, 0, 0), .nd .tup [], rfl, by decide, fun w o hw => ?_⟩
    refine .inl ⟨rfl, fun y => ?_⟩
    simp_arith only [dXF]
    refine ⟨rfl, e3 (4, 0, 0), rfl, ?_⟩
    refine z11 (zds (4, 0, 0)) (zds (4, 0, 0)) (Nat.le_trans (zd0 (4, 0, 0)) (by decide)) (Nat.le_trans (zd0 (4, 0, 0)) (by decide)) false ⟨fun z => (by cases z), fun z => absurd rfl z⟩ ?_
    simp_arith only [true_and]
    exact k _ _ _ _ hx hw
theorem zacf (h : AsP c si lk) {t : Int} {pic : List Pt} {d : D} (t0 : 0 ≤ t) (op : z1z c pic) (opl : pic.length ≤ 10) (hd : z8i c d) (k : ∀ x w o o', G x = none → up G x o w = none → F.nx (stA a c si o3 (some (eL eLk lk)) o5 (some (e3 (0, 0, 0))) o7 o8 o9 o10 o11 o12 o13 none (some (.int t)) (some (.nd .tup (pic.map e3 ++ [d]))) none o18) (up (up G x o) w o')) :
    zsl F (stA a c si o3 (some (eL eLk lk)) o5 (some (e3 (0, 0, 0))) o7 o8 o9 o10 o11 o12 o13 none (some (.int t)) (some (.nd .tup (pic.map e3 ++ [d]))) none o18) G := by
  have hsl := h.si.len
  have hll := h.l1
  dsimp only [zsl, stA, zy6, zse, dSeq, dIfS, zau, dOp, zd, dC, dRet, zjq, ze, dNil, dTup, zdh, dAsg, zjn, zk, zhu, dM, dM0, dIf, dAnd, dOr, dNot, zmu, dOrV, zrp, zhq, dFz, zpu, zuv, zn9, zqk, dCB, zgd, zam, zgc, zok, dNeg, dAug, zr7, dFrz, dPar, zc7, zjh, zeh, dYes, zjv, i2, d1, d2, d3, za4, List.map_cons, List.map_nil, List.cons_append, List.nil_append, List.getElem?_cons_zero, List.getElem?_cons_succ, List.getElem?_nil, List.replicate, List.set_cons_succ, List.set_cons_zero]
  refine z43 t0 ⟨Nat.le_of_ble_eq_true rfl, Nat.le_of_ble_eq_true rfl, ?_⟩
  refine zib (xs := (lk.take t.toNat).map eLk) (ys := [.nd .tup [e3 (0, 0, 0), .nd .tup (pic.map e3 ++ [d])]]) rfl rfl (zkz (by rw [List.length_map, List.length_singleton, List.length_take]; omega)) ?_
  refine z9y t0 ?_
  refine zib (xs := (lk.take t.toNat).map eLk ++ [.nd .tup [e3 (0, 0, 0), .nd .tup (pic.map e3 ++ [d])]]) (ys := (lk.drop t.toNat).map eLk) rfl rfl (zkz (by rw [List.length_append, List.length_map, List.length_singleton, List.length_map, List.length_take, List.length_drop]; omega)) ?_
  refine ⟨Nat.le_of_ble_eq_true rfl, Nat.le_of_ble_eq_true rfl, Nat.le_of_ble_eq_true rfl, Nat.le_of_ble_eq_true rfl, ?_⟩
  refine zib (xs := (lk.take t.toNat).map eLk ++ [.nd .tup [e3 (0, 0, 0), .nd .tup (pic.map e3 ++ [d])]] ++ (lk.drop t.toNat).map eLk) (ys := [.nd .tup [e3 (4, 0, 0), .nd .tup []]]) rfl rfl (zkz (by rw [List.length_append, List.length_append, List.length_map, List.length_singleton, List.length_singleton, List.length_map, List.length_take, List.length_drop]; omega)) ?_
  intro x hx
  refine ⟨x, si, [], c, lk.take t.toNat, .nd .tup [e3 (0, 0, 0), .nd .tup (pic.map e3 ++ [d])] :: ((lk.drop t.toNat).map eLk ++ [.nd .tup [e3 (4, 0, 0), .nd .tup []]]), by rw [List.append_nil, List.append_assoc, List.append_assoc]; rfl, zi, by omega, h.si.bd, h.si.nd, fun d r e => (by cases e), fun _ => ⟨fun l hl => ?_, fun e => (by cases e), fun d' r e => ?_⟩⟩
  · obtain ⟨o1, o2, _⟩ := h.lk l (List.mem_of_mem_take hl)
    exact ⟨o1, o2⟩
  · cases e
    refine .inr ⟨(0, 0, 0), pic, d, [], rfl, ⟨by decide, by decide, by decide⟩, op, hd, fun w o hw => ?_⟩
    refine .inl ⟨rfl, fun y => ?_⟩
    simp_arith only [dXF]
    refine ⟨rfl, .int pic.length, rfl, ?_⟩
    rw [z3a, List.length_append, List.length_map, List.length_singleton]
    simp_arith only [true_and]
    rw [decide_eq_true (show (pic.length : Int) = ((pic.length + 1 : Nat) : Int) - 1 by omega)]
    simp_arith only [true_and]
    exact k _ _ _ _ hx hw
theorem zab1 {u : Su} {o4 : Option D} (k : ∀ f w A B, G f = none → up G f A w = none → F.rt (.bl true) (up (up G f A) w B)) :
    zrs F (stA a c si o3 o4 o5 o6 (some (suD u)) o8 o9 o10 o11 o12 o13 none o15 o16 none o18) G := by
  simp_arith only [zrs, stA, zy6, dCX]
  refine ⟨u, rfl, fun f w A B hf hw => ?_⟩
  refine .inl ⟨rfl, fun y => ?_⟩
  simp_arith only [dXF]
  refine ⟨rfl, .int 0, rfl, ?_⟩
  simp_arith only [decide_true]
  exact k f w A B hf hw
end
/-- what is no point of a picture in the frame -/
theorem zab3 {c : Cam} (hc : CamP c) : ∀ d ∈ ([.nd .tup [.int c.w, .int 0, .int 1], .nd .tup [.int 0, .int c.h, .int 1], .nd .tup [.int 0, .int (-1), .int 1], .nd .tup [.int 0, .int 0, .int 0], .nd .tup [.int 0, .int 0, .int 100], .nd .tup [.int 0, .int 0], .nd .lst [.int 0, .int 0, .int 1]] : List D), z8i c d := fun d hd => by
  simp only [List.mem_cons, List.not_mem_nil, or_false] at hd
  rcases hd with rfl | rfl | rfl | rfl | rfl | rfl | rfl
  · exact .inr ⟨(c.w, 0, 1), rfl, fun z => by have := z.2.1.2; have h2 : c.w < c.w + 0 := this; omega⟩
  · exact .inr ⟨(0, c.h, 1), rfl, fun z => by have := z.2.2.2; have h2 : c.h < c.h + 0 := this; omega⟩
  · exact .inr ⟨(0, -1, 1), rfl, fun z => by have := z.2.2.1; have h2 : (0 : Int) - 0 ≤ -1 := this; omega⟩
  · exact .inr ⟨(0, 0, 0), rfl, fun z => by have := z.1.2.2.1; have h2 : (1 : Int) ≤ 0 := this; omega⟩
  · exact .inr ⟨(0, 0, 100), rfl, fun z => by have := z.1.2.2.2; have h2 : (100 : Int) ≤ 99 := this; omega⟩
  · exact .inl (.inr ⟨_, rfl, by decide⟩)
  · exact .inl (.inl ⟨_, rfl⟩)
end M
namespace M
open PySem PySem.Spec PyProof.Rows L2 DL
variable [CA]
/-- [f(draw) for .. in range(..)], each True -/
theorem zaff {wi : DTI} {g : DTG} {te : DTE} {own : List Nat} {η : DSt} {Q : DVK} {xs : List Int} {G0 : DHp} {a : Addr} {ns : List Int} {c : Int} (hl : xs.length ≤ 1000000)
    (hw : ∀ R, R (xs.map D.int) zdd (Gw G0 a ns c) → wi η (Gw G0 a ns c) R)
    (hb : ∀ x ∈ xs, ∀ (G1 : DHp) (c1 : Int) (A : DVK), (∀ c2, A (.bl true) (Gw G1 a ns c2)) → g (.int x) (zjv η own) (Gw G1 a ns c1) fun η2 G2 => te η2 G2 A)
    (q : ∀ ys : List Bool, (∀ y ∈ ys, y = true) → ∀ c' p, Gw G0 a ns c' p = none → Q (.ref p) (up (Gw G0 a ns c') p (.lst (ys.map D.bl)))) : dLc wi g dYes te own η (Gw G0 a ns c) Q := by
  refine hw _ ?_
  intro p hp
  obtain ⟨e, hap⟩ := z1f (o := .lst []) hp
  refine ⟨fun i acc G' => ∃ (ys : List Bool) (c' : Int), ys.length = i ∧ i ≤ xs.length ∧ (∀ y ∈ ys, y = true) ∧ acc = ys.map D.bl ∧ G' = Gw (up G0 p (.lst acc)) a ns c', ⟨[], c, rfl, Nat.zero_le _, (by simp), rfl, e⟩, ?_, ?_, ?_⟩
  · rintro i acc G' ⟨ys, c', hi, hle, hs, rfl, rfl⟩
    exact ⟨trivial, zm4 hap⟩
  · rintro i d acc G' hd ⟨ys, c', hi, hle, hs, rfl, rfl⟩
    obtain ⟨x, hx, rfl⟩ := zbz hd
    have hlt := (List.getElem?_eq_some_iff.mp hx).1
    have := hb x (List.mem_of_getElem? hx) (up G0 p (.lst (ys.map D.bl))) c' (fun y G4 => (ys.map D.bl).length < sizeLine ∧ G4 p = some (.lst (ys.map D.bl)) ∧ ∃ (ys' : List Bool) (c' : Int), ys'.length = i + 1 ∧ i + 1 ≤ xs.length ∧ (∀ y ∈ ys', y = true) ∧ ys.map D.bl ++ [y] = ys'.map D.bl ∧ up G4 p (.lst (ys.map D.bl ++ [y])) = Gw (up G0 p (.lst (ys.map D.bl ++ [y]))) a ns c') fun c2 => ⟨zas (by rw [List.length_map]; omega), zm4 hap, ys ++ [true], c2, by rw [List.length_append, List.length_singleton, hi], hlt, fun y hy => ?_, by rw [List.map_append]; rfl, z33 hap⟩
    · simpa only [dYes, if_true] using this
    · rcases List.mem_append.mp hy with hy | hy
      · exact hs y hy
      · exact List.mem_singleton.mp hy
  · rintro acc G' ⟨ys, c', hi, hle, hs, rfl, rfl⟩
    have hn : Gw G0 a ns c' p = none := by
      have := zw3 hap hp
      show up G0 a _ p = none
      rw [zj2 (Ne.symm hap)]
      exact this
    have e2 : Gw (up G0 p (.lst (ys.map D.bl))) a ns c' = up (Gw G0 a ns c') p (.lst (ys.map D.bl)) := by
      show up (up G0 p _) a _ = up (up G0 a _) p _
      exact zl3 (Ne.symm hap)
    rw [e2]
    exact q ys hs c' p hn
theorem z4d {d : D} {xs : List Pt} {G : DHp} {Q : DVK} (h : sqD d G = some (xs.map e3)) (q : ∀ w, G w = none → Q (.ref w) (up G w (.lst (xs.map e3)))) : z6w [d] G Q := by
  unfold z6w d1
  dsimp only
  rw [h]
  exact q
def zf4 : DRn := fun ds G Q => ∃ (a : Addr) (ns : List Int) (c : Int) (G0 : DHp), ds = [.ref a] ∧ G = Gw G0 a ns c ∧ ns.length ≤ 63 ∧ ∀ c' f w A B, Gw G0 a ns c' f = none → up (Gw G0 a ns c') f A w = none → Q (.bl true) (up (up (Gw G0 a ns c') f A) w B)
theorem zxs : ∀ ds G Q, zf4 ds G Q → ds.length = 1 := fun ds G Q ⟨_, _, _, _, e, _⟩ => by rw [e]; rfl
section
variable {F : zmh} {η : DSt} {G : DHp}
theorem at3 (h : zpk { F with nx := zl9 F } η G) : zl2 F η G := by
  simp only [zl2, zqe, dSeq]
  exact h
theorem at6 (h : zs0 { F with nx := zmb F } η G) : zl5 F η G := by
  simp only [zl5, zqc, dSeq]
  exact h
theorem at9 (h : zrj { F with nx := zix F } η G) : zmi F η G := by
  simp only [zmi, zqb, dSeq]
  exact h
theorem at10 (h : zuw { F with nx := zjc F } η G) : zix F η G := by
  simp only [zix, zos, dSeq]
  exact h
theorem at11 (h : zva { F with nx := zgy F } η G) : zjc F η G := by
  simp only [zjc, zox, dSeq]
  exact h
theorem at12 (h : zsi { F with nx := zjb F } η G) : zgy F η G := by
  simp only [zgy, zov, dSeq]
  exact h
theorem at16 (h : zsl { F with nx := zit F } η G) : zlk F η G := by
  simp only [zlk, zot, dSeq]
  exact h
theorem at13 {as : List Addr} (h : zru { F with nx := zi2 F } η (as.foldl dl G)) : zjb F η G := by
  simp only [zjb, zoq, dSeq, dFgt]
  exact ⟨as, h⟩
theorem at14 {as : List Addr} (h : zk6 { F with nx := zk1 F } η (as.foldl dl G)) : zi2 F η G := by
  simp only [zi2, dSeq, dFgt]
  exact ⟨as, h⟩
theorem at17 {as : List Addr} (h : zrs { F with nx := zom F } η (as.foldl dl G)) : zit F η G := by
  simp only [zit, zpc, dSeq, dFgt]
  exact ⟨as, h⟩
end
section
variable {F : zmh} {G0 : DHp} {a : Addr} {ns : List Int} {n : Int} {c : Cam} {si : List Pt} {lk : List (Pt × List Pt)} {o3 o5 o6 o9 o10 o11 o12 o13 o18 : Option D}
theorem z9f (A : AsP c si lk) (hl : ns.length ≤ 63) (q : ∀ c' f w A B, Gw G0 a ns c' f = none → up (Gw G0 a ns c') f A w = none → F.rt (.bl true) (up (up (Gw G0 a ns c') f A) w B)) :
    zgy F (stA a c si o3 (some (eL eLk lk)) o5 o6 (some (suD ⟨si, c, lk⟩)) (some (eL (eT e3) (dueR c si lk))) o9 o10 o11 o12 o13 none none none none o18) (Gw G0 a ns n) := by
  have hlk := A.lk
  have l1 := A.l1.1
  refine at12 ?_
  refine zab8 A fun x w o o' hx hw => ?_
  refine at13 (as := [w, x]) ?_
  rw [show List.foldl dl (up (up (Gw G0 a ns n) x o) w o') [w, x] = Gw G0 a ns n by show dl (dl _ w) x = _; rw [zbv hw, zbv hx]]
  refine zact A fun x w o o' hx hw => ?_
  refine at14 (as := [w, x]) ?_
  rw [show List.foldl dl (up (up (Gw G0 a ns n) x o) w o') [w, x] = Gw G0 a ns n by show dl (dl _ w) x = _; rw [zbv hw, zbv hx]]
  simp_arith only [zk6, stA, zm0]
  refine zer (by omega) hl fun t t0 t1 => ?_
  obtain ⟨l0, lr, el⟩ : ∃ l0 lr, lk = l0 :: lr := by
    cases lk with
    | nil => exact absurd l1 (by decide)
    | cons l0 lr => exact ⟨l0, lr, rfl⟩
  have hl0 := hlk l0 (by rw [el]; exact List.mem_cons_self)
  dsimp only [zk1, zpa, dSeq, dIfS, zau, dOp, zd, dC, dRet, zjq, ze, dNil, dTup, zdh, dAsg, zjn, zk, zhu, dM, dM0, dIf, dAnd, dOr, dNot, zmu, dOrV, zrp, zhq, dFz, zpu, zuv, zn9, zqk, dCB, zgd, zam, zgc, zok, dNeg, dAug, zr7, dFrz, dPar, zc7, zjh, zeh, dYes, zjv, i2, d1, d2, d3, za4, List.map_cons, List.map_nil, List.cons_append, List.nil_append, List.getElem?_cons_zero, List.getElem?_cons_succ, List.getElem?_nil, List.replicate, List.set_cons_succ, List.set_cons_zero]
  refine z3s (f := eLk) (by decide) (x := l0) (by rw [el]; rfl) ?_
  refine ze1 (by decide) rfl ?_
  dsimp only [dFld, dSeq, dIfS, zau, dOp, zd, dC, dRet, zjq, ze, dNil, dTup, zdh, dAsg, zjn, zk, zhu, dM, dM0, dIf, dAnd, dOr, dNot, zmu, dOrV, zrp, zhq, dFz, zpu, zuv, zn9, zqk, dCB, zgd, zam, zgc, zok, dNeg, dAug, zr7, dFrz, dPar, zc7, zjh, zeh, dYes, zjv, i2, d1, d2, d3, za4, List.map_cons, List.map_nil, List.cons_append, List.nil_append, List.getElem?_cons_zero, List.getElem?_cons_succ, List.getElem?_nil, List.replicate, List.set_cons_succ, List.set_cons_zero]
  rw [zsu]
  dsimp only
  rw [zms]
  dsimp only
  refine ⟨Nat.le_of_ble_eq_true rfl, Nat.le_of_ble_eq_true rfl, Nat.le_of_ble_eq_true rfl, Nat.le_of_ble_eq_true rfl, Nat.le_of_ble_eq_true rfl, Nat.le_of_ble_eq_true rfl, Nat.le_of_ble_eq_true rfl, Nat.le_of_ble_eq_true rfl, a, ns, _, _, _, _, rfl, rfl, hl, .inl rfl, by show 0 < 7; decide, fun d hd => ?_⟩
  refine ⟨Nat.le_of_ble_eq_true rfl, ?_⟩
  have hb : z8i c d := zab3 A.cam d hd
  refine zoo (xs := l0.2.map e3) (ys := [d]) (zkz (by rw [List.length_map, List.length_singleton]; have := hl0.2.2; omega)) ?_
  refine at16 ?_
  refine zacf A t0 hl0.2.1 (by have := hl0.2.2; omega) hb fun x w o o' hx hw => ?_
  refine at17 (as := [w, x]) ?_
  rw [show List.foldl dl (up (up (Gw G0 a ns (n + 1 + 1)) x o) w o') [w, x] = Gw G0 a ns (n + 1 + 1) by show dl (dl _ w) x = _; rw [zbv hw, zbv hx]]
  exact zab1 fun f w A B hf hw => q _ f w A B hf hw
theorem z9w (A : AsP c si lk) (hl : ns.length ≤ 63) (q : ∀ c' f w A B, Gw G0 a ns c' f = none → up (Gw G0 a ns c') f A w = none → F.rt (.bl true) (up (up (Gw G0 a ns c') f A) w B)) {pd : Addr} (hpd : Gw G0 a ns n pd = none) :
    zme F (stA a c si o3 (some (eL eLk lk)) o5 o6 (some (suD ⟨si, c, lk⟩)) (some (.ref pd)) none none none none none none none none none none) (up (Gw G0 a ns n) pd (.lst [])) := by
  have S := A.si
  simp_arith only [zme, zp2, stA]
  intro pr hpr
  refine at6 ?_
  refine zado S hpr fun o10 => ?_
  simp_arith only [zmb, zpy, stA, zi, zbv hpr, DO.tree]
  refine zad4 S A.lk A.l1.2 fun o6 o11 o12 o18 => ?_
  simp_arith only [zqa, zp4, stA, zi, zbv hpd, DO.tree]
  refine zafh A ?_
  dsimp only
  refine at9 ?_
  refine zadr A ?_
  dsimp only
  refine at10 ?_
  refine zae9 A ?_
  dsimp only
  refine at11 ?_
  refine zaed A ?_
  exact z9f A hl q
end
theorem zxq : ∀ ds G Q, zf4 ds G Q → zo9 { nx := fun _ G' => Q .non G', rt := Q } (za4 zfa ds) G := fun ds G Q h => by
  obtain ⟨a, ns, n, G0, rfl, rfl, hl, q⟩ := h
  simp_arith only [zo9, zfa, zp7]
  refine ⟨a, ns, n, G0, rfl, rfl, hl, fun cam n1 hc => ?_⟩
  have hc : CamP cam := ⟨hc.1, hc.2.1, hc.2.2.1, hc.2.2.2.1, hc.2.2.2.2⟩
  simp_arith only [true_and]
  refine ⟨a, ns, _, _, 6, 5, rfl, rfl, hl, ⟨by decide, by decide⟩, ⟨by decide, by decide⟩, fun cs n2 hg => ?_⟩
  simp_arith only [dFld, zyy]
  have hgl := hg.len
  refine z4d (xs := cs) rfl fun w1 hw1 => ?_
  simp_arith only [zi, zbv hw1, DO.tree]
  refine ⟨cs, rfl, by omega, fun ys nd hm => ?_⟩
  rw [z1j (zmy nd hg.nd hm), hg.srt]
  refine z4d (xs := cs) rfl fun w2 hw2 => ?_
  simp_arith only [zi, zbv hw2, DO.tree]
  have S : SiP cs := ⟨by omega, hg.nd, hg.srt, fun p hp => by
    obtain ⟨b1, b2, b3⟩ := hg.bd p hp
    exact ⟨⟨by omega, by omega⟩, ⟨by omega, by omega⟩, by omega, by omega⟩⟩
  clear nd hm ys
  simp_arith only [zpx, zp8]
  refine zafn (xs := cs) (f := e3) e3 (by omega) (fun R r => by simp_arith only [zb5]; exact r) (fun x hx G1 c1 A B ka kb => ?_) fun cr hcr n3 p3 hp3 => ?_
  · simp_arith only [true_and]
    refine zer (by decide) hl fun z z0 z1 => ?_
    simp_arith only [true_and]
    by_cases hz : z = 0
    · rw [if_pos hz]; exact ka _
    · rw [if_neg hz]; exact kb _
  simp_arith only [zi, zbv hp3, DO.tree]
  have oc : z30 cr := ⟨by have := hcr.length_le; have := S.len; omega, fun p hp => S.bd p (hcr.subset hp)⟩
  simp_arith only [zp6, zp9]
  intro p hp
  obtain ⟨e, hap⟩ := z1f (o := .lst []) hp
  have hgp := zw3 hap hp
  rw [e]
  refine at3 ?_
  refine zaan hc oc hl hap fun lk n4 o5 o6 l1 l3 hlk => ?_
  have A : AsP cam cs lk := ⟨hc, S, ⟨l1, l3⟩, hlk⟩
  simp_arith only [zl9, zpv, stA, zm4 hap, zacb hap hgp, DO.tree, zse]
  intro x hx
  refine ⟨x, cs, [], cam, lk, [], by rw [List.append_nil, List.append_nil]; rfl, zi, by have := S.len; omega, S.bd, S.nd, fun d r e => (by cases e), fun _ => ⟨fun l hl => ?_, fun _ => ⟨rfl, ?_⟩, fun d r e => (by cases e)⟩⟩
  · obtain ⟨o1, o2, _⟩ := hlk l hl
    exact ⟨o1, o2⟩
  rw [zft]
  simp_arith only [zi, zbv hx]
  intro pd hpd
  have esu : D.nd (.ins CA.Survey ["sites", "camera", "looks"]) [eT e3 (srtT e3 cs), cD cam, eT eLk lk] = suD ⟨cs, cam, lk⟩ := by
    rw [S.srt]
    rfl
  first
    | rw [esu]
    | rw [S.srt]
  exact z9w A hl q hpd
def sp_law : DRn := z8e
abbrev z7n : List Str := ["script", "draw", "turn"]
def zaby : DTS :=
    (dSeq (dAsg (zjn (ze (zd 0) (ze (dC (.int 0)) dNil))) (zk 1))
    (dRet (dCB dAll (ze (dFz (dLc (ze7 (ze (dC (.int 3)) dNil)) (zk 2) dYes (dFgE (dCB zf4 (ze (zd 1) dNil))) [2])) dNil))))
theorem zab2 : ∀ ds G Q, sp_law ds G Q → ds.length = 1 := fun ds G Q h => by
  match ds, h with
  | [_], _ => rfl
theorem zab9 : ∀ ds G Q, sp_law ds G Q → zaby { nx := fun _ G' => Q .non G', rt := Q } (za4 z7n ds) G := fun ds G Q h => by
  match ds, h with
  | [_], ⟨ns, rfl, hl, hG, q⟩ =>
    simp_arith only [zaby, z7n]
    intro a ha
    rw [show up G a (.lst [.nd .scr (ns.map .int), .int 0]) = Gw G a ns 0 from rfl]
    refine zaff (xs := ze9 0 3) (by rw [zdk]; decide) (fun R r => ?_) (fun x hx G1 c1 A aa => ?_) fun ys hy c' p hp => ?_
    · simp_arith only [ze7]
      exact ⟨⟨by decide, by decide⟩, r⟩
    · simp_arith only [dFgE]
      refine ⟨a, ns, c1, G1, rfl, rfl, hl, fun c' f w A' B hf hw => ⟨[w, f], ?_⟩⟩
      rw [show List.foldl dl (up (up (Gw G1 a ns c') f A') w B) [w, f] = Gw G1 a ns c' by show dl (dl _ w) f = _; rw [zbv hw, zbv hf]]
      exact aa _
    · simp_arith only [zi, zbv hp, DO.tree]
      refine znb (xs := ys) (b := fun b => b) ?_
      rw [List.all_eq_true.mpr fun b hb => hy b hb]
      exact q _
end M
end
namespace M
open PySem PySem.Spec PyProof.Rows L2 DL
variable [CA]
theorem z3n : FnScope zhk ["thing", "low", "high"] (defScope zet) := ⟨rfl, rfl, rfl, by decide +kernel, rfl, by decide +kernel, by decide +kernel⟩
theorem z3b : FnScope zks ["thing", "low", "high"] (defScope zey) := ⟨rfl, rfl, rfl, by decide +kernel, rfl, by decide +kernel, by decide +kernel⟩
theorem zjd : FnScope zfv ["self", "craters"] (defScope za0) := ⟨rfl, rfl, rfl, by decide +kernel, rfl, by decide +kernel, by decide +kernel⟩
theorem ze0 : FnScope zfs ["self", "width", "height", "error", "false", "lost"] (defScope za3) := ⟨rfl, rfl, rfl, by decide +kernel, rfl, by decide +kernel, by decide +kernel⟩
theorem zdl : FnScope zgk ["self", "ground", "camera", "turns", "area"] (defScope za6) := ⟨rfl, rfl, rfl, by decide +kernel, rfl, by decide +kernel, by decide +kernel⟩
theorem zq2 : FnScope zgq ["self", "x", "y", "more"] (defScope zat) := ⟨rfl, rfl, rfl, by decide +kernel, rfl, by decide +kernel, by decide +kernel⟩
theorem zf3 : FnScope zbb ["self", "picture"] (defScope zq) := ⟨rfl, rfl, rfl, by decide +kernel, rfl, by decide +kernel, by decide +kernel⟩
theorem zcb : FnScope zb3 ["self", "sites", "camera", "looks"] (defScope z6) := ⟨rfl, rfl, rfl, by decide +kernel, rfl, by decide +kernel, by decide +kernel⟩
theorem zd1 : FnScope zkm ["script", "index"] (defScope zci) := ⟨rfl, rfl, rfl, by decide +kernel, rfl, by decide +kernel, by decide +kernel⟩
theorem z1i : FnScope znr ["draw", "many"] (defScope zdv) := ⟨rfl, rfl, rfl, by decide +kernel, rfl, by decide +kernel, by decide +kernel⟩
theorem zx0 : FnScope zkq ["draw"] (defScope zck) := ⟨rfl, rfl, rfl, by decide +kernel, rfl, by decide +kernel, by decide +kernel⟩
theorem z7o : FnScope zvf ["x", "y", "turn"] (defScope zh7) := ⟨rfl, rfl, rfl, by decide +kernel, rfl, by decide +kernel, by decide +kernel⟩
theorem zoz : FnScope zm5 ["self", "crater", "standing"] (defScope zdx) := ⟨rfl, rfl, rfl, by decide +kernel, rfl, by decide +kernel, by decide +kernel⟩
theorem zm9 : FnScope zjx ["self", "standing"] (defScope zcv) := ⟨rfl, rfl, rfl, by decide +kernel, rfl, by decide +kernel, by decide +kernel⟩
theorem z3p : FnScope zpd ["point", "place", "error"] (defScope zeu) := ⟨rfl, rfl, rfl, by decide +kernel, rfl, by decide +kernel, by decide +kernel⟩
theorem zfn : FnScope zef ["self", "point", "places"] (defScope zah) := ⟨rfl, rfl, rfl, by decide +kernel, rfl, by decide +kernel, by decide +kernel⟩
theorem zkh : FnScope zlw ["self", "craters", "standing"] (defScope zc2) := ⟨rfl, rfl, rfl, by decide +kernel, rfl, by decide +kernel, by decide +kernel⟩
theorem zlz : FnScope zvy ["comers", "last", "pairs"] (defScope zjj) := ⟨rfl, rfl, rfl, by decide +kernel, rfl, by decide +kernel, by decide +kernel⟩
theorem zlx : FnScope zm3 ["nexts", "one", "pairs"] (defScope zdt) := ⟨rfl, rfl, rfl, by decide +kernel, rfl, by decide +kernel, by decide +kernel⟩
theorem zg9 : FnScope zmo ["nexts"] (defScope zec) := ⟨rfl, rfl, rfl, by decide +kernel, rfl, by decide +kernel, by decide +kernel⟩
theorem zbo : FnScope zct ["self", "craters"] (defScope zu) := ⟨rfl, rfl, rfl, by decide +kernel, rfl, by decide +kernel, by decide +kernel⟩
theorem zfr : FnScope zhz ["nexts", "many"] (defScope zbn) := ⟨rfl, rfl, rfl, by decide +kernel, rfl, by decide +kernel, by decide +kernel⟩
theorem ztl : FnScope zh8 ["self", "x", "y"] (defScope zbc) := ⟨rfl, rfl, rfl, by decide +kernel, rfl, by decide +kernel, by decide +kernel⟩
theorem zcq : FnScope ze6 ["self", "standing"] (defScope zaj) := ⟨rfl, rfl, rfl, by decide +kernel, rfl, by decide +kernel, by decide +kernel⟩
theorem zv : FnScope zbp ["self", "craters"] (defScope zp) := ⟨rfl, rfl, rfl, by decide +kernel, rfl, by decide +kernel, by decide +kernel⟩
theorem zh0 : FnScope zkl ["survey", "most"] (defScope zcj) := ⟨rfl, rfl, rfl, by decide +kernel, rfl, by decide +kernel, by decide +kernel⟩
theorem zgg : FnScope zdn ["survey", "most"] (defScope zao) := ⟨rfl, rfl, rfl, by decide +kernel, rfl, by decide +kernel, by decide +kernel⟩
theorem zhl : FnScope zj0 ["survey", "most"] (defScope zcu) := ⟨rfl, rfl, rfl, by decide +kernel, rfl, by decide +kernel, by decide +kernel⟩
theorem zea : FnScope zgf ["survey", "most"] (defScope zaz) := ⟨rfl, rfl, rfl, by decide +kernel, rfl, by decide +kernel, by decide +kernel⟩
theorem zl4 : FnScope zkg ["items"] (defScope zcm) := ⟨rfl, rfl, rfl, by decide +kernel, rfl, by decide +kernel, by decide +kernel⟩
theorem z1t : FnScope znm ["draw", "items"] (defScope zdu) := ⟨rfl, rfl, rfl, by decide +kernel, rfl, by decide +kernel, by decide +kernel⟩
theorem zcw : FnScope zin ["points", "places", "error"] (defScope zb2) := ⟨rfl, rfl, rfl, by decide +kernel, rfl, by decide +kernel, by decide +kernel⟩
theorem zf2 : FnScope zkx ["sky", "picture", "standing"] (defScope zdb) := ⟨rfl, rfl, rfl, by decide +kernel, rfl, by decide +kernel, by decide +kernel⟩
theorem zja : FnScope zlu ["camera"] (defScope zc5) := ⟨rfl, rfl, rfl, by decide +kernel, rfl, by decide +kernel, by decide +kernel⟩
theorem zdi : FnScope zjr ["draw", "sky", "standing"] (defScope zb1) := ⟨rfl, rfl, rfl, by decide +kernel, rfl, by decide +kernel, by decide +kernel⟩
theorem zxk : FnScope zko ["ground", "camera", "standing"] (defScope zcl) := ⟨rfl, rfl, rfl, by decide +kernel, rfl, by decide +kernel, by decide +kernel⟩
theorem zjs : FnScope zkp ["draw", "most", "side"] (defScope zcg) := ⟨rfl, rfl, rfl, by decide +kernel, rfl, by decide +kernel, by decide +kernel⟩
theorem zm : FnScope zfa ["draw"] (defScope zbi) := ⟨rfl, rfl, rfl, by decide +kernel, rfl, by decide +kernel, by decide +kernel⟩
theorem z4m : FnScope z7n ["script"] (defScope zpm) := ⟨rfl, rfl, rfl, by decide +kernel, rfl, by decide +kernel, by decide +kernel⟩
theorem zac6 : bootBuiltins ("bool" : Str) = some (.type "bool") := by first | rfl | decide +kernel
theorem zf8 : bootBuiltins ("isinstance" : Str) = some (.builtin "isinstance") := by first | rfl | decide +kernel
theorem zw2 : bootBuiltins ("int" : Str) = some (.type "int") := by first | rfl | decide +kernel
theorem zh5 : bootBuiltins ("len" : Str) = some (.builtin "len") := by first | rfl | decide +kernel
theorem zgt : bootBuiltins ("tuple" : Str) = some (.type "tuple") := by first | rfl | decide +kernel
theorem zg3 : bootBuiltins ("sorted" : Str) = some (.builtin "sorted") := by first | rfl | decide +kernel
theorem zub : bootBuiltins ("all" : Str) = some (.builtin "all") := by first | rfl | decide +kernel
theorem z5x : bootBuiltins ("abs" : Str) = some (.builtin "abs") := by first | rfl | decide +kernel
theorem z85 : bootBuiltins ("dict" : Str) = some (.type "dict") := by first | rfl | decide +kernel
theorem zabr : bootBuiltins ("any" : Str) = some (.builtin "any") := by first | rfl | decide +kernel
theorem z3m : bootBuiltins ("list" : Str) = some (.type "list") := by first | rfl | decide +kernel
structure Txt (P : Program) (K : PySem.W.Frag) (mg : Str → Option Value) where
  z2n : Addr
  z3v : Addr
  zzu : Addr
  z72 : Addr
  zdr : Addr
  zex : FuncData
  zhh : Fun K "is_whole" "is_whole" zet zdr zex
  zij : mg "is_whole" = some (.ref zdr)
  zg2 : Binds K zex ["thing", "low", "high"] []
  zes : Addr
  zgj : FuncData
  zpe : Fun K "is_point" "is_point" zey zes zgj
  ztv : mg "is_point" = some (.ref zes)
  zqn : Binds K zgj ["thing", "low", "high"] []
  za1 : Addr
  zbr : FuncData
  ztz : Fun K "__init__" "Ground.__init__" za0 za1 zbr
  zgv : Binds K zbr ["self", "craters"] []
  zcr : Addr
  zeb : FuncData
  ztj : Fun K "__init__" "Camera.__init__" za3 zcr zeb
  zr3 : Binds K zeb ["self", "width", "height", "error", "false", "lost"] []
  zcy : Addr
  zd6 : FuncData
  zyf : Fun K "__init__" "Sky.__init__" za6 zcy zd6
  zow : Binds K zd6 ["self", "ground", "camera", "turns", "area"] []
  zbh : Addr
  zca : FuncData
  zrq : Fun K "is_within" "Camera.is_within" zat zbh zca
  zk2 : Binds K zca ["self", "x", "y", "more"] []
  z8 : Addr
  zcd : FuncData
  zoj : Fun K "check_picture" "Camera.check_picture" zq z8 zcd
  znh : Binds K zcd ["self", "picture"] []
  za2 : Addr
  zed : FuncData
  ztn : Fun K "__init__" "Survey.__init__" z6 za2 zed
  zgu : Binds K zed ["self", "sites", "camera", "looks"] []
  ze2 : Addr
  zho : FuncData
  zr2 : Fun K "_law_number" "_law_number" zci ze2 zho
  z0m : mg "_law_number" = some (.ref ze2)
  zyd : Binds K zho ["script", "index"] []
  zb7 : Addr
  zcz : FuncData
  zav : Fun K "_law_take" "_law_take" zdv zb7 zcz
  zay : mg "_law_take" = some (.ref zb7)
  zal : Binds K zcz ["draw", "many"] []
  zfd : Addr
  zhd : FuncData
  zs6 : Fun K "_law_camera" "_law_camera" zck zfd zhd
  z0y : mg "_law_camera" = some (.ref zfd)
  zxt : Binds K zhd ["draw"] []
  zl0 : Addr
  zpf : FuncData
  z42 : Fun K "turned" "turned" zh7 zl0 zpf
  zaag : mg "turned" = some (.ref zl0)
  z8j : Binds K zpf ["x", "y", "turn"] []
  zg4 : Addr
  zjl : FuncData
  z2y : Fun K "place" "Sky.place" zdx zg4 zjl
  z12 : Binds K zjl ["self", "crater", "standing"] []
  zbt : Addr
  zb9 : FuncData
  z15 : Fun K "places" "Sky.places" zcv zbt zb9
  ziu : Binds K zb9 ["self", "standing"] []
  zig : Addr
  zkt : FuncData
  zyr : Fun K "are_near" "are_near" zeu zig zkt
  z54 : mg "are_near" = some (.ref zig)
  z3f : Binds K zkt ["point", "place", "error"] []
  za7 : Addr
  zby : FuncData
  zqt : Fun K "places_for" "Survey.places_for" zah za7 zby
  zke : Binds K zby ["self", "point", "places"] []
  zd5 : Addr
  zf1 : FuncData
  z00 : Fun K "sky" "Survey.sky" zc2 zd5 zf1
  zr6 : Binds K zf1 ["self", "craters", "standing"] []
  zo7 : Addr
  ztc : FuncData
  z7j : Fun K "along" "along" zjj zo7 ztc
  zacd : mg "along" = some (.ref zo7)
  zaao : Binds K ztc ["comers", "last", "pairs"] []
  zg6 : Addr
  zjm : FuncData
  zwa : Fun K "augmented" "augmented" zdt zg6 zjm
  z20 : mg "augmented" = some (.ref zg6)
  z1g : Binds K zjm ["nexts", "one", "pairs"] []
  zgl : Addr
  zim : FuncData
  ztf : Fun K "greatest" "greatest" zec zgl zim
  zyj : mg "greatest" = some (.ref zgl)
  zvv : Binds K zim ["nexts"] []
  zaf : Addr
  zaw : FuncData
  zmx : Fun K "are_points_told" "Survey.are_points_told" zu zaf zaw
  zhx : Binds K zaw ["self", "craters"] []
  zd8 : Addr
  zgm : FuncData
  zp5 : Fun K "turned_round" "turned_round" zbn zd8 zgm
  zxo : mg "turned_round" = some (.ref zd8)
  zvp : Binds K zgm ["nexts", "many"] []
  zc4 : Addr
  zev : FuncData
  zuo : Fun K "is_sure" "Camera.is_sure" zbc zc4 zev
  ztp : Binds K zev ["self", "x", "y"] []
  zcc : Addr
  zdq : FuncData
  zsc : Fun K "sure_craters" "Sky.sure_craters" zaj zcc zdq
  zq5 : Binds K zdq ["self", "standing"] []
  zaa : Addr
  zar : FuncData
  zma : Fun K "are_craters_seen" "Survey.are_craters_seen" zp zaa zar
  zhs : Binds K zar ["self", "craters"] []
  zcn : Addr
  zdf : FuncData
  zkr : Fun K "grounds_for" "grounds_for" zcj zcn zdf
  znt : mg "grounds_for" = some (.ref zcn)
  zmf : Binds K zdf ["survey", "most"] []
  zbl : Addr
  zfu : FuncData
  zo2 : Fun K "grounds_for" "grounds_for" zao zbl zfu
  zwg : mg "grounds_for" = some (.ref zbl)
  zut : Binds K zfu ["survey", "most"] []
  zfy : Addr
  zii : FuncData
  zt2 : Fun K "sure_sites" "sure_sites" zcu zfy zii
  z03 : mg "sure_sites" = some (.ref zfy)
  zzq : Binds K zii ["survey", "most"] []
  zc3 : Addr
  zew : FuncData
  zof : Fun K "possible_sites" "possible_sites" zaz zc3 zew
  zuq : mg "possible_sites" = some (.ref zc3)
  ztt : Binds K zew ["survey", "most"] []
  zfb : Addr
  zhf : FuncData
  zs1 : Fun K "_law_unlike" "_law_unlike" zcm zfb zhf
  zzn : mg "_law_unlike" = some (.ref zfb)
  zxy : Binds K zhf ["items"] []
  zff : Addr
  zha : FuncData
  zqj : Fun K "_law_pick" "_law_pick" zdu zff zha
  zwl : mg "_law_pick" = some (.ref zff)
  zt4 : Binds K zha ["draw", "items"] []
  ze4 : Addr
  zhg : FuncData
  zsj : Fun K "_law_shares" "_law_shares" zb2 ze4 zhg
  zzf : mg "_law_shares" = some (.ref ze4)
  zxc : Binds K zhg ["points", "places", "error"] []
  zg7 : Addr
  zjp : FuncData
  zvq : Fun K "_law_fits" "_law_fits" zdb zg7 zjp
  z3d : mg "_law_fits" = some (.ref zg7)
  z2k : Binds K zjp ["sky", "picture", "standing"] []
  zfz : Addr
  zil : FuncData
  zuc : Fun K "_law_spots" "_law_spots" zc5 zfz zil
  z17 : mg "_law_spots" = some (.ref zfz)
  z0g : Binds K zil ["camera"] []
  zd9 : Addr
  zgn : FuncData
  zp3 : Fun K "_law_picture" "_law_picture" zb1 zd9 zgn
  zxp : mg "_law_picture" = some (.ref zd9)
  zw5 : Binds K zgn ["draw", "sky", "standing"] []
  ze5 : Addr
  zhp : FuncData
  znk : Fun K "_law_sky_at" "_law_sky_at" zcl ze5 zhp
  zrk : mg "_law_sky_at" = some (.ref ze5)
  zp1 : Binds K zhp ["ground", "camera", "standing"] []
  ze8 : Addr
  zhj : FuncData
  zr4 : Fun K "_law_ground" "_law_ground" zcg ze8 zhj
  zzb : mg "_law_ground" = some (.ref ze8)
  zxi : Binds K zhj ["draw", "most", "side"] []
  zf0 : Addr
  zih : FuncData
  zua : Fun K "_law_asked" "_law_asked" zbi zf0 zih
  z13 : mg "_law_asked" = some (.ref zf0)
  zz2 : Binds K zih ["draw"] []
  z6m : Addr
  z97 : FuncData
  zaf1 : Fun K "law" "law" zpm z6m z97
  m_law : mg "law" = some (.ref z6m)
  bi_law : Binds K z97 ["script"] []
  zaet : mg "bool" = none
  zgw : mg "isinstance" = none
  z24 : mg "int" = none
  zmk : mg "len" = none
  zi9 : mg "tuple" = none
  zg5 : mg "enumerate" = none
  zi3 : mg "sorted" = none
  z06 : mg "all" = none
  zafs : mg "zip" = none
  zm8 : mg "range" = none
  zaa3 : mg "abs" = none
  zabd : mg "dict" = none
  zafb : mg "any" = none
  z7d : mg "list" = none
  isi : zac4 K isT
  z31 : ∃ t, mg "MOST_SIZE" = some (.int 99 t)
  zfx : ∃ t, mg "MOST_PLACE" = some (.int 1000000 t)
  zjz : ∃ t, mg "MOST_COUNT" = some (.int 100 t)
  zjo : NoAttr K CA.Ground "craters"
  zv7 : Cls K CA.Ground
  zqm : ∃ t, mg "MOST_SIDE" = some (.int 1000 t)
  zfw : NoAttr K CA.Camera "width"
  zai : Cls K CA.Camera
  zez : NoAttr K CA.Camera "height"
  zbm : NoAttr K CA.Camera "error"
  ziz : NoAttr K CA.Camera "false"
  zl8 : NoAttr K CA.Camera "lost"
  zur : ∃ t, mg "MOST_STANDINGS" = some (.int 40000 t)
  zrw : NoAttr K CA.Sky "ground"
  zlm : Cls K CA.Sky
  zki : NoAttr K CA.Sky "camera"
  z07 : NoAttr K CA.Sky "turns"
  z3u : NoAttr K CA.Sky "area"
  zrz : DX.XTxt P K mg CA.BadPicture z2n "number" "number"
  zng : mg "BadPicture" = some (.ref CA.BadPicture)
  zlf : Meth K CA.Camera "is_within" zbh
  z2h : DX.XTxt P K mg CA.BadGround z3v "number" "number"
  zt3 : mg "BadGround" = some (.ref CA.BadGround)
  zqd : DX.XTxt P K mg CA.BadStanding zzu "standing" "standing"
  zl7 : mg "BadStanding" = some (.ref CA.BadStanding)
  znl : Meth K CA.Camera "check_picture" z8
  zg0 : NoAttr K CA.Survey "sites"
  zce : Cls K CA.Survey
  zge : NoAttr K CA.Survey "camera"
  zln : NoAttr K CA.Survey "looks"
  z7m : mg "Camera" = some (.ref CA.Camera)
  z6z : Mk K CA.Camera zcr
  z2f : Meth K CA.Sky "place" zg4
  zabp : mg "Sky" = some (.ref CA.Sky)
  zabl : Mk K CA.Sky zcy
  zs9 : mg "Ground" = some (.ref CA.Ground)
  zsf : Mk K CA.Ground za1
  zi8 : Meth K CA.Sky "places" zbt
  zrg : Meth K CA.Survey "sky" zd5
  zkd : Meth K CA.Survey "places_for" za7
  zt1 : Meth K CA.Camera "is_sure" zc4
  zre : Meth K CA.Sky "sure_craters" zcc
  zhr : Meth K CA.Survey "are_craters_seen" zaa
  zh3 : Meth K CA.Survey "are_points_told" zaf
  z6a : DX.XTxt P K mg CA.TooMany z72 "most" "most"
  zy0 : mg "TooMany" = some (.ref CA.TooMany)
  zrr : mg "Survey" = some (.ref CA.Survey)
  zss : Mk K CA.Survey za2
  z1n : PySem.W.exmOne K (.ref CA.BadGround) (.ref CA.BadGround) = some true
  z09 : XfC K CA.BadGround
  zia : PySem.W.findIn K (.ref CA.BadGround) "number" = some none
  zx2 : PySem.W.exmOne K (.ref CA.BadStanding) (.ref CA.BadStanding) = some true
  zxm : XfC K CA.BadStanding
  zf9 : PySem.W.findIn K (.ref CA.BadStanding) "standing" = some none
  z0d : PySem.W.exmOne K (.ref CA.BadPicture) (.ref CA.BadPicture) = some true
  zy9 : XfC K CA.BadPicture
  zht : PySem.W.findIn K (.ref CA.BadPicture) "number" = some none
  z56 : PySem.W.exmOne K (.ref CA.TooMany) (.ref CA.TooMany) = some true
  z6i : XfC K CA.TooMany
  zky : PySem.W.findIn K (.ref CA.TooMany) "most" = some none
section
variable {P : Program} {w : World} {K : PySem.W.Frag} {mg : Str → Option Value} {base : Heap}
theorem z23 [Bs] (T : Txt P K mg) (cdv : Value) (A : Around) (outer : List Env) (s : Shared) (H : Hp) (E : XK) (hr : Room 0 (A.deeper (envOfC "is_whole" (defScope zet) s.heap.objs.size T.zdr cdv))) :
    PSsD (cxOf CX0 P w K mg base zhk "is_whole" (defScope zet) T.zdr cdv A outer s H E).nox (defBody zet) zik :=
  (zh (zak (zq6 (zr (zvs T.isi) T.zgw zf8 (zb (za 0) (zb (znp T.z24 zw2) zc))) (zq6 (zaca (zr (zvs T.isi) T.zgw zf8 (zb (za 0) (zb (znp T.zaet zac6) zc)))) (z0f (zvt (zsg hr.units) (zsg hr.units) (za 1) (za 0) (za 2)))))))
theorem z3l (T : Txt P K mg) : FnD P w K mg base 1 T.zdr T.zex ["thing", "low", "high"] zbe :=
  fn_d T.zhh z3n z19 (z23 T) z16
theorem z3z [Bs] (T : Txt P K mg) (za9 : FnD P w K mg base 1 T.zdr T.zex ["thing", "low", "high"] zbe) (cdv : Value) (A : Around) (outer : List Env) (s : Shared) (H : Hp) (E : XK) (hr : Room 1 (A.deeper (envOfC "is_point" (defScope zey) s.heap.objs.size T.zes cdv))) :
    PSsD (cxOf CX0 P w K mg base zks "is_point" (defScope zey) T.zes cdv A outer s H E).nox (defBody zey) zmp :=
  (zg (zco (zq4 (zml (zf7 (zdo (zr (zvs T.isi) T.zgw zf8 (zb (za 0) (zb (znp T.zi9 zgt) zc))))) (zmd (zaq (zrh hr.units) (zr zh4 T.zmk zh5 (zb (za 0) zc)) zf (nomark _)))))
      (zh (zak zh1))
      zan)
      (zh (zak (zq6 (zt za9 (hr.mono (by decide)) T.zij T.zhh.kp T.zg2 (zb (zbd (ixd hr.units) (za 0) zf) (zb (za 1) (zb (za 2) zc)))) (zq6 (zt za9 (hr.mono (by decide)) T.zij T.zhh.kp T.zg2 (zb (zbd (ixd hr.units) (za 0) zf) (zb (za 1) (zb (za 2) zc)))) (z0f (zt za9 (hr.mono (by decide)) T.zij T.zhh.kp T.zg2 (zb (zbd (ixd hr.units) (za 0) zf) (zb zf (zb (zen (Classical.choose_spec T.z31)) zc))))))))))
theorem z34 (T : Txt P K mg) (za9 : FnD P w K mg base 1 T.zdr T.zex ["thing", "low", "high"] zbe) : FnD P w K mg base 2 T.zes T.zgj ["thing", "low", "high"] zc8 :=
  fn_d T.zpe z3b z1p (z3z T za9) z1b
theorem zsp [Bs] (T : Txt P K mg) (zdc : FnD P w K mg base 2 T.zes T.zgj ["thing", "low", "high"] zc8) (cdv : Value) (A : Around) (outer : List Env) (s : Shared) (H : Hp) (E : XK) (hr : Room 2 (A.deeper (envOfC "Ground.__init__" (defScope za0) s.heap.objs.size T.za1 cdv))) :
    PSsD (cxOf CX0 P w K mg base zfv "Ground.__init__" (defScope za0) T.za1 cdv A outer s H E).nox (defBody za0) zhe :=
  (zg (zdm PassesOwn.never rfl (zlt T.zg5 (zb (za 1) zc)) (zdy rfl (zo (zj (i := 2) zjd.nd rfl (Or.inl rfl)) (zo (zj (i := 3) zjd.nd rfl (Or.inl rfl)) zch)))
      (zh (zco (zq4 (zml (zaq (zaee hr.units) (za 2) (zen (Classical.choose_spec T.zjz)) (nomark _)) (zmd (zf7 (zdo (zt zdc (hr.mono (by decide)) T.ztv T.zpe.kp T.zqn (zb (za 3) (zb (zw zeq zf (zen (Classical.choose_spec T.zfx))) (zb (zen (Classical.choose_spec T.zfx)) zc)))))))))
      (zh zi1)
      zan)))
      (zh (zji T.zv7 T.zjo (za 0) (zbx zkj T.zi9 zgt (zb (zbs (zr (z6g hr.units) T.zi3 zg3 (zb (za 1) zc))) zc)))))
theorem zst (T : Txt P K mg) (zdc : FnD P w K mg base 2 T.zes T.zgj ["thing", "low", "high"] zc8) : FnD P w K mg base 3 T.za1 T.zbr ["self", "craters"] zag :=
  fn_d T.ztz zjd zqo (zsp T zdc) zqi
theorem zrl [Bs] (T : Txt P K mg) (za9 : FnD P w K mg base 1 T.zdr T.zex ["thing", "low", "high"] zbe) (cdv : Value) (A : Around) (outer : List Env) (s : Shared) (H : Hp) (E : XK) (hr : Room 1 (A.deeper (envOfC "Camera.__init__" (defScope za3) s.heap.objs.size T.zcr cdv))) :
    PSsD (cxOf CX0 P w K mg base zfs "Camera.__init__" (defScope za3) T.zcr cdv A outer s H E).nox (defBody za3) zmv :=
  (zg (zdm PassesOwn.never rfl (zb8 (z7 (zb (z7 (zb zvx (zb (za 1) (zb zf (zb (zen (Classical.choose_spec T.zqm)) zc))))) (zb (z7 (zb zvx (zb (za 2) (zb zf (zb (zen (Classical.choose_spec T.zqm)) zc))))) (zb (z7 (zb zvx (zb (za 3) (zb zf (zb (zen (Classical.choose_spec T.zjz)) zc))))) (zb (z7 (zb zvx (zb (za 4) (zb zf (zb (zen (Classical.choose_spec T.zjz)) zc))))) (zb (z7 (zb zvx (zb (za 5) (zb zf (zb (zen (Classical.choose_spec T.zjz)) zc))))) zc))))))) (zdy rfl (zo (zj (i := 6) ze0.nd rfl (Or.inl rfl)) (zo (zj (i := 7) ze0.nd rfl (Or.inl rfl)) (zo (zj (i := 8) ze0.nd rfl (Or.inl rfl)) (zo (zj (i := 9) ze0.nd rfl (Or.inl rfl)) zch)))))
      (zh (zco (zf7 (zdo (zt za9 (hr.mono (by decide)) T.zij T.zhh.kp T.zg2 (zb (za 7) (zb (za 8) (zb (za 9) zc))))))
      (zh zi1)
      zan)))
      (zg (zji T.zai T.zfw (za 0) (za 1))
      (zg (zji T.zai T.zez (za 0) (za 2))
      (zg (zji T.zai T.zbm (za 0) (za 3))
      (zg (zji T.zai T.ziz (za 0) (za 4))
      (zh (zji T.zai T.zl8 (za 0) (za 5))))))))
theorem zso (T : Txt P K mg) (za9 : FnD P w K mg base 1 T.zdr T.zex ["thing", "low", "high"] zbe) : FnD P w K mg base 2 T.zcr T.zeb ["self", "width", "height", "error", "false", "lost"] zc0 :=
  fn_d T.ztj ze0 zqr (zrl T za9) zrf
theorem zvg [Bs] (T : Txt P K mg) (za9 : FnD P w K mg base 1 T.zdr T.zex ["thing", "low", "high"] zbe) (cdv : Value) (A : Around) (outer : List Env) (s : Shared) (H : Hp) (E : XK) (hr : Room 1 (A.deeper (envOfC "Sky.__init__" (defScope za6) s.heap.objs.size T.zcy cdv))) :
    PSsD (cxOf CX0 P w K mg base zgk "Sky.__init__" (defScope za6) T.zcy cdv A outer s H E).nox (defBody za6) zpz :=
  (zg (zco (zq4 (zml (zf7 (zdo (zr (zvs T.isi) T.zgw zf8 (zb (za 3) (zb (znp T.zi9 zgt) zc))))) (zml (zaq (ztw hr.units) (za 3) (z7 zc) (nomark _)) (zmd (zf7 (zdo (zr (zue rfl) T.z06 zub (zb (zbs (zhy (own := [("turn", 5)]) rfl zdl.nd (zb8 (za 3)) (blkOk_by (N := zgk) (sc := defScope za6) (by decide +kernel)) (fun _ _ _ _ _ => (zj (i := 5) zdl.nd rfl (Or.inl rfl))) (fun _ _ _ _ _ => zem) (fun _ _ _ _ _ => (zt za9 (hr.mono (by decide)) T.zij T.zhh.kp T.zg2 (zb (za 5) (zb zf (zb zf zc))))))) zc))))))))
      (zh zi1)
      zan)
      (zg (zco (zf7 (zdo (zr (zue rfl) T.z06 zub (zb (zbs (zhy (own := [("one", 6), ("other", 7)]) rfl zdl.nd (zac2 T.zafs (zb (za 3) (zb (zgi sld (za 3) (zh6 zf) zh9) zc))) (blkOk_by (N := zgk) (sc := defScope za6) (by decide +kernel)) (fun _ _ _ _ _ => (zdy rfl (zo (zj (i := 6) zdl.nd rfl (Or.inl rfl)) (zo (zj (i := 7) zdl.nd rfl (Or.inl rfl)) zch)))) (fun _ _ _ _ _ => zem) (fun _ _ _ _ _ => (zm6 (z02 hr.units) (za 6) (za 7) (nomark _))))) zc))))
      (zh zi1)
      zan)
      (zg (zco (zq4 (zml (zf7 (zdo (zr (zvs T.isi) T.zgw zf8 (zb (za 4) (zb (znp T.zi9 zgt) zc))))) (zmd (zaq (zrh hr.units) (zr zh4 T.zmk zh5 (zb (za 4) zc)) zf (nomark _)))))
      (zh zi1)
      zan)
      (zg (zco (zf7 (zdo (zr (zue rfl) T.z06 zub (zb (zbs (zhy (own := [("number", 8)]) rfl zdl.nd (zb8 (za 4)) (blkOk_by (N := zgk) (sc := defScope za6) (by decide +kernel)) (fun _ _ _ _ _ => (zj (i := 8) zdl.nd rfl (Or.inl rfl))) (fun _ _ _ _ _ => zem) (fun _ _ _ _ _ => (zt za9 (hr.mono (by decide)) T.zij T.zhh.kp T.zg2 (zb (za 8) (zb (zw zeq zf (zen (Classical.choose_spec T.zfx))) (zb (zen (Classical.choose_spec T.zfx)) zc))))))) zc))))
      (zh zi1)
      zan)
      (zg (zco (zq4 (zml (zaq (z3r hr.units) (zbd (ixd hr.units) (za 4) zf) (zbd (ixd hr.units) (za 4) zf) (nomark _)) (zmd (zaq (z3r hr.units) (zbd (ixd hr.units) (za 4) zf) (zbd (ixd hr.units) (za 4) zf) (nomark _)))))
      (zh zi1)
      zan)
      (zg (zco (zaq (z3r hr.units) (zw zpw (zw zpw (zr zh4 T.zmk zh5 (zb (za 3) zc)) (zw zd4 (zw zeq (zbd (ixd hr.units) (za 4) zf) (zbd (ixd hr.units) (za 4) zf)) zf)) (zw zd4 (zw zeq (zbd (ixd hr.units) (za 4) zf) (zbd (ixd hr.units) (za 4) zf)) zf)) (zen (Classical.choose_spec T.zur)) (nomark _))
      (zh zi1)
      zan)
      (zg (zji T.zlm T.zrw (za 0) (za 1))
      (zg (zji T.zlm T.zki (za 0) (za 2))
      (zg (zji T.zlm T.z07 (za 0) (za 3))
      (zh (zji T.zlm T.z3u (za 0) (za 4))))))))))))
theorem zwf (T : Txt P K mg) (za9 : FnD P w K mg base 1 T.zdr T.zex ["thing", "low", "high"] zbe) : FnD P w K mg base 2 T.zcy T.zd6 ["self", "ground", "camera", "turns", "area"] zb0 :=
  fn_d T.zyf zdl zup (zvg T za9) zul
theorem zq0 [Bs] (T : Txt P K mg) (cdv : Value) (A : Around) (outer : List Env) (s : Shared) (H : Hp) (E : XK) (hr : Room 0 (A.deeper (envOfC "Camera.is_within" (defScope zat) s.heap.objs.size T.zbh cdv))) :
    PSsD (cxOf CX0 P w K mg base zgq "Camera.is_within" (defScope zat) T.zbh cdv A outer s H E).nox (defBody zat) zi7 :=
  (zh (zak (zq6 (zvt (zsg hr.units) (z02 hr.units) (zw zeq zf (za 3)) (za 1) (zw zd4 (zba T.zai T.zfw (za 0)) (za 3))) (z0f (zvt (zsg hr.units) (z02 hr.units) (zw zeq zf (za 3)) (za 2) (zw zd4 (zba T.zai T.zez (za 0)) (za 3)))))))
theorem zqf (T : Txt P K mg) : FnD P w K mg base 1 T.zbh T.zca ["self", "x", "y", "more"] za5 :=
  fn_d T.zrq zq2 zpp (zq0 T) zpn
theorem znc [Bs] (T : Txt P K mg) (zbg : FnD P w K mg base 1 T.zbh T.zca ["self", "x", "y", "more"] za5) (zdc : FnD P w K mg base 2 T.zes T.zgj ["thing", "low", "high"] zc8) (U : DXK) (cdv : Value) (A : Around) (outer : List Env) (s : Shared) (H : Hp) (E : XK) (hr : Room 2 (A.deeper (envOfC "Camera.check_picture" (defScope zq) s.heap.objs.size T.z8 cdv)))
    (tk : Takes (cxOf (L2.CX P w) P w K mg base zbb "Camera.check_picture" (defScope zq) T.z8 cdv A outer s H E) (zs3 ⟨K, w⟩ U)) (po : PassesOwn (model P w) (cxOf (L2.CX P w) P w K mg base zbb "Camera.check_picture" (defScope zq) T.z8 cdv A outer s H E).A (cxOf (L2.CX P w) P w K mg base zbb "Camera.check_picture" (defScope zq) T.z8 cdv A outer s H E).env (cxOf (L2.CX P w) P w K mg base zbb "Camera.check_picture" (defScope zq) T.z8 cdv A outer s H E).xe) :
    PSsD (cxOf (L2.CX P w) P w K mg base zbb "Camera.check_picture" (defScope zq) T.z8 cdv A outer s H E) (defBody zq) (zel U) :=
  (zg (zco (zf7 (zdo (zr (zvs T.isi) T.zgw zf8 (zb (za 1) (zb (znp T.zi9 zgt) zc)))))
      (zh (zmz rfl T.zrz T.zng hr tk (zb zf zc)))
      zan)
      (zh (zdm po rfl (zlt T.zg5 (zb (za 1) zc)) (zdy rfl (zo (zj (i := 2) zf3.nd rfl (Or.inl rfl)) (zo (zj (i := 3) zf3.nd rfl (Or.inl rfl)) zch)))
      (zh (zco (zq4 (zml (zf7 (zdo (zt zdc (hr.mono (by decide)) T.ztv T.zpe.kp T.zqn (zb (za 3) (zb zf (zb (zen (Classical.choose_spec T.zqm)) zc)))))) (zmd (zf7 (zdo (zep T.zai T.zlf zbg (hr.mono (by decide)) T.zk2 (za 0) (zb (zbd (ixd hr.units) (za 3) zf) (zb (zbd (ixd hr.units) (za 3) zf) (zb zf zc)))))))))
      (zh (zmz rfl T.zrz T.zng hr tk (zb (za 2) zc)))
      zan)))))
theorem znx (T : Txt P K mg) (zbg : FnD P w K mg base 1 T.zbh T.zca ["self", "x", "y", "more"] za5) (zdc : FnD P w K mg base 2 T.zes T.zgj ["thing", "low", "high"] zc8) : FnX P w K mg base 3 T.z8 T.zcd ["self", "picture"] zbk :=
  fn_x (T := zel) T.zoj zf3 zmw (znc T zbg zdc) zm2
theorem zsq [Bs] (T : Txt P K mg) (zc6 : FnX P w K mg base 3 T.z8 T.zcd ["self", "picture"] zbk) (zdc : FnD P w K mg base 2 T.zes T.zgj ["thing", "low", "high"] zc8) (za9 : FnD P w K mg base 1 T.zdr T.zex ["thing", "low", "high"] zbe) (U : DXK) (cdv : Value) (A : Around) (outer : List Env) (s : Shared) (H : Hp) (E : XK) (hr : Room 3 (A.deeper (envOfC "Survey.__init__" (defScope z6) s.heap.objs.size T.za2 cdv)))
    (tk : Takes (cxOf (L2.CX P w) P w K mg base zb3 "Survey.__init__" (defScope z6) T.za2 cdv A outer s H E) (zs3 ⟨K, w⟩ U)) (po : PassesOwn (model P w) (cxOf (L2.CX P w) P w K mg base zb3 "Survey.__init__" (defScope z6) T.za2 cdv A outer s H E).A (cxOf (L2.CX P w) P w K mg base zb3 "Survey.__init__" (defScope z6) T.za2 cdv A outer s H E).env (cxOf (L2.CX P w) P w K mg base zb3 "Survey.__init__" (defScope z6) T.za2 cdv A outer s H E).xe) :
    PSsD (cxOf (L2.CX P w) P w K mg base zb3 "Survey.__init__" (defScope z6) T.za2 cdv A outer s H E) (defBody z6) (zhn U) :=
  (zg (zbu (i := 4) zcb.nd rfl (Or.inl rfl) z5e)
      (zg (zdm po rfl (zlt T.zg5 (zb (za 1) zc)) (zdy rfl (zo (zj (i := 5) zcb.nd rfl (Or.inl rfl)) (zo (zj (i := 6) zcb.nd rfl (Or.inl rfl)) zch)))
      (zg (zco (zq4 (zml (zaq (zaee hr.units) (za 5) (zen (Classical.choose_spec T.zjz)) (nomark _)) (zml (zf7 (zdo (zt zdc (hr.mono (by decide)) T.ztv T.zpe.kp T.zqn (zb (za 6) (zb (zw zeq zf (zen (Classical.choose_spec T.zfx))) (zb (zen (Classical.choose_spec T.zfx)) zc)))))) (zmd (zaq (z69 (have h := DL.Room.u65 hr; h)) (za 6) (za 4) (by with_unfolding_all rfl))))))
      (zh (zmz rfl T.z2h T.zt3 hr tk (zb (za 5) zc)))
      zan)
      (zh (zj6 zh1 (zvn (za 4) (za 6) (zyp hr.units))))))
      (zg (zdm po rfl (zb8 (za 3)) (zdy rfl (zo (zj (i := 7) zcb.nd rfl (Or.inl rfl)) (zo (zj (i := 8) zcb.nd rfl (Or.inl rfl)) zch)))
      (zg (zco (zq4 (zml (zf7 (zdo (zr (zvs T.isi) T.zgw zf8 (zb (za 7) (zb (znp T.zi9 zgt) zc))))) (zml (zaq (zrh hr.units) (zr zh4 T.zmk zh5 (zb (za 7) zc)) zf (nomark _)) (zmd (zf7 (zdo (zt za9 (hr.mono (by decide)) T.zij T.zhh.kp T.zg2 (zb (zbd (ixd hr.units) (za 7) zf) (zb zf (zb zf zc))))))))))
      (zh (zmz rfl T.zqd T.zl7 hr tk (zb (za 7) zc)))
      zan)
      (zg (zco (zf7 (zdo (zr (zue rfl) T.z06 zub (zb (zbs (zhy (own := [("number", 5)]) rfl zcb.nd (zb8 (zgi sld (za 7) (zh6 zf) zh9)) (blkOk_by (N := zb3) (sc := defScope z6) (by decide +kernel)) (fun _ _ _ _ _ => (zj (i := 5) zcb.nd rfl (Or.inl rfl))) (fun _ _ _ _ _ => zem) (fun _ _ _ _ _ => (zt za9 (hr.mono (by decide)) T.zij T.zhh.kp T.zg2 (zb (za 5) (zb (zw zeq zf (zen (Classical.choose_spec T.zfx))) (zb (zen (Classical.choose_spec T.zfx)) zc))))))) zc))))
      (zh (zmz rfl T.zqd T.zl7 hr tk (zb (za 7) zc)))
      zan)
      (zh (zdp (z7w T.zai T.znl zc6 (hr.mono (by decide)) T.znh tk (za 2) (zb (za 8) zc)))))))
      (zde 4 (zg (zji T.zce T.zg0 (za 0) (zbx zkj T.zi9 zgt (zb (zbs (zr (zyl hr.units rfl) T.zi3 zg3 (zb (za 4) zc))) zc)))
      (zg (zji T.zce T.zge (za 0) (za 2))
      (zh (zji T.zce T.zln (za 0) (zbx zkj T.zi9 zgt (zb (za 3) zc))))))))))
theorem zs8 (T : Txt P K mg) (zc6 : FnX P w K mg base 3 T.z8 T.zcd ["self", "picture"] zbk) (zdc : FnD P w K mg base 2 T.zes T.zgj ["thing", "low", "high"] zc8) (za9 : FnD P w K mg base 1 T.zdr T.zex ["thing", "low", "high"] zbe) : FnX P w K mg base 4 T.za2 T.zed ["self", "sites", "camera", "looks"] zbf :=
  fn_x (T := zhn) T.ztn zcb zqs (zsq T zc6 zdc za9) zra
theorem zyc [Bs] (T : Txt P K mg) (cdv : Value) (A : Around) (outer : List Env) (s : Shared) (H : Hp) (E : XK) (hr : Room 0 (A.deeper (envOfC "_law_number" (defScope zci) s.heap.objs.size T.ze2 cdv))) :
    PSsD (cxOf CX0 P w K mg base zkm "_law_number" (defScope zci) T.ze2 cdv A outer s H E).nox (defBody zci) znf :=
  (zg (zj6 (z4c (zaq (zrh hr.units) (za 0) (zgp zc) (nomark _)) (z7 (zb (zbd (ixd hr.units) (za 0) (zw zwq (za 1) (zr zh4 T.zmk zh5 (zb (za 0) zc)))) (zb (zw z2w (za 1) (zr zh4 T.zmk zh5 (zb (za 0) zc))) zc))) (z7 (zb zf (zb zf zc)))) (zdy rfl (zo (zj (i := 2) zd1.nd rfl (Or.inl rfl)) (zo (zj (i := 3) zd1.nd rfl (Or.inl rfl)) zch))))
      (zg (zbu (i := 4) zd1.nd rfl (Or.inl rfl) (z4c (zaq (z02 hr.units) (za 3) zf (nomark _)) (zw zeq (za 2) (zw z5v zf zf)) zf))
      (zg (zdm PassesOwn.never rfl (zhi T.zm8 (zb (zw zwq (zbx zy3 T.z24 zw2 (zb (za 3) zc)) zf) zc)) (zj (i := 5) zd1.nd rfl (Or.inl rfl))
      (zh (zbu (i := 4) zd1.nd rfl (Or.inl rfl) (zw z2w (za 4) zf))))
      (zg (zco (zaq (z3r hr.units) (za 4) zf (nomark _))
      (zh (zak (zw zwq (zbx zy3 T.z24 zw2 (zb (za 4) zc)) zf)))
      zan)
      (zg (zbu (i := 6) zd1.nd rfl (Or.inl rfl) (zw zwq (zw zd4 (zw zpw (zbx zy3 T.z24 zw2 (zb (zw zd4 (za 2) (zw zpw zf (za 1))) zc)) zf) (zw zpw zf (zr zh4 T.zmk zh5 (zb (za 0) zc)))) zf))
      (zg (zbu (i := 6) zd1.nd rfl (Or.inl rfl) (zw zwq (zw zd4 (zw zpw (za 6) (za 6)) (zw zpw zf (za 1))) zf))
      (zh (zak (zbx zy3 T.z24 zw2 (zb (zw zwq (zw zd4 (zw zpw (za 6) zf) (zw z2w (za 6) zf)) zf) zc))))))))))
theorem zye (T : Txt P K mg) : FnD P w K mg base 1 T.ze2 T.zho ["script", "index"] zfg :=
  fn_d T.zr2 zd1 zvu (zyc T) zvo
theorem z2m [Bs] (T : Txt P K mg) (zi5 : FnD P w K mg base 1 T.ze2 T.zho ["script", "index"] zfg) (cdv : Value) (A : Around) (outer : List Env) (s : Shared) (H : Hp) (E : XK) (hr : Room 1 (A.deeper (envOfC "_law_take" (defScope zdv) s.heap.objs.size T.zb7 cdv))) :
    PSsD (cxOf CX0 P w K mg base znr "_law_take" (defScope zdv) T.zb7 cdv A outer s H E).nox (defBody zdv) zq9 :=
  (zg (zaaf (za 0) zf zaax zf zwe (zyp hr.units))
      (zh (zak (zw zwq (zbx zy3 T.z24 zw2 (zb (zt zi5 (hr.mono (by decide)) T.z0m T.zr2.kp T.zyd (zb (zbd (ixd hr.units) (za 0) zf) (zb (zbx zy3 T.z24 zw2 (zb (zbd (ixd hr.units) (za 0) zf) zc)) zc))) zc)) (za 1)))))
theorem z1o (T : Txt P K mg) (zi5 : FnD P w K mg base 1 T.ze2 T.zho ["script", "index"] zfg) : FnD P w K mg base 2 T.zb7 T.zcz ["draw", "many"] zl :=
  fn_d T.zav z1i z0x (z2m T zi5) z0i
theorem zxv [Bs] (T : Txt P K mg) (zfo : FnD P w K mg base 2 T.zcr T.zeb ["self", "width", "height", "error", "false", "lost"] zc0) (zn : FnD P w K mg base 2 T.zb7 T.zcz ["draw", "many"] zl) (cdv : Value) (A : Around) (outer : List Env) (s : Shared) (H : Hp) (E : XK) (hr : Room 3 (A.deeper (envOfC "_law_camera" (defScope zck) s.heap.objs.size T.zfd cdv))) :
    PSsD (cxOf CX0 P w K mg base zkq "_law_camera" (defScope zck) T.zfd cdv A outer s H E).nox (defBody zck) zny :=
  (zh (zak (zbs (znq T.z6z zfo (hr.mono (by decide)) T.z7m T.zr3 (zb (zw zd4 zf (zt zn (hr.mono (by decide)) T.zay T.zav.kp T.zal (zb (za 0) (zb zf zc)))) (zb (zw zd4 zf (zt zn (hr.mono (by decide)) T.zay T.zav.kp T.zal (zb (za 0) (zb zf zc)))) (zb (zt zn (hr.mono (by decide)) T.zay T.zav.kp T.zal (zb (za 0) (zb zf zc))) (zb (zt zn (hr.mono (by decide)) T.zay T.zav.kp T.zal (zb (za 0) (zb zf zc))) (zb (zt zn (hr.mono (by decide)) T.zay T.zav.kp T.zal (zb (za 0) (zb zf zc))) zc)))))))))
theorem zx8 (T : Txt P K mg) (zfo : FnD P w K mg base 2 T.zcr T.zeb ["self", "width", "height", "error", "false", "lost"] zc0) (zn : FnD P w K mg base 2 T.zb7 T.zcz ["draw", "many"] zl) : FnD P w K mg base 4 T.zfd T.zhd ["draw"] zfi :=
  fn_d T.zs6 zx0 zwv (zxv T zfo zn) zv3
theorem z8c [Bs] (T : Txt P K mg) (cdv : Value) (A : Around) (outer : List Env) (s : Shared) (H : Hp) (E : XK) (hr : Room 0 (A.deeper (envOfC "turned" (defScope zh7) s.heap.objs.size T.zl0 cdv))) :
    PSsD (cxOf CX0 P w K mg base zvf "turned" (defScope zh7) T.zl0 cdv A outer s H E).nox (defBody zh7) zz4 :=
  (zg (zco (zaq (ztw hr.units) (za 2) zf (nomark _))
      (zh (zak (z7 (zb (za 0) (zb (za 1) zc)))))
      zan)
      (zg (zco (zaq (ztw hr.units) (za 2) zf (nomark _))
      (zh (zak (z7 (zb (zw zeq zf (za 1)) (zb (za 0) zc)))))
      zan)
      (zh (zak (z4c (zaq (ztw hr.units) (za 2) zf (nomark _)) (z7 (zb (zw zeq zf (za 0)) (zb (zw zeq zf (za 1)) zc))) (z7 (zb (za 1) (zb (zw zeq zf (za 0)) zc))))))))
theorem z9a (T : Txt P K mg) : FnD P w K mg base 1 T.zl0 T.zpf ["x", "y", "turn"] zk7 :=
  fn_d T.z42 z7o z6f (z8c T) z57
theorem z1v [Bs] (T : Txt P K mg) (zsn : FnD P w K mg base 1 T.zl0 T.zpf ["x", "y", "turn"] zk7) (cdv : Value) (A : Around) (outer : List Env) (s : Shared) (H : Hp) (E : XK) (hr : Room 1 (A.deeper (envOfC "Sky.place" (defScope zdx) s.heap.objs.size T.zg4 cdv))) :
    PSsD (cxOf CX0 P w K mg base zm5 "Sky.place" (defScope zdx) T.zg4 cdv A outer s H E).nox (defBody zdx) zq1 :=
  (zg (zj6 (zt zsn (hr.mono (by decide)) T.zaag T.z42.kp T.z8j (zb (zbd (ixd hr.units) (za 1) zf) (zb (zbd (ixd hr.units) (za 1) zf) (zb (zbd (ixd hr.units) (za 2) zf) zc)))) (zdy rfl (zo (zj (i := 3) zoz.nd rfl (Or.inl rfl)) (zo (zj (i := 4) zoz.nd rfl (Or.inl rfl)) zch))))
      (zh (zak (z7 (zb (zw zd4 (za 3) (zbd (ixd hr.units) (za 2) zf)) (zb (zw zd4 (za 4) (zbd (ixd hr.units) (za 2) zf)) (zb (zbd (ixd hr.units) (za 1) zf) zc)))))))
theorem z1u (T : Txt P K mg) (zsn : FnD P w K mg base 1 T.zl0 T.zpf ["x", "y", "turn"] zk7) : FnD P w K mg base 2 T.zg4 T.zjl ["self", "crater", "standing"] zhc :=
  fn_d T.z2y zoz zz5 (z1v T zsn) zz8
theorem zz7 [Bs] (T : Txt P K mg) (zlb : FnD P w K mg base 2 T.zg4 T.zjl ["self", "crater", "standing"] zhc) (cdv : Value) (A : Around) (outer : List Env) (s : Shared) (H : Hp) (E : XK) (hr : Room 2 (A.deeper (envOfC "Sky.places" (defScope zcv) s.heap.objs.size T.zbt cdv))) :
    PSsD (cxOf CX0 P w K mg base zjx "Sky.places" (defScope zcv) T.zbt cdv A outer s H E).nox (defBody zcv) zo1 :=
  (zh (zak (zbs (zhy (own := [("crater", 2)]) rfl zm9.nd (zb8 (zba T.zv7 T.zjo (zba T.zlm T.zrw (za 0)))) (blkOk_by (N := zjx) (sc := defScope zcv) (by decide +kernel)) (fun _ _ _ _ _ => (zj (i := 2) zm9.nd rfl (Or.inl rfl))) (fun _ _ _ _ _ => zem) (fun _ _ _ _ _ => (zep T.zlm T.z2f zlb (hr.mono (by decide)) T.z12 (za 0) (zb (za 2) (zb (za 1) zc))))))))
theorem z0q (T : Txt P K mg) (zlb : FnD P w K mg base 2 T.zg4 T.zjl ["self", "crater", "standing"] zhc) : FnD P w K mg base 3 T.zbt T.zb9 ["self", "standing"] zap :=
  fn_d T.z15 zm9 zxe (zz7 T zlb) zxn
theorem z32 [Bs] (T : Txt P K mg) (cdv : Value) (A : Around) (outer : List Env) (s : Shared) (H : Hp) (E : XK) (hr : Room 0 (A.deeper (envOfC "are_near" (defScope zeu) s.heap.objs.size T.zig cdv))) :
    PSsD (cxOf CX0 P w K mg base zpd "are_near" (defScope zeu) T.zig cdv A outer s H E).nox (defBody zeu) ztu :=
  (zh (zak (zq6 (zm6 (ztw hr.units) (zbd (ixd hr.units) (za 0) zf) (zbd (ixd hr.units) (za 1) zf) (nomark _)) (zq6 (zm6 (zsg hr.units) (zr z4l T.zaa3 z5x (zb (zw zeq (zbd (ixd hr.units) (za 0) zf) (zbd (ixd hr.units) (za 1) zf)) zc)) (za 2) (nomark _)) (z0f (zm6 (zsg hr.units) (zr z4l T.zaa3 z5x (zb (zw zeq (zbd (ixd hr.units) (za 0) zf) (zbd (ixd hr.units) (za 1) zf)) zc)) (za 2) (nomark _)))))))
theorem z3y (T : Txt P K mg) : FnD P w K mg base 1 T.zig T.zkt ["point", "place", "error"] zid :=
  fn_d T.zyr z3p z1x (z32 T) z2a
theorem zps [Bs] (T : Txt P K mg) (zm1 : FnD P w K mg base 1 T.zig T.zkt ["point", "place", "error"] zid) (cdv : Value) (A : Around) (outer : List Env) (s : Shared) (H : Hp) (E : XK) (hr : Room 1 (A.deeper (envOfC "Survey.places_for" (defScope zah) s.heap.objs.size T.za7 cdv))) :
    PSsD (cxOf CX0 P w K mg base zef "Survey.places_for" (defScope zah) T.za7 cdv A outer s H E).nox (defBody zah) zie :=
  (zh (zak (zbs (zhy (own := [("at", 3), ("place", 4)]) rfl zfn.nd (zlt T.zg5 (zb (za 2) zc)) (blkOk_by (N := zef) (sc := defScope zah) (by decide +kernel)) (fun _ _ _ _ _ => (zdy rfl (zo (zj (i := 3) zfn.nd rfl (Or.inl rfl)) (zo (zj (i := 4) zfn.nd rfl (Or.inl rfl)) zch)))) (fun _ _ _ _ _ => (zkf (zdo (zt zm1 (hr.mono (by decide)) T.z54 T.zyr.kp T.z3f (zb (za 1) (zb (za 4) (zb (zba T.zai T.zbm (zba T.zce T.zge (za 0))) zc))))))) (fun _ _ _ _ _ => (za 3))))))
theorem zpr (T : Txt P K mg) (zm1 : FnD P w K mg base 1 T.zig T.zkt ["point", "place", "error"] zid) : FnD P w K mg base 2 T.za7 T.zby ["self", "point", "places"] zax :=
  fn_d T.zqt zfn zol (zps T zm1) zpb
theorem zzv [Bs] (T : Txt P K mg) (zac : FnD P w K mg base 3 T.za1 T.zbr ["self", "craters"] zag) (zcx : FnD P w K mg base 2 T.zcy T.zd6 ["self", "ground", "camera", "turns", "area"] zb0) (cdv : Value) (A : Around) (outer : List Env) (s : Shared) (H : Hp) (E : XK) (hr : Room 4 (A.deeper (envOfC "Survey.sky" (defScope zc2) s.heap.objs.size T.zd5 cdv))) :
    PSsD (cxOf CX0 P w K mg base zlw "Survey.sky" (defScope zc2) T.zd5 cdv A outer s H E).nox (defBody zc2) zo3 :=
  (zg (zj6 (za 2) (zdy rfl (zo (zj (i := 3) zkh.nd rfl (Or.inl rfl)) (zo (zj (i := 4) zkh.nd rfl (Or.inl rfl)) (zo (zj (i := 5) zkh.nd rfl (Or.inl rfl)) zch)))))
      (zh (zak (zbs (znq T.zabl zcx (hr.mono (by decide)) T.zabp T.zow (zb (zbs (znq T.zsf zac (hr.mono (by decide)) T.zs9 T.zgv (zb (za 1) zc))) (zb (zba T.zce T.zge (za 0)) (zb (z7 (zb (za 3) zc)) (zb (z7 (zb (za 4) (zb (za 4) (zb (za 5) (zb (za 5) zc))))) zc)))))))))
theorem z0n (T : Txt P K mg) (zac : FnD P w K mg base 3 T.za1 T.zbr ["self", "craters"] zag) (zcx : FnD P w K mg base 2 T.zcy T.zd6 ["self", "ground", "camera", "turns", "area"] zb0) : FnD P w K mg base 5 T.zd5 T.zf1 ["self", "craters", "standing"] zdg :=
  fn_d T.z00 zkh zxw (zzv T zac zcx) zxh
theorem zaas [Bs] (T : Txt P K mg) (cdv : Value) (A : Around) (outer : List Env) (s : Shared) (H : Hp) (E : XK) (hr : Room 0 (A.deeper (envOfC "along" (defScope zjj) s.heap.objs.size T.zo7 cdv))) :
    PSsD (cxOf CX0 P w K mg base zvy "along" (defScope zjj) T.zo7 cdv A outer s H E).nox (defBody zjj) z22 :=
  (zg (zvk (i := 3) (j := 4) rfl zlz.nd rfl rfl (by decide) rfl rfl (zb (zbx z95 T.zabd z85 (zb (za 2) zc)) (zb (za 1) zc)) (by with_unfolding_all rfl))
      (zg (z6q (i := 5) hr.units (own := [("second", 8), ("now", 6)]) rfl zlz.nd rfl rfl (zaau rfl rfl rfl (by decide +kernel)) (z79 (za 2)) (blkOk_by (N := zvy) (sc := defScope zjj) (by decide +kernel)) (fun _ _ _ _ _ => (zdy rfl (zo (zj (i := 8) zlz.nd rfl (Or.inl rfl)) (zo (zj (i := 6) zlz.nd rfl (Or.inl rfl)) zch)))) (fun _ _ _ _ _ => zem) (fun _ _ _ _ _ => (za 6)) (fun _ _ _ _ _ => (za 8)))
      (zde 5 (zg (zry PassesOwn.never (zaq z45 (za 4) zwu (nomark _))
      (zg (zbu (i := 6) zlz.nd rfl (Or.inl rfl) (zbd (ixd hr.units) (za 0) (za 4)))
      (zg (zbu (i := 7) zlz.nd rfl (Or.inl rfl) (zon PySem.F.plainAttrs_dict PySem.F.slot_dict_get PySem.F.type_dict_get (zadg hr.units) (za 5) (zb (za 6) zc)))
      (zg (zj6 (za 6) (zvn (za 3) (za 4) (zyp hr.units)))
      (zh (zbu (i := 4) zlz.nd rfl (Or.inl rfl) (za 7)))))))
      (zh (z0k (za 3)))))))
theorem zaac (T : Txt P K mg) : FnD P w K mg base 1 T.zo7 T.ztc ["comers", "last", "pairs"] znw :=
  fn_d T.z7j zlz z81 (zaas T) z8z
theorem z14 [Bs] (T : Txt P K mg) (zvw : FnD P w K mg base 1 T.zo7 T.ztc ["comers", "last", "pairs"] znw) (cdv : Value) (A : Around) (outer : List Env) (s : Shared) (H : Hp) (E : XK) (hr : Room 1 (A.deeper (envOfC "augmented" (defScope zdt) s.heap.objs.size T.zg6 cdv))) :
    PSsD (cxOf CX0 P w K mg base zm3 "augmented" (defScope zdt) T.zg6 cdv A outer s H E).nox (defBody zdt) zqg :=
  (zg (zvk (i := 3) (j := 4) rfl zlx.nd rfl rfl (by decide) rfl rfl (zb z5p (zb (zgs (zb (za 1) zc)) zc)) (by with_unfolding_all rfl))
      (zg (zry PassesOwn.never (zaq (zrh hr.units) (za 4) (zgp zc) (nomark _))
      (zg (zbu (i := 5) zlx.nd rfl (Or.inl rfl) (zon PySem.F.plainAttrs_list PySem.F.slot_list_pop PySem.F.type_list_pop zaaa (za 4) (zb zf zc)))
      (zh (zdm PassesOwn.never rfl (zb8 (zbd (ixd hr.units) (za 0) (za 5))) (zj (i := 6) zlx.nd rfl (Or.inl rfl))
      (zh (zco (zaq (zrm (have h := DL.Room.u65 hr; h)) (za 6) (za 3) (by with_unfolding_all rfl))
      (zg (zj6 (za 5) (zvn (za 3) (za 6) (zyp hr.units)))
      (zg (zco (zaq (zrm (have h := DL.Room.u65 hr; h)) (za 6) (za 2) (by with_unfolding_all rfl))
      (zde 4 (zde 3 (zh (zak (zt zvw (hr.mono (by decide)) T.zacd T.z7j.kp T.zaao (zb (za 3) (zb (za 6) (zb (za 2) zc))))))))
      zan)
      (zh (zdp (zon PySem.F.plainAttrs_list PySem.F.slot_list_append PySem.F.type_list_append zei (za 4) (zb (zbd (ixd hr.units) (za 2) (za 6)) zc))))))
      zan))))))
      (zde 4 (zde 3 (zh (zak zwu))))))
theorem z2d (T : Txt P K mg) (zvw : FnD P w K mg base 1 T.zo7 T.ztc ["comers", "last", "pairs"] znw) : FnD P w K mg base 2 T.zg6 T.zjm ["nexts", "one", "pairs"] zgz :=
  fn_d T.zwa zlx zzt (z14 T zvw) zzp
theorem z3w [Bs] (T : Txt P K mg) (zlc : FnD P w K mg base 2 T.zg6 T.zjm ["nexts", "one", "pairs"] zgz) (cdv : Value) (A : Around) (outer : List Env) (s : Shared) (H : Hp) (E : XK) (hr : Room 2 (A.deeper (envOfC "greatest" (defScope zec) s.heap.objs.size T.zgl cdv))) :
    PSsD (cxOf CX0 P w K mg base zmo "greatest" (defScope zec) T.zgl cdv A outer s H E).nox (defBody zec) ztr :=
  (zg (zbu (i := 1) zg9.nd rfl (Or.inl rfl) (zbs z5p))
      (zg (zdm PassesOwn.never rfl (zhi T.zm8 (zb (zr zh4 T.zmk zh5 (zb (za 0) zc)) zc)) (zj (i := 2) zg9.nd rfl (Or.inl rfl))
      (zg (zbu (i := 3) zg9.nd rfl (Or.inl rfl) (zt zlc (hr.mono (by decide)) T.z20 T.zwa.kp T.z1g (zb (za 0) (zb (za 2) (zb (za 1) zc)))))
      (zh (zco (zaq z45 (za 3) zwu (nomark _))
      (zh (zbu (i := 1) zg9.nd rfl (Or.inl rfl) (za 3)))
      zan))))
      (zh (zak (zbs (zadi hr.units (own := [("other", 4), ("one", 2)]) rfl zg9.nd (zb8 (zbs (z27 hr.units rfl T.zi3 zg3 (za 1)))) (blkOk_by (N := zmo) (sc := defScope zec) (by decide +kernel)) (fun _ _ _ _ _ => (zdy rfl (zo (zj (i := 4) zg9.nd rfl (Or.inl rfl)) (zo (zj (i := 2) zg9.nd rfl (Or.inl rfl)) zch)))) (fun _ _ _ _ _ => zem) (fun _ _ _ _ _ => (za 2)) (fun _ _ _ _ _ => (za 4))))))))
theorem z35 (T : Txt P K mg) (zlc : FnD P w K mg base 2 T.zg6 T.zjm ["nexts", "one", "pairs"] zgz) : FnD P w K mg base 3 T.zgl T.zim ["nexts"] zfj :=
  fn_d T.ztf zg9 z1k (z3w T zlc) z05
theorem zmg [Bs] (T : Txt P K mg) (zad : FnD P w K mg base 3 T.zbt T.zb9 ["self", "standing"] zap) (za8 : FnD P w K mg base 2 T.za7 T.zby ["self", "point", "places"] zax) (zd2 : FnD P w K mg base 5 T.zd5 T.zf1 ["self", "craters", "standing"] zdg) (zgo : FnD P w K mg base 3 T.zgl T.zim ["nexts"] zfj) (cdv : Value) (A : Around) (outer : List Env) (s : Shared) (H : Hp) (E : XK) (hr : Room 5 (A.deeper (envOfC "Survey.are_points_told" (defScope zu) s.heap.objs.size T.zaf cdv))) :
    PSsD (cxOf CX0 P w K mg base zct "Survey.are_points_told" (defScope zu) T.zaf cdv A outer s H E).nox (defBody zu) zfp :=
  (zg (zdm PassesOwn.never rfl (zb8 (zba T.zce T.zln (za 0))) (zdy rfl (zo (zj (i := 2) zbo.nd rfl (Or.inl rfl)) (zo (zj (i := 3) zbo.nd rfl (Or.inl rfl)) zch)))
      (zg (zbu (i := 4) zbo.nd rfl (Or.inr rfl) (zep T.zlm T.zi8 zad (hr.mono (by decide)) T.ziu (zep T.zce T.zrg zd2 (hr.mono (by decide)) T.zr6 (za 0) (zb (za 1) (zb (za 2) zc))) (zb (za 2) zc)))
      (zg (zrn (i := 5) (own := [("point", 6)]) rfl zbo.nd rfl rfl (sw_true rfl rfl rfl (by decide +kernel)) (zb8 (za 3)) (blkOk_by (N := zct) (sc := defScope zu) (by decide +kernel)) (fun _ _ _ _ _ => (zj (i := 6) zbo.nd rfl (Or.inl rfl))) (fun _ _ _ _ _ => zem) (fun _ _ _ _ _ => (zep T.zce T.zkd za8 (hr.mono (by decide)) T.zke (za 0) (zb (za 6) (zb (za 4) zc)))))
      (zde 5 (zh (zco (zaq (z3r hr.units) (zw zeq (zr zh4 T.zmk zh5 (zb (za 3) zc)) (zr zh4 T.zmk zh5 (zb (zt zgo (hr.mono (by decide)) T.zyj T.ztf.kp T.zvv (zb (za 5) zc)) zc))) (zba T.zai T.ziz (zba T.zce T.zge (za 0))) (nomark _))
      (zh (zak zh1))
      zan))))))
      (zh (zak zh1)))
theorem zl6 (T : Txt P K mg) (zad : FnD P w K mg base 3 T.zbt T.zb9 ["self", "standing"] zap) (za8 : FnD P w K mg base 2 T.za7 T.zby ["self", "point", "places"] zax) (zd2 : FnD P w K mg base 5 T.zd5 T.zf1 ["self", "craters", "standing"] zdg) (zgo : FnD P w K mg base 3 T.zgl T.zim ["nexts"] zfj) : FnD P w K mg base 6 T.zaf T.zaw ["self", "craters"] zab :=
  fn_d T.zmx zbo zlp (zmg T zad za8 zd2 zgo) zlq
theorem zw7 [Bs] (T : Txt P K mg) (cdv : Value) (A : Around) (outer : List Env) (s : Shared) (H : Hp) (E : XK) (hr : Room 0 (A.deeper (envOfC "turned_round" (defScope zbn) s.heap.objs.size T.zd8 cdv))) :
    PSsD (cxOf CX0 P w K mg base zhz "turned_round" (defScope zbn) T.zd8 cdv A outer s H E).nox (defBody zbn) zmc :=
  (zg (zrn (i := 2) (own := [("other", 5)]) rfl zfr.nd rfl rfl (sw_true rfl rfl rfl (by decide +kernel)) (zhi T.zm8 (zb (za 1) zc)) (blkOk_by (N := zhz) (sc := defScope zbn) (by decide +kernel)) (fun _ _ _ _ _ => (zj (i := 5) zfr.nd rfl (Or.inl rfl))) (fun _ _ _ _ _ => zem) (fun _ _ _ _ _ => (zgs zc)))
      (zg (zdm PassesOwn.never rfl (zlt T.zg5 (zb (za 0) zc)) (zdy rfl (zo (zj (i := 3) zfr.nd rfl (Or.inl rfl)) (zo (zj (i := 4) zfr.nd rfl (Or.inl rfl)) zch)))
      (zh (zdm PassesOwn.never rfl (zb8 (za 4)) (zj (i := 5) zfr.nd rfl (Or.inl rfl))
      (zh (zdp (zon PySem.F.plainAttrs_list PySem.F.slot_list_append PySem.F.type_list_append zei (zbd (ixd hr.units) (za 2) (za 5)) (zb (za 3) zc)))))))
      (z8a 2 (zh (z0k (za 2))))))
theorem zv8 (T : Txt P K mg) : FnD P w K mg base 1 T.zd8 T.zgm ["nexts", "many"] zeg :=
  fn_d T.zp5 zfr zum (zw7 T) zuj
theorem zts [Bs] (T : Txt P K mg) (zbg : FnD P w K mg base 1 T.zbh T.zca ["self", "x", "y", "more"] za5) (cdv : Value) (A : Around) (outer : List Env) (s : Shared) (H : Hp) (E : XK) (hr : Room 1 (A.deeper (envOfC "Camera.is_sure" (defScope zbc) s.heap.objs.size T.zc4 cdv))) :
    PSsD (cxOf CX0 P w K mg base zh8 "Camera.is_sure" (defScope zbc) T.zc4 cdv A outer s H E).nox (defBody zbc) zkb :=
  (zh (zak (zep T.zai T.zlf zbg (hr.mono (by decide)) T.zk2 (za 0) (zb (za 1) (zb (za 2) (zb (zw zeq zf (zba T.zai T.zbm (za 0))) zc))))))
theorem zto (T : Txt P K mg) (zbg : FnD P w K mg base 1 T.zbh T.zca ["self", "x", "y", "more"] za5) : FnD P w K mg base 2 T.zc4 T.zev ["self", "x", "y"] zda :=
  fn_d T.zuo ztl zsz (zts T zbg) zrv
theorem zqz [Bs] (T : Txt P K mg) (zgh : FnD P w K mg base 2 T.zc4 T.zev ["self", "x", "y"] zda) (zad : FnD P w K mg base 3 T.zbt T.zb9 ["self", "standing"] zap) (cdv : Value) (A : Around) (outer : List Env) (s : Shared) (H : Hp) (E : XK) (hr : Room 3 (A.deeper (envOfC "Sky.sure_craters" (defScope zaj) s.heap.objs.size T.zcc cdv))) :
    PSsD (cxOf CX0 P w K mg base ze6 "Sky.sure_craters" (defScope zaj) T.zcc cdv A outer s H E).nox (defBody zaj) zis :=
  (zg (zbu (i := 2) zcq.nd rfl (Or.inl rfl) (zep T.zlm T.zi8 zad (hr.mono (by decide)) T.ziu (za 0) (zb (za 1) zc)))
      (zh (zak (zbs (zhy (own := [("number", 3), ("x", 4), ("y", 5), ("size", 6)]) rfl zcq.nd (zlt T.zg5 (zb (za 2) zc)) (blkOk_by (N := ze6) (sc := defScope zaj) (by decide +kernel)) (fun _ _ _ _ _ => (zdy rfl (zo (zj (i := 3) zcq.nd rfl (Or.inl rfl)) (zo (zdy rfl (zo (zj (i := 4) zcq.nd rfl (Or.inl rfl)) (zo (zj (i := 5) zcq.nd rfl (Or.inl rfl)) (zo (zj (i := 6) zcq.nd rfl (Or.inl rfl)) zch)))) zch)))) (fun _ _ _ _ _ => (zkf (zdo (zep T.zai T.zt1 zgh (hr.mono (by decide)) T.ztp (zba T.zlm T.zki (za 0)) (zb (za 4) (zb (za 5) zc)))))) (fun _ _ _ _ _ => (za 3)))))))
theorem zqh (T : Txt P K mg) (zgh : FnD P w K mg base 2 T.zc4 T.zev ["self", "x", "y"] zda) (zad : FnD P w K mg base 3 T.zbt T.zb9 ["self", "standing"] zap) : FnD P w K mg base 4 T.zcc T.zdq ["self", "standing"] zcp :=
  fn_d T.zsc zcq zpl (zqz T zgh zad) zpq
theorem zlo [Bs] (T : Txt P K mg) (zad : FnD P w K mg base 3 T.zbt T.zb9 ["self", "standing"] zap) (ze3 : FnD P w K mg base 4 T.zcc T.zdq ["self", "standing"] zcp) (za8 : FnD P w K mg base 2 T.za7 T.zby ["self", "point", "places"] zax) (zd2 : FnD P w K mg base 5 T.zd5 T.zf1 ["self", "craters", "standing"] zdg) (zgo : FnD P w K mg base 3 T.zgl T.zim ["nexts"] zfj) (zhv : FnD P w K mg base 1 T.zd8 T.zgm ["nexts", "many"] zeg) (cdv : Value) (A : Around) (outer : List Env) (s : Shared) (H : Hp) (E : XK) (hr : Room 5 (A.deeper (envOfC "Survey.are_craters_seen" (defScope zp) s.heap.objs.size T.zaa cdv))) :
    PSsD (cxOf CX0 P w K mg base zbp "Survey.are_craters_seen" (defScope zp) T.zaa cdv A outer s H E).nox (defBody zp) zfl :=
  (zg (zdm PassesOwn.never rfl (zb8 (zba T.zce T.zln (za 0))) (zdy rfl (zo (zj (i := 2) zv.nd rfl (Or.inl rfl)) (zo (zj (i := 3) zv.nd rfl (Or.inl rfl)) zch)))
      (zg (zbu (i := 4) zv.nd rfl (Or.inl rfl) (zep T.zce T.zrg zd2 (hr.mono (by decide)) T.zr6 (za 0) (zb (za 1) (zb (za 2) zc))))
      (zg (zbu (i := 5) zv.nd rfl (Or.inr rfl) (zep T.zlm T.zi8 zad (hr.mono (by decide)) T.ziu (za 4) (zb (za 2) zc)))
      (zg (zbu (i := 6) zv.nd rfl (Or.inr rfl) (zt zhv (hr.mono (by decide)) T.zxo T.zp5.kp T.zvp (zb (zbs (zhy (own := [("point", 8)]) rfl zv.nd (zb8 (za 3)) (blkOk_by (N := zbp) (sc := defScope zp) (by decide +kernel)) (fun _ _ _ _ _ => (zj (i := 8) zv.nd rfl (Or.inl rfl))) (fun _ _ _ _ _ => zem) (fun _ _ _ _ _ => (zep T.zce T.zkd za8 (hr.mono (by decide)) T.zke (za 0) (zb (za 8) (zb (za 5) zc)))))) (zb (zr zh4 T.zmk zh5 (zb (za 5) zc)) zc))))
      (zg (zbu (i := 7) zv.nd rfl (Or.inl rfl) (zep T.zlm T.zre ze3 (hr.mono (by decide)) T.zq5 (za 4) (zb (za 2) zc)))
      (zh (zco (zaq (z3r hr.units) (zw zeq (zr zh4 T.zmk zh5 (zb (za 7) zc)) (zr zh4 T.zmk zh5 (zb (zt zgo (hr.mono (by decide)) T.zyj T.ztf.kp T.zvv (zb (zbs (zhy (own := [("number", 9)]) rfl zv.nd (zb8 (za 7)) (blkOk_by (N := zbp) (sc := defScope zp) (by decide +kernel)) (fun _ _ _ _ _ => (zj (i := 9) zv.nd rfl (Or.inl rfl))) (fun _ _ _ _ _ => zem) (fun _ _ _ _ _ => (zbd (ixd hr.units) (za 6) (za 9))))) zc)) zc))) (zba T.zai T.zl8 (zba T.zce T.zge (za 0))) (nomark _))
      (zh (zak zh1))
      zan)))))))
      (zh (zak zh1)))
theorem zls (T : Txt P K mg) (zad : FnD P w K mg base 3 T.zbt T.zb9 ["self", "standing"] zap) (ze3 : FnD P w K mg base 4 T.zcc T.zdq ["self", "standing"] zcp) (za8 : FnD P w K mg base 2 T.za7 T.zby ["self", "point", "places"] zax) (zd2 : FnD P w K mg base 5 T.zd5 T.zf1 ["self", "craters", "standing"] zdg) (zgo : FnD P w K mg base 3 T.zgl T.zim ["nexts"] zfj) (zhv : FnD P w K mg base 1 T.zd8 T.zgm ["nexts", "many"] zeg) : FnD P w K mg base 6 T.zaa T.zar ["self", "craters"] z4 :=
  fn_d T.zma zv zlj (zlo T zad ze3 za8 zd2 zgo zhv) zk5
theorem zxz [Bs] (T : Txt P K mg) (z9 : FnD P w K mg base 6 T.zaa T.zar ["self", "craters"] z4) (zae : FnD P w K mg base 6 T.zaf T.zaw ["self", "craters"] zab) (cdv : Value) (A : Around) (outer : List Env) (s : Shared) (H : Hp) (E : XK) (hr : Room 6 (A.deeper (envOfC "grounds_for" (defScope zcj) s.heap.objs.size T.zcn cdv))) :
    PSsD (cxOf CX0 P w K mg base zkl "grounds_for" (defScope zcj) T.zcn cdv A outer s H E).nox (defBody zcj) zm7 :=
  (zg (z4i (i := 2) (j := 3) (l := 4) rfl zh0.nd rfl rfl rfl (by decide) (by decide) (by decide) rfl rfl rfl (zb (zgs zc) (zb zf (zb (zgs (zb (z7 (zb (z7 zc) (zb (zba T.zce T.zg0 (za 0)) zc))) zc)) zc))) (by with_unfolding_all rfl))
      (zg (zry PassesOwn.never (zaq (zrh hr.units) (za 4) (zgp zc) (nomark _))
      (zg (zj6 (zabk PySem.F.plainAttrs_list PySem.F.slot_list_pop PySem.F.type_list_pop zaba (za 4)) (zdy rfl (zo (zj (i := 5) zh0.nd rfl (Or.inl rfl)) (zo (zj (i := 6) zh0.nd rfl (Or.inl rfl)) zch))))
      (zg (zco (zaq (ztw hr.units) (za 3) (za 1) (nomark _))
      (zh zi1)
      zan)
      (zg (zz1 (i := 3) zh0.nd rfl (Or.inl rfl) zf zwe)
      (zg (zco (zq4 (zml (zf7 (zdo (zep T.zce T.zh3 zae (hr.mono (by decide)) T.zhx (za 0) (zb (z7 (zpg (za 5) (zpg (za 6) zc))) zc)))) (zmd (zf7 (zdo (zep T.zce T.zhr z9 (hr.mono (by decide)) T.zhs (za 0) (zb (za 5) zc)))))))
      (zh zt7)
      zan)
      (zh (zco (zaq (ztw hr.units) (za 6) (z7 zc) (nomark _))
      (zh (zdp (zon PySem.F.plainAttrs_list PySem.F.slot_list_append PySem.F.type_list_append zei (za 2) (zb (za 5) zc))))
      (zg (zdp (zon PySem.F.plainAttrs_list PySem.F.slot_list_append PySem.F.type_list_append zei (za 4) (zb (z7 (zb (za 5) (zb (zgi sld (za 6) (zh6 zf) zh9) zc))) zc)))
      (zh (zdp (zon PySem.F.plainAttrs_list PySem.F.slot_list_append PySem.F.type_list_append zei (za 4) (zb (z7 (zb (z7 (zpg (za 5) (zb (zbd (ixd hr.units) (za 6) zf) zc))) (zb (zgi sld (za 6) (zh6 zf) zh9) zc))) zc))))))))))))
      (zde 4 (zde 2 (zh (zak (zbs (zr (zt0 hr.units) T.zi3 zg3 (zb (za 2) zc)))))))))
theorem zx5 (T : Txt P K mg) (z9 : FnD P w K mg base 6 T.zaa T.zar ["self", "craters"] z4) (zae : FnD P w K mg base 6 T.zaf T.zaw ["self", "craters"] zab) : FnD P w K mg base 7 T.zcn T.zdf ["survey", "most"] zbq :=
  fn_d T.zkr zh0 zwn (zxz T z9 zae) zv6
theorem zun [Bs] (T : Txt P K mg) (z9 : FnD P w K mg base 6 T.zaa T.zar ["self", "craters"] z4) (zae : FnD P w K mg base 6 T.zaf T.zaw ["self", "craters"] zab) (U : DXK) (cdv : Value) (A : Around) (outer : List Env) (s : Shared) (H : Hp) (E : XK) (hr : Room 6 (A.deeper (envOfC "grounds_for" (defScope zao) s.heap.objs.size T.zbl cdv)))
    (tk : Takes (cxOf (L2.CX P w) P w K mg base zdn "grounds_for" (defScope zao) T.zbl cdv A outer s H E) (zs3 ⟨K, w⟩ U)) (po : PassesOwn (model P w) (cxOf (L2.CX P w) P w K mg base zdn "grounds_for" (defScope zao) T.zbl cdv A outer s H E).A (cxOf (L2.CX P w) P w K mg base zdn "grounds_for" (defScope zao) T.zbl cdv A outer s H E).env (cxOf (L2.CX P w) P w K mg base zdn "grounds_for" (defScope zao) T.zbl cdv A outer s H E).xe) :
    PSsD (cxOf (L2.CX P w) P w K mg base zdn "grounds_for" (defScope zao) T.zbl cdv A outer s H E) (defBody zao) (zi0 U) :=
  (zg (z4i (i := 2) (j := 3) (l := 4) rfl zgg.nd rfl rfl rfl (by decide) (by decide) (by decide) rfl rfl rfl (zb (zgs zc) (zb zf (zb (zgs (zb (z7 (zb (z7 zc) (zb (zba T.zce T.zg0 (za 0)) zc))) zc)) zc))) (by with_unfolding_all rfl))
      (zg (zry po (zaq (zrh hr.units) (za 4) (zgp zc) (nomark _))
      (zg (zj6 (zabk PySem.F.plainAttrs_list PySem.F.slot_list_pop PySem.F.type_list_pop zaba (za 4)) (zdy rfl (zo (zj (i := 5) zgg.nd rfl (Or.inl rfl)) (zo (zj (i := 6) zgg.nd rfl (Or.inl rfl)) zch))))
      (zg (zco (zaq (ztw hr.units) (za 3) (za 1) (nomark _))
      (zh (zmz rfl T.z6a T.zy0 hr tk (zb (za 1) zc)))
      zan)
      (zg (zz1 (i := 3) zgg.nd rfl (Or.inl rfl) zf zwe)
      (zg (zco (zq4 (zml (zf7 (zdo (zep T.zce T.zh3 zae (hr.mono (by decide)) T.zhx (za 0) (zb (z7 (zpg (za 5) (zpg (za 6) zc))) zc)))) (zmd (zf7 (zdo (zep T.zce T.zhr z9 (hr.mono (by decide)) T.zhs (za 0) (zb (za 5) zc)))))))
      (zh zt7)
      zan)
      (zh (zco (zaq (ztw hr.units) (za 6) (z7 zc) (nomark _))
      (zh (zdp (zon PySem.F.plainAttrs_list PySem.F.slot_list_append PySem.F.type_list_append zei (za 2) (zb (za 5) zc))))
      (zg (zdp (zon PySem.F.plainAttrs_list PySem.F.slot_list_append PySem.F.type_list_append zei (za 4) (zb (z7 (zb (za 5) (zb (zgi sld (za 6) (zh6 zf) zh9) zc))) zc)))
      (zh (zdp (zon PySem.F.plainAttrs_list PySem.F.slot_list_append PySem.F.type_list_append zei (za 4) (zb (z7 (zb (z7 (zpg (za 5) (zb (zbd (ixd hr.units) (za 6) zf) zc))) (zb (zgi sld (za 6) (zh6 zf) zh9) zc))) zc))))))))))))
      (zde 4 (zde 2 (zh (zak (zbs (zr (zt0 hr.units) T.zi3 zg3 (zb (za 2) zc)))))))))
theorem zug (T : Txt P K mg) (z9 : FnD P w K mg base 6 T.zaa T.zar ["self", "craters"] z4) (zae : FnD P w K mg base 6 T.zaf T.zaw ["self", "craters"] zab) : FnX P w K mg base 7 T.zbl T.zfu ["survey", "most"] zdw :=
  fn_x (T := zi0) T.zo2 zgg ztx (zun T z9 zae) ztq
theorem z0r [Bs] (T : Txt P K mg) (zbj : FnD P w K mg base 7 T.zcn T.zdf ["survey", "most"] zbq) (cdv : Value) (A : Around) (outer : List Env) (s : Shared) (H : Hp) (E : XK) (hr : Room 7 (A.deeper (envOfC "sure_sites" (defScope zcu) s.heap.objs.size T.zfy cdv))) :
    PSsD (cxOf CX0 P w K mg base zj0 "sure_sites" (defScope zcu) T.zfy cdv A outer s H E).nox (defBody zcu) zo5 :=
  (zg (zbu (i := 2) zhl.nd rfl (Or.inr rfl) (zt zbj (hr.mono (by decide)) T.znt T.zkr.kp T.zmf (zb (za 0) (zb (za 1) zc))))
      (zg (zco (zaq (zabt hr.units) (za 2) (zgp zc) (nomark _))
      (zh (zak zwu))
      zan)
      (zh (zak (zbx zkj T.zi9 zgt (zb (zbs (zhy (own := [("site", 3)]) rfl zhl.nd (zb8 (zba T.zce T.zg0 (za 0))) (blkOk_by (N := zj0) (sc := defScope zcu) (by decide +kernel)) (fun _ _ _ _ _ => (zj (i := 3) zhl.nd rfl (Or.inr rfl))) (fun _ _ _ _ _ => (zkf (zdo (zr (zue rfl) T.z06 zub (zb (zbs (zhy (own := [("row", 4)]) rfl zhl.nd (zb8 (za 2)) (blkOk_by (by kernel_rfl)) (fun _ _ _ _ _ => (zj (i := 4) zhl.nd rfl (Or.inl rfl))) (fun _ _ _ _ _ => zem) (fun _ _ _ _ _ => (zm6 (z69 (have h := DL.Room.u65 hr; h)) (za 3) (za 4) (by with_unfolding_all rfl))))) zc))))) (fun _ _ _ _ _ => (za 3)))) zc))))))
theorem z0j (T : Txt P K mg) (zbj : FnD P w K mg base 7 T.zcn T.zdf ["survey", "most"] zbq) : FnD P w K mg base 8 T.zfy T.zii ["survey", "most"] zf6 :=
  fn_d T.zt2 zhl zx7 (z0r T zbj) zya
theorem ztg [Bs] (T : Txt P K mg) (zbj : FnD P w K mg base 7 T.zcn T.zdf ["survey", "most"] zbq) (cdv : Value) (A : Around) (outer : List Env) (s : Shared) (H : Hp) (E : XK) (hr : Room 7 (A.deeper (envOfC "possible_sites" (defScope zaz) s.heap.objs.size T.zc3 cdv))) :
    PSsD (cxOf CX0 P w K mg base zgf "possible_sites" (defScope zaz) T.zc3 cdv A outer s H E).nox (defBody zaz) zj5 :=
  (zg (zbu (i := 2) zea.nd rfl (Or.inr rfl) (zt zbj (hr.mono (by decide)) T.znt T.zkr.kp T.zmf (zb (za 0) (zb (za 1) zc))))
      (zh (zak (zbx zkj T.zi9 zgt (zb (zbs (zhy (own := [("site", 3)]) rfl zea.nd (zb8 (zba T.zce T.zg0 (za 0))) (blkOk_by (N := zgf) (sc := defScope zaz) (by decide +kernel)) (fun _ _ _ _ _ => (zj (i := 3) zea.nd rfl (Or.inr rfl))) (fun _ _ _ _ _ => (zkf (zdo (zr (zabe rfl) T.zafb zabr (zb (zbs (zhy (own := [("row", 4)]) rfl zea.nd (zb8 (za 2)) (blkOk_by (by kernel_rfl)) (fun _ _ _ _ _ => (zj (i := 4) zea.nd rfl (Or.inl rfl))) (fun _ _ _ _ _ => zem) (fun _ _ _ _ _ => (zm6 (z69 (have h := DL.Room.u65 hr; h)) (za 3) (za 4) (by with_unfolding_all rfl))))) zc))))) (fun _ _ _ _ _ => (za 3)))) zc)))))
theorem zte (T : Txt P K mg) (zbj : FnD P w K mg base 7 T.zcn T.zdf ["survey", "most"] zbq) : FnD P w K mg base 8 T.zc3 T.zew ["survey", "most"] zc9 :=
  fn_d T.zof zea zr0 (ztg T zbj) zri
theorem zxg [Bs] (T : Txt P K mg) (cdv : Value) (A : Around) (outer : List Env) (s : Shared) (H : Hp) (E : XK) (hr : Room 0 (A.deeper (envOfC "_law_unlike" (defScope zcm) s.heap.objs.size T.zfb cdv))) :
    PSsD (cxOf CX0 P w K mg base zkg "_law_unlike" (defScope zcm) T.zfb cdv A outer s H E).nox (defBody zcm) znu :=
  (zg (zbu (i := 1) zl4.nd rfl (Or.inl rfl) z5e)
      (zg (zdm PassesOwn.never rfl (zb8 (za 0)) (zj (i := 2) zl4.nd rfl (Or.inl rfl))
      (zh (zj6 zh1 (zvn (za 1) (za 2) (zyp hr.units)))))
      (zde 1 (zh (zak (zbs (zr (zyl hr.units rfl) T.zi3 zg3 (zb (za 1) zc))))))))
theorem zyb (T : Txt P K mg) : FnD P w K mg base 1 T.zfb T.zhf ["items"] zfk :=
  fn_d T.zs1 zl4 zwj (zxg T) zwp
theorem z2i [Bs] (T : Txt P K mg) (zn : FnD P w K mg base 2 T.zb7 T.zcz ["draw", "many"] zl) (cdv : Value) (A : Around) (outer : List Env) (s : Shared) (H : Hp) (E : XK) (hr : Room 2 (A.deeper (envOfC "_law_pick" (defScope zdu) s.heap.objs.size T.zff cdv))) :
    PSsD (cxOf CX0 P w K mg base znm "_law_pick" (defScope zdu) T.zff cdv A outer s H E).nox (defBody zdu) zq3 :=
  (zh (zak (zbd (ixd hr.units) (za 1) (zt zn (hr.mono (by decide)) T.zay T.zav.kp T.zal (zb (za 0) (zb (zr zh4 T.zmk zh5 (zb (za 1) zc)) zc))))))
theorem z1r (T : Txt P K mg) (zn : FnD P w K mg base 2 T.zb7 T.zcz ["draw", "many"] zl) : FnD P w K mg base 3 T.zff T.zha ["draw", "items"] zd7 :=
  fn_d T.zqj z1t zzy (z2i T zn) zzc
theorem zxl [Bs] (T : Txt P K mg) (cdv : Value) (A : Around) (outer : List Env) (s : Shared) (H : Hp) (E : XK) (hr : Room 0 (A.deeper (envOfC "_law_shares" (defScope zb2) s.heap.objs.size T.ze4 cdv))) :
    PSsD (cxOf CX0 P w K mg base zin "_law_shares" (defScope zb2) T.ze4 cdv A outer s H E).nox (defBody zb2) znn :=
  (zg (zbu (i := 3) zcw.nd rfl (Or.inl rfl) (zbs (z8v hr.units (z7 zc) zh1)))
      (zg (zdm PassesOwn.never rfl (zb8 (za 0)) (zj (i := 4) zcw.nd rfl (Or.inl rfl))
      (zg (zbu (i := 5) zcw.nd rfl (Or.inl rfl) (zbx (zaay hr.units) T.zabd z85 (zb (za 3) zc)))
      (zg (zdm PassesOwn.never rfl (zlt T.zg5 (zb (za 1) zc)) (zdy rfl (zo (zj (i := 6) zcw.nd rfl (Or.inr rfl)) (zo (zj (i := 7) zcw.nd rfl (Or.inl rfl)) zch)))
      (zh (zco (zq4 (zqq (zaq (zsg hr.units) (zr z4l T.zaa3 z5x (zb (zw zeq (zbd (ixd hr.units) (za 4) zf) (zbd (ixd hr.units) (za 7) zf)) zc)) (za 2) (nomark _)) (zqq (zaq (zsg hr.units) (zr z4l T.zaa3 z5x (zb (zw zeq (zbd (ixd hr.units) (za 4) zf) (zbd (ixd hr.units) (za 7) zf)) zc)) (za 2) (nomark _)) (zrx (zaq (ztw hr.units) (zbd (ixd hr.units) (za 4) zf) (zbd (ixd hr.units) (za 7) zf) (nomark _))))))
      (zh (zdm PassesOwn.never rfl (zb8 (zbs (zhy (own := [("one", 9)]) rfl zcw.nd (z9o (za 3)) (blkOk_by (N := zin) (sc := defScope zb2) (by decide +kernel)) (fun _ _ _ _ _ => (zj (i := 9) zcw.nd rfl (Or.inl rfl))) (fun _ _ _ _ _ => (zkf (zaq (zrm (have h := DL.Room.u65 hr; h)) (za 6) (za 9) (by with_unfolding_all rfl)))) (fun _ _ _ _ _ => (za 9))))) (zj (i := 8) zcw.nd rfl (Or.inl rfl))
      (zh (zj6 zh1 (zvn (za 5) (zbx zkj T.zi9 zgt (zb (zbs (zr (zyv hr.units) T.zi3 zg3 (zb (zw zd4 (za 8) (z7 (zb (za 6) zc))) zc))) zc)) (zyp hr.units))))))
      zan)))
      (zde 5 (zh (zbu (i := 3) zcw.nd rfl (Or.inl rfl) (za 5)))))))
      (zh (zak (zbs (zbx (zaaj rfl) T.z7d z3m (zb (za 3) zc)))))))
theorem zxf (T : Txt P K mg) : FnD P w K mg base 1 T.ze4 T.zhg ["points", "places", "error"] zfm :=
  fn_d T.zsj zcw zxa (zxl T) zvh
theorem z2g [Bs] (T : Txt P K mg) (zad : FnD P w K mg base 3 T.zbt T.zb9 ["self", "standing"] zap) (zi6 : FnD P w K mg base 1 T.ze4 T.zhg ["points", "places", "error"] zfm) (cdv : Value) (A : Around) (outer : List Env) (s : Shared) (H : Hp) (E : XK) (hr : Room 3 (A.deeper (envOfC "_law_fits" (defScope zdb) s.heap.objs.size T.zg7 cdv))) :
    PSsD (cxOf CX0 P w K mg base zkx "_law_fits" (defScope zdb) T.zg7 cdv A outer s H E).nox (defBody zdb) zq7 :=
  (zg (zvk (i := 3) (j := 4) rfl zf2.nd rfl rfl (by decide) rfl rfl (zb (zep T.zlm T.zi8 zad (hr.mono (by decide)) T.ziu (za 0) (zb (za 2) zc)) (zb (zba T.zlm T.zki (za 0)) zc)) (by with_unfolding_all rfl))
      (zg (zbu (i := 5) zf2.nd rfl (Or.inl rfl) (zgs zc))
      (zg (zdm PassesOwn.never rfl (zlt T.zg5 (zb (za 3) zc)) (zdy rfl (zo (zj (i := 6) zf2.nd rfl (Or.inl rfl)) (zo (zj (i := 7) zf2.nd rfl (Or.inl rfl)) zch)))
      (zh (zco (zq4 (zqq (zsx (zsg hr.units) (z02 hr.units) (zba T.zai T.zbm (za 4)) (zbd (ixd hr.units) (za 7) zf) (zw zeq (zba T.zai T.zfw (za 4)) (zba T.zai T.zbm (za 4)))) (zrx (zsx (zsg hr.units) (z02 hr.units) (zba T.zai T.zbm (za 4)) (zbd (ixd hr.units) (za 7) zf) (zw zeq (zba T.zai T.zez (za 4)) (zba T.zai T.zbm (za 4)))))))
      (zh (zdp (zon PySem.F.plainAttrs_list PySem.F.slot_list_append PySem.F.type_list_append zei (za 5) (zb (za 6) zc))))
      zan)))
      (zde 5 (zg (zdm PassesOwn.never rfl (zb8 (zt zi6 (hr.mono (by decide)) T.zzf T.zsj.kp T.zxc (zb (za 1) (zb (za 3) (zb (zba T.zai T.zbm (za 4)) zc))))) (zj (i := 8) zf2.nd rfl (Or.inr rfl))
      (zg (zrn (i := 9) (own := [("at", 6)]) rfl zf2.nd rfl rfl (sw_true rfl rfl rfl (by decide +kernel)) (zb8 (za 5)) (blkOk_by (N := zkx) (sc := defScope zdb) (by decide +kernel)) (fun _ _ _ _ _ => (zj (i := 6) zf2.nd rfl (Or.inl rfl))) (fun _ _ _ _ _ => (zkf (zaq (zrm (have h := DL.Room.u65 hr; h)) (za 6) (za 8) (by with_unfolding_all rfl)))) (fun _ _ _ _ _ => (za 6)))
      (zde 9 (zh (zco (zq4 (zqq (zaq (zsg hr.units) (zw zeq (zr zh4 T.zmk zh5 (zb (za 1) zc)) (zr zh4 T.zmk zh5 (zb (za 8) zc))) (zba T.zai T.ziz (za 4)) (nomark _)) (zrx (zaq (zsg hr.units) (zr zh4 T.zmk zh5 (zb (za 9) zc)) (zba T.zai T.zl8 (za 4)) (nomark _)))))
      (zh (zak zh1))
      zan)))))
      (zh (zak zh1)))))))
theorem z1q (T : Txt P K mg) (zad : FnD P w K mg base 3 T.zbt T.zb9 ["self", "standing"] zap) (zi6 : FnD P w K mg base 1 T.ze4 T.zhg ["points", "places", "error"] zfm) : FnD P w K mg base 4 T.zg7 T.zjp ["sky", "picture", "standing"] zgx :=
  fn_d T.zvq zf2 zzr (z2g T zad zi6) zz6
theorem z0e [Bs] (T : Txt P K mg) (cdv : Value) (A : Around) (outer : List Env) (s : Shared) (H : Hp) (E : XK) (hr : Room 0 (A.deeper (envOfC "_law_spots" (defScope zc5) s.heap.objs.size T.zfz cdv))) :
    PSsD (cxOf CX0 P w K mg base zlu "_law_spots" (defScope zc5) T.zfz cdv A outer s H E).nox (defBody zc5) zo8 :=
  (zg (zbu (i := 1) zja.nd rfl (Or.inl rfl) (zgs zc))
      (zg (zdm PassesOwn.never rfl (zhi T.zm8 (zb (zba T.zai T.zfw (za 0)) zc)) (zj (i := 2) zja.nd rfl (Or.inl rfl))
      (zh (zdm PassesOwn.never rfl (zhi T.zm8 (zb (zba T.zai T.zez (za 0)) zc)) (zj (i := 3) zja.nd rfl (Or.inl rfl))
      (zh (zz1 (i := 1) zja.nd rfl (Or.inl rfl) (zgp (zb (z7 (zb (za 2) (zb (za 3) (zb zf zc)))) (zb (z7 (zb (za 2) (zb (za 3) (zb zf zc)))) zc))) zwe)))))
      (zh (z0k (za 1)))))
theorem zz0 (T : Txt P K mg) : FnD P w K mg base 1 T.zfz T.zil ["camera"] zf5 :=
  fn_d T.zuc zja zxr (z0e T) zx6
theorem zw6 [Bs] (T : Txt P K mg) (zad : FnD P w K mg base 3 T.zbt T.zb9 ["self", "standing"] zap) (zfe : FnD P w K mg base 3 T.zff T.zha ["draw", "items"] zd7) (zjy : FnD P w K mg base 1 T.zfz T.zil ["camera"] zf5) (zn : FnD P w K mg base 2 T.zb7 T.zcz ["draw", "many"] zl) (cdv : Value) (A : Around) (outer : List Env) (s : Shared) (H : Hp) (E : XK) (hr : Room 3 (A.deeper (envOfC "_law_picture" (defScope zb1) s.heap.objs.size T.zd9 cdv))) :
    PSsD (cxOf CX0 P w K mg base zjr "_law_picture" (defScope zb1) T.zd9 cdv A outer s H E).nox (defBody zb1) zl1 :=
  (zg (zvk (i := 3) (j := 4) rfl zdi.nd rfl rfl (by decide) rfl rfl (zb (zba T.zlm T.zki (za 1)) (zb (zgs zc) zc)) (by with_unfolding_all rfl))
      (zg (zdm PassesOwn.never rfl (zb8 (zep T.zlm T.zi8 zad (hr.mono (by decide)) T.ziu (za 1) (zb (za 2) zc))) (zdy rfl (zo (zj (i := 5) zdi.nd rfl (Or.inl rfl)) (zo (zj (i := 6) zdi.nd rfl (Or.inl rfl)) (zo (zj (i := 7) zdi.nd rfl (Or.inl rfl)) zch))))
      (zg (zbu (i := 8) zdi.nd rfl (Or.inl rfl) (z7 (zb (zw zeq (zw zd4 (za 5) (zt zn (hr.mono (by decide)) T.zay T.zav.kp T.zal (zb (za 0) (zb (zw zd4 (zw zpw zf (zba T.zai T.zbm (za 3))) zf) zc)))) (zba T.zai T.zbm (za 3))) (zb (zw zeq (zw zd4 (za 6) (zt zn (hr.mono (by decide)) T.zay T.zav.kp T.zal (zb (za 0) (zb (zw zd4 (zw zpw zf (zba T.zai T.zbm (za 3))) zf) zc)))) (zba T.zai T.zbm (za 3))) (zb (za 7) zc)))))
      (zh (zco (zq4 (zqq (zsx (zsg hr.units) (z02 hr.units) zf (zbd (ixd hr.units) (za 8) zf) (zba T.zai T.zfw (za 3))) (zqq (zsx (zsg hr.units) (z02 hr.units) zf (zbd (ixd hr.units) (za 8) zf) (zba T.zai T.zez (za 3))) (zrx (zaq (z3r hr.units) (zt zn (hr.mono (by decide)) T.zay T.zav.kp T.zal (zb (za 0) (zb zf zc))) zf (nomark _))))))
      (zh (zdp (zon PySem.F.plainAttrs_list PySem.F.slot_list_append PySem.F.type_list_append zei (za 4) (zb (za 8) zc))))
      zan))))
      (zg (zdm PassesOwn.never rfl (zhi T.zm8 (zb (zt zn (hr.mono (by decide)) T.zay T.zav.kp T.zal (zb (za 0) (zb (zw zd4 (zba T.zai T.ziz (za 3)) zf) zc))) zc)) (zj (i := 9) zdi.nd rfl (Or.inl rfl))
      (zh (zdp (zon PySem.F.plainAttrs_list PySem.F.slot_list_append PySem.F.type_list_append zei (za 4) (zb (zt zfe (hr.mono (by decide)) T.zwl T.zqj.kp T.zt4 (zb (za 0) (zb (zt zjy (hr.mono (by decide)) T.z17 T.zuc.kp T.z0g (zb (za 3) zc)) zc))) zc)))))
      (zg (zco (zq4 (zqq (zaq (zrh hr.units) (za 4) (zgp zc) (nomark _)) (zrx (zaq (ztw hr.units) (zt zn (hr.mono (by decide)) T.zay T.zav.kp T.zal (zb (za 0) (zb zf zc))) zf (nomark _)))))
      (zh (zdp (zon PySem.F.plainAttrs_list PySem.F.slot_list_append PySem.F.type_list_append zei (za 4) (zb (zbd (ixd hr.units) (za 4) zf) zc))))
      zan)
      (zg (zbu (i := 10) zdi.nd rfl (Or.inl rfl) (zt zn (hr.mono (by decide)) T.zay T.zav.kp T.zal (zb (za 0) (zb (zw zd4 (zr zh4 T.zmk zh5 (zb (za 4) zc)) zf) zc))))
      (zde 4 (zh (zak (zbx zkj T.zi9 zgt (zb (zw zd4 (zgi sld (za 4) (zh6 (za 10)) zh9) (zgi sld (za 4) zh9 (zh6 (za 10)))) zc))))))))))
theorem zvm (T : Txt P K mg) (zad : FnD P w K mg base 3 T.zbt T.zb9 ["self", "standing"] zap) (zfe : FnD P w K mg base 3 T.zff T.zha ["draw", "items"] zd7) (zjy : FnD P w K mg base 1 T.zfz T.zil ["camera"] zf5) (zn : FnD P w K mg base 2 T.zb7 T.zcz ["draw", "many"] zl) : FnD P w K mg base 4 T.zd9 T.zgn ["draw", "sky", "standing"] zej :=
  fn_d T.zp3 zdi zus (zw6 T zad zfe zjy zn) zuu
theorem zxd [Bs] (T : Txt P K mg) (zcx : FnD P w K mg base 2 T.zcy T.zd6 ["self", "ground", "camera", "turns", "area"] zb0) (cdv : Value) (A : Around) (outer : List Env) (s : Shared) (H : Hp) (E : XK) (hr : Room 3 (A.deeper (envOfC "_law_sky_at" (defScope zcl) s.heap.objs.size T.ze5 cdv))) :
    PSsD (cxOf CX0 P w K mg base zko "_law_sky_at" (defScope zcl) T.ze5 cdv A outer s H E).nox (defBody zcl) znz :=
  (zh (zak (zbs (znq T.zabl zcx (hr.mono (by decide)) T.zabp T.zow (zb (za 0) (zb (za 1) (zb (z7 (zb (zbd (ixd hr.units) (za 2) zf) zc)) (zb (z7 (zb (zbd (ixd hr.units) (za 2) zf) (zb (zbd (ixd hr.units) (za 2) zf) (zb (zbd (ixd hr.units) (za 2) zf) (zb (zbd (ixd hr.units) (za 2) zf) zc))))) zc))))))))
theorem zxx (T : Txt P K mg) (zcx : FnD P w K mg base 2 T.zcy T.zd6 ["self", "ground", "camera", "turns", "area"] zb0) : FnD P w K mg base 4 T.ze5 T.zhp ["ground", "camera", "standing"] zd3 :=
  fn_d T.znk zxk zvi (zxd T zcx) zwd
theorem zx3 [Bs] (T : Txt P K mg) (zac : FnD P w K mg base 3 T.za1 T.zbr ["self", "craters"] zag) (zn : FnD P w K mg base 2 T.zb7 T.zcz ["draw", "many"] zl) (cdv : Value) (A : Around) (outer : List Env) (s : Shared) (H : Hp) (E : XK) (hr : Room 4 (A.deeper (envOfC "_law_ground" (defScope zcg) s.heap.objs.size T.ze8 cdv))) :
    PSsD (cxOf CX0 P w K mg base zkp "_law_ground" (defScope zcg) T.ze8 cdv A outer s H E).nox (defBody zcg) zns :=
  (zg (zbu (i := 3) zjs.nd rfl (Or.inl rfl) (zgs zc))
      (zg (zdm PassesOwn.never rfl (zhi T.zm8 (zb (zt zn (hr.mono (by decide)) T.zay T.zav.kp T.zal (zb (za 0) (zb (zw zd4 (za 1) zf) zc))) zc)) (zj (i := 4) zjs.nd rfl (Or.inl rfl))
      (zg (zbu (i := 5) zjs.nd rfl (Or.inl rfl) (z7 (zb (zw zeq (zt zn (hr.mono (by decide)) T.zay T.zav.kp T.zal (zb (za 0) (zb (za 2) zc))) zf) (zb (zw zeq (zt zn (hr.mono (by decide)) T.zay T.zav.kp T.zal (zb (za 0) (zb (za 2) zc))) zf) (zb (zw zd4 zf (zt zn (hr.mono (by decide)) T.zay T.zav.kp T.zal (zb (za 0) (zb zf zc)))) zc)))))
      (zh (zco (zaq (zrm (have h := DL.Room.u65 hr; h)) (za 5) (za 3) (by with_unfolding_all rfl))
      (zh (zdp (zon PySem.F.plainAttrs_list PySem.F.slot_list_append PySem.F.type_list_append zei (za 3) (zb (za 5) zc))))
      zan))))
      (zde 3 (zh (zak (zbs (znq T.zsf zac (hr.mono (by decide)) T.zs9 T.zgv (zb (za 3) zc))))))))
theorem zxu (T : Txt P K mg) (zac : FnD P w K mg base 3 T.za1 T.zbr ["self", "craters"] zag) (zn : FnD P w K mg base 2 T.zb7 T.zcz ["draw", "many"] zl) : FnD P w K mg base 5 T.ze8 T.zhj ["draw", "most", "side"] zfh :=
  fn_d T.zr4 zjs zw4 (zx3 T zac zn) zwz
theorem z0a [Bs] (T : Txt P K mg) (zac : FnD P w K mg base 3 T.za1 T.zbr ["self", "craters"] zag) (zcs : FnX P w K mg base 4 T.za2 T.zed ["self", "sites", "camera", "looks"] zbf) (zi4 : FnD P w K mg base 4 T.zfd T.zhd ["draw"] zfi) (zku : FnD P w K mg base 4 T.zg7 T.zjp ["sky", "picture", "standing"] zgx) (ziy : FnD P w K mg base 5 T.ze8 T.zhj ["draw", "most", "side"] zfh) (zfe : FnD P w K mg base 3 T.zff T.zha ["draw", "items"] zd7) (zh2 : FnD P w K mg base 4 T.zd9 T.zgn ["draw", "sky", "standing"] zej) (zhm : FnD P w K mg base 4 T.ze5 T.zhp ["ground", "camera", "standing"] zd3) (zn : FnD P w K mg base 2 T.zb7 T.zcz ["draw", "many"] zl) (ziq : FnD P w K mg base 1 T.zfb T.zhf ["items"] zfk) (zbj : FnD P w K mg base 7 T.zcn T.zdf ["survey", "most"] zbq) (zg1 : FnX P w K mg base 7 T.zbl T.zfu ["survey", "most"] zdw) (zga : FnD P w K mg base 8 T.zc3 T.zew ["survey", "most"] zc9) (zju : FnD P w K mg base 8 T.zfy T.zii ["survey", "most"] zf6) (cdv : Value) (A : Around) (outer : List Env) (s : Shared) (H : Hp) (E : XK) (hr : Room 8 (A.deeper (envOfC "_law_asked" (defScope zbi) s.heap.objs.size T.zf0 cdv))) :
    PSsD (cxOf CX0 P w K mg base zfa "_law_asked" (defScope zbi) T.zf0 cdv A outer s H E).nox (defBody zbi) zo9 :=
  (zg (zj6 (z7 (zb (zt zi4 (hr.mono (by decide)) T.z0y T.zs6.kp T.zxt (zb (za 0) zc)) (zb (zbs (zbx z60 T.z7d z3m (zb (zt ziq (hr.mono (by decide)) T.zzn T.zs1.kp T.zxy (zb (zbs (zbx z60 T.z7d z3m (zb (zba T.zv7 T.zjo (zt ziy (hr.mono (by decide)) T.zzb T.zr4.kp T.zxi (zb (za 0) (zb zf (zb zf zc))))) zc))) zc)) zc))) zc))) (zdy rfl (zo (zj (i := 1) zm.nd rfl (Or.inr rfl)) (zo (zj (i := 2) zm.nd rfl (Or.inl rfl)) zch))))
      (zg (zrn (i := 3) (own := [("site", 10)]) rfl zm.nd rfl rfl (sw_true rfl rfl rfl (by decide +kernel)) (zb8 (za 2)) (blkOk_by (N := zfa) (sc := defScope zbi) (by decide +kernel)) (fun _ _ _ _ _ => (zj (i := 10) zm.nd rfl (Or.inl rfl))) (fun _ _ _ _ _ => (zkf (zaq (ztw hr.units) (zt zn (hr.mono (by decide)) T.zay T.zav.kp T.zal (zb (za 0) (zb zf zc))) zf (nomark _)))) (fun _ _ _ _ _ => (za 10)))
      (zde 3 (zg (zbu (i := 4) zm.nd rfl (Or.inl rfl) (zgs zc))
      (zg (zdm PassesOwn.never rfl (zhi T.zm8 (zb (zw zd4 zf (zt zn (hr.mono (by decide)) T.zay T.zav.kp T.zal (zb (za 0) (zb zf zc)))) zc)) (zj (i := 5) zm.nd rfl (Or.inl rfl))
      (zg (zbu (i := 6) zm.nd rfl (Or.inl rfl) (z7 (zb (zt zn (hr.mono (by decide)) T.zay T.zav.kp T.zal (zb (za 0) (zb zf zc))) (zb (zw zeq (zt zn (hr.mono (by decide)) T.zay T.zav.kp T.zal (zb (za 0) (zb zf zc))) zf) (zb (zw zeq (zt zn (hr.mono (by decide)) T.zay T.zav.kp T.zal (zb (za 0) (zb zf zc))) zf) zc)))))
      (zh (zdp (zon PySem.F.plainAttrs_list PySem.F.slot_list_append PySem.F.type_list_append zei (za 4) (zb (z7 (zb (za 6) (zb (zgi sld (zt zh2 (hr.mono (by decide)) T.zxp T.zp3.kp T.zw5 (zb (za 0) (zb (zt zhm (hr.mono (by decide)) T.zrk T.znk.kp T.zp1 (zb (zbs (znq T.zsf zac (hr.mono (by decide)) T.zs9 T.zgv (zb (za 3) zc))) (zb (za 1) (zb (za 6) zc)))) (zb (za 6) zc)))) zh9 (zh6 zf)) zc))) zc))))))
      (zde 4 (zg (zj6 (z7 (zb (zbs (zr8 T.zss zcs (hr.mono (by decide)) T.zrr T.zgu zr9 (zb (za 2) (zb (za 1) (zb (za 4) zc))))) (zb (zgs zc) zc))) (zdy rfl (zo (zj (i := 7) zm.nd rfl (Or.inl rfl)) (zo (zj (i := 8) zm.nd rfl (Or.inr rfl)) zch))))
      (zg (zbu (i := 9) zm.nd rfl (Or.inl rfl) (zgs (zb (z7 zc) zc)))
      (zg (zdm PassesOwn.never rfl (zb8 (zbs (zr (zsv hr.units) T.zi3 zg3 (zb (za 2) zc)))) (zj (i := 10) zm.nd rfl (Or.inr rfl))
      (zh (zz1 (i := 9) zm.nd rfl (Or.inl rfl) (zbs (zhy (own := [("row", 11)]) rfl zm.nd (zb8 (za 9)) (blkOk_by (N := zfa) (sc := defScope zbi) (by decide +kernel)) (fun _ _ _ _ _ => (zj (i := 11) zm.nd rfl (Or.inl rfl))) (fun _ _ _ _ _ => zem) (fun _ _ _ _ _ => (zw zd4 (za 11) (z7 (zb (za 10) zc)))))) zwe)))
      (zde 9 (zg (zdm PassesOwn.never rfl (zb8 (za 9)) (zj (i := 11) zm.nd rfl (Or.inl rfl))
      (zg (zbu (i := 12) zm.nd rfl (Or.inr rfl) (zbs (znq T.zsf zac (hr.mono (by decide)) T.zs9 T.zgv (zb (za 11) zc))))
      (zh (zco (zdo (zr (zue rfl) T.z06 zub (zb (zbs (zhy (own := [("standing", 6), ("picture", 18)]) rfl zm.nd (zb8 (za 4)) (blkOk_by (N := zfa) (sc := defScope zbi) (by decide +kernel)) (fun _ _ _ _ _ => (zdy rfl (zo (zj (i := 6) zm.nd rfl (Or.inl rfl)) (zo (zj (i := 18) zm.nd rfl (Or.inl rfl)) zch)))) (fun _ _ _ _ _ => zem) (fun _ _ _ _ _ => (zt zku (hr.mono (by decide)) T.z3d T.zvq.kp T.z2k (zb (zt zhm (hr.mono (by decide)) T.zrk T.znk.kp T.zp1 (zb (za 12) (zb (za 1) (zb (za 6) zc)))) (zb (za 18) (zb (za 6) zc))))))) zc)))
      (zh (zdp (zon PySem.F.plainAttrs_list PySem.F.slot_list_append PySem.F.type_list_append zei (za 8) (zb (za 11) zc))))
      zan))))
      (zde 8 (zg (zco (zaq (zrh hr.units) (zt zbj (hr.mono (by decide)) T.znt T.zkr.kp T.zmf (zb (za 7) (zb (zw z5v zf zf) zc))) (zbs (zr (zt0 hr.units) T.zi3 zg3 (zb (za 8) zc))) (nomark _))
      (zh (zak zh1))
      zan)
      (zg (zbu (i := 13) zm.nd rfl (Or.inl rfl) (z4c (zaq (zabt hr.units) (za 8) (zgp zc) (nomark _)) zwu (zbx zkj T.zi9 zgt (zb (zbs (zhy (own := [("site", 10)]) rfl zm.nd (zb8 (zbs (zr (zsv hr.units) T.zi3 zg3 (zb (za 2) zc)))) (blkOk_by (N := zfa) (sc := defScope zbi) (by decide +kernel)) (fun _ _ _ _ _ => (zj (i := 10) zm.nd rfl (Or.inr rfl))) (fun _ _ _ _ _ => (zkf (zdo (zr (zue rfl) T.z06 zub (zb (zbs (zhy (own := [("row", 11)]) rfl zm.nd (zb8 (za 8)) (blkOk_by (by kernel_rfl)) (fun _ _ _ _ _ => (zj (i := 11) zm.nd rfl (Or.inl rfl))) (fun _ _ _ _ _ => zem) (fun _ _ _ _ _ => (zm6 (z69 (have h := DL.Room.u65 hr; h)) (za 10) (za 11) (by with_unfolding_all rfl))))) zc))))) (fun _ _ _ _ _ => (za 10)))) zc))))
      (zg (zco (zaq (zrh hr.units) (zt zju (hr.mono (by decide)) T.z03 T.zt2.kp T.zzq (zb (za 7) (zb (zw z5v zf zf) zc))) (za 13) (nomark _))
      (zh (zak zh1))
      zan)
      (zg (zco (zaq (zrh hr.units) (zt zga (hr.mono (by decide)) T.zuq T.zof.kp T.ztt (zb (za 7) (zb (zw z5v zf zf) zc))) (zbx zkj T.zi9 zgt (zb (zbs (zhy (own := [("site", 10)]) rfl zm.nd (zb8 (zbs (zr (zsv hr.units) T.zi3 zg3 (zb (za 2) zc)))) (blkOk_by (N := zfa) (sc := defScope zbi) (by decide +kernel)) (fun _ _ _ _ _ => (zj (i := 10) zm.nd rfl (Or.inr rfl))) (fun _ _ _ _ _ => (zkf (zdo (zr (zabe rfl) T.zafb zabr (zb (zbs (zhy (own := [("row", 11)]) rfl zm.nd (zb8 (za 8)) (blkOk_by (by kernel_rfl)) (fun _ _ _ _ _ => (zj (i := 11) zm.nd rfl (Or.inl rfl))) (fun _ _ _ _ _ => zem) (fun _ _ _ _ _ => (zm6 (z69 (have h := DL.Room.u65 hr; h)) (za 10) (za 11) (by with_unfolding_all rfl))))) zc))))) (fun _ _ _ _ _ => (za 10)))) zc)) (nomark _))
      (zh (zak zh1))
      zan)
      (zg (zuz (C := CA.BadGround) (oth := []) (i := 14) rfl rfl zm.nd rfl rfl T.zt3 T.z1n (fun _ hC => nomatch hC) zr9 (fun U1 pn1 xe1 tk1 po1 => (zg (zdp (zbs (zr8 T.zss zcs (hr.mono (by decide)) T.zrr T.zgu tk1 (zb (zw zd4 (zw zd4 (za 2) (zgi sld (za 2) zh9 (zh6 zf))) (zgp (zb (z7 (zb zf (zb zf zc))) zc))) (zb (za 1) (zb (za 4) zc))))))
      (zh (zak zh1))))
      (fun a1 oe1 cls1 d1 pn1 x1 hz1 hv1 xr1 hb1 => (zh (zco (zaq (zrh hr.units) (z5s T.z09 T.zia hz1 hv1 xr1 hb1 (za 14)) (zr zh4 T.zmk zh5 (zb (za 2) zc)) (nomark _))
      (zh (zak zh1))
      zan))))
      (zza (zg (zuz (C := CA.BadStanding) (oth := []) (i := 14) rfl rfl zm.nd rfl rfl T.zl7 T.zx2 (fun _ hC => nomatch hC) zr9 (fun U2 pn2 xe2 tk2 po2 => (zg (zdp (zbs (zr8 T.zss zcs (hr.mono (by decide)) T.zrr T.zgu tk2 (zb (za 2) (zb (za 1) (zb (zw zd4 (za 4) (zgp (zb (z7 (zb (z7 (zb zf (zb zf (zb zf zc)))) (zb (z7 zc) zc))) zc))) zc))))))
      (zh (zak zh1))))
      (fun a2 oe2 cls2 d2 pn2 x2 hz2 hv2 xr2 hb2 => (zh (zco (zaq (zrh hr.units) (z5s T.zxm T.zf9 hz2 hv2 xr2 hb2 (za 14)) (z7 (zb zf (zb zf (zb zf zc)))) (nomark _))
      (zh (zak zh1))
      zan))))
      (zza (zg (zvk (i := 15) (j := 6) rfl zm.nd rfl rfl (by decide) rfl rfl (zb (zt zn (hr.mono (by decide)) T.zay T.zav.kp T.zal (zb (za 0) (zb (zw zd4 (zr zh4 T.zmk zh5 (zb (za 4) zc)) zf) zc))) (zb (z7 (zb zf (zb zf (zb zf zc)))) zc)) (by with_unfolding_all rfl))
      (zg (zbu (i := 16) zm.nd rfl (Or.inl rfl) (zw zd4 (zbd (ixd hr.units) (zbd (ixd hr.units) (za 4) zf) zf) (z7 (zb (zt zfe (hr.mono (by decide)) T.zwl T.zqj.kp T.zt4 (zb (za 0) (zb (zgp (zb (z7 (zb (zba T.zai T.zfw (za 1)) (zb zf (zb zf zc)))) (zb (z7 (zb zf (zb (zba T.zai T.zez (za 1)) (zb zf zc)))) (zb (z7 (zb zf (zb (zab4 zf) (zb zf zc)))) (zb (z7 (zb zf (zb zf (zb zf zc)))) (zb (z7 (zb zf (zb zf (zb zf zc)))) (zb (z7 (zb zf (zb zf zc))) (zb (zgp (zb zf (zb zf (zb zf zc)))) zc)))))))) zc))) zc))))
      (zg (zuz (C := CA.BadPicture) (oth := []) (i := 14) rfl rfl zm.nd rfl rfl T.zng T.z0d (fun _ hC => nomatch hC) zr9 (fun U3 pn3 xe3 tk3 po3 => (zg (zdp (zbs (zr8 T.zss zcs (hr.mono (by decide)) T.zrr T.zgu tk3 (zb (za 2) (zb (za 1) (zb (zw zd4 (zw zd4 (zw zd4 (zgi sld (za 4) zh9 (zh6 (za 15))) (zgp (zb (z7 (zb (za 6) (zb (za 16) zc))) zc))) (zgi sld (za 4) (zh6 (za 15)) zh9)) (zgp (zb (z7 (zb (z7 (zb zf (zb zf (zb zf zc)))) (zb (z7 zc) zc))) zc))) zc))))))
      (zh (zak zh1))))
      (fun a3 oe3 cls3 d3 pn3 x3 hz3 hv3 xr3 hb3 => (zh (zco (zaq (zrh hr.units) (z5s T.zy9 T.zht hz3 hv3 xr3 hb3 (za 14)) (zw zeq (zr zh4 T.zmk zh5 (zb (za 16) zc)) zf) (nomark _))
      (zh (zak zh1))
      zan))))
      (zza (zg (zuz (C := CA.TooMany) (oth := []) (i := 17) rfl rfl zm.nd rfl rfl T.zy0 T.z56 (fun _ hC => nomatch hC) zr9 (fun U4 pn4 xe4 tk4 po4 => (zh (zdp (z7c zg1 (hr.mono (by decide)) T.zwg T.zo2.kp T.zut tk4 (zb (za 7) (zb zf zc))))))
      (fun a4 oe4 cls4 d4 pn4 x4 hz4 hv4 xr4 hb4 => (zh (zak (zm6 (ztw hr.units) (z5s T.z6i T.zky hz4 hv4 xr4 hb4 (za 17)) zf (nomark _))))))
      (zh (zak zh1)))))))))))))))))))))))))))
theorem zzj (T : Txt P K mg) (zac : FnD P w K mg base 3 T.za1 T.zbr ["self", "craters"] zag) (zcs : FnX P w K mg base 4 T.za2 T.zed ["self", "sites", "camera", "looks"] zbf) (zi4 : FnD P w K mg base 4 T.zfd T.zhd ["draw"] zfi) (zku : FnD P w K mg base 4 T.zg7 T.zjp ["sky", "picture", "standing"] zgx) (ziy : FnD P w K mg base 5 T.ze8 T.zhj ["draw", "most", "side"] zfh) (zfe : FnD P w K mg base 3 T.zff T.zha ["draw", "items"] zd7) (zh2 : FnD P w K mg base 4 T.zd9 T.zgn ["draw", "sky", "standing"] zej) (zhm : FnD P w K mg base 4 T.ze5 T.zhp ["ground", "camera", "standing"] zd3) (zn : FnD P w K mg base 2 T.zb7 T.zcz ["draw", "many"] zl) (ziq : FnD P w K mg base 1 T.zfb T.zhf ["items"] zfk) (zbj : FnD P w K mg base 7 T.zcn T.zdf ["survey", "most"] zbq) (zg1 : FnX P w K mg base 7 T.zbl T.zfu ["survey", "most"] zdw) (zga : FnD P w K mg base 8 T.zc3 T.zew ["survey", "most"] zc9) (zju : FnD P w K mg base 8 T.zfy T.zii ["survey", "most"] zf6) : FnD P w K mg base 9 T.zf0 T.zih ["draw"] zf4 :=
  fn_d T.zua zm zxs (z0a T zac zcs zi4 zku ziy zfe zh2 zhm zn ziq zbj zg1 zga zju) zxq
theorem zaew [Bs] (T : Txt P K mg) (zjt : FnD P w K mg base 9 T.zf0 T.zih ["draw"] zf4) (cdv : Value) (A : Around) (outer : List Env) (s : Shared) (H : Hp) (E : XK) (hr : Room 9 (A.deeper (envOfC "law" (defScope zpm) s.heap.objs.size T.z6m cdv))) :
    PSsD (cxOf CX0 P w K mg base z7n "law" (defScope zpm) T.z6m cdv A outer s H E).nox (defBody zpm) zaby :=
  (zg (zbu (i := 1) z4m.nd rfl (Or.inr rfl) (zgs (zb (za 0) (zb zf zc))))
      (zh (zak (zr (zue rfl) T.z06 zub (zb (zbs (zhy (own := [("turn", 2)]) rfl z4m.nd (zhi T.zm8 (zb zf zc)) (blkOk_by (N := z7n) (sc := defScope zpm) (by decide +kernel)) (fun _ _ _ _ _ => (zj (i := 2) z4m.nd rfl (Or.inl rfl))) (fun _ _ _ _ _ => zem) (fun _ _ _ _ _ => (zacq (zt zjt (hr.mono (by decide)) T.z13 T.zua.kp T.zz2 (zb (za 1) zc)))))) zc)))))
theorem zaei (T : Txt P K mg) (zjt : FnD P w K mg base 9 T.zf0 T.zih ["draw"] zf4) : FnD P w K mg base 10 T.z6m T.z97 ["script"] sp_law :=
  fn_d T.zaf1 z4m zab2 (zaew T zjt) zab9
end
section
variable {P : Program} {w : World} {K : PySem.W.Frag} {mg : Str → Option Value} {base : Heap}
theorem zafq (T : Txt P K mg) : FnD P w K mg base 10 T.z6m T.z97 ["script"] sp_law := by
  have za9 : FnD P w K mg base 1 T.zdr T.zex ["thing", "low", "high"] zbe := z3l T
  have zdc : FnD P w K mg base 2 T.zes T.zgj ["thing", "low", "high"] zc8 := z34 T za9
  have zac : FnD P w K mg base 3 T.za1 T.zbr ["self", "craters"] zag := zst T zdc
  have zfo : FnD P w K mg base 2 T.zcr T.zeb ["self", "width", "height", "error", "false", "lost"] zc0 := zso T za9
  have zcx : FnD P w K mg base 2 T.zcy T.zd6 ["self", "ground", "camera", "turns", "area"] zb0 := zwf T za9
  have zbg : FnD P w K mg base 1 T.zbh T.zca ["self", "x", "y", "more"] za5 := zqf T
  have zc6 : FnX P w K mg base 3 T.z8 T.zcd ["self", "picture"] zbk := znx T zbg zdc
  have zcs : FnX P w K mg base 4 T.za2 T.zed ["self", "sites", "camera", "looks"] zbf := zs8 T zc6 zdc za9
  have zi5 : FnD P w K mg base 1 T.ze2 T.zho ["script", "index"] zfg := zye T
  have zn : FnD P w K mg base 2 T.zb7 T.zcz ["draw", "many"] zl := z1o T zi5
  have zi4 : FnD P w K mg base 4 T.zfd T.zhd ["draw"] zfi := zx8 T zfo zn
  have zsn : FnD P w K mg base 1 T.zl0 T.zpf ["x", "y", "turn"] zk7 := z9a T
  have zlb : FnD P w K mg base 2 T.zg4 T.zjl ["self", "crater", "standing"] zhc := z1u T zsn
  have zad : FnD P w K mg base 3 T.zbt T.zb9 ["self", "standing"] zap := z0q T zlb
  have zm1 : FnD P w K mg base 1 T.zig T.zkt ["point", "place", "error"] zid := z3y T
  have za8 : FnD P w K mg base 2 T.za7 T.zby ["self", "point", "places"] zax := zpr T zm1
  have zd2 : FnD P w K mg base 5 T.zd5 T.zf1 ["self", "craters", "standing"] zdg := z0n T zac zcx
  have zvw : FnD P w K mg base 1 T.zo7 T.ztc ["comers", "last", "pairs"] znw := zaac T
  have zlc : FnD P w K mg base 2 T.zg6 T.zjm ["nexts", "one", "pairs"] zgz := z2d T zvw
  have zgo : FnD P w K mg base 3 T.zgl T.zim ["nexts"] zfj := z35 T zlc
  have zae : FnD P w K mg base 6 T.zaf T.zaw ["self", "craters"] zab := zl6 T zad za8 zd2 zgo
  have zhv : FnD P w K mg base 1 T.zd8 T.zgm ["nexts", "many"] zeg := zv8 T
  have zgh : FnD P w K mg base 2 T.zc4 T.zev ["self", "x", "y"] zda := zto T zbg
  have ze3 : FnD P w K mg base 4 T.zcc T.zdq ["self", "standing"] zcp := zqh T zgh zad
  have z9 : FnD P w K mg base 6 T.zaa T.zar ["self", "craters"] z4 := zls T zad ze3 za8 zd2 zgo zhv
  have zbj : FnD P w K mg base 7 T.zcn T.zdf ["survey", "most"] zbq := zx5 T z9 zae
  have zg1 : FnX P w K mg base 7 T.zbl T.zfu ["survey", "most"] zdw := zug T z9 zae
  have zju : FnD P w K mg base 8 T.zfy T.zii ["survey", "most"] zf6 := z0j T zbj
  have zga : FnD P w K mg base 8 T.zc3 T.zew ["survey", "most"] zc9 := zte T zbj
  have ziq : FnD P w K mg base 1 T.zfb T.zhf ["items"] zfk := zyb T
  have zfe : FnD P w K mg base 3 T.zff T.zha ["draw", "items"] zd7 := z1r T zn
  have zi6 : FnD P w K mg base 1 T.ze4 T.zhg ["points", "places", "error"] zfm := zxf T
  have zku : FnD P w K mg base 4 T.zg7 T.zjp ["sky", "picture", "standing"] zgx := z1q T zad zi6
  have zjy : FnD P w K mg base 1 T.zfz T.zil ["camera"] zf5 := zz0 T
  have zh2 : FnD P w K mg base 4 T.zd9 T.zgn ["draw", "sky", "standing"] zej := zvm T zad zfe zjy zn
  have zhm : FnD P w K mg base 4 T.ze5 T.zhp ["ground", "camera", "standing"] zd3 := zxx T zcx
  have ziy : FnD P w K mg base 5 T.ze8 T.zhj ["draw", "most", "side"] zfh := zxu T zac zn
  have zjt : FnD P w K mg base 9 T.zf0 T.zih ["draw"] zf4 := zzj T zac zcs zi4 zku ziy zfe zh2 zhm zn ziq zbj zg1 zga zju
  exact zaei T zjt
end
omit [CA] in
theorem zad0 {l : PySem.W.OpenLaw} {w : World} {K : PySem.W.Frag} {h : Heap} {mg : Str → Option Value} {fa f0 f1 f2 f3 f4 f5 f6 f7 f8 f9 f10 f11 f12 f13 f14 f15 f16 f17 f18 f19 f20 f21 f22 f23 f24 f25 f26 f27 f28 f29 f30 f31 f32 f33 f34 f35 f36 f37 f38 c_BadGround c_BadPicture c_BadStanding c_Ground c_Camera c_Sky c_TooMany c_Survey : Addr} (X : K.In h) (G : h.Ns mainGlobals mg) (hfa : mg "law" = some (.ref fa))
    {fx_BadPicture cda_BadPicture cc_BadPicture fx_BadGround cda_BadGround cc_BadGround fx_BadStanding cda_BadStanding cc_BadStanding fx_TooMany cda_TooMany cc_TooMany : Addr} {ox_BadPicture kx_BadPicture dx_BadPicture px_BadPicture ctx_BadPicture ccl_BadPicture cl_BadPicture ox_BadGround kx_BadGround dx_BadGround px_BadGround ctx_BadGround ccl_BadGround cl_BadGround ox_BadStanding kx_BadStanding dx_BadStanding px_BadStanding ctx_BadStanding ccl_BadStanding cl_BadStanding ox_TooMany kx_TooMany dx_TooMany px_TooMany ctx_TooMany ccl_TooMany cl_TooMany : Value} {odx_BadPicture anx_BadPicture cdd_BadPicture cld_BadPicture odx_BadGround anx_BadGround cdd_BadGround cld_BadGround odx_BadStanding anx_BadStanding cdd_BadStanding cld_BadStanding odx_TooMany anx_TooMany cdd_TooMany cld_TooMany : Option Addr} {slx_BadPicture ccs_BadPicture csl_BadPicture slx_BadGround ccs_BadGround csl_BadGround slx_BadStanding ccs_BadStanding csl_BadStanding slx_TooMany ccs_TooMany csl_TooMany : Array (Option Value)} {vs_BadPicture vs_BadGround vs_BadStanding vs_TooMany : Array Value} {file_BadPicture file_BadGround file_BadStanding file_TooMany : Str} {tf_BadPicture tf_BadGround tf_BadStanding tf_TooMany : Tok}
    {od0 od1 od2 od3 od4 od5 od6 od7 od8 od9 od10 od11 od12 od13 od14 od15 od16 od17 od18 od19 od20 od21 od22 od23 od24 od25 od26 od27 od28 od29 od30 od31 od32 od33 od34 od35 od36 od37 od38 an0 an1 an2 an3 an4 an5 an6 an7 an8 an9 an10 an11 an12 an13 an14 an15 an16 an17 an18 an19 an20 an21 an22 an23 an24 an25 an26 an27 an28 an29 an30 an31 an32 an33 an34 an35 an36 an37 an38 : Option Addr} {sl0 sl1 sl2 sl3 sl4 sl5 sl6 sl7 sl8 sl9 sl10 sl11 sl12 sl13 sl14 sl15 sl16 sl17 sl18 sl19 sl20 sl21 sl22 sl23 sl24 sl25 sl26 sl27 sl28 sl29 sl30 sl31 sl32 sl33 sl34 sl35 sl36 sl37 sl38 : Array (Option Value)} {oc0 oc1 oc2 oc3 oc4 oc5 oc6 oc7 oc8 oc9 oc10 oc11 oc12 oc13 oc14 oc15 oc16 oc17 oc18 oc19 oc20 oc21 oc22 oc23 oc24 oc25 oc26 oc27 oc28 oc29 oc30 oc31 oc32 oc33 oc34 oc35 oc36 oc37 oc38 kV0 kV1 kV2 kV3 kV4 kV5 kV6 kV7 kV8 kV9 kV10 kV11 kV12 kV13 kV14 kV15 kV16 kV17 kV18 kV19 kV20 kV21 kV22 kV23 kV24 kV25 kV26 kV27 kV28 kV29 kV30 kV31 kV32 kV33 kV34 kV35 kV36 kV37 kV38 dc0 dc1 dc2 dc3 dc4 dc5 dc6 dc7 dc8 dc9 dc10 dc11 dc12 dc13 dc14 dc15 dc16 dc17 dc18 dc19 dc20 dc21 dc22 dc23 dc24 dc25 dc26 dc27 dc28 dc29 dc30 dc31 dc32 dc33 dc34 dc35 dc36 dc37 dc38 pm0 pm1 pm2 pm3 pm4 pm5 pm6 pm7 pm8 pm9 pm10 pm11 pm12 pm13 pm14 pm15 pm16 pm17 pm18 pm19 pm20 pm21 pm22 pm23 pm24 pm25 pm26 pm27 pm28 pm29 pm30 pm31 pm32 pm33 pm34 pm35 pm36 pm37 pm38 cd0 cd1 cd2 cd3 cd4 cd5 cd6 cd7 cd8 cd9 cd10 cd11 cd12 cd13 cd14 cd15 cd16 cd17 cd18 cd19 cd20 cd21 cd22 cd23 cd24 cd25 cd26 cd27 cd28 cd29 cd30 cd31 cd32 cd33 cd34 cd35 cd36 cd37 cd38 ct0 ct1 ct2 ct3 ct4 ct5 ct6 ct7 ct8 ct9 ct10 ct11 ct12 ct13 ct14 ct15 ct16 ct17 ct18 ct19 ct20 ct21 ct22 ct23 ct24 ct25 ct26 ct27 ct28 ct29 ct30 ct31 ct32 ct33 ct34 ct35 ct36 ct37 ct38 : Value}
    (e_BadGround : PySem.W.nsIn K mainGlobals "BadGround" = some (some (.ref c_BadGround)))
    (e_BadPicture : PySem.W.nsIn K mainGlobals "BadPicture" = some (some (.ref c_BadPicture)))
    (e_BadStanding : PySem.W.nsIn K mainGlobals "BadStanding" = some (some (.ref c_BadStanding)))
    (e_Ground : PySem.W.nsIn K mainGlobals "Ground" = some (some (.ref c_Ground)))
    (e_Camera : PySem.W.nsIn K mainGlobals "Camera" = some (some (.ref c_Camera)))
    (e_Sky : PySem.W.nsIn K mainGlobals "Sky" = some (some (.ref c_Sky)))
    (e_TooMany : PySem.W.nsIn K mainGlobals "TooMany" = some (some (.ref c_TooMany)))
    (e_Survey : PySem.W.nsIn K mainGlobals "Survey" = some (some (.ref c_Survey)))
    (a0 : PySem.W.nsIn K mainGlobals "is_whole" = some (some (.ref f0)))
    (l0 : K.lookup f0 = some ⟨oc0, od0, .func (PySem.W.fnOf "is_whole" "is_whole" (defArgs zet) (defBody zet) (defScope zet) .none kV0 dc0 pm0 an0 cd0 ct0), sl0⟩)
    (c0 : PySem.W.codeIn K cd0 "is_whole" = true)
    (k0 : PySem.W.keepIn K (.ref f0) = true)
    (a1 : PySem.W.nsIn K mainGlobals "is_point" = some (some (.ref f1)))
    (l1 : K.lookup f1 = some ⟨oc1, od1, .func (PySem.W.fnOf "is_point" "is_point" (defArgs zey) (defBody zey) (defScope zey) .none kV1 dc1 pm1 an1 cd1 ct1), sl1⟩)
    (c1 : PySem.W.codeIn K cd1 "is_point" = true)
    (k1 : PySem.W.keepIn K (.ref f1) = true)
    (a2 : PySem.W.findIn K (.ref c_Ground) "__init__" = some (some (.ref f2)))
    (i2 : PySem.W.isFn K (.ref f2) = true)
    (l2 : K.lookup f2 = some ⟨oc2, od2, .func (PySem.W.fnOf "__init__" "Ground.__init__" (defArgs za0) (defBody za0) (defScope za0) .none kV2 dc2 pm2 an2 cd2 ct2), sl2⟩)
    (c2 : PySem.W.codeIn K cd2 "Ground.__init__" = true)
    (k2 : PySem.W.keepIn K (.ref f2) = true)
    (a3 : PySem.W.findIn K (.ref c_Camera) "__init__" = some (some (.ref f3)))
    (i3 : PySem.W.isFn K (.ref f3) = true)
    (l3 : K.lookup f3 = some ⟨oc3, od3, .func (PySem.W.fnOf "__init__" "Camera.__init__" (defArgs za3) (defBody za3) (defScope za3) .none kV3 dc3 pm3 an3 cd3 ct3), sl3⟩)
    (c3 : PySem.W.codeIn K cd3 "Camera.__init__" = true)
    (k3 : PySem.W.keepIn K (.ref f3) = true)
    (a4 : PySem.W.findIn K (.ref c_Sky) "__init__" = some (some (.ref f4)))
    (i4 : PySem.W.isFn K (.ref f4) = true)
    (l4 : K.lookup f4 = some ⟨oc4, od4, .func (PySem.W.fnOf "__init__" "Sky.__init__" (defArgs za6) (defBody za6) (defScope za6) .none kV4 dc4 pm4 an4 cd4 ct4), sl4⟩)
    (c4 : PySem.W.codeIn K cd4 "Sky.__init__" = true)
    (k4 : PySem.W.keepIn K (.ref f4) = true)
    (a5 : PySem.W.findIn K (.ref c_Camera) "is_within" = some (some (.ref f5)))
    (i5 : PySem.W.isFn K (.ref f5) = true)
    (l5 : K.lookup f5 = some ⟨oc5, od5, .func (PySem.W.fnOf "is_within" "Camera.is_within" (defArgs zat) (defBody zat) (defScope zat) .none kV5 dc5 pm5 an5 cd5 ct5), sl5⟩)
    (c5 : PySem.W.codeIn K cd5 "Camera.is_within" = true)
    (k5 : PySem.W.keepIn K (.ref f5) = true)
    (a6 : PySem.W.findIn K (.ref c_Camera) "check_picture" = some (some (.ref f6)))
    (i6 : PySem.W.isFn K (.ref f6) = true)
    (l6 : K.lookup f6 = some ⟨oc6, od6, .func (PySem.W.fnOf "check_picture" "Camera.check_picture" (defArgs zq) (defBody zq) (defScope zq) .none kV6 dc6 pm6 an6 cd6 ct6), sl6⟩)
    (c6 : PySem.W.codeIn K cd6 "Camera.check_picture" = true)
    (k6 : PySem.W.keepIn K (.ref f6) = true)
    (a7 : PySem.W.findIn K (.ref c_Survey) "__init__" = some (some (.ref f7)))
    (i7 : PySem.W.isFn K (.ref f7) = true)
    (l7 : K.lookup f7 = some ⟨oc7, od7, .func (PySem.W.fnOf "__init__" "Survey.__init__" (defArgs z6) (defBody z6) (defScope z6) .none kV7 dc7 pm7 an7 cd7 ct7), sl7⟩)
    (c7 : PySem.W.codeIn K cd7 "Survey.__init__" = true)
    (k7 : PySem.W.keepIn K (.ref f7) = true)
    (a8 : PySem.W.nsIn K mainGlobals "_law_number" = some (some (.ref f8)))
    (l8 : K.lookup f8 = some ⟨oc8, od8, .func (PySem.W.fnOf "_law_number" "_law_number" (defArgs zci) (defBody zci) (defScope zci) .none kV8 dc8 pm8 an8 cd8 ct8), sl8⟩)
    (c8 : PySem.W.codeIn K cd8 "_law_number" = true)
    (k8 : PySem.W.keepIn K (.ref f8) = true)
    (a9 : PySem.W.nsIn K mainGlobals "_law_take" = some (some (.ref f9)))
    (l9 : K.lookup f9 = some ⟨oc9, od9, .func (PySem.W.fnOf "_law_take" "_law_take" (defArgs zdv) (defBody zdv) (defScope zdv) .none kV9 dc9 pm9 an9 cd9 ct9), sl9⟩)
    (c9 : PySem.W.codeIn K cd9 "_law_take" = true)
    (k9 : PySem.W.keepIn K (.ref f9) = true)
    (a10 : PySem.W.nsIn K mainGlobals "_law_camera" = some (some (.ref f10)))
    (l10 : K.lookup f10 = some ⟨oc10, od10, .func (PySem.W.fnOf "_law_camera" "_law_camera" (defArgs zck) (defBody zck) (defScope zck) .none kV10 dc10 pm10 an10 cd10 ct10), sl10⟩)
    (c10 : PySem.W.codeIn K cd10 "_law_camera" = true)
    (k10 : PySem.W.keepIn K (.ref f10) = true)
    (a11 : PySem.W.nsIn K mainGlobals "turned" = some (some (.ref f11)))
    (l11 : K.lookup f11 = some ⟨oc11, od11, .func (PySem.W.fnOf "turned" "turned" (defArgs zh7) (defBody zh7) (defScope zh7) .none kV11 dc11 pm11 an11 cd11 ct11), sl11⟩)
    (c11 : PySem.W.codeIn K cd11 "turned" = true)
    (k11 : PySem.W.keepIn K (.ref f11) = true)
    (a12 : PySem.W.findIn K (.ref c_Sky) "place" = some (some (.ref f12)))
    (i12 : PySem.W.isFn K (.ref f12) = true)
    (l12 : K.lookup f12 = some ⟨oc12, od12, .func (PySem.W.fnOf "place" "Sky.place" (defArgs zdx) (defBody zdx) (defScope zdx) .none kV12 dc12 pm12 an12 cd12 ct12), sl12⟩)
    (c12 : PySem.W.codeIn K cd12 "Sky.place" = true)
    (k12 : PySem.W.keepIn K (.ref f12) = true)
    (a13 : PySem.W.findIn K (.ref c_Sky) "places" = some (some (.ref f13)))
    (i13 : PySem.W.isFn K (.ref f13) = true)
    (l13 : K.lookup f13 = some ⟨oc13, od13, .func (PySem.W.fnOf "places" "Sky.places" (defArgs zcv) (defBody zcv) (defScope zcv) .none kV13 dc13 pm13 an13 cd13 ct13), sl13⟩)
    (c13 : PySem.W.codeIn K cd13 "Sky.places" = true)
    (k13 : PySem.W.keepIn K (.ref f13) = true)
    (a14 : PySem.W.nsIn K mainGlobals "are_near" = some (some (.ref f14)))
    (l14 : K.lookup f14 = some ⟨oc14, od14, .func (PySem.W.fnOf "are_near" "are_near" (defArgs zeu) (defBody zeu) (defScope zeu) .none kV14 dc14 pm14 an14 cd14 ct14), sl14⟩)
    (c14 : PySem.W.codeIn K cd14 "are_near" = true)
    (k14 : PySem.W.keepIn K (.ref f14) = true)
    (a15 : PySem.W.findIn K (.ref c_Survey) "places_for" = some (some (.ref f15)))
    (i15 : PySem.W.isFn K (.ref f15) = true)
    (l15 : K.lookup f15 = some ⟨oc15, od15, .func (PySem.W.fnOf "places_for" "Survey.places_for" (defArgs zah) (defBody zah) (defScope zah) .none kV15 dc15 pm15 an15 cd15 ct15), sl15⟩)
    (c15 : PySem.W.codeIn K cd15 "Survey.places_for" = true)
    (k15 : PySem.W.keepIn K (.ref f15) = true)
    (a16 : PySem.W.findIn K (.ref c_Survey) "sky" = some (some (.ref f16)))
    (i16 : PySem.W.isFn K (.ref f16) = true)
    (l16 : K.lookup f16 = some ⟨oc16, od16, .func (PySem.W.fnOf "sky" "Survey.sky" (defArgs zc2) (defBody zc2) (defScope zc2) .none kV16 dc16 pm16 an16 cd16 ct16), sl16⟩)
    (c16 : PySem.W.codeIn K cd16 "Survey.sky" = true)
    (k16 : PySem.W.keepIn K (.ref f16) = true)
    (a17 : PySem.W.nsIn K mainGlobals "along" = some (some (.ref f17)))
    (l17 : K.lookup f17 = some ⟨oc17, od17, .func (PySem.W.fnOf "along" "along" (defArgs zjj) (defBody zjj) (defScope zjj) .none kV17 dc17 pm17 an17 cd17 ct17), sl17⟩)
    (c17 : PySem.W.codeIn K cd17 "along" = true)
    (k17 : PySem.W.keepIn K (.ref f17) = true)
    (a18 : PySem.W.nsIn K mainGlobals "augmented" = some (some (.ref f18)))
    (l18 : K.lookup f18 = some ⟨oc18, od18, .func (PySem.W.fnOf "augmented" "augmented" (defArgs zdt) (defBody zdt) (defScope zdt) .none kV18 dc18 pm18 an18 cd18 ct18), sl18⟩)
    (c18 : PySem.W.codeIn K cd18 "augmented" = true)
    (k18 : PySem.W.keepIn K (.ref f18) = true)
    (a19 : PySem.W.nsIn K mainGlobals "greatest" = some (some (.ref f19)))
    (l19 : K.lookup f19 = some ⟨oc19, od19, .func (PySem.W.fnOf "greatest" "greatest" (defArgs zec) (defBody zec) (defScope zec) .none kV19 dc19 pm19 an19 cd19 ct19), sl19⟩)
    (c19 : PySem.W.codeIn K cd19 "greatest" = true)
    (k19 : PySem.W.keepIn K (.ref f19) = true)
    (a20 : PySem.W.findIn K (.ref c_Survey) "are_points_told" = some (some (.ref f20)))
    (i20 : PySem.W.isFn K (.ref f20) = true)
    (l20 : K.lookup f20 = some ⟨oc20, od20, .func (PySem.W.fnOf "are_points_told" "Survey.are_points_told" (defArgs zu) (defBody zu) (defScope zu) .none kV20 dc20 pm20 an20 cd20 ct20), sl20⟩)
    (c20 : PySem.W.codeIn K cd20 "Survey.are_points_told" = true)
    (k20 : PySem.W.keepIn K (.ref f20) = true)
    (a21 : PySem.W.nsIn K mainGlobals "turned_round" = some (some (.ref f21)))
    (l21 : K.lookup f21 = some ⟨oc21, od21, .func (PySem.W.fnOf "turned_round" "turned_round" (defArgs zbn) (defBody zbn) (defScope zbn) .none kV21 dc21 pm21 an21 cd21 ct21), sl21⟩)
    (c21 : PySem.W.codeIn K cd21 "turned_round" = true)
    (k21 : PySem.W.keepIn K (.ref f21) = true)
    (a22 : PySem.W.findIn K (.ref c_Camera) "is_sure" = some (some (.ref f22)))
    (i22 : PySem.W.isFn K (.ref f22) = true)
    (l22 : K.lookup f22 = some ⟨oc22, od22, .func (PySem.W.fnOf "is_sure" "Camera.is_sure" (defArgs zbc) (defBody zbc) (defScope zbc) .none kV22 dc22 pm22 an22 cd22 ct22), sl22⟩)
    (c22 : PySem.W.codeIn K cd22 "Camera.is_sure" = true)
    (k22 : PySem.W.keepIn K (.ref f22) = true)
    (a23 : PySem.W.findIn K (.ref c_Sky) "sure_craters" = some (some (.ref f23)))
    (i23 : PySem.W.isFn K (.ref f23) = true)
    (l23 : K.lookup f23 = some ⟨oc23, od23, .func (PySem.W.fnOf "sure_craters" "Sky.sure_craters" (defArgs zaj) (defBody zaj) (defScope zaj) .none kV23 dc23 pm23 an23 cd23 ct23), sl23⟩)
    (c23 : PySem.W.codeIn K cd23 "Sky.sure_craters" = true)
    (k23 : PySem.W.keepIn K (.ref f23) = true)
    (a24 : PySem.W.findIn K (.ref c_Survey) "are_craters_seen" = some (some (.ref f24)))
    (i24 : PySem.W.isFn K (.ref f24) = true)
    (l24 : K.lookup f24 = some ⟨oc24, od24, .func (PySem.W.fnOf "are_craters_seen" "Survey.are_craters_seen" (defArgs zp) (defBody zp) (defScope zp) .none kV24 dc24 pm24 an24 cd24 ct24), sl24⟩)
    (c24 : PySem.W.codeIn K cd24 "Survey.are_craters_seen" = true)
    (k24 : PySem.W.keepIn K (.ref f24) = true)
    (a25 : PySem.W.nsIn K mainGlobals "grounds_for" = some (some (.ref f25)))
    (l25 : K.lookup f25 = some ⟨oc25, od25, .func (PySem.W.fnOf "grounds_for" "grounds_for" (defArgs zcj) (defBody zcj) (defScope zcj) .none kV25 dc25 pm25 an25 cd25 ct25), sl25⟩)
    (c25 : PySem.W.codeIn K cd25 "grounds_for" = true)
    (k25 : PySem.W.keepIn K (.ref f25) = true)
    (a26 : PySem.W.nsIn K mainGlobals "grounds_for" = some (some (.ref f26)))
    (l26 : K.lookup f26 = some ⟨oc26, od26, .func (PySem.W.fnOf "grounds_for" "grounds_for" (defArgs zao) (defBody zao) (defScope zao) .none kV26 dc26 pm26 an26 cd26 ct26), sl26⟩)
    (c26 : PySem.W.codeIn K cd26 "grounds_for" = true)
    (k26 : PySem.W.keepIn K (.ref f26) = true)
    (a27 : PySem.W.nsIn K mainGlobals "sure_sites" = some (some (.ref f27)))
    (l27 : K.lookup f27 = some ⟨oc27, od27, .func (PySem.W.fnOf "sure_sites" "sure_sites" (defArgs zcu) (defBody zcu) (defScope zcu) .none kV27 dc27 pm27 an27 cd27 ct27), sl27⟩)
    (c27 : PySem.W.codeIn K cd27 "sure_sites" = true)
    (k27 : PySem.W.keepIn K (.ref f27) = true)
    (a28 : PySem.W.nsIn K mainGlobals "possible_sites" = some (some (.ref f28)))
    (l28 : K.lookup f28 = some ⟨oc28, od28, .func (PySem.W.fnOf "possible_sites" "possible_sites" (defArgs zaz) (defBody zaz) (defScope zaz) .none kV28 dc28 pm28 an28 cd28 ct28), sl28⟩)
    (c28 : PySem.W.codeIn K cd28 "possible_sites" = true)
    (k28 : PySem.W.keepIn K (.ref f28) = true)
    (a29 : PySem.W.nsIn K mainGlobals "_law_unlike" = some (some (.ref f29)))
    (l29 : K.lookup f29 = some ⟨oc29, od29, .func (PySem.W.fnOf "_law_unlike" "_law_unlike" (defArgs zcm) (defBody zcm) (defScope zcm) .none kV29 dc29 pm29 an29 cd29 ct29), sl29⟩)
    (c29 : PySem.W.codeIn K cd29 "_law_unlike" = true)
    (k29 : PySem.W.keepIn K (.ref f29) = true)
    (a30 : PySem.W.nsIn K mainGlobals "_law_pick" = some (some (.ref f30)))
    (l30 : K.lookup f30 = some ⟨oc30, od30, .func (PySem.W.fnOf "_law_pick" "_law_pick" (defArgs zdu) (defBody zdu) (defScope zdu) .none kV30 dc30 pm30 an30 cd30 ct30), sl30⟩)
    (c30 : PySem.W.codeIn K cd30 "_law_pick" = true)
    (k30 : PySem.W.keepIn K (.ref f30) = true)
    (a31 : PySem.W.nsIn K mainGlobals "_law_shares" = some (some (.ref f31)))
    (l31 : K.lookup f31 = some ⟨oc31, od31, .func (PySem.W.fnOf "_law_shares" "_law_shares" (defArgs zb2) (defBody zb2) (defScope zb2) .none kV31 dc31 pm31 an31 cd31 ct31), sl31⟩)
    (c31 : PySem.W.codeIn K cd31 "_law_shares" = true)
    (k31 : PySem.W.keepIn K (.ref f31) = true)
    (a32 : PySem.W.nsIn K mainGlobals "_law_fits" = some (some (.ref f32)))
    (l32 : K.lookup f32 = some ⟨oc32, od32, .func (PySem.W.fnOf "_law_fits" "_law_fits" (defArgs zdb) (defBody zdb) (defScope zdb) .none kV32 dc32 pm32 an32 cd32 ct32), sl32⟩)
    (c32 : PySem.W.codeIn K cd32 "_law_fits" = true)
    (k32 : PySem.W.keepIn K (.ref f32) = true)
    (a33 : PySem.W.nsIn K mainGlobals "_law_spots" = some (some (.ref f33)))
    (l33 : K.lookup f33 = some ⟨oc33, od33, .func (PySem.W.fnOf "_law_spots" "_law_spots" (defArgs zc5) (defBody zc5) (defScope zc5) .none kV33 dc33 pm33 an33 cd33 ct33), sl33⟩)
    (c33 : PySem.W.codeIn K cd33 "_law_spots" = true)
    (k33 : PySem.W.keepIn K (.ref f33) = true)
    (a34 : PySem.W.nsIn K mainGlobals "_law_picture" = some (some (.ref f34)))
    (l34 : K.lookup f34 = some ⟨oc34, od34, .func (PySem.W.fnOf "_law_picture" "_law_picture" (defArgs zb1) (defBody zb1) (defScope zb1) .none kV34 dc34 pm34 an34 cd34 ct34), sl34⟩)
    (c34 : PySem.W.codeIn K cd34 "_law_picture" = true)
    (k34 : PySem.W.keepIn K (.ref f34) = true)
    (a35 : PySem.W.nsIn K mainGlobals "_law_sky_at" = some (some (.ref f35)))
    (l35 : K.lookup f35 = some ⟨oc35, od35, .func (PySem.W.fnOf "_law_sky_at" "_law_sky_at" (defArgs zcl) (defBody zcl) (defScope zcl) .none kV35 dc35 pm35 an35 cd35 ct35), sl35⟩)
    (c35 : PySem.W.codeIn K cd35 "_law_sky_at" = true)
    (k35 : PySem.W.keepIn K (.ref f35) = true)
    (a36 : PySem.W.nsIn K mainGlobals "_law_ground" = some (some (.ref f36)))
    (l36 : K.lookup f36 = some ⟨oc36, od36, .func (PySem.W.fnOf "_law_ground" "_law_ground" (defArgs zcg) (defBody zcg) (defScope zcg) .none kV36 dc36 pm36 an36 cd36 ct36), sl36⟩)
    (c36 : PySem.W.codeIn K cd36 "_law_ground" = true)
    (k36 : PySem.W.keepIn K (.ref f36) = true)
    (a37 : PySem.W.nsIn K mainGlobals "_law_asked" = some (some (.ref f37)))
    (l37 : K.lookup f37 = some ⟨oc37, od37, .func (PySem.W.fnOf "_law_asked" "_law_asked" (defArgs zbi) (defBody zbi) (defScope zbi) .none kV37 dc37 pm37 an37 cd37 ct37), sl37⟩)
    (c37 : PySem.W.codeIn K cd37 "_law_asked" = true)
    (k37 : PySem.W.keepIn K (.ref f37) = true)
    (a38 : PySem.W.nsIn K mainGlobals "law" = some (some (.ref f38)))
    (l38 : K.lookup f38 = some ⟨oc38, od38, .func (PySem.W.fnOf "law" "law" (defArgs zpm) (defBody zpm) (defScope zpm) .none kV38 dc38 pm38 an38 cd38 ct38), sl38⟩)
    (c38 : PySem.W.codeIn K cd38 "law" = true)
    (k38 : PySem.W.keepIn K (.ref f38) = true)
    (pg_Ground : PySem.W.plainGet K c_Ground Str.empty = true)
    (hd_Ground : PySem.W.hasDictIn K c_Ground = true)
    (po_Ground : PySem.W.plainOver K c_Ground = true)
    (sa_Ground : PySem.W.findIn K (.ref c_Ground) "__setattr__" = some (some (.builtin "object.__setattr__")))
    (ow_Ground : PySem.W.findIn K (.ref c_Ground) "__class__" = some (some (.builtin "object.__class__")))
    (ob_Ground : PySem.W.mroIn K c_Ground (.type "object") = some true)
    (mks_Ground : PySem.W.makesIn K c_Ground = true)
    (kp_Ground : PySem.W.keepIn K (.ref c_Ground) = true)
    (pg_Camera : PySem.W.plainGet K c_Camera Str.empty = true)
    (hd_Camera : PySem.W.hasDictIn K c_Camera = true)
    (po_Camera : PySem.W.plainOver K c_Camera = true)
    (sa_Camera : PySem.W.findIn K (.ref c_Camera) "__setattr__" = some (some (.builtin "object.__setattr__")))
    (mks_Camera : PySem.W.makesIn K c_Camera = true)
    (kp_Camera : PySem.W.keepIn K (.ref c_Camera) = true)
    (pg_Sky : PySem.W.plainGet K c_Sky Str.empty = true)
    (hd_Sky : PySem.W.hasDictIn K c_Sky = true)
    (po_Sky : PySem.W.plainOver K c_Sky = true)
    (sa_Sky : PySem.W.findIn K (.ref c_Sky) "__setattr__" = some (some (.builtin "object.__setattr__")))
    (mks_Sky : PySem.W.makesIn K c_Sky = true)
    (kp_Sky : PySem.W.keepIn K (.ref c_Sky) = true)
    (pg_Survey : PySem.W.plainGet K c_Survey Str.empty = true)
    (hd_Survey : PySem.W.hasDictIn K c_Survey = true)
    (po_Survey : PySem.W.plainOver K c_Survey = true)
    (sa_Survey : PySem.W.findIn K (.ref c_Survey) "__setattr__" = some (some (.builtin "object.__setattr__")))
    (mks_Survey : PySem.W.makesIn K c_Survey = true)
    (kp_Survey : PySem.W.keepIn K (.ref c_Survey) = true)
    (gs_ : PySem.W.specialIn K (.builtin "object.__class__") "__get__" = some (some (.builtin "getset_descriptor.__get__")))
    (tk_ : PySem.W.takesIn K (.builtin "object.__class__") = some true)
    (n_Ground_craters : PySem.W.findIn K (.ref c_Ground) "craters" = some none)
    (n_Camera_width : PySem.W.findIn K (.ref c_Camera) "width" = some none)
    (n_Camera_height : PySem.W.findIn K (.ref c_Camera) "height" = some none)
    (n_Camera_error : PySem.W.findIn K (.ref c_Camera) "error" = some none)
    (n_Camera_false : PySem.W.findIn K (.ref c_Camera) "false" = some none)
    (n_Camera_lost : PySem.W.findIn K (.ref c_Camera) "lost" = some none)
    (n_Sky_ground : PySem.W.findIn K (.ref c_Sky) "ground" = some none)
    (n_Sky_camera : PySem.W.findIn K (.ref c_Sky) "camera" = some none)
    (n_Sky_turns : PySem.W.findIn K (.ref c_Sky) "turns" = some none)
    (n_Sky_area : PySem.W.findIn K (.ref c_Sky) "area" = some none)
    (n_Survey_sites : PySem.W.findIn K (.ref c_Survey) "sites" = some none)
    (n_Survey_camera : PySem.W.findIn K (.ref c_Survey) "camera" = some none)
    (n_Survey_looks : PySem.W.findIn K (.ref c_Survey) "looks" = some none)
    (xd_BadPicture : PySem.W.hasDictIn K c_BadPicture = true)
    (xl_BadPicture : PySem.W.subIn K (.ref c_BadPicture) (.type "BaseException") = some true)
    (xn_BadPicture : PySem.W.typeIn K (.ref c_BadPicture) = some (.type "type"))
    (xd_BadGround : PySem.W.hasDictIn K c_BadGround = true)
    (xl_BadGround : PySem.W.subIn K (.ref c_BadGround) (.type "BaseException") = some true)
    (xn_BadGround : PySem.W.typeIn K (.ref c_BadGround) = some (.type "type"))
    (xd_BadStanding : PySem.W.hasDictIn K c_BadStanding = true)
    (xl_BadStanding : PySem.W.subIn K (.ref c_BadStanding) (.type "BaseException") = some true)
    (xn_BadStanding : PySem.W.typeIn K (.ref c_BadStanding) = some (.type "type"))
    (xd_TooMany : PySem.W.hasDictIn K c_TooMany = true)
    (xl_TooMany : PySem.W.subIn K (.ref c_TooMany) (.type "BaseException") = some true)
    (xn_TooMany : PySem.W.typeIn K (.ref c_TooMany) = some (.type "type"))
    (yga_BadGround : PySem.W.findIn K (.ref c_BadGround) "__getattribute__" = some (some (.builtin "BaseException.__getattribute__")))
    (ygg_BadGround : PySem.W.findIn K (.ref c_BadGround) "__getattr__" = some none)
    (yga_BadStanding : PySem.W.findIn K (.ref c_BadStanding) "__getattribute__" = some (some (.builtin "BaseException.__getattribute__")))
    (ygg_BadStanding : PySem.W.findIn K (.ref c_BadStanding) "__getattr__" = some none)
    (yga_BadPicture : PySem.W.findIn K (.ref c_BadPicture) "__getattribute__" = some (some (.builtin "BaseException.__getattribute__")))
    (ygg_BadPicture : PySem.W.findIn K (.ref c_BadPicture) "__getattr__" = some none)
    (yga_TooMany : PySem.W.findIn K (.ref c_TooMany) "__getattribute__" = some (some (.builtin "BaseException.__getattribute__")))
    (ygg_TooMany : PySem.W.findIn K (.ref c_TooMany) "__getattr__" = some none)
    (ys_BadGround : PySem.W.subIn K (.ref c_BadGround) (.ref c_BadGround) = some true)
    (zia : PySem.W.findIn K (.ref c_BadGround) "number" = some none)
    (ys_BadStanding : PySem.W.subIn K (.ref c_BadStanding) (.ref c_BadStanding) = some true)
    (zf9 : PySem.W.findIn K (.ref c_BadStanding) "standing" = some none)
    (ys_BadPicture : PySem.W.subIn K (.ref c_BadPicture) (.ref c_BadPicture) = some true)
    (zht : PySem.W.findIn K (.ref c_BadPicture) "number" = some none)
    (ys_TooMany : PySem.W.subIn K (.ref c_TooMany) (.ref c_TooMany) = some true)
    (zky : PySem.W.findIn K (.ref c_TooMany) "most" = some none)
    (xkx_BadPicture : PySem.W.excInitIn K c_BadPicture PySem.ESX.exTail "Exception.__new__" = true)
    (xkxo_BadPicture : PySem.W.excOver K c_BadPicture PySem.ESX.exTail = true)
    (xc_BadPicture : PySem.W.takerIn K c_BadPicture "number" = some none)
    (xe_BadPicture : PySem.W.findIn K (.ref c_BadPicture) "__setattr__" = some (some (.builtin "object.__setattr__")))
    (xg_BadPicture : PySem.W.findIn K (.ref c_BadPicture) "__init__" = some (some (.ref fx_BadPicture)))
    (xh_BadPicture : PySem.W.isFn K (.ref fx_BadPicture) = true)
    (xk_BadPicture : PySem.W.keepIn K (.ref c_BadPicture) = true)
    (xm_BadPicture : PySem.W.subIn K (.ref c_BadPicture) (.type "Exception") = some true)
    (xo_BadPicture : PySem.W.mroIn K c_BadPicture (.ref c_BadPicture) = some true)
    (xks_BadPicture : PySem.W.ks_superIn K c_BadPicture c_BadPicture "__init__" = some (some (.builtin "Exception.__init__")))
    (xlk_BadPicture : K.lookup fx_BadPicture = some ⟨ox_BadPicture, odx_BadPicture, .func (PySem.W.ksFn "__init__" "BadPicture.__init__" (defArgs (inClass (top 6) 0)) (defBody (inClass (top 6) 0)) (defScope (inClass (top 6) 0)) .none kx_BadPicture dx_BadPicture px_BadPicture anx_BadPicture (.ref cda_BadPicture) ctx_BadPicture cc_BadPicture), slx_BadPicture⟩)
    (xcd_BadPicture : PySem.W.codeIn K (.ref cda_BadPicture) "BadPicture.__init__" = true)
    (xcr_BadPicture : K.lookup cda_BadPicture = some ⟨ccl_BadPicture, cdd_BadPicture, .fields vs_BadPicture, ccs_BadPicture⟩)
    (rfl_v_BadPicture : vs_BadPicture[2]? = some (.str file_BadPicture tf_BadPicture))
    (dec_f_BadPicture : ((l.prog.main.file : Str) == file_BadPicture) = true)
    (xcc_BadPicture : K.lookup cc_BadPicture = some ⟨cl_BadPicture, cld_BadPicture, .cell (some (.ref c_BadPicture)), csl_BadPicture⟩)
    (xkx_BadGround : PySem.W.excInitIn K c_BadGround PySem.ESX.exTail "Exception.__new__" = true)
    (xkxo_BadGround : PySem.W.excOver K c_BadGround PySem.ESX.exTail = true)
    (xc_BadGround : PySem.W.takerIn K c_BadGround "number" = some none)
    (xe_BadGround : PySem.W.findIn K (.ref c_BadGround) "__setattr__" = some (some (.builtin "object.__setattr__")))
    (xg_BadGround : PySem.W.findIn K (.ref c_BadGround) "__init__" = some (some (.ref fx_BadGround)))
    (xh_BadGround : PySem.W.isFn K (.ref fx_BadGround) = true)
    (xk_BadGround : PySem.W.keepIn K (.ref c_BadGround) = true)
    (xm_BadGround : PySem.W.subIn K (.ref c_BadGround) (.type "Exception") = some true)
    (xo_BadGround : PySem.W.mroIn K c_BadGround (.ref c_BadGround) = some true)
    (xks_BadGround : PySem.W.ks_superIn K c_BadGround c_BadGround "__init__" = some (some (.builtin "Exception.__init__")))
    (xlk_BadGround : K.lookup fx_BadGround = some ⟨ox_BadGround, odx_BadGround, .func (PySem.W.ksFn "__init__" "BadGround.__init__" (defArgs (inClass (top 3) 0)) (defBody (inClass (top 3) 0)) (defScope (inClass (top 3) 0)) .none kx_BadGround dx_BadGround px_BadGround anx_BadGround (.ref cda_BadGround) ctx_BadGround cc_BadGround), slx_BadGround⟩)
    (xcd_BadGround : PySem.W.codeIn K (.ref cda_BadGround) "BadGround.__init__" = true)
    (xcr_BadGround : K.lookup cda_BadGround = some ⟨ccl_BadGround, cdd_BadGround, .fields vs_BadGround, ccs_BadGround⟩)
    (rfl_v_BadGround : vs_BadGround[2]? = some (.str file_BadGround tf_BadGround))
    (dec_f_BadGround : ((l.prog.main.file : Str) == file_BadGround) = true)
    (xcc_BadGround : K.lookup cc_BadGround = some ⟨cl_BadGround, cld_BadGround, .cell (some (.ref c_BadGround)), csl_BadGround⟩)
    (xkx_BadStanding : PySem.W.excInitIn K c_BadStanding PySem.ESX.exTail "Exception.__new__" = true)
    (xkxo_BadStanding : PySem.W.excOver K c_BadStanding PySem.ESX.exTail = true)
    (xc_BadStanding : PySem.W.takerIn K c_BadStanding "standing" = some none)
    (xe_BadStanding : PySem.W.findIn K (.ref c_BadStanding) "__setattr__" = some (some (.builtin "object.__setattr__")))
    (xg_BadStanding : PySem.W.findIn K (.ref c_BadStanding) "__init__" = some (some (.ref fx_BadStanding)))
    (xh_BadStanding : PySem.W.isFn K (.ref fx_BadStanding) = true)
    (xk_BadStanding : PySem.W.keepIn K (.ref c_BadStanding) = true)
    (xm_BadStanding : PySem.W.subIn K (.ref c_BadStanding) (.type "Exception") = some true)
    (xo_BadStanding : PySem.W.mroIn K c_BadStanding (.ref c_BadStanding) = some true)
    (xks_BadStanding : PySem.W.ks_superIn K c_BadStanding c_BadStanding "__init__" = some (some (.builtin "Exception.__init__")))
    (xlk_BadStanding : K.lookup fx_BadStanding = some ⟨ox_BadStanding, odx_BadStanding, .func (PySem.W.ksFn "__init__" "BadStanding.__init__" (defArgs (inClass (top 7) 0)) (defBody (inClass (top 7) 0)) (defScope (inClass (top 7) 0)) .none kx_BadStanding dx_BadStanding px_BadStanding anx_BadStanding (.ref cda_BadStanding) ctx_BadStanding cc_BadStanding), slx_BadStanding⟩)
    (xcd_BadStanding : PySem.W.codeIn K (.ref cda_BadStanding) "BadStanding.__init__" = true)
    (xcr_BadStanding : K.lookup cda_BadStanding = some ⟨ccl_BadStanding, cdd_BadStanding, .fields vs_BadStanding, ccs_BadStanding⟩)
    (rfl_v_BadStanding : vs_BadStanding[2]? = some (.str file_BadStanding tf_BadStanding))
    (dec_f_BadStanding : ((l.prog.main.file : Str) == file_BadStanding) = true)
    (xcc_BadStanding : K.lookup cc_BadStanding = some ⟨cl_BadStanding, cld_BadStanding, .cell (some (.ref c_BadStanding)), csl_BadStanding⟩)
    (xkx_TooMany : PySem.W.excInitIn K c_TooMany PySem.ESX.exTail "Exception.__new__" = true)
    (xkxo_TooMany : PySem.W.excOver K c_TooMany PySem.ESX.exTail = true)
    (xc_TooMany : PySem.W.takerIn K c_TooMany "most" = some none)
    (xe_TooMany : PySem.W.findIn K (.ref c_TooMany) "__setattr__" = some (some (.builtin "object.__setattr__")))
    (xg_TooMany : PySem.W.findIn K (.ref c_TooMany) "__init__" = some (some (.ref fx_TooMany)))
    (xh_TooMany : PySem.W.isFn K (.ref fx_TooMany) = true)
    (xk_TooMany : PySem.W.keepIn K (.ref c_TooMany) = true)
    (xm_TooMany : PySem.W.subIn K (.ref c_TooMany) (.type "Exception") = some true)
    (xo_TooMany : PySem.W.mroIn K c_TooMany (.ref c_TooMany) = some true)
    (xks_TooMany : PySem.W.ks_superIn K c_TooMany c_TooMany "__init__" = some (some (.builtin "Exception.__init__")))
    (xlk_TooMany : K.lookup fx_TooMany = some ⟨ox_TooMany, odx_TooMany, .func (PySem.W.ksFn "__init__" "TooMany.__init__" (defArgs (inClass (top 28) 0)) (defBody (inClass (top 28) 0)) (defScope (inClass (top 28) 0)) .none kx_TooMany dx_TooMany px_TooMany anx_TooMany (.ref cda_TooMany) ctx_TooMany cc_TooMany), slx_TooMany⟩)
    (xcd_TooMany : PySem.W.codeIn K (.ref cda_TooMany) "TooMany.__init__" = true)
    (xcr_TooMany : K.lookup cda_TooMany = some ⟨ccl_TooMany, cdd_TooMany, .fields vs_TooMany, ccs_TooMany⟩)
    (rfl_v_TooMany : vs_TooMany[2]? = some (.str file_TooMany tf_TooMany))
    (dec_f_TooMany : ((l.prog.main.file : Str) == file_TooMany) = true)
    (xcc_TooMany : K.lookup cc_TooMany = some ⟨cl_TooMany, cld_TooMany, .cell (some (.ref c_TooMany)), csl_TooMany⟩)
    (xq_ : PySem.W.nsIn K cStatics "thirdparty.any" = some none)
    (xz_super : PySem.W.nsIn K mainGlobals "super" = some none)
    (dec_top : (l.prog.main.scope.names.lookup ("super" : Str)).isSome = false)
    (z_bool : PySem.W.nsIn K mainGlobals "bool" = some none)
    (z_isinstance : PySem.W.nsIn K mainGlobals "isinstance" = some none)
    (z_int : PySem.W.nsIn K mainGlobals "int" = some none)
    (z_len : PySem.W.nsIn K mainGlobals "len" = some none)
    (z_tuple : PySem.W.nsIn K mainGlobals "tuple" = some none)
    (z_enumerate : PySem.W.nsIn K mainGlobals "enumerate" = some none)
    (z_sorted : PySem.W.nsIn K mainGlobals "sorted" = some none)
    (z_all : PySem.W.nsIn K mainGlobals "all" = some none)
    (z_zip : PySem.W.nsIn K mainGlobals "zip" = some none)
    (z_range : PySem.W.nsIn K mainGlobals "range" = some none)
    (z_abs : PySem.W.nsIn K mainGlobals "abs" = some none)
    (z_dict : PySem.W.nsIn K mainGlobals "dict" = some none)
    (z_any : PySem.W.nsIn K mainGlobals "any" = some none)
    (z_list : PySem.W.nsIn K mainGlobals "list" = some none)
    (q_MOST_SIZE : ∃ t, PySem.W.nsIn K mainGlobals "MOST_SIZE" = some (some (.int 99 t)))
    (q_MOST_PLACE : ∃ t, PySem.W.nsIn K mainGlobals "MOST_PLACE" = some (some (.int 1000000 t)))
    (q_MOST_COUNT : ∃ t, PySem.W.nsIn K mainGlobals "MOST_COUNT" = some (some (.int 100 t)))
    (q_MOST_SIDE : ∃ t, PySem.W.nsIn K mainGlobals "MOST_SIDE" = some (some (.int 1000 t)))
    (q_MOST_STANDINGS : ∃ t, PySem.W.nsIn K mainGlobals "MOST_STANDINGS" = some (some (.int 40000 t)))
    : ∃ fd : FuncData, (∀ (s : Shared) (v : Value), BindsTo s fd ⟨[v], []⟩ [("script", v)]) ∧ ∀ base : Heap, K.In base → base.Ns mainGlobals mg → FnD l.prog w K mg base 10 fa fd ["script"] DL.z8e := by
  have e := hfa.symm.trans (PySem.W.mg_of X G a38)
  cases e
  letI : CA := ⟨0, c_BadGround, 0, 0, c_BadPicture, c_BadStanding, c_Ground, c_Camera, c_Sky, c_TooMany, 0, 0, 0, 0, 0, 0, 0, 0, 0, 0, 0, 0, 0, 0, 0, 0, c_Survey, 0⟩
  have F0 := fun_mk (st := zet) l0 c0 k0
  have F1 := fun_mk (st := zey) l1 c1 k1
  have F2 := fun_mk (st := za0) l2 c2 k2
  have F3 := fun_mk (st := za3) l3 c3 k3
  have F4 := fun_mk (st := za6) l4 c4 k4
  have F5 := fun_mk (st := zat) l5 c5 k5
  have F6 := fun_mk (st := zq) l6 c6 k6
  have F7 := fun_mk (st := z6) l7 c7 k7
  have F8 := fun_mk (st := zci) l8 c8 k8
  have F9 := fun_mk (st := zdv) l9 c9 k9
  have F10 := fun_mk (st := zck) l10 c10 k10
  have F11 := fun_mk (st := zh7) l11 c11 k11
  have F12 := fun_mk (st := zdx) l12 c12 k12
  have F13 := fun_mk (st := zcv) l13 c13 k13
  have F14 := fun_mk (st := zeu) l14 c14 k14
  have F15 := fun_mk (st := zah) l15 c15 k15
  have F16 := fun_mk (st := zc2) l16 c16 k16
  have F17 := fun_mk (st := zjj) l17 c17 k17
  have F18 := fun_mk (st := zdt) l18 c18 k18
  have F19 := fun_mk (st := zec) l19 c19 k19
  have F20 := fun_mk (st := zu) l20 c20 k20
  have F21 := fun_mk (st := zbn) l21 c21 k21
  have F22 := fun_mk (st := zbc) l22 c22 k22
  have F23 := fun_mk (st := zaj) l23 c23 k23
  have F24 := fun_mk (st := zp) l24 c24 k24
  have F25 := fun_mk (st := zcj) l25 c25 k25
  have F26 := fun_mk (st := zao) l26 c26 k26
  have F27 := fun_mk (st := zcu) l27 c27 k27
  have F28 := fun_mk (st := zaz) l28 c28 k28
  have F29 := fun_mk (st := zcm) l29 c29 k29
  have F30 := fun_mk (st := zdu) l30 c30 k30
  have F31 := fun_mk (st := zb2) l31 c31 k31
  have F32 := fun_mk (st := zdb) l32 c32 k32
  have F33 := fun_mk (st := zc5) l33 c33 k33
  have F34 := fun_mk (st := zb1) l34 c34 k34
  have F35 := fun_mk (st := zcl) l35 c35 k35
  have F36 := fun_mk (st := zcg) l36 c36 k36
  have F37 := fun_mk (st := zbi) l37 c37 k37
  have F38 := fun_mk (st := zpm) l38 c38 k38
  have B0 := F0.binds (ps := ["thing", "low", "high"]) fun _ _ _ _ _ _ us hl => match us, hl with | [_, _, _], _ => rfl
  have B1 := F1.binds (ps := ["thing", "low", "high"]) fun _ _ _ _ _ _ us hl => match us, hl with | [_, _, _], _ => rfl
  have B2 := F2.binds (ps := ["self", "craters"]) fun _ _ _ _ _ _ us hl => match us, hl with | [_, _], _ => rfl
  have B3 := F3.binds (ps := ["self", "width", "height", "error", "false", "lost"]) fun _ _ _ _ _ _ us hl => match us, hl with | [_, _, _, _, _, _], _ => rfl
  have B4 := F4.binds (ps := ["self", "ground", "camera", "turns", "area"]) fun _ _ _ _ _ _ us hl => match us, hl with | [_, _, _, _, _], _ => rfl
  have B5 := F5.binds (ps := ["self", "x", "y", "more"]) fun _ _ _ _ _ _ us hl => match us, hl with | [_, _, _, _], _ => rfl
  have B6 := F6.binds (ps := ["self", "picture"]) fun _ _ _ _ _ _ us hl => match us, hl with | [_, _], _ => rfl
  have B7 := F7.binds (ps := ["self", "sites", "camera", "looks"]) fun _ _ _ _ _ _ us hl => match us, hl with | [_, _, _, _], _ => rfl
  have B8 := F8.binds (ps := ["script", "index"]) fun _ _ _ _ _ _ us hl => match us, hl with | [_, _], _ => rfl
  have B9 := F9.binds (ps := ["draw", "many"]) fun _ _ _ _ _ _ us hl => match us, hl with | [_, _], _ => rfl
  have B10 := F10.binds (ps := ["draw"]) fun _ _ _ _ _ _ us hl => match us, hl with | [_], _ => rfl
  have B11 := F11.binds (ps := ["x", "y", "turn"]) fun _ _ _ _ _ _ us hl => match us, hl with | [_, _, _], _ => rfl
  have B12 := F12.binds (ps := ["self", "crater", "standing"]) fun _ _ _ _ _ _ us hl => match us, hl with | [_, _, _], _ => rfl
  have B13 := F13.binds (ps := ["self", "standing"]) fun _ _ _ _ _ _ us hl => match us, hl with | [_, _], _ => rfl
  have B14 := F14.binds (ps := ["point", "place", "error"]) fun _ _ _ _ _ _ us hl => match us, hl with | [_, _, _], _ => rfl
  have B15 := F15.binds (ps := ["self", "point", "places"]) fun _ _ _ _ _ _ us hl => match us, hl with | [_, _, _], _ => rfl
  have B16 := F16.binds (ps := ["self", "craters", "standing"]) fun _ _ _ _ _ _ us hl => match us, hl with | [_, _, _], _ => rfl
  have B17 := F17.binds (ps := ["comers", "last", "pairs"]) fun _ _ _ _ _ _ us hl => match us, hl with | [_, _, _], _ => rfl
  have B18 := F18.binds (ps := ["nexts", "one", "pairs"]) fun _ _ _ _ _ _ us hl => match us, hl with | [_, _, _], _ => rfl
  have B19 := F19.binds (ps := ["nexts"]) fun _ _ _ _ _ _ us hl => match us, hl with | [_], _ => rfl
  have B20 := F20.binds (ps := ["self", "craters"]) fun _ _ _ _ _ _ us hl => match us, hl with | [_, _], _ => rfl
  have B21 := F21.binds (ps := ["nexts", "many"]) fun _ _ _ _ _ _ us hl => match us, hl with | [_, _], _ => rfl
  have B22 := F22.binds (ps := ["self", "x", "y"]) fun _ _ _ _ _ _ us hl => match us, hl with | [_, _, _], _ => rfl
  have B23 := F23.binds (ps := ["self", "standing"]) fun _ _ _ _ _ _ us hl => match us, hl with | [_, _], _ => rfl
  have B24 := F24.binds (ps := ["self", "craters"]) fun _ _ _ _ _ _ us hl => match us, hl with | [_, _], _ => rfl
  have B25 := F25.binds (ps := ["survey", "most"]) fun _ _ _ _ _ _ us hl => match us, hl with | [_, _], _ => rfl
  have B26 := F26.binds (ps := ["survey", "most"]) fun _ _ _ _ _ _ us hl => match us, hl with | [_, _], _ => rfl
  have B27 := F27.binds (ps := ["survey", "most"]) fun _ _ _ _ _ _ us hl => match us, hl with | [_, _], _ => rfl
  have B28 := F28.binds (ps := ["survey", "most"]) fun _ _ _ _ _ _ us hl => match us, hl with | [_, _], _ => rfl
  have B29 := F29.binds (ps := ["items"]) fun _ _ _ _ _ _ us hl => match us, hl with | [_], _ => rfl
  have B30 := F30.binds (ps := ["draw", "items"]) fun _ _ _ _ _ _ us hl => match us, hl with | [_, _], _ => rfl
  have B31 := F31.binds (ps := ["points", "places", "error"]) fun _ _ _ _ _ _ us hl => match us, hl with | [_, _, _], _ => rfl
  have B32 := F32.binds (ps := ["sky", "picture", "standing"]) fun _ _ _ _ _ _ us hl => match us, hl with | [_, _, _], _ => rfl
  have B33 := F33.binds (ps := ["camera"]) fun _ _ _ _ _ _ us hl => match us, hl with | [_], _ => rfl
  have B34 := F34.binds (ps := ["draw", "sky", "standing"]) fun _ _ _ _ _ _ us hl => match us, hl with | [_, _, _], _ => rfl
  have B35 := F35.binds (ps := ["ground", "camera", "standing"]) fun _ _ _ _ _ _ us hl => match us, hl with | [_, _, _], _ => rfl
  have B36 := F36.binds (ps := ["draw", "most", "side"]) fun _ _ _ _ _ _ us hl => match us, hl with | [_, _, _], _ => rfl
  have B37 := F37.binds (ps := ["draw"]) fun _ _ _ _ _ _ us hl => match us, hl with | [_], _ => rfl
  have B38 := F38.binds (ps := ["script"]) fun _ _ _ _ _ _ us hl => match us, hl with | [_], _ => rfl
  let T : Txt l.prog K mg := ⟨fx_BadPicture,
    fx_BadGround,
    fx_BadStanding,
    fx_TooMany,
    _, _, F0, PySem.W.mg_of X G a0, B0,
    _, _, F1, PySem.W.mg_of X G a1, B1,
    _, _, F2, B2,
    _, _, F3, B3,
    _, _, F4, B4,
    _, _, F5, B5,
    _, _, F6, B6,
    _, _, F7, B7,
    _, _, F8, PySem.W.mg_of X G a8, B8,
    _, _, F9, PySem.W.mg_of X G a9, B9,
    _, _, F10, PySem.W.mg_of X G a10, B10,
    _, _, F11, PySem.W.mg_of X G a11, B11,
    _, _, F12, B12,
    _, _, F13, B13,
    _, _, F14, PySem.W.mg_of X G a14, B14,
    _, _, F15, B15,
    _, _, F16, B16,
    _, _, F17, PySem.W.mg_of X G a17, B17,
    _, _, F18, PySem.W.mg_of X G a18, B18,
    _, _, F19, PySem.W.mg_of X G a19, B19,
    _, _, F20, B20,
    _, _, F21, PySem.W.mg_of X G a21, B21,
    _, _, F22, B22,
    _, _, F23, B23,
    _, _, F24, B24,
    _, _, F25, PySem.W.mg_of X G a25, B25,
    _, _, F26, PySem.W.mg_of X G a26, B26,
    _, _, F27, PySem.W.mg_of X G a27, B27,
    _, _, F28, PySem.W.mg_of X G a28, B28,
    _, _, F29, PySem.W.mg_of X G a29, B29,
    _, _, F30, PySem.W.mg_of X G a30, B30,
    _, _, F31, PySem.W.mg_of X G a31, B31,
    _, _, F32, PySem.W.mg_of X G a32, B32,
    _, _, F33, PySem.W.mg_of X G a33, B33,
    _, _, F34, PySem.W.mg_of X G a34, B34,
    _, _, F35, PySem.W.mg_of X G a35, B35,
    _, _, F36, PySem.W.mg_of X G a36, B36,
    _, _, F37, PySem.W.mg_of X G a37, B37,
    _, _, F38, PySem.W.mg_of X G a38, B38,
    PySem.W.mg_none_of X G z_bool,
    PySem.W.mg_none_of X G z_isinstance,
    PySem.W.mg_none_of X G z_int,
    PySem.W.mg_none_of X G z_len,
    PySem.W.mg_none_of X G z_tuple,
    PySem.W.mg_none_of X G z_enumerate,
    PySem.W.mg_none_of X G z_sorted,
    PySem.W.mg_none_of X G z_all,
    PySem.W.mg_none_of X G z_zip,
    PySem.W.mg_none_of X G z_range,
    PySem.W.mg_none_of X G z_abs,
    PySem.W.mg_none_of X G z_dict,
    PySem.W.mg_none_of X G z_any,
    PySem.W.mg_none_of X G z_list,
    DL.z9r (by intro C hC; simp only [List.mem_cons, List.not_mem_nil, or_false] at hC; rcases hC with rfl; exact ⟨⟨pg_Ground, hd_Ground, po_Ground, sa_Ground⟩, ow_Ground, gs_, tk_, ob_Ground⟩),
    (let ⟨t, e⟩ := q_MOST_SIZE; ⟨t, PySem.W.mg_of X G e⟩),
    (let ⟨t, e⟩ := q_MOST_PLACE; ⟨t, PySem.W.mg_of X G e⟩),
    (let ⟨t, e⟩ := q_MOST_COUNT; ⟨t, PySem.W.mg_of X G e⟩),
    n_Ground_craters,
    ⟨pg_Ground, hd_Ground, po_Ground, sa_Ground⟩,
    (let ⟨t, e⟩ := q_MOST_SIDE; ⟨t, PySem.W.mg_of X G e⟩),
    n_Camera_width,
    ⟨pg_Camera, hd_Camera, po_Camera, sa_Camera⟩,
    n_Camera_height,
    n_Camera_error,
    n_Camera_false,
    n_Camera_lost,
    (let ⟨t, e⟩ := q_MOST_STANDINGS; ⟨t, PySem.W.mg_of X G e⟩),
    n_Sky_ground,
    ⟨pg_Sky, hd_Sky, po_Sky, sa_Sky⟩,
    n_Sky_camera,
    n_Sky_turns,
    n_Sky_area,
    ⟨xkx_BadPicture, xkxo_BadPicture, xc_BadPicture, xd_BadPicture, xe_BadPicture, xg_BadPicture, xh_BadPicture, xk_BadPicture, xl_BadPicture, xm_BadPicture, xn_BadPicture, xo_BadPicture, xks_BadPicture, xq_, PySem.W.mg_none_of X G xz_super, dec_top,
      ⟨_, _, _, _, _, _, _, _, _, _, _, _, _, _, _, _, _, _, _, _, _, _, _, _, _, _, xlk_BadPicture, xcd_BadPicture, rfl, rfl, rfl, rfl, rfl, rfl, rfl, rfl, by decide +kernel, ⟨_, rfl, rfl⟩, by decide, by decide,
      ⟨_, _, _, _, _, _, xcr_BadPicture, rfl_v_BadPicture, dec_f_BadPicture⟩, ⟨_, _, _, xcc_BadPicture⟩, ⟨_, fun _ => rfl⟩, fun _ => ⟨rfl, rfl, rfl, rfl, fun _ _ _ _ _ q => Calls.Constant_str (q _ _ rfl rfl rfl rfl)⟩, fun _ _ _ => .of_eq rfl⟩⟩,
    PySem.W.mg_of X G e_BadPicture,
    ⟨a5, i5, k5⟩,
    ⟨xkx_BadGround, xkxo_BadGround, xc_BadGround, xd_BadGround, xe_BadGround, xg_BadGround, xh_BadGround, xk_BadGround, xl_BadGround, xm_BadGround, xn_BadGround, xo_BadGround, xks_BadGround, xq_, PySem.W.mg_none_of X G xz_super, dec_top,
      ⟨_, _, _, _, _, _, _, _, _, _, _, _, _, _, _, _, _, _, _, _, _, _, _, _, _, _, xlk_BadGround, xcd_BadGround, rfl, rfl, rfl, rfl, rfl, rfl, rfl, rfl, by decide +kernel, ⟨_, rfl, rfl⟩, by decide, by decide,
      ⟨_, _, _, _, _, _, xcr_BadGround, rfl_v_BadGround, dec_f_BadGround⟩, ⟨_, _, _, xcc_BadGround⟩, ⟨_, fun _ => rfl⟩, fun _ => ⟨rfl, rfl, rfl, rfl, fun _ _ _ _ _ q => Calls.Constant_str (q _ _ rfl rfl rfl rfl)⟩, fun _ _ _ => .of_eq rfl⟩⟩,
    PySem.W.mg_of X G e_BadGround,
    ⟨xkx_BadStanding, xkxo_BadStanding, xc_BadStanding, xd_BadStanding, xe_BadStanding, xg_BadStanding, xh_BadStanding, xk_BadStanding, xl_BadStanding, xm_BadStanding, xn_BadStanding, xo_BadStanding, xks_BadStanding, xq_, PySem.W.mg_none_of X G xz_super, dec_top,
      ⟨_, _, _, _, _, _, _, _, _, _, _, _, _, _, _, _, _, _, _, _, _, _, _, _, _, _, xlk_BadStanding, xcd_BadStanding, rfl, rfl, rfl, rfl, rfl, rfl, rfl, rfl, by decide +kernel, ⟨_, rfl, rfl⟩, by decide, by decide,
      ⟨_, _, _, _, _, _, xcr_BadStanding, rfl_v_BadStanding, dec_f_BadStanding⟩, ⟨_, _, _, xcc_BadStanding⟩, ⟨_, fun _ => rfl⟩, fun _ => ⟨rfl, rfl, rfl, rfl, fun _ _ _ _ _ q => Calls.Constant_str (q _ _ rfl rfl rfl rfl)⟩, fun _ _ _ => .of_eq rfl⟩⟩,
    PySem.W.mg_of X G e_BadStanding,
    ⟨a6, i6, k6⟩,
    n_Survey_sites,
    ⟨pg_Survey, hd_Survey, po_Survey, sa_Survey⟩,
    n_Survey_camera,
    n_Survey_looks,
    PySem.W.mg_of X G e_Camera,
    ⟨mks_Camera, a3, i3, kp_Camera⟩,
    ⟨a12, i12, k12⟩,
    PySem.W.mg_of X G e_Sky,
    ⟨mks_Sky, a4, i4, kp_Sky⟩,
    PySem.W.mg_of X G e_Ground,
    ⟨mks_Ground, a2, i2, kp_Ground⟩,
    ⟨a13, i13, k13⟩,
    ⟨a16, i16, k16⟩,
    ⟨a15, i15, k15⟩,
    ⟨a22, i22, k22⟩,
    ⟨a23, i23, k23⟩,
    ⟨a24, i24, k24⟩,
    ⟨a20, i20, k20⟩,
    ⟨xkx_TooMany, xkxo_TooMany, xc_TooMany, xd_TooMany, xe_TooMany, xg_TooMany, xh_TooMany, xk_TooMany, xl_TooMany, xm_TooMany, xn_TooMany, xo_TooMany, xks_TooMany, xq_, PySem.W.mg_none_of X G xz_super, dec_top,
      ⟨_, _, _, _, _, _, _, _, _, _, _, _, _, _, _, _, _, _, _, _, _, _, _, _, _, _, xlk_TooMany, xcd_TooMany, rfl, rfl, rfl, rfl, rfl, rfl, rfl, rfl, by decide +kernel, ⟨_, rfl, rfl⟩, by decide, by decide,
      ⟨_, _, _, _, _, _, xcr_TooMany, rfl_v_TooMany, dec_f_TooMany⟩, ⟨_, _, _, xcc_TooMany⟩, ⟨_, fun _ => rfl⟩, fun _ => ⟨rfl, rfl, rfl, rfl, fun _ _ _ _ _ q => Calls.Constant_str (q _ _ rfl rfl rfl rfl)⟩, fun _ _ _ => .of_eq rfl⟩⟩,
    PySem.W.mg_of X G e_TooMany,
    PySem.W.mg_of X G e_Survey,
    ⟨mks_Survey, a7, i7, kp_Survey⟩,
    PySem.W.exm_ref xl_BadGround xd_BadGround xn_BadGround ys_BadGround,
    ⟨yga_BadGround, ygg_BadGround, xl_BadGround, xd_BadGround⟩,
    zia,
    PySem.W.exm_ref xl_BadStanding xd_BadStanding xn_BadStanding ys_BadStanding,
    ⟨yga_BadStanding, ygg_BadStanding, xl_BadStanding, xd_BadStanding⟩,
    zf9,
    PySem.W.exm_ref xl_BadPicture xd_BadPicture xn_BadPicture ys_BadPicture,
    ⟨yga_BadPicture, ygg_BadPicture, xl_BadPicture, xd_BadPicture⟩,
    zht,
    PySem.W.exm_ref xl_TooMany xd_TooMany xn_TooMany ys_TooMany,
    ⟨yga_TooMany, ygg_TooMany, xl_TooMany, xd_TooMany⟩,
    zky⟩
  refine ⟨PySem.W.fnOf "law" "law" (defArgs zpm) (defBody zpm) (defScope zpm) .none kV38 dc38 pm38 an38 cd38 ct38, fun s v => .of_eq rfl, fun base _ _ => ?_⟩
  exact zafq T
omit [CA]
theorem zad8 {w : World} {K : PySem.W.Frag} {h : Heap} {mg : Str → Option Value} {fa : Addr} (X : K.In h) (G : h.Ns mainGlobals mg) (hfa : mg "law" = some (.ref fa)) (c : HB.zuk fsB fnB K) :
    ∃ fd : FuncData, (∀ (s : Shared) (v : Value), BindsTo s fd ⟨[v], []⟩ [("script", v)]) ∧ ∀ base : Heap, K.In base → base.Ns mainGlobals mg → FnD PySem.Challenge.rw_moonfall_k65_whole_surveys.prog w K mg base 10 fa fd ["script"] DL.z8e := by
  obtain ⟨_, _, _, _, _, _, _, _, l0⟩ := c.f dB0 0
  obtain ⟨_, _, _, _, _, _, _, _, l1⟩ := c.f dB1 1
  obtain ⟨_, _, _, _, _, _, _, _, l2⟩ := c.f dB2 2
  obtain ⟨_, _, _, _, _, _, _, _, l3⟩ := c.f dB3 3
  obtain ⟨_, _, _, _, _, _, _, _, l4⟩ := c.f dB4 4
  obtain ⟨_, _, _, _, _, _, _, _, l5⟩ := c.f dB5 5
  obtain ⟨_, _, _, _, _, _, _, _, l6⟩ := c.f dB6 6
  obtain ⟨_, _, _, _, _, _, _, _, l7⟩ := c.f dB7 7
  obtain ⟨_, _, _, _, _, _, _, _, l8⟩ := c.f dB8 8
  obtain ⟨_, _, _, _, _, _, _, _, l9⟩ := c.f dB9 9
  obtain ⟨_, _, _, _, _, _, _, _, l10⟩ := c.f dB10 10
  obtain ⟨_, _, _, _, _, _, _, _, l11⟩ := c.f dB11 11
  obtain ⟨_, _, _, _, _, _, _, _, l12⟩ := c.f dB12 12
  obtain ⟨_, _, _, _, _, _, _, _, l13⟩ := c.f dB13 13
  obtain ⟨_, _, _, _, _, _, _, _, l14⟩ := c.f dB14 14
  obtain ⟨_, _, _, _, _, _, _, _, l15⟩ := c.f dB15 15
  obtain ⟨_, _, _, _, _, _, _, _, l16⟩ := c.f dB16 16
  obtain ⟨_, _, _, _, _, _, _, _, l17⟩ := c.f dB17 17
  obtain ⟨_, _, _, _, _, _, _, _, l18⟩ := c.f dB18 18
  obtain ⟨_, _, _, _, _, _, _, _, l19⟩ := c.f dB19 19
  obtain ⟨_, _, _, _, _, _, _, _, l20⟩ := c.f dB20 20
  obtain ⟨_, _, _, _, _, _, _, _, l21⟩ := c.f dB21 21
  obtain ⟨_, _, _, _, _, _, _, _, l22⟩ := c.f dB22 22
  obtain ⟨_, _, _, _, _, _, _, _, l23⟩ := c.f dB23 23
  obtain ⟨_, _, _, _, _, _, _, _, l24⟩ := c.f dB24 24
  obtain ⟨_, _, _, _, _, _, _, _, l25⟩ := c.f dB25 25
  obtain ⟨_, _, _, _, _, _, _, _, l26⟩ := c.f dB26 26
  obtain ⟨_, _, _, _, _, _, _, _, l27⟩ := c.f dB27 27
  obtain ⟨_, _, _, _, _, _, _, _, l28⟩ := c.f dB28 28
  obtain ⟨_, _, _, _, _, _, _, _, l29⟩ := c.f dB29 29
  obtain ⟨_, _, _, _, _, _, _, _, l30⟩ := c.f dB30 30
  obtain ⟨_, _, _, _, _, _, _, _, l31⟩ := c.f dB31 31
  obtain ⟨_, _, _, _, _, _, _, _, l32⟩ := c.f dB32 32
  obtain ⟨_, _, _, _, _, _, _, _, l33⟩ := c.f dB33 33
  obtain ⟨_, _, _, _, _, _, _, _, l34⟩ := c.f dB34 34
  obtain ⟨_, _, _, _, _, _, _, _, l35⟩ := c.f dB35 35
  obtain ⟨_, _, _, _, _, _, _, _, l36⟩ := c.f dB36 36
  obtain ⟨_, _, _, _, _, _, _, _, l37⟩ := c.f dB37 37
  obtain ⟨_, _, _, _, _, _, _, _, l38⟩ := c.f dB38 38
  obtain ⟨_, _, _, _, _, _, _, _, xlk_BadPicture⟩ := HB.z5u (d := dB39) rfl (c.fn 39 (by kernel_rfl)) (c.fact 0 (f := fun K => PySem.W.codeIn K (HB.cdV K (He.fAd K ("BadPicture", some "__init__"))) "BadPicture.__init__") (by kernel_rfl))
  obtain ⟨_, _, _, _, _, _, xcr_BadPicture, rv_BadPicture, df_BadPicture⟩ := HB.zu7 (c.fact 1 (f := fun K => HB.zx1 K (HB.cdA K (He.fAd K ("BadPicture", some "__init__"))) (PySem.Challenge.rw_moonfall_k65_whole_surveys.prog.main.file : Str)) (by kernel_rfl))
  obtain ⟨_, _, _, xcc_BadPicture⟩ := HB.zvc (c.fact 2 (f := fun K => HB.zxj K (HB.clA K (He.fAd K ("BadPicture", some "__init__"))) (He.ga K "BadPicture")) (by kernel_rfl))
  obtain ⟨_, _, _, _, _, _, _, _, xlk_BadGround⟩ := HB.z5u (d := dB40) rfl (c.fn 40 (by kernel_rfl)) (c.fact 3 (f := fun K => PySem.W.codeIn K (HB.cdV K (He.fAd K ("BadGround", some "__init__"))) "BadGround.__init__") (by kernel_rfl))
  obtain ⟨_, _, _, _, _, _, xcr_BadGround, rv_BadGround, df_BadGround⟩ := HB.zu7 (c.fact 4 (f := fun K => HB.zx1 K (HB.cdA K (He.fAd K ("BadGround", some "__init__"))) (PySem.Challenge.rw_moonfall_k65_whole_surveys.prog.main.file : Str)) (by kernel_rfl))
  obtain ⟨_, _, _, xcc_BadGround⟩ := HB.zvc (c.fact 5 (f := fun K => HB.zxj K (HB.clA K (He.fAd K ("BadGround", some "__init__"))) (He.ga K "BadGround")) (by kernel_rfl))
  obtain ⟨_, _, _, _, _, _, _, _, xlk_BadStanding⟩ := HB.z5u (d := dB41) rfl (c.fn 41 (by kernel_rfl)) (c.fact 6 (f := fun K => PySem.W.codeIn K (HB.cdV K (He.fAd K ("BadStanding", some "__init__"))) "BadStanding.__init__") (by kernel_rfl))
  obtain ⟨_, _, _, _, _, _, xcr_BadStanding, rv_BadStanding, df_BadStanding⟩ := HB.zu7 (c.fact 7 (f := fun K => HB.zx1 K (HB.cdA K (He.fAd K ("BadStanding", some "__init__"))) (PySem.Challenge.rw_moonfall_k65_whole_surveys.prog.main.file : Str)) (by kernel_rfl))
  obtain ⟨_, _, _, xcc_BadStanding⟩ := HB.zvc (c.fact 8 (f := fun K => HB.zxj K (HB.clA K (He.fAd K ("BadStanding", some "__init__"))) (He.ga K "BadStanding")) (by kernel_rfl))
  obtain ⟨_, _, _, _, _, _, _, _, xlk_TooMany⟩ := HB.z5u (d := dB42) rfl (c.fn 42 (by kernel_rfl)) (c.fact 9 (f := fun K => PySem.W.codeIn K (HB.cdV K (He.fAd K ("TooMany", some "__init__"))) "TooMany.__init__") (by kernel_rfl))
  obtain ⟨_, _, _, _, _, _, xcr_TooMany, rv_TooMany, df_TooMany⟩ := HB.zu7 (c.fact 10 (f := fun K => HB.zx1 K (HB.cdA K (He.fAd K ("TooMany", some "__init__"))) (PySem.Challenge.rw_moonfall_k65_whole_surveys.prog.main.file : Str)) (by kernel_rfl))
  obtain ⟨_, _, _, xcc_TooMany⟩ := HB.zvc (c.fact 11 (f := fun K => HB.zxj K (HB.clA K (He.fAd K ("TooMany", some "__init__"))) (He.ga K "TooMany")) (by kernel_rfl))
  exact zad0 (l := PySem.Challenge.rw_moonfall_k65_whole_surveys) (f0 := (He.fAd K ("is_whole", none))) (f1 := (He.fAd K ("is_point", none))) (f2 := (He.fAd K ("Ground", some "__init__"))) (f3 := (He.fAd K ("Camera", some "__init__"))) (f4 := (He.fAd K ("Sky", some "__init__"))) (f5 := (He.fAd K ("Camera", some "is_within"))) (f6 := (He.fAd K ("Camera", some "check_picture"))) (f7 := (He.fAd K ("Survey", some "__init__"))) (f8 := (He.fAd K ("_law_number", none))) (f9 := (He.fAd K ("_law_take", none))) (f10 := (He.fAd K ("_law_camera", none))) (f11 := (He.fAd K ("turned", none))) (f12 := (He.fAd K ("Sky", some "place"))) (f13 := (He.fAd K ("Sky", some "places"))) (f14 := (He.fAd K ("are_near", none))) (f15 := (He.fAd K ("Survey", some "places_for"))) (f16 := (He.fAd K ("Survey", some "sky"))) (f17 := (He.fAd K ("along", none))) (f18 := (He.fAd K ("augmented", none))) (f19 := (He.fAd K ("greatest", none))) (f20 := (He.fAd K ("Survey", some "are_points_told"))) (f21 := (He.fAd K ("turned_round", none))) (f22 := (He.fAd K ("Camera", some "is_sure"))) (f23 := (He.fAd K ("Sky", some "sure_craters"))) (f24 := (He.fAd K ("Survey", some "are_craters_seen"))) (f25 := (He.fAd K ("grounds_for", none))) (f26 := (He.fAd K ("grounds_for", none))) (f27 := (He.fAd K ("sure_sites", none))) (f28 := (He.fAd K ("possible_sites", none))) (f29 := (He.fAd K ("_law_unlike", none))) (f30 := (He.fAd K ("_law_pick", none))) (f31 := (He.fAd K ("_law_shares", none))) (f32 := (He.fAd K ("_law_fits", none))) (f33 := (He.fAd K ("_law_spots", none))) (f34 := (He.fAd K ("_law_picture", none))) (f35 := (He.fAd K ("_law_sky_at", none))) (f36 := (He.fAd K ("_law_ground", none))) (f37 := (He.fAd K ("_law_asked", none))) (f38 := (He.fAd K ("law", none))) (c_BadGround := (He.ga K "BadGround")) (c_BadPicture := (He.ga K "BadPicture")) (c_BadStanding := (He.ga K "BadStanding")) (c_Ground := (He.ga K "Ground")) (c_Camera := (He.ga K "Camera")) (c_Sky := (He.ga K "Sky")) (c_TooMany := (He.ga K "TooMany")) (c_Survey := (He.ga K "Survey")) (fx_BadPicture := (He.fAd K ("BadPicture", some "__init__"))) (cda_BadPicture := (HB.cdA K (He.fAd K ("BadPicture", some "__init__")))) (cc_BadPicture := (HB.clA K (He.fAd K ("BadPicture", some "__init__")))) (fx_BadGround := (He.fAd K ("BadGround", some "__init__"))) (cda_BadGround := (HB.cdA K (He.fAd K ("BadGround", some "__init__")))) (cc_BadGround := (HB.clA K (He.fAd K ("BadGround", some "__init__")))) (fx_BadStanding := (He.fAd K ("BadStanding", some "__init__"))) (cda_BadStanding := (HB.cdA K (He.fAd K ("BadStanding", some "__init__")))) (cc_BadStanding := (HB.clA K (He.fAd K ("BadStanding", some "__init__")))) (fx_TooMany := (He.fAd K ("TooMany", some "__init__"))) (cda_TooMany := (HB.cdA K (He.fAd K ("TooMany", some "__init__")))) (cc_TooMany := (HB.clA K (He.fAd K ("TooMany", some "__init__")))) X G hfa (c.d 12)
    (c.d 13)
    (c.d 14)
    (c.d 15)
    (c.d 16)
    (c.d 17)
    (c.d 18)
    (c.d 19)
    (c.d 20)
    l0
    (c.q 21)
    (c.q 22)
    (c.d 23)
    l1
    (c.q 24)
    (c.q 25)
    (c.d 26)
    (c.q 27)
    l2
    (c.q 28)
    (c.q 29)
    (c.d 30)
    (c.q 31)
    l3
    (c.q 32)
    (c.q 33)
    (c.d 34)
    (c.q 35)
    l4
    (c.q 36)
    (c.q 37)
    (c.d 38)
    (c.q 39)
    l5
    (c.q 40)
    (c.q 41)
    (c.d 42)
    (c.q 43)
    l6
    (c.q 44)
    (c.q 45)
    (c.d 46)
    (c.q 47)
    l7
    (c.q 48)
    (c.q 49)
    (c.d 50)
    l8
    (c.q 51)
    (c.q 52)
    (c.d 53)
    l9
    (c.q 54)
    (c.q 55)
    (c.d 56)
    l10
    (c.q 57)
    (c.q 58)
    (c.d 59)
    l11
    (c.q 60)
    (c.q 61)
    (c.d 62)
    (c.q 63)
    l12
    (c.q 64)
    (c.q 65)
    (c.d 66)
    (c.q 67)
    l13
    (c.q 68)
    (c.q 69)
    (c.d 70)
    l14
    (c.q 71)
    (c.q 72)
    (c.d 73)
    (c.q 74)
    l15
    (c.q 75)
    (c.q 76)
    (c.d 77)
    (c.q 78)
    l16
    (c.q 79)
    (c.q 80)
    (c.d 81)
    l17
    (c.q 82)
    (c.q 83)
    (c.d 84)
    l18
    (c.q 85)
    (c.q 86)
    (c.d 87)
    l19
    (c.q 88)
    (c.q 89)
    (c.d 90)
    (c.q 91)
    l20
    (c.q 92)
    (c.q 93)
    (c.d 94)
    l21
    (c.q 95)
    (c.q 96)
    (c.d 97)
    (c.q 98)
    l22
    (c.q 99)
    (c.q 100)
    (c.d 101)
    (c.q 102)
    l23
    (c.q 103)
    (c.q 104)
    (c.d 105)
    (c.q 106)
    l24
    (c.q 107)
    (c.q 108)
    (c.d 109)
    l25
    (c.q 110)
    (c.q 111)
    (c.d 109)
    l26
    (c.q 110)
    (c.q 111)
    (c.d 112)
    l27
    (c.q 113)
    (c.q 114)
    (c.d 115)
    l28
    (c.q 116)
    (c.q 117)
    (c.d 118)
    l29
    (c.q 119)
    (c.q 120)
    (c.d 121)
    l30
    (c.q 122)
    (c.q 123)
    (c.d 124)
    l31
    (c.q 125)
    (c.q 126)
    (c.d 127)
    l32
    (c.q 128)
    (c.q 129)
    (c.d 130)
    l33
    (c.q 131)
    (c.q 132)
    (c.d 133)
    l34
    (c.q 134)
    (c.q 135)
    (c.d 136)
    l35
    (c.q 137)
    (c.q 138)
    (c.d 139)
    l36
    (c.q 140)
    (c.q 141)
    (c.d 142)
    l37
    (c.q 143)
    (c.q 144)
    (c.d 145)
    l38
    (c.q 146)
    (c.q 147)
    (c.q 148)
    (c.q 149)
    (c.q 150)
    (c.d 151)
    (c.d 152)
    (c.d 153)
    (c.q 154)
    (c.q 155)
    (c.q 156)
    (c.q 157)
    (c.q 158)
    (c.d 159)
    (c.q 160)
    (c.q 161)
    (c.q 162)
    (c.q 163)
    (c.q 164)
    (c.d 165)
    (c.q 166)
    (c.q 167)
    (c.q 168)
    (c.q 169)
    (c.q 170)
    (c.d 171)
    (c.q 172)
    (c.q 173)
    (c.d 174)
    (c.d 175)
    (c.d 176)
    (c.d 177)
    (c.d 178)
    (c.d 179)
    (c.d 180)
    (c.d 181)
    (c.d 182)
    (c.d 183)
    (c.d 184)
    (c.d 185)
    (c.d 186)
    (c.d 187)
    (c.d 188)
    (c.q 189)
    (c.d 190)
    (c.d 191)
    (c.q 192)
    (c.d 193)
    (c.d 194)
    (c.q 195)
    (c.d 196)
    (c.d 197)
    (c.q 198)
    (c.d 199)
    (c.d 200)
    (c.d 201)
    (c.d 202)
    (c.d 203)
    (c.d 204)
    (c.d 205)
    (c.d 206)
    (c.d 207)
    (c.d 208)
    (c.d 209)
    (c.d 210)
    (c.d 211)
    (c.d 212)
    (c.d 213)
    (c.d 214)
    (c.d 215)
    (c.d 216)
    (c.q 217)
    (c.q 218)
    (c.d 219)
    (c.d 220)
    (c.d 221)
    (c.q 222)
    (c.q 223)
    (c.d 224)
    (c.d 225)
    (c.d 226)
    xlk_BadPicture
    (c.q 227)
    xcr_BadPicture
    rv_BadPicture
    df_BadPicture
    xcc_BadPicture
    (c.q 228)
    (c.q 229)
    (c.d 230)
    (c.d 231)
    (c.d 232)
    (c.q 233)
    (c.q 234)
    (c.d 235)
    (c.d 236)
    (c.d 237)
    xlk_BadGround
    (c.q 238)
    xcr_BadGround
    rv_BadGround
    df_BadGround
    xcc_BadGround
    (c.q 239)
    (c.q 240)
    (c.d 241)
    (c.d 242)
    (c.d 243)
    (c.q 244)
    (c.q 245)
    (c.d 246)
    (c.d 247)
    (c.d 248)
    xlk_BadStanding
    (c.q 249)
    xcr_BadStanding
    rv_BadStanding
    df_BadStanding
    xcc_BadStanding
    (c.q 250)
    (c.q 251)
    (c.d 252)
    (c.d 253)
    (c.d 254)
    (c.q 255)
    (c.q 256)
    (c.d 257)
    (c.d 258)
    (c.d 259)
    xlk_TooMany
    (c.q 260)
    xcr_TooMany
    rv_TooMany
    df_TooMany
    xcc_TooMany
    (c.d 261)
    (c.d 262)
    (by decide +kernel)
    (c.d 263)
    (c.d 264)
    (c.d 265)
    (c.d 266)
    (c.d 267)
    (c.d 268)
    (c.d 269)
    (c.d 270)
    (c.d 271)
    (c.d 272)
    (c.d 273)
    (c.d 274)
    (c.d 275)
    (c.d 276)
    (HB.zw9 (c.fact 277 (f := fun K => HB.intB K "MOST_SIZE" 99) (by kernel_rfl)))
    (HB.zw9 (c.fact 278 (f := fun K => HB.intB K "MOST_PLACE" 1000000) (by kernel_rfl)))
    (HB.zw9 (c.fact 279 (f := fun K => HB.intB K "MOST_COUNT" 100) (by kernel_rfl)))
    (HB.zw9 (c.fact 280 (f := fun K => HB.intB K "MOST_SIDE" 1000) (by kernel_rfl)))
    (HB.zw9 (c.fact 281 (f := fun K => HB.intB K "MOST_STANDINGS" 40000) (by kernel_rfl)))
end M
open PySem PySem.W PySem.Calls PyProof.Rows in
set_option maxRecDepth 100000 in
set_option maxHeartbeats 0 in
theorem PySem.Challenge.cw_moonfall_k65_whole_surveys_holds : PySem.Challenge.rw_moonfall_k65_whole_surveys.Holds := by
  w_on; o_law
  refine HandSHeadRun.head_any (r := OpenLaw.row PySem.Challenge.rw_moonfall_k65_whole_surveys) (q := view (OpenLaw.row PySem.Challenge.rw_moonfall_k65_whole_surveys).prog [48]) (H := M.hkB) (ob := M.obB) (M := 20000) (loose := M.zyw) (d := HandSHeadRun.topDef (OpenLaw.row PySem.Challenge.rw_moonfall_k65_whole_surveys).prog 48) (kwd := []) M.z7a
    (by kernel_rfl) (fun s => by kernel_rfl) M.runB (by kernel_rfl) (by kernel_rfl) (by kernel_rfl) (by rfl) (by first | assumption | decide +kernel) (by decide +kernel) ⟨rfl, rfl, rfl, rfl, rfl, by decide +kernel⟩ ?hw ?hc
  case hw => w_witness2
  case hc =>
    refine HB.zadn (l := PySem.Challenge.rw_moonfall_k65_whole_surveys) (k := 10) (x := "script") rfl (by kernel_rfl) ⟨rfl, by decide, by decide⟩ ?F
    intro w mg fa h Y G hmg0
    obtain ⟨K, KX, c⟩ := Y
    have hmg : mg ("law" : PySem.Str) = some (.ref fa) := by
      have e : (HandSHeadRun.topDef (OpenLaw.row PySem.Challenge.rw_moonfall_k65_whole_surveys).prog 48).name = ("law" : PySem.Str) := by kernel_rfl
      rw [← e]
      exact hmg0
    obtain ⟨fd, hb, hF⟩ := M.zad8 (w := w) KX G hmg c
    exact ⟨K, fd, KX, hb, hF⟩
