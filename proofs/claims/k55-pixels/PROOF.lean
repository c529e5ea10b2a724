import PyProof.Rows.All
import Wide.All
import OpenK.AllK
import Wide.FinOn
import HandS.ForMost
import KE.KStateDown
import KE.KSuper
import HandS.Head0
import HandS.Head1
import HandS.Head2
import HandS.HeadEnd
import HandS.HeadHook1
import HandS.HeadHook2
import HandS.Words
import HandS.ExcSuper
import KE.KExcLine
import KE.RegKSuper
import PySem.Challenge.RW_moonfall_k55_whole_pixels
import KE.KDictKeyed
import HandS.TupAny
import HandS.Style
import KE.SortData
import KE.DataCmp
import KE.DatumOrd
import PyProof.P3In
import HandS.TupLen
import HandS.Iter
import KE.KDictWalk
import HandS.DictComp
import KE.KDictPairs
import HandS.More
import KE.KDictCopyH
import KE.KDictSum
import HandS.Zip
import HandS.IsInst
import KE.GoesMore
import HandS.DictTup
import HandS.Star
import KE.KDictItemsList
import PyProof.Transfer
import HandS.Dict
import PyProof.MaxThree
import PyProof.EqAt
import PyProof.EqKinds
import HandS.Remove
import KE.KDictList
import KE.KDictDisplayH
import PyProof.TupleOfSeq
import HandS.Conv
import HandS.OwnEq
import HandS.TupSets
import HandS.Comp
import HandS.SetFor
import HandS.Strs
import HandS.ForExc
import HandS.ExcField
import KE.KExcInit
import KE.KExcSuper
import HandS.ExcIs
set_option Elab.async false
set_option linter.all false
set_option maxRecDepth 100000
set_option maxHeartbeats 4000000
namespace HB
open PySem PySem.Spec PyProof.Rows L2
/-- a list of addresses worked out ahead -/
def frA {α : Type} : List Addr → (List Addr → α) → α
  | [], k => k []
  | a :: r, k => HandSHeadRun.frNat a fun a => frA r fun r => k (a :: r)
def nx1 (o : Obj) : List Addr := match o.data with
  | .cls cd => [cd.ns]
  | .dict es _ => es.toList.flatMap fun e => He.refV e.val
  | .func fd => He.refV fd.code ++ fd.closure.map (·.2)
  | _ => []
def lv (g : Addr → Option Obj) (as : List Addr) : List Addr := as.flatMap fun a => match g a with
  | some o => nx1 o
  | none => []
def isCl (g : Addr → Option Obj) (a : Addr) : Bool := match g a with
  | some ⟨_, _, .cls _, _⟩ => true
  | _ => false
/-- the classes and what they hold stand first: most looks go there -/
def asB (g : Addr → Option Obj) : List Addr :=
  frA (lv g [mainGlobals]) fun l1 => frA (l1.filter (isCl g)) fun c1 => frA (lv g c1) fun n1 => frA (lv g n1) fun m1 => frA (l1.filter fun a => !isCl g a) fun r1 =>
    [mainGlobals, cStatics] ++ (c1 ++ (n1 ++ (m1 ++ (r1 ++ (lv g m1 ++ lv g r1)))))
def frO {α : Type} (o : Obj) (k : Obj → α) : α := match o with
  | ⟨c, d, dt, sl⟩ => k ⟨c, d, dt, sl⟩
theorem zadp {α : Type} (o : Obj) (k : Obj → α) : frO o k = k o := by cases o; rfl
def frL {α : Type} : PySem.W.Frag → (PySem.W.Frag → α) → α
  | [], k => k []
  | (a, o) :: r, k => HandSHeadRun.frNat a fun a => frO o fun o => frL r fun r => k ((a, o) :: r)
theorem z1c {α : Type} : ∀ (K : PySem.W.Frag) (k : PySem.W.Frag → α), frL K k = k K
  | [], _ => rfl
  | (a, o) :: r, k => by
    show HandSHeadRun.frNat a (fun a => frO o fun o => frL r fun r => k ((a, o) :: r)) = _
    rw [HandSHeadRun.frNat_eq, zadp, z1c r]
structure DefB where
  at_ : Str × Option Str
  name : Str
  qual : Str
  params : Arguments
  body : List Stmt
  scope : Scope
  clo : List Str := []
abbrev FnV : Type := Option (Str × Str × Arguments × FuncBody × Scope × Addr × List Str × Value × Addr)
def fnO (K : PySem.W.Frag) (p : Str × Option Str) : FnV := match K.lookup (He.fAd K p) with
  | some ⟨_, _, .func fd, _⟩ => some (fd.name, fd.qualname, fd.params, fd.body, fd.scope, fd.globals, fd.closure.map (·.1), fd.defaults, fd.builtins)
  | _ => none
def DefB.val (d : DefB) : FnV := some (d.name, d.qual, d.params, .stmts d.body, d.scope, mainGlobals, d.clo, .none, builtinsNs)
/-- the code of a function -/
def cdV (K : PySem.W.Frag) (f : Addr) : Value := match K.lookup f with
  | some ⟨_, _, .func fd, _⟩ => fd.code
  | _ => .none
def cdA (K : PySem.W.Frag) (f : Addr) : Addr := match cdV K f with
  | .ref c => c
  | _ => 0
/-- the first cell of a function -/
def clA (K : PySem.W.Frag) (f : Addr) : Addr := match K.lookup f with
  | some ⟨_, _, .func fd, _⟩ => (match fd.closure with
    | (_, c) :: _ => c
    | _ => 0)
  | _ => 0
theorem zafm {K : PySem.W.Frag} {d : DefB} (hc : d.clo = []) (e : fnO K d.at_ = d.val) :
    ∃ oc od osl kV doc pm an ct, K.lookup (He.fAd K d.at_) = some ⟨oc, od, .func (PySem.W.fnOf d.name d.qual d.params d.body d.scope .none kV doc pm an (cdV K (He.fAd K d.at_)) ct), osl⟩ := by
  unfold fnO at e
  unfold cdV
  cases q : K.lookup (He.fAd K d.at_) with
  | none => rw [q] at e; cases e
  | some o =>
    obtain ⟨oc, od, dt, osl⟩ := o
    rw [q] at e
    cases dt with
    | func fd =>
      obtain ⟨n1, n2, n3, n4, n5, n6, n7, n8, n9, n10, n11, n12, n13, n14, n15⟩ := fd
      have e2 : (some (n1, n2, n3, n4, n5, n6, n7.map (·.1), n8, n15) : FnV) = some (d.name, d.qual, d.params, .stmts d.body, d.scope, mainGlobals, d.clo, .none, builtinsNs) := e
      simp only [Option.some.injEq, Prod.mk.injEq] at e2
      obtain ⟨h1, h2, h3, h4, h5, h6, h7, h8, h9⟩ := e2
      rw [hc] at h7
      have h7' : n7 = [] := by cases n7 with
        | nil => rfl
        | cons a b => cases h7
      subst h1 h2 h3 h4 h5 h6 h7' h8 h9
      exact ⟨oc, od, osl, n9, n10, n11, n12, n14, rfl⟩
    | _ => cases e
theorem zaep {K : PySem.W.Frag} {d : DefB} (hc : d.clo = ([("__class__" : Str)] : List Str)) (e : fnO K d.at_ = d.val) (hr : PySem.W.codeIn K (cdV K (He.fAd K d.at_)) d.qual = true) :
    ∃ oc od osl kV doc pm an ct, K.lookup (He.fAd K d.at_) = some ⟨oc, od, .func (PySem.W.ksFn d.name d.qual d.params d.body d.scope .none kV doc pm an (.ref (cdA K (He.fAd K d.at_))) ct (clA K (He.fAd K d.at_))), osl⟩ := by
  have hr' : cdV K (He.fAd K d.at_) = .ref (cdA K (He.fAd K d.at_)) := by
    unfold cdA
    cases q : cdV K (He.fAd K d.at_) with
    | ref c => rfl
    | _ => rw [q] at hr; cases hr
  rw [← hr']
  unfold fnO at e
  unfold cdV clA
  cases q : K.lookup (He.fAd K d.at_) with
  | none => rw [q] at e; cases e
  | some o =>
    obtain ⟨oc, od, dt, osl⟩ := o
    rw [q] at e
    cases dt with
    | func fd =>
      obtain ⟨n1, n2, n3, n4, n5, n6, n7, n8, n9, n10, n11, n12, n13, n14, n15⟩ := fd
      have e2 : (some (n1, n2, n3, n4, n5, n6, n7.map (·.1), n8, n15) : FnV) = some (d.name, d.qual, d.params, .stmts d.body, d.scope, mainGlobals, d.clo, .none, builtinsNs) := e
      simp only [Option.some.injEq, Prod.mk.injEq] at e2
      obtain ⟨h1, h2, h3, h4, h5, h6, h7, h8, h9⟩ := e2
      rw [hc] at h7
      match n7, h7 with
      | [(x, c)], h7 =>
        have hx : x = "__class__" := by simpa using h7
        subst h1 h2 h3 h4 h5 h6 hx h8 h9
        exact ⟨oc, od, osl, n9, n10, n11, n12, n14, rfl⟩
    | _ => cases e
def decB {α : Type} [DecidableEq α] (a b : α) : Bool := decide (a = b)
theorem zacs {α : Type} [DecidableEq α] {a b : α} (h : decB a b = true) : a = b := of_decide_eq_true h
/-- the code record at a: fields, the third is the file -/
def z9x (K : PySem.W.Frag) (a : Addr) (file : Str) : Bool := match K.lookup a with
  | some ⟨_, _, .fields vs, _⟩ => (match (vs[2]? : Option Value) with
    | some (.str f _) => file == f
    | _ => false)
  | _ => false
theorem zaar {K : PySem.W.Frag} {a : Addr} {file : Str} (h : z9x K a file = true) :
    ∃ (ccl : Value) (cdd : Option Addr) (vs : Array Value) (ccs : Array (Option Value)) (f : Str) (tf : Tok), K.lookup a = some ⟨ccl, cdd, .fields vs, ccs⟩ ∧ vs[2]? = some (.str f tf) ∧ (file == f) = true := by
  unfold z9x at h
  cases q : K.lookup a with
  | none => rw [q] at h; cases h
  | some o =>
    obtain ⟨oc, od, dt, osl⟩ := o
    rw [q] at h
    cases dt with
    | fields vs =>
      have h1 : (match (vs[2]? : Option Value) with
        | some (.str f _) => file == f
        | _ => false) = true := h
      cases e : vs[2]? with
      | none => rw [e] at h1; cases h1
      | some v =>
        rw [e] at h1
        cases v with
        | str f t => exact ⟨oc, od, vs, osl, f, t, rfl, e, h1⟩
        | _ => cases h1
    | _ => cases h
def z92 (K : PySem.W.Frag) (a c : Addr) : Bool := match K.lookup a with
  | some ⟨_, _, .cell (some (.ref b)), _⟩ => Nat.beq b c
  | _ => false
theorem zaab {K : PySem.W.Frag} {a c : Addr} (h : z92 K a c = true) : ∃ (cl : Value) (cld : Option Addr) (csl : Array (Option Value)), K.lookup a = some ⟨cl, cld, .cell (some (.ref c)), csl⟩ := by
  unfold z92 at h
  cases q : K.lookup a with
  | none => rw [q] at h; cases h
  | some o =>
    obtain ⟨oc, od, dt, osl⟩ := o
    rw [q] at h
    cases dt with
    | cell v =>
      cases v with
      | none => cases h
      | some v =>
        cases v with
        | ref b =>
          have e : b = c := Nat.eq_of_beq_eq_true h
          subst e
          exact ⟨oc, od, osl, rfl⟩
        | _ => cases h
    | _ => cases h
def intB (K : PySem.W.Frag) (x : Str) (i : Int) : Bool := match PySem.W.nsIn K mainGlobals x with
  | some (some (.int j _)) => decide (j = i)
  | _ => false
theorem zui {K : PySem.W.Frag} {x : Str} {i : Int} (h : intB K x i = true) : ∃ t, PySem.W.nsIn K mainGlobals x = some (some (.int i t)) := by
  unfold intB at h
  split at h
  · rename_i j t e
    have := of_decide_eq_true h
    subst this
    exact ⟨t, e⟩
  · cases h
abbrev Fs : Type := List (PySem.W.Frag → Bool)
abbrev Al : Type := Bool × List FnV
def obsB (fs : Fs) (fn : List DefB) (K : PySem.W.Frag) : Al := (fs.all fun f => f K, fn.map fun d => fnO K d.at_)
def valB (fn : List DefB) : Al := (true, fn.map DefB.val)
def zabl (fs : Fs) (fn : List DefB) (g : Addr → Option Obj) : Al := frL (He.frG g (asB g)) (obsB fs fn)
def zsm (fs : Fs) (fn : List DefB) (K : PySem.W.Frag) : Prop := obsB fs fn K = valB fn
def zvx (fs : Fs) (fn : List DefB) : PySem.W.Hook where
  α := Al
  obs := fun s => zabl fs fn s.heap.get?
  val := fun _ => valB fn
  says := fun _ h => ∃ K : PySem.W.Frag, K.In h ∧ zsm fs fn K
  of := fun _ _ e => ⟨_, He.frG_in, (z1c _ _).symm.trans e⟩
  keeps := fun _ _ _ ⟨K, hK, c⟩ k => ⟨K, PySem.W.Frag.In.keeps hK k, c⟩
theorem z9b {fs : Fs} {fn : List DefB} {g : Addr → Option Obj} {s : Shared} (h : ∀ a, g a = s.heap.get? a) : zabl fs fn g = (zvx fs fn).obs s := by
  have e : g = s.heap.get? := funext h
  rw [e] <;> rfl
theorem zsm.fact {fs : Fs} {fn : List DefB} {K : PySem.W.Frag} (c : zsm fs fn K) (i : Nat) {f : PySem.W.Frag → Bool} (h : fs[i]? = some f) : f K = true :=
  List.all_eq_true.mp (show (fs.all fun f => f K) = true from congrArg (fun z : Al => z.1) c) f (List.mem_of_getElem? h)
theorem zsm.fn {fs : Fs} {fn : List DefB} {K : PySem.W.Frag} (c : zsm fs fn K) (i : Nat) {d : DefB} (h : fn[i]? = some d) : fnO K d.at_ = d.val := by
  have e : fn.map (fun d => fnO K d.at_) = fn.map DefB.val := congrArg (fun z : Al => z.2) c
  have e2 : (fn.map fun d => fnO K d.at_)[i]? = (fn.map DefB.val)[i]? := by rw [e]
  rw [List.getElem?_map, List.getElem?_map, h] at e2
  exact Option.some.inj e2
theorem zsm.q {fs : Fs} {fn : List DefB} {K : PySem.W.Frag} {b : Bool} (c : zsm fs fn K) (i : Nat) (h : (fs[i]?.map fun f => f K) = some b := by kernel_rfl) : b = true := by
  cases e : fs[i]? with
  | none => rw [e] at h; cases h
  | some f =>
    rw [e] at h
    rw [← Option.some.inj h]
    exact c.fact i e
theorem zsm.d {α : Type} [DecidableEq α] {fs : Fs} {fn : List DefB} {K : PySem.W.Frag} {x y : α} (c : zsm fs fn K) (i : Nat) (h : (fs[i]?.map fun f => f K) = some (decB x y) := by kernel_rfl) : x = y := zacs (c.q i h)
theorem zsm.f {fs : Fs} {fn : List DefB} {K : PySem.W.Frag} (c : zsm fs fn K) (d : DefB) (i : Nat) (hc : d.clo = [] := by rfl) (h : fn[i]? = some d := by kernel_rfl) :
    ∃ oc od osl kV doc pm an ct, K.lookup (He.fAd K d.at_) = some ⟨oc, od, .func (PySem.W.fnOf d.name d.qual d.params d.body d.scope .none kV doc pm an (cdV K (He.fAd K d.at_)) ct), osl⟩ := zafm hc (c.fn i h)
/-- the run, looked at piece by piece -/
def obB (fs : Fs) (fn : List DefB) (s : PySem.W.SharedT) : Al := zabl fs fn (HandSHeadRun.getT s)
theorem z8a (fs : Fs) (fn : List DefB) (s : PySem.W.SharedT) : obB fs fn s = (zvx fs fn).obs s.abs := z9b (HandSHeadRun.getT_eq s)
theorem z1r {r : PySem.W.OpenRow} {q : Program} {M : Nat} {loose : List Str} {w : World} {f1 f2 : Fs} {n1 n2 : List DefB} (h1 : HandSHeadRun.RunEq r q (zvx f1 n1) (obB f1 n1) M loose w) (h2 : HandSHeadRun.RunEq r q (zvx f2 n2) (obB f2 n2) M loose w) : HandSHeadRun.RunEq r q (zvx (f1 ++ f2) (n1 ++ n2)) (obB (f1 ++ f2) (n1 ++ n2)) M loose w := by
  intro os
  have a := h1 os
  have b := h2 os
  revert a b
  generalize HandSHeadRun.endF _ _ _ _ _ = e
  intro a b
  cases e with
  | none => cases a
  | some s =>
    have a := Option.some.inj a
    have b := Option.some.inj b
    injection a with a1 a2
    injection a2 with a2 a3
    injection b with _ b2
    injection b2 with _ b3
    have e1 : obsB f1 n1 (He.frG (HandSHeadRun.getT s) (asB (HandSHeadRun.getT s))) = valB n1 := (z1c _ _).symm.trans a3
    have e2 : obsB f2 n2 (He.frG (HandSHeadRun.getT s) (asB (HandSHeadRun.getT s))) = valB n2 := (z1c _ _).symm.trans b3
    have e3 : obB (f1 ++ f2) (n1 ++ n2) s = valB (n1 ++ n2) := by
      show frL _ _ = _
      rw [z1c]
      unfold obsB valB at e1 e2 ⊢
      injection e1 with p1 p2
      injection e2 with q1 q2
      rw [List.all_append, p1, q1, List.map_append, List.map_append, p2, q2]
      rfl
    exact congrArg some (Prod.ext a1 (Prod.ext a2 e3))
end HB
namespace DL
open PySem PySem.Spec PyProof.Rows L2
end DL
namespace M
open PySem PySem.Spec PyProof.Rows L2 DL
def top (i : Nat) : Stmt := PySem.Challenge.pw_moonfall_k55_whole_pixels.main.body.getD i (.Pass ⟨0, 0, 0, 0⟩)
abbrev zbs : Stmt := top 43
abbrev zck : Stmt := top 53
abbrev zdy : Stmt := top 13
abbrev zdw : Stmt := top 14
abbrev zai : Stmt := inClass (top 16) 0
abbrev zap : Stmt := inClass (top 18) 0
abbrev zaj : Stmt := inClass (top 17) 0
abbrev zdl : Stmt := top 22
abbrev zig : Stmt := top 23
abbrev zb2 : Stmt := top 20
abbrev zab : Stmt := top 20
abbrev za5 : Stmt := top 21
abbrev zen : Stmt := top 25
abbrev zfu : Stmt := top 24
abbrev zcj : Stmt := top 26
abbrev zaf : Stmt := top 26
abbrev zbr : Stmt := top 40
abbrev zc2 : Stmt := top 41
abbrev zby : Stmt := top 52
abbrev za9 : Stmt := top 51
abbrev zg4 : Stmt := top 15
abbrev zc3 : Stmt := inClass (top 18) 5
abbrev zbz : Stmt := inClass (top 18) 6
abbrev zdx : Stmt := top 34
abbrev zdh : Stmt := top 35
abbrev zii : Stmt := top 29
abbrev zc4 : Stmt := top 28
abbrev zdi : Stmt := top 30
abbrev za8 : Stmt := top 32
abbrev zad : Stmt := inClass (top 17) 3
abbrev zas : Stmt := inClass (top 17) 4
abbrev z6 : Stmt := inClass (top 18) 7
abbrev zb0 : Stmt := top 36
abbrev zca : Stmt := top 31
abbrev zes : Stmt := top 38
abbrev zm6 : Stmt := top 37
abbrev zcm : Stmt := top 54
abbrev zbj : Stmt := top 49
abbrev zcn : Stmt := top 50
abbrev zac : Stmt := top 55
abbrev znb : Stmt := top 56
def dB0 : HB.DefB := ⟨(("_law_unlike", none)), "_law_unlike", "_law_unlike", defArgs zbs, defBody zbs, defScope zbs, []⟩
def dB1 : HB.DefB := ⟨(("_law_rows", none)), "_law_rows", "_law_rows", defArgs zck, defBody zck, defScope zck, []⟩
def dB2 : HB.DefB := ⟨(("is_whole", none)), "is_whole", "is_whole", defArgs zdy, defBody zdy, defScope zdy, []⟩
def dB3 : HB.DefB := ⟨(("is_point", none)), "is_point", "is_point", defArgs zdw, defBody zdw, defScope zdw, []⟩
def dB4 : HB.DefB := ⟨(("Ground", some "__init__")), "__init__", "Ground.__init__", defArgs zai, defBody zai, defScope zai, []⟩
def dB5 : HB.DefB := ⟨(("Sky", some "__init__")), "__init__", "Sky.__init__", defArgs zap, defBody zap, defScope zap, []⟩
def dB6 : HB.DefB := ⟨(("Camera", some "__init__")), "__init__", "Camera.__init__", defArgs zaj, defBody zaj, defScope zaj, []⟩
def dB7 : HB.DefB := ⟨(("nexts_to", none)), "nexts_to", "nexts_to", defArgs zdl, defBody zdl, defScope zdl, []⟩
def dB8 : HB.DefB := ⟨(("blobs", none)), "blobs", "blobs", defArgs zig, defBody zig, defScope zig, []⟩
def dB9 : HB.DefB := ⟨(("check_rows", none)), "check_rows", "check_rows", defArgs zb2, defBody zb2, defScope zb2, []⟩
def dB10 : HB.DefB := ⟨(("check_rows", none)), "check_rows", "check_rows", defArgs zab, defBody zab, defScope zab, []⟩
def dB11 : HB.DefB := ⟨(("bright_cells", none)), "bright_cells", "bright_cells", defArgs za5, defBody za5, defScope za5, []⟩
def dB12 : HB.DefB := ⟨(("size_by", none)), "size_by", "size_by", defArgs zen, defBody zen, defScope zen, []⟩
def dB13 : HB.DefB := ⟨(("middle", none)), "middle", "middle", defArgs zfu, defBody zfu, defScope zfu, []⟩
def dB14 : HB.DefB := ⟨(("picture_of", none)), "picture_of", "picture_of", defArgs zcj, defBody zcj, defScope zcj, []⟩
def dB15 : HB.DefB := ⟨(("picture_of", none)), "picture_of", "picture_of", defArgs zaf, defBody zaf, defScope zaf, []⟩
def dB16 : HB.DefB := ⟨(("_law_number", none)), "_law_number", "_law_number", defArgs zbr, defBody zbr, defScope zbr, []⟩
def dB17 : HB.DefB := ⟨(("_law_take", none)), "_law_take", "_law_take", defArgs zc2, defBody zc2, defScope zc2, []⟩
def dB18 : HB.DefB := ⟨(("_law_touch", none)), "_law_touch", "_law_touch", defArgs zby, defBody zby, defScope zby, []⟩
def dB19 : HB.DefB := ⟨(("_law_group", none)), "_law_group", "_law_group", defArgs za9, defBody za9, defScope za9, []⟩
def dB20 : HB.DefB := ⟨(("turned", none)), "turned", "turned", defArgs zg4, defBody zg4, defScope zg4, []⟩
def dB21 : HB.DefB := ⟨(("Sky", some "place")), "place", "Sky.place", defArgs zc3, defBody zc3, defScope zc3, []⟩
def dB22 : HB.DefB := ⟨(("Sky", some "places")), "places", "Sky.places", defArgs zbz, defBody zbz, defScope zbz, []⟩
def dB23 : HB.DefB := ⟨(("are_near", none)), "are_near", "are_near", defArgs zdx, defBody zdx, defScope zdx, []⟩
def dB24 : HB.DefB := ⟨(("nexts_of", none)), "nexts_of", "nexts_of", defArgs zdh, defBody zdh, defScope zdh, []⟩
def dB25 : HB.DefB := ⟨(("along", none)), "along", "along", defArgs zii, defBody zii, defScope zii, []⟩
def dB26 : HB.DefB := ⟨(("augmented", none)), "augmented", "augmented", defArgs zc4, defBody zc4, defScope zc4, []⟩
def dB27 : HB.DefB := ⟨(("greatest", none)), "greatest", "greatest", defArgs zdi, defBody zdi, defScope zdi, []⟩
def dB28 : HB.DefB := ⟨(("turned_round", none)), "turned_round", "turned_round", defArgs za8, defBody za8, defScope za8, []⟩
def dB29 : HB.DefB := ⟨(("Camera", some "is_within")), "is_within", "Camera.is_within", defArgs zad, defBody zad, defScope zad, []⟩
def dB30 : HB.DefB := ⟨(("Camera", some "is_sure")), "is_sure", "Camera.is_sure", defArgs zas, defBody zas, defScope zas, []⟩
def dB31 : HB.DefB := ⟨(("Sky", some "sure_craters")), "sure_craters", "Sky.sure_craters", defArgs z6, defBody z6, defScope z6, []⟩
def dB32 : HB.DefB := ⟨(("sure_nexts", none)), "sure_nexts", "sure_nexts", defArgs zb0, defBody zb0, defScope zb0, []⟩
def dB33 : HB.DefB := ⟨(("short_lot", none)), "short_lot", "short_lot", defArgs zca, defBody zca, defScope zca, []⟩
def dB34 : HB.DefB := ⟨(("against", none)), "against", "against", defArgs zes, defBody zes, defScope zes, []⟩
def dB35 : HB.DefB := ⟨(("fits", none)), "fits", "fits", defArgs zm6, defBody zm6, defScope zm6, []⟩
def dB36 : HB.DefB := ⟨(("_law_blob", none)), "_law_blob", "_law_blob", defArgs zcm, defBody zcm, defScope zcm, []⟩
def dB37 : HB.DefB := ⟨(("_law_shares", none)), "_law_shares", "_law_shares", defArgs zbj, defBody zbj, defScope zbj, []⟩
def dB38 : HB.DefB := ⟨(("_law_fits", none)), "_law_fits", "_law_fits", defArgs zcn, defBody zcn, defScope zcn, []⟩
def dB39 : HB.DefB := ⟨(("_law_blobs_right", none)), "_law_blobs_right", "_law_blobs_right", defArgs zac, defBody zac, defScope zac, []⟩
def dB40 : HB.DefB := ⟨(("law", none)), "law", "law", defArgs znb, defBody znb, defScope znb, []⟩
def dB41 : HB.DefB := ⟨("BadPicture", some "__init__"), "__init__", "BadPicture.__init__", defArgs (inClass (top 6) 0), defBody (inClass (top 6) 0), defScope (inClass (top 6) 0), ["__class__"]⟩
def fsB0 : HB.Fs := [
  fun K => PySem.W.codeIn K (HB.cdV K (He.fAd K ("BadPicture", some "__init__"))) "BadPicture.__init__",
  fun K => HB.z9x K (HB.cdA K (He.fAd K ("BadPicture", some "__init__"))) (PySem.Challenge.rw_moonfall_k55_whole_pixels.prog.main.file : Str),
  fun K => HB.z92 K (HB.clA K (He.fAd K ("BadPicture", some "__init__"))) (He.ga K "BadPicture"),
  fun K => HB.decB (PySem.W.nsIn K mainGlobals "BadPicture") (some (some (.ref (He.ga K "BadPicture")))),
  fun K => HB.decB (PySem.W.nsIn K mainGlobals "Ground") (some (some (.ref (He.ga K "Ground")))),
  fun K => HB.decB (PySem.W.nsIn K mainGlobals "Camera") (some (some (.ref (He.ga K "Camera")))),
  fun K => HB.decB (PySem.W.nsIn K mainGlobals "Sky") (some (some (.ref (He.ga K "Sky")))),
  fun K => HB.decB (PySem.W.nsIn K mainGlobals "_law_unlike") (some (some (.ref (He.fAd K ("_law_unlike", none))))),
  fun K => PySem.W.codeIn K (HB.cdV K (He.fAd K ("_law_unlike", none))) "_law_unlike",
  fun K => PySem.W.keepIn K (.ref (He.fAd K ("_law_unlike", none))),
  fun K => HB.decB (PySem.W.nsIn K mainGlobals "_law_rows") (some (some (.ref (He.fAd K ("_law_rows", none))))),
  fun K => PySem.W.codeIn K (HB.cdV K (He.fAd K ("_law_rows", none))) "_law_rows",
  fun K => PySem.W.keepIn K (.ref (He.fAd K ("_law_rows", none))),
  fun K => HB.decB (PySem.W.nsIn K mainGlobals "is_whole") (some (some (.ref (He.fAd K ("is_whole", none))))),
  fun K => PySem.W.codeIn K (HB.cdV K (He.fAd K ("is_whole", none))) "is_whole",
  fun K => PySem.W.keepIn K (.ref (He.fAd K ("is_whole", none))),
  fun K => HB.decB (PySem.W.nsIn K mainGlobals "is_point") (some (some (.ref (He.fAd K ("is_point", none))))),
  fun K => PySem.W.codeIn K (HB.cdV K (He.fAd K ("is_point", none))) "is_point",
  fun K => PySem.W.keepIn K (.ref (He.fAd K ("is_point", none))),
  fun K => HB.decB (PySem.W.findIn K (.ref (He.ga K "Ground")) "__init__") (some (some (.ref (He.fAd K ("Ground", some "__init__"))))),
  fun K => PySem.W.isFn K (.ref (He.fAd K ("Ground", some "__init__"))),
  fun K => PySem.W.codeIn K (HB.cdV K (He.fAd K ("Ground", some "__init__"))) "Ground.__init__",
  fun K => PySem.W.keepIn K (.ref (He.fAd K ("Ground", some "__init__"))),
  fun K => HB.decB (PySem.W.findIn K (.ref (He.ga K "Sky")) "__init__") (some (some (.ref (He.fAd K ("Sky", some "__init__"))))),
  fun K => PySem.W.isFn K (.ref (He.fAd K ("Sky", some "__init__"))),
  fun K => PySem.W.codeIn K (HB.cdV K (He.fAd K ("Sky", some "__init__"))) "Sky.__init__",
  fun K => PySem.W.keepIn K (.ref (He.fAd K ("Sky", some "__init__"))),
  fun K => HB.decB (PySem.W.findIn K (.ref (He.ga K "Camera")) "__init__") (some (some (.ref (He.fAd K ("Camera", some "__init__"))))),
  fun K => PySem.W.isFn K (.ref (He.fAd K ("Camera", some "__init__"))),
  fun K => PySem.W.codeIn K (HB.cdV K (He.fAd K ("Camera", some "__init__"))) "Camera.__init__"]
def fsB1 : HB.Fs := [
  fun K => PySem.W.keepIn K (.ref (He.fAd K ("Camera", some "__init__"))),
  fun K => HB.decB (PySem.W.nsIn K mainGlobals "nexts_to") (some (some (.ref (He.fAd K ("nexts_to", none))))),
  fun K => PySem.W.codeIn K (HB.cdV K (He.fAd K ("nexts_to", none))) "nexts_to",
  fun K => PySem.W.keepIn K (.ref (He.fAd K ("nexts_to", none))),
  fun K => HB.decB (PySem.W.nsIn K mainGlobals "blobs") (some (some (.ref (He.fAd K ("blobs", none))))),
  fun K => PySem.W.codeIn K (HB.cdV K (He.fAd K ("blobs", none))) "blobs",
  fun K => PySem.W.keepIn K (.ref (He.fAd K ("blobs", none))),
  fun K => HB.decB (PySem.W.nsIn K mainGlobals "check_rows") (some (some (.ref (He.fAd K ("check_rows", none))))),
  fun K => PySem.W.codeIn K (HB.cdV K (He.fAd K ("check_rows", none))) "check_rows",
  fun K => PySem.W.keepIn K (.ref (He.fAd K ("check_rows", none))),
  fun K => HB.decB (PySem.W.nsIn K mainGlobals "bright_cells") (some (some (.ref (He.fAd K ("bright_cells", none))))),
  fun K => PySem.W.codeIn K (HB.cdV K (He.fAd K ("bright_cells", none))) "bright_cells",
  fun K => PySem.W.keepIn K (.ref (He.fAd K ("bright_cells", none))),
  fun K => HB.decB (PySem.W.nsIn K mainGlobals "size_by") (some (some (.ref (He.fAd K ("size_by", none))))),
  fun K => PySem.W.codeIn K (HB.cdV K (He.fAd K ("size_by", none))) "size_by",
  fun K => PySem.W.keepIn K (.ref (He.fAd K ("size_by", none))),
  fun K => HB.decB (PySem.W.nsIn K mainGlobals "middle") (some (some (.ref (He.fAd K ("middle", none))))),
  fun K => PySem.W.codeIn K (HB.cdV K (He.fAd K ("middle", none))) "middle",
  fun K => PySem.W.keepIn K (.ref (He.fAd K ("middle", none))),
  fun K => HB.decB (PySem.W.nsIn K mainGlobals "picture_of") (some (some (.ref (He.fAd K ("picture_of", none))))),
  fun K => PySem.W.codeIn K (HB.cdV K (He.fAd K ("picture_of", none))) "picture_of",
  fun K => PySem.W.keepIn K (.ref (He.fAd K ("picture_of", none))),
  fun K => HB.decB (PySem.W.nsIn K mainGlobals "_law_number") (some (some (.ref (He.fAd K ("_law_number", none))))),
  fun K => PySem.W.codeIn K (HB.cdV K (He.fAd K ("_law_number", none))) "_law_number",
  fun K => PySem.W.keepIn K (.ref (He.fAd K ("_law_number", none))),
  fun K => HB.decB (PySem.W.nsIn K mainGlobals "_law_take") (some (some (.ref (He.fAd K ("_law_take", none))))),
  fun K => PySem.W.codeIn K (HB.cdV K (He.fAd K ("_law_take", none))) "_law_take",
  fun K => PySem.W.keepIn K (.ref (He.fAd K ("_law_take", none))),
  fun K => HB.decB (PySem.W.nsIn K mainGlobals "_law_touch") (some (some (.ref (He.fAd K ("_law_touch", none))))),
  fun K => PySem.W.codeIn K (HB.cdV K (He.fAd K ("_law_touch", none))) "_law_touch"]
def fsB2 : HB.Fs := [
  fun K => PySem.W.keepIn K (.ref (He.fAd K ("_law_touch", none))),
  fun K => HB.decB (PySem.W.nsIn K mainGlobals "_law_group") (some (some (.ref (He.fAd K ("_law_group", none))))),
  fun K => PySem.W.codeIn K (HB.cdV K (He.fAd K ("_law_group", none))) "_law_group",
  fun K => PySem.W.keepIn K (.ref (He.fAd K ("_law_group", none))),
  fun K => HB.decB (PySem.W.nsIn K mainGlobals "turned") (some (some (.ref (He.fAd K ("turned", none))))),
  fun K => PySem.W.codeIn K (HB.cdV K (He.fAd K ("turned", none))) "turned",
  fun K => PySem.W.keepIn K (.ref (He.fAd K ("turned", none))),
  fun K => HB.decB (PySem.W.findIn K (.ref (He.ga K "Sky")) "place") (some (some (.ref (He.fAd K ("Sky", some "place"))))),
  fun K => PySem.W.isFn K (.ref (He.fAd K ("Sky", some "place"))),
  fun K => PySem.W.codeIn K (HB.cdV K (He.fAd K ("Sky", some "place"))) "Sky.place",
  fun K => PySem.W.keepIn K (.ref (He.fAd K ("Sky", some "place"))),
  fun K => HB.decB (PySem.W.findIn K (.ref (He.ga K "Sky")) "places") (some (some (.ref (He.fAd K ("Sky", some "places"))))),
  fun K => PySem.W.isFn K (.ref (He.fAd K ("Sky", some "places"))),
  fun K => PySem.W.codeIn K (HB.cdV K (He.fAd K ("Sky", some "places"))) "Sky.places",
  fun K => PySem.W.keepIn K (.ref (He.fAd K ("Sky", some "places"))),
  fun K => HB.decB (PySem.W.nsIn K mainGlobals "are_near") (some (some (.ref (He.fAd K ("are_near", none))))),
  fun K => PySem.W.codeIn K (HB.cdV K (He.fAd K ("are_near", none))) "are_near",
  fun K => PySem.W.keepIn K (.ref (He.fAd K ("are_near", none))),
  fun K => HB.decB (PySem.W.nsIn K mainGlobals "nexts_of") (some (some (.ref (He.fAd K ("nexts_of", none))))),
  fun K => PySem.W.codeIn K (HB.cdV K (He.fAd K ("nexts_of", none))) "nexts_of",
  fun K => PySem.W.keepIn K (.ref (He.fAd K ("nexts_of", none))),
  fun K => HB.decB (PySem.W.nsIn K mainGlobals "along") (some (some (.ref (He.fAd K ("along", none))))),
  fun K => PySem.W.codeIn K (HB.cdV K (He.fAd K ("along", none))) "along",
  fun K => PySem.W.keepIn K (.ref (He.fAd K ("along", none))),
  fun K => HB.decB (PySem.W.nsIn K mainGlobals "augmented") (some (some (.ref (He.fAd K ("augmented", none))))),
  fun K => PySem.W.codeIn K (HB.cdV K (He.fAd K ("augmented", none))) "augmented",
  fun K => PySem.W.keepIn K (.ref (He.fAd K ("augmented", none))),
  fun K => HB.decB (PySem.W.nsIn K mainGlobals "greatest") (some (some (.ref (He.fAd K ("greatest", none))))),
  fun K => PySem.W.codeIn K (HB.cdV K (He.fAd K ("greatest", none))) "greatest",
  fun K => PySem.W.keepIn K (.ref (He.fAd K ("greatest", none)))]
def fsB3 : HB.Fs := [
  fun K => HB.decB (PySem.W.nsIn K mainGlobals "turned_round") (some (some (.ref (He.fAd K ("turned_round", none))))),
  fun K => PySem.W.codeIn K (HB.cdV K (He.fAd K ("turned_round", none))) "turned_round",
  fun K => PySem.W.keepIn K (.ref (He.fAd K ("turned_round", none))),
  fun K => HB.decB (PySem.W.findIn K (.ref (He.ga K "Camera")) "is_within") (some (some (.ref (He.fAd K ("Camera", some "is_within"))))),
  fun K => PySem.W.isFn K (.ref (He.fAd K ("Camera", some "is_within"))),
  fun K => PySem.W.codeIn K (HB.cdV K (He.fAd K ("Camera", some "is_within"))) "Camera.is_within",
  fun K => PySem.W.keepIn K (.ref (He.fAd K ("Camera", some "is_within"))),
  fun K => HB.decB (PySem.W.findIn K (.ref (He.ga K "Camera")) "is_sure") (some (some (.ref (He.fAd K ("Camera", some "is_sure"))))),
  fun K => PySem.W.isFn K (.ref (He.fAd K ("Camera", some "is_sure"))),
  fun K => PySem.W.codeIn K (HB.cdV K (He.fAd K ("Camera", some "is_sure"))) "Camera.is_sure",
  fun K => PySem.W.keepIn K (.ref (He.fAd K ("Camera", some "is_sure"))),
  fun K => HB.decB (PySem.W.findIn K (.ref (He.ga K "Sky")) "sure_craters") (some (some (.ref (He.fAd K ("Sky", some "sure_craters"))))),
  fun K => PySem.W.isFn K (.ref (He.fAd K ("Sky", some "sure_craters"))),
  fun K => PySem.W.codeIn K (HB.cdV K (He.fAd K ("Sky", some "sure_craters"))) "Sky.sure_craters",
  fun K => PySem.W.keepIn K (.ref (He.fAd K ("Sky", some "sure_craters"))),
  fun K => HB.decB (PySem.W.nsIn K mainGlobals "sure_nexts") (some (some (.ref (He.fAd K ("sure_nexts", none))))),
  fun K => PySem.W.codeIn K (HB.cdV K (He.fAd K ("sure_nexts", none))) "sure_nexts",
  fun K => PySem.W.keepIn K (.ref (He.fAd K ("sure_nexts", none))),
  fun K => HB.decB (PySem.W.nsIn K mainGlobals "short_lot") (some (some (.ref (He.fAd K ("short_lot", none))))),
  fun K => PySem.W.codeIn K (HB.cdV K (He.fAd K ("short_lot", none))) "short_lot",
  fun K => PySem.W.keepIn K (.ref (He.fAd K ("short_lot", none))),
  fun K => HB.decB (PySem.W.nsIn K mainGlobals "against") (some (some (.ref (He.fAd K ("against", none))))),
  fun K => PySem.W.codeIn K (HB.cdV K (He.fAd K ("against", none))) "against",
  fun K => PySem.W.keepIn K (.ref (He.fAd K ("against", none))),
  fun K => HB.decB (PySem.W.nsIn K mainGlobals "fits") (some (some (.ref (He.fAd K ("fits", none))))),
  fun K => PySem.W.codeIn K (HB.cdV K (He.fAd K ("fits", none))) "fits",
  fun K => PySem.W.keepIn K (.ref (He.fAd K ("fits", none))),
  fun K => HB.decB (PySem.W.nsIn K mainGlobals "_law_blob") (some (some (.ref (He.fAd K ("_law_blob", none))))),
  fun K => PySem.W.codeIn K (HB.cdV K (He.fAd K ("_law_blob", none))) "_law_blob",
  fun K => PySem.W.keepIn K (.ref (He.fAd K ("_law_blob", none)))]
def fsB4 : HB.Fs := [
  fun K => HB.decB (PySem.W.nsIn K mainGlobals "_law_shares") (some (some (.ref (He.fAd K ("_law_shares", none))))),
  fun K => PySem.W.codeIn K (HB.cdV K (He.fAd K ("_law_shares", none))) "_law_shares",
  fun K => PySem.W.keepIn K (.ref (He.fAd K ("_law_shares", none))),
  fun K => HB.decB (PySem.W.nsIn K mainGlobals "_law_fits") (some (some (.ref (He.fAd K ("_law_fits", none))))),
  fun K => PySem.W.codeIn K (HB.cdV K (He.fAd K ("_law_fits", none))) "_law_fits",
  fun K => PySem.W.keepIn K (.ref (He.fAd K ("_law_fits", none))),
  fun K => HB.decB (PySem.W.nsIn K mainGlobals "_law_blobs_right") (some (some (.ref (He.fAd K ("_law_blobs_right", none))))),
  fun K => PySem.W.codeIn K (HB.cdV K (He.fAd K ("_law_blobs_right", none))) "_law_blobs_right",
  fun K => PySem.W.keepIn K (.ref (He.fAd K ("_law_blobs_right", none))),
  fun K => HB.decB (PySem.W.nsIn K mainGlobals "law") (some (some (.ref (He.fAd K ("law", none))))),
  fun K => PySem.W.codeIn K (HB.cdV K (He.fAd K ("law", none))) "law",
  fun K => PySem.W.keepIn K (.ref (He.fAd K ("law", none))),
  fun K => PySem.W.plainGet K (He.ga K "Ground") Str.empty,
  fun K => PySem.W.hasDictIn K (He.ga K "Ground"),
  fun K => PySem.W.plainOver K (He.ga K "Ground"),
  fun K => HB.decB (PySem.W.findIn K (.ref (He.ga K "Ground")) "__setattr__") (some (some (.builtin "object.__setattr__"))),
  fun K => HB.decB (PySem.W.findIn K (.ref (He.ga K "Ground")) "__class__") (some (some (.builtin "object.__class__"))),
  fun K => HB.decB (PySem.W.mroIn K (He.ga K "Ground") (.type "object")) (some true),
  fun K => PySem.W.makesIn K (He.ga K "Ground"),
  fun K => PySem.W.keepIn K (.ref (He.ga K "Ground")),
  fun K => PySem.W.plainGet K (He.ga K "Camera") Str.empty,
  fun K => PySem.W.hasDictIn K (He.ga K "Camera"),
  fun K => PySem.W.plainOver K (He.ga K "Camera"),
  fun K => HB.decB (PySem.W.findIn K (.ref (He.ga K "Camera")) "__setattr__") (some (some (.builtin "object.__setattr__"))),
  fun K => PySem.W.makesIn K (He.ga K "Camera"),
  fun K => PySem.W.keepIn K (.ref (He.ga K "Camera")),
  fun K => PySem.W.plainGet K (He.ga K "Sky") Str.empty,
  fun K => PySem.W.hasDictIn K (He.ga K "Sky"),
  fun K => PySem.W.plainOver K (He.ga K "Sky"),
  fun K => HB.decB (PySem.W.findIn K (.ref (He.ga K "Sky")) "__setattr__") (some (some (.builtin "object.__setattr__")))]
def fsB5 : HB.Fs := [
  fun K => PySem.W.makesIn K (He.ga K "Sky"),
  fun K => PySem.W.keepIn K (.ref (He.ga K "Sky")),
  fun K => HB.decB (PySem.W.specialIn K (.builtin "object.__class__") "__get__") (some (some (.builtin "getset_descriptor.__get__"))),
  fun K => HB.decB (PySem.W.takesIn K (.builtin "object.__class__")) (some true),
  fun K => HB.decB (PySem.W.findIn K (.ref (He.ga K "Ground")) "craters") (some none),
  fun K => HB.decB (PySem.W.findIn K (.ref (He.ga K "Sky")) "ground") (some none),
  fun K => HB.decB (PySem.W.findIn K (.ref (He.ga K "Sky")) "camera") (some none),
  fun K => HB.decB (PySem.W.findIn K (.ref (He.ga K "Sky")) "turns") (some none),
  fun K => HB.decB (PySem.W.findIn K (.ref (He.ga K "Sky")) "area") (some none),
  fun K => HB.decB (PySem.W.findIn K (.ref (He.ga K "Camera")) "width") (some none),
  fun K => HB.decB (PySem.W.findIn K (.ref (He.ga K "Camera")) "height") (some none),
  fun K => HB.decB (PySem.W.findIn K (.ref (He.ga K "Camera")) "error") (some none),
  fun K => HB.decB (PySem.W.findIn K (.ref (He.ga K "Camera")) "false") (some none),
  fun K => HB.decB (PySem.W.findIn K (.ref (He.ga K "Camera")) "lost") (some none),
  fun K => PySem.W.hasDictIn K (He.ga K "BadPicture"),
  fun K => HB.decB (PySem.W.subIn K (.ref (He.ga K "BadPicture")) (.type "BaseException")) (some true),
  fun K => HB.decB (PySem.W.typeIn K (.ref (He.ga K "BadPicture"))) (some (.type "type")),
  fun K => HB.decB (PySem.W.findIn K (.ref (He.ga K "BadPicture")) "__getattribute__") (some (some (.builtin "BaseException.__getattribute__"))),
  fun K => HB.decB (PySem.W.findIn K (.ref (He.ga K "BadPicture")) "__getattr__") (some none),
  fun K => HB.decB (PySem.W.subIn K (.ref (He.ga K "BadPicture")) (.ref (He.ga K "BadPicture"))) (some true),
  fun K => HB.decB (PySem.W.findIn K (.ref (He.ga K "BadPicture")) "number") (some none),
  fun K => PySem.W.excInitIn K (He.ga K "BadPicture") PySem.ESX.exTail "Exception.__new__",
  fun K => PySem.W.excOver K (He.ga K "BadPicture") PySem.ESX.exTail,
  fun K => HB.decB (PySem.W.takerIn K (He.ga K "BadPicture") "number") (some none),
  fun K => HB.decB (PySem.W.findIn K (.ref (He.ga K "BadPicture")) "__setattr__") (some (some (.builtin "object.__setattr__"))),
  fun K => HB.decB (PySem.W.findIn K (.ref (He.ga K "BadPicture")) "__init__") (some (some (.ref (He.fAd K ("BadPicture", some "__init__"))))),
  fun K => PySem.W.isFn K (.ref (He.fAd K ("BadPicture", some "__init__"))),
  fun K => PySem.W.keepIn K (.ref (He.ga K "BadPicture")),
  fun K => HB.decB (PySem.W.subIn K (.ref (He.ga K "BadPicture")) (.type "Exception")) (some true),
  fun K => HB.decB (PySem.W.mroIn K (He.ga K "BadPicture") (.ref (He.ga K "BadPicture"))) (some true)]
def fsB6 : HB.Fs := [
  fun K => HB.decB (PySem.W.ks_superIn K (He.ga K "BadPicture") (He.ga K "BadPicture") "__init__") (some (some (.builtin "Exception.__init__"))),
  fun K => PySem.W.codeIn K (.ref (HB.cdA K (He.fAd K ("BadPicture", some "__init__")))) "BadPicture.__init__",
  fun K => HB.decB (PySem.W.nsIn K cStatics "thirdparty.any") (some none),
  fun K => HB.decB (PySem.W.nsIn K mainGlobals "super") (some none),
  fun K => HB.decB (PySem.W.nsIn K mainGlobals "sorted") (some none),
  fun K => HB.decB (PySem.W.nsIn K mainGlobals "range") (some none),
  fun K => HB.decB (PySem.W.nsIn K mainGlobals "tuple") (some none),
  fun K => HB.decB (PySem.W.nsIn K mainGlobals "bool") (some none),
  fun K => HB.decB (PySem.W.nsIn K mainGlobals "isinstance") (some none),
  fun K => HB.decB (PySem.W.nsIn K mainGlobals "int") (some none),
  fun K => HB.decB (PySem.W.nsIn K mainGlobals "len") (some none),
  fun K => HB.decB (PySem.W.nsIn K mainGlobals "enumerate") (some none),
  fun K => HB.decB (PySem.W.nsIn K mainGlobals "all") (some none),
  fun K => HB.decB (PySem.W.nsIn K mainGlobals "zip") (some none),
  fun K => HB.decB (PySem.W.nsIn K mainGlobals "min") (some none),
  fun K => HB.decB (PySem.W.nsIn K mainGlobals "max") (some none),
  fun K => HB.decB (PySem.W.nsIn K mainGlobals "abs") (some none),
  fun K => HB.decB (PySem.W.nsIn K mainGlobals "any") (some none),
  fun K => HB.decB (PySem.W.nsIn K mainGlobals "list") (some none),
  fun K => HB.decB (PySem.W.nsIn K mainGlobals "dict") (some none),
  fun K => HB.intB K "MOST_SIZE" 99,
  fun K => HB.intB K "MOST_PLACE" 1000000,
  fun K => HB.intB K "MOST_COUNT" 100,
  fun K => HB.intB K "MOST_STANDINGS" 40000,
  fun K => HB.intB K "MOST_SIDE" 1000]
def fpB0 : HB.Fs := fsB0
def fpB1 : HB.Fs := fsB1 ++ (fsB2)
def fpB2 : HB.Fs := fsB3 ++ (fsB4)
def fpB3 : HB.Fs := fsB5 ++ (fsB6)
def fnB0 : List HB.DefB := [dB0, dB1, dB2, dB3, dB4, dB5, dB6, dB7, dB8, dB9]
def fnB1 : List HB.DefB := [dB10, dB11, dB12, dB13, dB14, dB15, dB16, dB17, dB18, dB19, dB20]
def fnB2 : List HB.DefB := [dB21, dB22, dB23, dB24, dB25, dB26, dB27, dB28, dB29, dB30]
def fnB3 : List HB.DefB := [dB31, dB32, dB33, dB34, dB35, dB36, dB37, dB38, dB39, dB40, dB41]
def fsB : HB.Fs := fpB0 ++ (fpB1 ++ (fpB2 ++ (fpB3)))
def fnB : List HB.DefB := fnB0 ++ (fnB1 ++ (fnB2 ++ (fnB3)))
def zwr : List Str := (["_wall", "__name__", "MoonError", "BadGround", "BadCamera", "BadSky", "BadPicture", "MOST_PLACE", "MOST_SIZE", "MOST_SIDE", "MOST_COUNT", "MOST_STANDINGS", "is_whole", "is_point", "turned", "Ground", "Camera", "Sky", "check_rows", "bright_cells", "nexts_to", "blobs", "middle", "size_by", "picture_of"] : List Str) ++ ((["augmented", "along", "greatest", "short_lot", "turned_round", "are_near", "nexts_of", "sure_nexts", "fits", "against", "_law_number", "_law_take", "_law_pick", "_law_unlike", "_law_ground", "_law_camera", "_law_sky", "_law_spots", "_law_picture", "_law_shares", "_law_fits", "_law_group", "_law_touch", "_law_rows", "_law_blob"] : List Str) ++ ((["_law_blobs_right"] : List Str)))
abbrev hkB : PySem.W.Hook := HB.zvx fsB fnB
abbrev obB : PySem.W.SharedT → HB.Al := HB.obB fsB fnB
theorem z8a (s : PySem.W.SharedT) : obB s = hkB.obs s.abs := HB.z8a fsB fnB s
theorem zafn (w : World) : HandSHeadRun.RunEq (PySem.W.OpenLaw.row PySem.Challenge.rw_moonfall_k55_whole_pixels) (PySem.W.view (PySem.W.OpenLaw.row PySem.Challenge.rw_moonfall_k55_whole_pixels).prog [56]) (HB.zvx fpB0 fnB0) (HB.obB fpB0 fnB0) 20000 zwr w := by
  intro os
  kernel_rfl
theorem zafi (w : World) : HandSHeadRun.RunEq (PySem.W.OpenLaw.row PySem.Challenge.rw_moonfall_k55_whole_pixels) (PySem.W.view (PySem.W.OpenLaw.row PySem.Challenge.rw_moonfall_k55_whole_pixels).prog [56]) (HB.zvx fpB1 fnB1) (HB.obB fpB1 fnB1) 20000 zwr w := by
  intro os
  kernel_rfl
theorem zafr (w : World) : HandSHeadRun.RunEq (PySem.W.OpenLaw.row PySem.Challenge.rw_moonfall_k55_whole_pixels) (PySem.W.view (PySem.W.OpenLaw.row PySem.Challenge.rw_moonfall_k55_whole_pixels).prog [56]) (HB.zvx fpB2 fnB2) (HB.obB fpB2 fnB2) 20000 zwr w := by
  intro os
  kernel_rfl
theorem zafh (w : World) : HandSHeadRun.RunEq (PySem.W.OpenLaw.row PySem.Challenge.rw_moonfall_k55_whole_pixels) (PySem.W.view (PySem.W.OpenLaw.row PySem.Challenge.rw_moonfall_k55_whole_pixels).prog [56]) (HB.zvx fpB3 fnB3) (HB.obB fpB3 fnB3) 20000 zwr w := by
  intro os
  kernel_rfl
theorem runB (w : World) : HandSHeadRun.RunEq (PySem.W.OpenLaw.row PySem.Challenge.rw_moonfall_k55_whole_pixels) (PySem.W.view (PySem.W.OpenLaw.row PySem.Challenge.rw_moonfall_k55_whole_pixels).prog [56]) hkB obB 20000 zwr w :=
  HB.z1r (zafn w) (HB.z1r (zafi w) (HB.z1r (zafr w) (zafh w)))
end M
namespace DL
open PySem PySem.Spec PyProof.Rows L2
inductive Kd where
  | tup | lst | scr | ins (C : Addr) (fs : List Str) | dK (ks : List Key) | dN (ks : List NestedKey)
/-- a value as a tree; ref: an object that is tracked by its address (or one of the text) -/
inductive D where
  | non | bl (b : Bool) | int (i : Int) | str (x : Str) | ty (n : String) | ref (a : Addr)
  | nd (k : Kd) (ds : List D)
abbrev D.tup (ds : List D) : D := .nd .tup ds
abbrev D.lst (ds : List D) : D := .nd .lst ds
/-- what may change: it is held by its address -/
inductive DO where
  | lst (ds : List D) | dK (kvs : List (Key × D)) | dN (kvs : List (NestedKey × D)) | ins (C : Addr) (fs : List (Str × D)) | rw (es : Array DictEntry) (ep : Nat) (kvs : List (NestedKey × D))
abbrev DHp := Addr → Option DO
def up (G : DHp) (a : Addr) (o : DO) : DHp := fun b => if b = a then some o else G b
def dl (G : DHp) (a : Addr) : DHp := fun b => if b = a then none else G b
theorem zi {G : DHp} {a : Addr} {o : DO} : up G a o a = some o := by unfold up; rw [if_pos rfl]
theorem zej {G : DHp} {a b : Addr} {o : DO} (h : b ≠ a) : up G a o b = G b := by unfold up; rw [if_neg h]
theorem zo7 {G : DHp} {a : Addr} : dl G a a = none := by unfold dl; rw [if_pos rfl]
theorem zaah {G : DHp} {a b : Addr} (h : b ≠ a) : dl G a b = G b := by unfold dl; rw [if_neg h]
theorem zc1 {G : DHp} {a : Addr} {o u : DO} : up (up G a o) a u = up G a u := by funext b; unfold up; split <;> rfl
theorem za3 {G : DHp} {a : Addr} {o : DO} (h : G a = none) : dl (up G a o) a = G := by
  funext b
  unfold dl up
  by_cases e : b = a
  · subst e; rw [if_pos rfl, h]
  · rw [if_neg e, if_neg e]
theorem zg7 {G : DHp} {a b : Addr} {o u : DO} (h : a ≠ b) : up (up G a o) b u = up (up G b u) a o := by
  funext c; simp only [up]
  by_cases e : c = a
  · subst e; simp [h]
  · simp [e]
theorem zyj {G : DHp} {a b : Addr} {o : DO} (h : a ≠ b) : dl (up G a o) b = up (dl G b) a o := by
  funext c; simp only [up, dl]
  by_cases e : c = a
  · subst e; simp [h]
  · simp [e]
/-- what is fixed: the written part, the world -/
structure Ml where
  K : PySem.W.Frag
  w : World
abbrev _root_.L2.Cx.ml (X : Cx) : Ml := ⟨X.K, X.w⟩
mutual
def nkD : NestedKey → D
  | .none => .non
  | .num i => .int i
  | .text x => .str x
  | .tup ks => .nd .tup (nkDs ks)
def nkDs : List NestedKey → List D
  | [] => []
  | k :: ks => nkD k :: nkDs ks
end
mutual
def D.key : D → Option NestedKey
  | .non => some .none
  | .int i => some (.num i)
  | .str x => some (.text x)
  | .nd .tup ds => (D.keys ds).map .tup
  | _ => none
def D.keys : List D → Option (List NestedKey)
  | [] => some []
  | d :: ds => match D.key d, D.keys ds with
    | some k, some ks => some (k :: ks)
    | _, _ => none
end
/-- an entry of a dict with nested keys -/
def entN (w : World) (x : NestedKey × Addr × Value) : DictEntry := ⟨x.1.hash w, .ref x.2.1, x.2.2⟩
/-- the object at a is a dict with just these entries -/
def rawO (a : Addr) (es : Array DictEntry) (ep : Nat) : HO := .ext fun h => h.DictRaw a es ep
section
variable (K : Ml) (H : Hp) (G : DHp)
mutual
def ze7 : NestedKey → V → Prop
  | .none, v => v = .non
  | .num i, v => v = .int i
  | .text x, v => v = .str x
  | .tup ks, v => ∃ a vs, v = .ref a ∧ SqT K.K H a vs ∧ KeysAt ks vs
def KeysAt : List NestedKey → List V → Prop
  | [], vs => vs = []
  | k :: ks, vs => ∃ v r, vs = v :: r ∧ ze7 k v ∧ KeysAt ks r
end
/-- a dict with nested keys ks and values vs at a -/
def DnAt (a : Addr) (ks : List NestedKey) (vs : List V) : Prop :=
  ∃ (xs : List (NestedKey × Addr × Value)) (es : Array DictEntry) (ep : Nat), H a = some (rawO a es ep) ∧ (a == sysModules) = false ∧ es.toList = xs.map (entN K.w) ∧ xs.map (·.1) = ks ∧ ks.Nodup ∧ ks.length ≤ sizeLine ∧
    (∀ x ∈ xs, ze7 K H x.1 (.ref x.2.1) ∧ x.1.depth ≤ 8) ∧ Vals vs (xs.map (·.2.2))
/-- the same, the entries told -/
def DnE (a : Addr) (es : Array DictEntry) (ep : Nat) (ks : List NestedKey) (vs : List V) : Prop :=
  ∃ (xs : List (NestedKey × Addr × Value)), H a = some (rawO a es ep) ∧ (a == sysModules) = false ∧ es.toList = xs.map (entN K.w) ∧ xs.map (·.1) = ks ∧ ks.Nodup ∧ ks.length ≤ sizeLine ∧
    (∀ x ∈ xs, ze7 K H x.1 (.ref x.2.1) ∧ x.1.depth ≤ 8) ∧ Vals vs (xs.map (·.2.2))
/-- at a stands an object of the kind with the items vs -/
def Held : Kd → Addr → List V → Prop
  | .tup, a, vs => SqT K.K H a vs
  | .lst, a, vs => G a = none ∧ H a = some (.lst vs)
  | .scr, a, vs => (∃ o, H a = some (.frz o (.lst vs))) ∨
      ∃ (o : Obj) (its : Array Value) (n : Nat), K.K.lookup a = some o ∧ o.cls = .type "list" ∧ o.dict = none ∧ o.data = .seq its n ∧ its.size ≤ sizeLine ∧ Vals vs its.toList
  | .ins C fs, a, vs => G a = none ∧ fs.length = vs.length ∧ ∃ dx, H a = some (.ins C dx (fs.zip vs))
  | .dK ks, a, vs => ks.length = vs.length ∧ ∃ o, H a = some (.frz o (.dK (ks.zip vs)))
  | .dN ks, a, vs => G a = none ∧ DnAt K H a ks vs
mutual
def VR : D → V → Prop
  | .non, v => v = .non
  | .bl b, v => v = .bl b
  | .int i, v => v = .int i
  | .str x, v => v = .str x
  | .ty n, v => v = .ty n
  | .ref a, v => v = .ref a
  | .nd k ds, v => ∃ a vs, v = .ref a ∧ Held K H G k a vs ∧ VRs ds vs
def VRs : List D → List V → Prop
  | [], vs => vs = []
  | d :: ds, vs => ∃ v r, vs = v :: r ∧ VR d v ∧ VRs ds r
end
/-- a tracked object -/
def OR (a : Addr) : DO → Prop
  | .lst ds => ∃ vs, H a = some (.lst vs) ∧ VRs K H G ds vs
  | .dK kvs => ∃ ws, H a = some (.dK ws) ∧ ws.map (·.1) = kvs.map (·.1) ∧ VRs K H G (kvs.map (·.2)) (ws.map (·.2))
  | .dN kvs => ∃ ws, DnAt K H a (kvs.map (·.1)) ws ∧ VRs K H G (kvs.map (·.2)) ws
  | .ins C fs => ∃ dx ws, H a = some (.ins C dx ws) ∧ ws.map (·.1) = fs.map (·.1) ∧ VRs K H G (fs.map (·.2)) (ws.map (·.2))
  | .rw es ep kvs => ∃ ws, DnE K H a es ep (kvs.map (·.1)) ws ∧ VRs K H G (kvs.map (·.2)) ws
def HR : Prop := ∀ a o, G a = some o → OR K H G a o
end
structure Ext (H : Hp) (G : DHp) (H' : Hp) (G' : DHp) : Prop where
  ex : ∀ a u, H a = some u → G a = none → H' a = some u ∧ G' a = none
theorem Ext.refl (H : Hp) (G : DHp) : Ext H G H G := ⟨fun _ _ h n => ⟨h, n⟩⟩
theorem Ext.trans {H G H1 G1 H2 G2} (a : Ext H G H1 G1) (b : Ext H1 G1 H2 G2) : Ext H G H2 G2 :=
  ⟨fun c u h n => let ⟨h1, n1⟩ := a.ex c u h n; b.ex c u h1 n1⟩
section
variable {K : Ml} {H H' : Hp} {G G' : DHp}
theorem OR.not_tup {a : Addr} {o : DO} (h : OR K H G a o) {vs : List V} : ¬ Rd H a (.tup vs) := by
  intro r
  cases o with
  | lst ds =>
    obtain ⟨_, e, _⟩ := h
    rcases r with r | ⟨_, r⟩ <;> rw [e] at r <;> cases r
  | dK ds =>
    obtain ⟨_, e, _⟩ := h
    rcases r with r | ⟨_, r⟩ <;> rw [e] at r <;> cases r
  | dN ds =>
    obtain ⟨_, ⟨_, _, _, e, _⟩, _⟩ := h
    rcases r with r | ⟨_, r⟩ <;> rw [e] at r <;> cases r
  | ins C fs =>
    obtain ⟨_, _, e, _⟩ := h
    rcases r with r | ⟨_, r⟩ <;> rw [e] at r <;> cases r
  | rw es ep kvs =>
    obtain ⟨_, ⟨_, e, _⟩, _⟩ := h
    rcases r with r | ⟨_, r⟩ <;> rw [e] at r <;> cases r
theorem OR.not_frz {a : Addr} {o : DO} (h : OR K H G a o) {ob : Obj} {u : HO} : H a ≠ .some (.frz ob u) := by
  intro r
  cases o with
  | lst ds =>
    obtain ⟨_, e, _⟩ := h
    rw [e] at r; cases r
  | dK ds =>
    obtain ⟨_, e, _⟩ := h
    rw [e] at r; cases r
  | dN ds =>
    obtain ⟨_, ⟨_, _, _, e, _⟩, _⟩ := h
    rw [e] at r; cases r
  | ins C fs =>
    obtain ⟨_, _, e, _⟩ := h
    rw [e] at r; cases r
  | rw es ep kvs =>
    obtain ⟨_, ⟨_, e, _⟩, _⟩ := h
    rw [e] at r; cases r
theorem OR.some {a : Addr} {o : DO} (h : OR K H G a o) : ∃ u, H a = .some u := by
  cases o with
  | lst ds => obtain ⟨_, e, _⟩ := h; exact ⟨_, e⟩
  | dK ds => obtain ⟨_, e, _⟩ := h; exact ⟨_, e⟩
  | dN ds => obtain ⟨_, ⟨_, _, _, e, _⟩, _⟩ := h; exact ⟨_, e⟩
  | ins C fs => obtain ⟨_, _, e, _⟩ := h; exact ⟨_, e⟩
  | rw es ep kvs => obtain ⟨_, ⟨_, e, _⟩, _⟩ := h; exact ⟨_, e⟩
theorem HR.tup (h : HR K H G) {a : Addr} {vs : List V} (r : Rd H a (.tup vs)) : G a = none := by
  cases e : G a with
  | none => rfl
  | some o => exact absurd r (OR.not_tup (h a o e))
theorem HR.frz (h : HR K H G) {a : Addr} {ob : Obj} {u : HO} (r : H a = some (.frz ob u)) : G a = none := by
  cases e : G a with
  | none => rfl
  | some o => exact absurd r (OR.not_frz (h a o e))
theorem HR.free (h : HR K H G) {a : Addr} (r : H a = none) : G a = none := by
  cases e : G a with
  | none => rfl
  | some o => obtain ⟨u, q⟩ := OR.some (h a o e); rw [q] at r; cases r
mutual
theorem ze7.ext (hr : HR K H G) (x : Ext H G H' G') : ∀ {k : NestedKey} {v : V}, ze7 K H k v → ze7 K H' k v
  | .none, _, h => by rw [ze7] at h ⊢; exact h
  | .num _, _, h => by rw [ze7] at h ⊢; exact h
  | .text _, _, h => by rw [ze7] at h ⊢; exact h
  | .tup ks, _, h => by
    rw [ze7] at h ⊢
    obtain ⟨a, vs, e, q, r⟩ := h
    refine ⟨a, vs, e, ?_, KeysAt.ext hr x r⟩
    rcases q with (h | ⟨o, h⟩) | h
    · exact .inl (.inl (x.ex _ _ h (hr.tup (.inl h))).1)
    · exact .inl (.inr ⟨o, (x.ex _ _ h (hr.frz h)).1⟩)
    · exact .inr h
theorem KeysAt.ext (hr : HR K H G) (x : Ext H G H' G') : ∀ {k : List NestedKey} {v : List V}, KeysAt K H k v → KeysAt K H' k v
  | [], _, h => by rw [KeysAt] at h ⊢; exact h
  | k :: ks, _, h => by
    rw [KeysAt] at h ⊢
    obtain ⟨v, r, e, q, t⟩ := h
    exact ⟨v, r, e, ze7.ext hr x q, KeysAt.ext hr x t⟩
end
theorem DnAt.ext (hr : HR K H G) (x : Ext H G H' G') {a : Addr} {ks : List NestedKey} {vs : List V} (h : DnAt K H a ks vs) (e : H' a = H a) : DnAt K H' a ks vs := by
  obtain ⟨xs, es, ep, h1, h2, h3, h4, h5, h6, h7, h8⟩ := h
  exact ⟨xs, es, ep, e.trans h1, h2, h3, h4, h5, h6, fun y hy => ⟨(h7 y hy).1.ext hr x, (h7 y hy).2⟩, h8⟩
theorem DnE.ext (hr : HR K H G) (x : Ext H G H' G') {a : Addr} {es : Array DictEntry} {ep : Nat} {ks : List NestedKey} {vs : List V} (h : DnE K H a es ep ks vs) (e : H' a = H a) : DnE K H' a es ep ks vs := by
  obtain ⟨xs, h1, h2, h3, h4, h5, h6, h7, h8⟩ := h
  exact ⟨xs, e.trans h1, h2, h3, h4, h5, h6, fun y hy => ⟨(h7 y hy).1.ext hr x, (h7 y hy).2⟩, h8⟩
theorem DnE.at {a : Addr} {es : Array DictEntry} {ep : Nat} {ks : List NestedKey} {vs : List V} (h : DnE K H a es ep ks vs) : DnAt K H a ks vs := by
  obtain ⟨xs, h⟩ := h
  exact ⟨xs, es, ep, h⟩
theorem DnAt.e {a : Addr} {ks : List NestedKey} {vs : List V} (h : DnAt K H a ks vs) : ∃ es ep, DnE K H a es ep ks vs := by
  obtain ⟨xs, es, ep, h⟩ := h
  exact ⟨es, ep, xs, h⟩
theorem Held.ext (hr : HR K H G) (x : Ext H G H' G') {k : Kd} {a : Addr} {vs : List V} (h : Held K H G k a vs) : Held K H' G' k a vs := by
  cases k with
  | tup =>
    rcases h with (h | ⟨o, h⟩) | h
    · exact .inl (.inl (x.ex _ _ h (hr.tup (.inl h))).1)
    · exact .inl (.inr ⟨o, (x.ex _ _ h (hr.frz h)).1⟩)
    · exact .inr h
  | lst =>
    obtain ⟨n, r⟩ := h
    obtain ⟨r', n'⟩ := x.ex _ _ r n
    exact ⟨n', r'⟩
  | scr =>
    rcases h with ⟨o, h⟩ | h
    · exact .inl ⟨o, (x.ex _ _ h (hr.frz h)).1⟩
    · exact .inr h
  | ins C fs =>
    obtain ⟨n, l, dx, r⟩ := h
    obtain ⟨r', n'⟩ := x.ex _ _ r n
    exact ⟨n', l, dx, r'⟩
  | dK ks =>
    obtain ⟨l, o, r⟩ := h
    exact ⟨l, o, (x.ex _ _ r (hr.frz r)).1⟩
  | dN ks =>
    obtain ⟨n, r⟩ := h
    obtain ⟨xs, es, ep, h1, _⟩ := id r
    obtain ⟨e, n'⟩ := x.ex _ _ h1 n
    exact ⟨n', r.ext hr x (e.trans h1.symm)⟩
mutual
theorem VR.ext (hr : HR K H G) (x : Ext H G H' G') : ∀ {d : D} {v : V}, VR K H G d v → VR K H' G' d v
  | .non, _, h => by rw [VR] at h ⊢; exact h
  | .bl _, _, h => by rw [VR] at h ⊢; exact h
  | .int _, _, h => by rw [VR] at h ⊢; exact h
  | .str _, _, h => by rw [VR] at h ⊢; exact h
  | .ty _, _, h => by rw [VR] at h ⊢; exact h
  | .ref _, _, h => by rw [VR] at h ⊢; exact h
  | .nd k ds, _, h => by
    rw [VR] at h ⊢
    obtain ⟨a, vs, e, q, r⟩ := h
    exact ⟨a, vs, e, q.ext hr x, VRs.ext hr x r⟩
theorem VRs.ext (hr : HR K H G) (x : Ext H G H' G') : ∀ {ds : List D} {vs : List V}, VRs K H G ds vs → VRs K H' G' ds vs
  | [], _, h => by rw [VRs] at h ⊢; exact h
  | d :: ds, _, h => by
    rw [VRs] at h ⊢
    obtain ⟨v, r, e, q, t⟩ := h
    exact ⟨v, r, e, VR.ext hr x q, VRs.ext hr x t⟩
end
theorem VRs.nil : VRs K H G [] [] := by rw [VRs]
theorem VRs.cons {d : D} {ds : List D} {v : V} {vs : List V} (h : VR K H G d v) (t : VRs K H G ds vs) : VRs K H G (d :: ds) (v :: vs) := by
  rw [VRs]; exact ⟨v, vs, rfl, h, t⟩
theorem VRs.uncons {d : D} {ds : List D} {vs : List V} (h : VRs K H G (d :: ds) vs) : ∃ v r, vs = v :: r ∧ VR K H G d v ∧ VRs K H G ds r := by
  rw [VRs] at h; exact h
theorem VRs.nil_of {vs : List V} (h : VRs K H G [] vs) : vs = [] := by rw [VRs] at h; exact h
theorem VRs.length : ∀ {ds : List D} {vs : List V}, VRs K H G ds vs → vs.length = ds.length
  | [], _, h => by rw [h.nil_of]; rfl
  | d :: ds, _, h => by
    obtain ⟨v, r, rfl, _, t⟩ := h.uncons
    rw [List.length_cons, List.length_cons, VRs.length t]
theorem VRs.append : ∀ {ds es : List D} {vs ws : List V}, VRs K H G ds vs → VRs K H G es ws → VRs K H G (ds ++ es) (vs ++ ws)
  | [], _, _, _, h, q => by rw [h.nil_of]; exact q
  | d :: ds, _, _, _, h, q => by
    obtain ⟨v, r, rfl, x, t⟩ := h.uncons
    exact .cons x (VRs.append t q)
theorem VRs.get : ∀ {ds : List D} {vs : List V} {i : Nat} {d : D}, VRs K H G ds vs → ds[i]? = some d → ∃ v, vs[i]? = some v ∧ VR K H G d v
  | [], _, _, _, _, e => by simp at e
  | d :: ds, _, 0, _, h, e => by
    obtain ⟨v, r, rfl, x, t⟩ := h.uncons
    simp at e; subst e
    exact ⟨v, rfl, x⟩
  | d :: ds, _, i + 1, _, h, e => by
    obtain ⟨v, r, rfl, x, t⟩ := h.uncons
    obtain ⟨u, e1, q⟩ := VRs.get (i := i) t (by simpa using e)
    exact ⟨u, by simpa using e1, q⟩
theorem VRs.take : ∀ {ds : List D} {vs : List V} (n : Nat), VRs K H G ds vs → VRs K H G (ds.take n) (vs.take n)
  | _, _, 0, _ => by rw [List.take_zero, List.take_zero]; exact .nil
  | [], _, n + 1, h => by rw [h.nil_of]; exact .nil
  | d :: ds, _, n + 1, h => by
    obtain ⟨v, r, rfl, x, t⟩ := h.uncons
    exact .cons x (VRs.take n t)
theorem VRs.drop : ∀ {ds : List D} {vs : List V} (n : Nat), VRs K H G ds vs → VRs K H G (ds.drop n) (vs.drop n)
  | _, _, 0, h => by rw [List.drop_zero, List.drop_zero]; exact h
  | [], _, n + 1, h => by rw [h.nil_of]; exact .nil
  | d :: ds, _, n + 1, h => by
    obtain ⟨v, r, rfl, x, t⟩ := h.uncons
    exact VRs.drop n t
theorem VRs.set : ∀ {ds : List D} {vs : List V} {d : D} {v : V} (i : Nat), VRs K H G ds vs → VR K H G d v → VRs K H G (ds.set i d) (vs.set i v)
  | [], _, _, _, i, h, _ => by rw [h.nil_of]; exact .nil
  | d :: ds, _, _, _, 0, h, q => by
    obtain ⟨v, r, rfl, x, t⟩ := h.uncons
    exact .cons q t
  | d :: ds, _, _, _, i + 1, h, q => by
    obtain ⟨v, r, rfl, x, t⟩ := h.uncons
    exact .cons x (VRs.set i t q)
theorem VRs.eraseIdx : ∀ {ds : List D} {vs : List V} (i : Nat), VRs K H G ds vs → VRs K H G (ds.eraseIdx i) (vs.eraseIdx i)
  | [], _, i, h => by rw [h.nil_of]; exact .nil
  | d :: ds, _, 0, h => by
    obtain ⟨v, r, rfl, x, t⟩ := h.uncons
    exact t
  | d :: ds, _, i + 1, h => by
    obtain ⟨v, r, rfl, x, t⟩ := h.uncons
    exact .cons x (VRs.eraseIdx i t)
theorem VRs.dropLast {ds : List D} {vs : List V} (h : VRs K H G ds vs) : VRs K H G ds.dropLast vs.dropLast := by
  rw [List.dropLast_eq_take, List.dropLast_eq_take, h.length]
  exact h.take _
theorem VRs.reverse : ∀ {ds : List D} {vs : List V}, VRs K H G ds vs → VRs K H G ds.reverse vs.reverse
  | [], _, h => by rw [h.nil_of]; exact .nil
  | d :: ds, _, h => by
    obtain ⟨v, r, rfl, x, t⟩ := h.uncons
    rw [List.reverse_cons, List.reverse_cons]
    exact (VRs.reverse t).append (.cons x .nil)
/-- ints, texts, bools: what they stand for -/
theorem VRs.of_map {α : Type} (f : α → D) (g : α → V) (h : ∀ a, VR K H G (f a) (g a)) : ∀ xs : List α, VRs K H G (xs.map f) (xs.map g)
  | [] => .nil
  | x :: xs => .cons (h x) (VRs.of_map f g h xs)
theorem VRs.map_eq {α : Type} (f : α → D) (g : α → V) (h : ∀ a v, VR K H G (f a) v → v = g a) : ∀ {xs : List α} {vs : List V}, VRs K H G (xs.map f) vs → vs = xs.map g
  | [], _, q => q.nil_of
  | x :: xs, _, q => by
    obtain ⟨v, r, rfl, a, t⟩ := VRs.uncons q
    rw [List.map_cons, h x v a, VRs.map_eq f g h t]
theorem VRs.ints {ns : List Int} {vs : List V} (h : VRs K H G (ns.map D.int) vs) : vs = ns.map V.int :=
  h.map_eq _ _ fun a v q => by rw [VR] at q; exact q
theorem VRs.of_ints (ns : List Int) : VRs K H G (ns.map D.int) (ns.map V.int) := VRs.of_map _ _ (fun a => by rw [VR]) ns
/-- a new object that is not tracked -/
theorem Ext.laid {p : Addr} {o : HO} (hp : H p = none) : Ext H G (upd H p o) G :=
  ⟨fun a u h n => ⟨by rw [upd_ne (ne_of_none h hp)]; exact h, n⟩⟩
theorem OR.ext (hr : HR K H G) (x : Ext H G H' G') {a : Addr} {o : DO} (e : H' a = H a) (h : OR K H G a o) : OR K H' G' a o := by
  cases o with
  | lst ds => obtain ⟨vs, q, r⟩ := h; exact ⟨vs, e.trans q, r.ext hr x⟩
  | dK ds => obtain ⟨vs, q, z, r⟩ := h; exact ⟨vs, e.trans q, z, r.ext hr x⟩
  | dN ds => obtain ⟨vs, q, r⟩ := h; exact ⟨vs, q.ext hr x e, r.ext hr x⟩
  | ins C fs => obtain ⟨dx, vs, q, z, r⟩ := h; exact ⟨dx, vs, e.trans q, z, r.ext hr x⟩
  | rw es ep kvs => obtain ⟨vs, q, r⟩ := h; exact ⟨vs, q.ext hr x e, r.ext hr x⟩
theorem HR.laid (hr : HR K H G) {p : Addr} {o : HO} (hp : H p = none) : HR K (upd H p o) G := fun a u e => by
  have h := hr a u e
  obtain ⟨z, hz⟩ := h.some
  exact h.ext hr (.laid hp) (upd_ne (ne_of_none hz hp))
/-- a new tracked object -/
theorem Ext.new {p : Addr} {o : HO} {u : DO} (hp : H p = none) : Ext H G (upd H p o) (up G p u) :=
  ⟨fun a v h n => ⟨by rw [upd_ne (ne_of_none h hp)]; exact h, by rw [zej (ne_of_none h hp)]; exact n⟩⟩
theorem HR.new (hr : HR K H G) {p : Addr} {o : HO} {u : DO} (hp : H p = none) (h : OR K (upd H p o) (up G p u) p u) : HR K (upd H p o) (up G p u) := fun a w e => by
  by_cases q : a = p
  · subst q; rw [zi] at e; cases e; exact h
  · rw [zej q] at e
    exact (hr a w e).ext hr (.new hp) (upd_ne q)
/-- a tracked object changes -/
theorem Ext.write {p : Addr} {o : HO} {u w : DO} (hp : G p = some w) : Ext H G (upd H p o) (up G p u) :=
  ⟨fun a v h n => by
    have e : a ≠ p := fun e => by rw [e, hp] at n; cases n
    exact ⟨by rw [upd_ne e]; exact h, by rw [zej e]; exact n⟩⟩
theorem HR.write (hr : HR K H G) {p : Addr} {o : HO} {u w : DO} (hp : G p = some w) (h : OR K (upd H p o) (up G p u) p u) : HR K (upd H p o) (up G p u) := fun a z e => by
  by_cases q : a = p
  · subst q; rw [zi] at e; cases e; exact h
  · rw [zej q] at e
    exact (hr a z e).ext hr (.write hp) (upd_ne q)
/-- tracked no more: from now on it is read alone -/
theorem Ext.freeze {p : Addr} : Ext H G H (dl G p) :=
  ⟨fun a v h n => ⟨h, by
    by_cases e : a = p
    · rw [e, zo7]
    · rw [zaah e]; exact n⟩⟩
theorem HR.freeze (hr : HR K H G) (p : Addr) : HR K H (dl G p) := fun a z e => by
  by_cases q : a = p
  · subst q; rw [zo7] at e; cases e
  · rw [zaah q] at e
    exact (hr a z e).ext hr .freeze rfl
/-- .. a dict: locked -/
theorem Ext.freezeD {p : Addr} {o : HO} {w : DO} (hp : G p = some w) : Ext H G (upd H p o) (dl G p) :=
  ⟨fun a v h n => by
    have e : a ≠ p := fun e => by rw [e, hp] at n; cases n
    exact ⟨by rw [upd_ne e]; exact h, by rw [zaah e]; exact n⟩⟩
theorem HR.freezeD (hr : HR K H G) {p : Addr} {o : HO} {w : DO} (hp : G p = some w) : HR K (upd H p o) (dl G p) := fun a z e => by
  by_cases q : a = p
  · subst q; rw [zo7] at e; cases e
  · rw [zaah q] at e
    exact (hr a z e).ext hr (.freezeD hp) (upd_ne q)
/-- the tree of an object that is tracked no more -/
def DO.tree : DO → D
  | .lst ds => .lst ds
  | .dK kvs => .nd (.dK (kvs.map (·.1))) (kvs.map (·.2))
  | .dN kvs => .nd (.dN (kvs.map (·.1))) (kvs.map (·.2))
  | .ins C fs => .nd (.ins C (fs.map (·.1))) (fs.map (·.2))
  | .rw _ _ kvs => .nd (.dN (kvs.map (·.1))) (kvs.map (·.2))
theorem zqw {α β : Type} : ∀ l : List (α × β), (l.map (·.1)).zip (l.map (·.2)) = l
  | [] => rfl
  | (a, b) :: l => by simp [zqw l]
/-- what stands at p behind the freezing: a dict is locked -/
def Fz (H H' : Hp) (p : Addr) : DO → Prop
  | .dK _ => ∃ u od, H p = some u ∧ Mut (some u) ∧ H' = upd H p (.frz od u)
  | _ => H' = H
theorem HR.tree (hr : HR K H G) {p : Addr} {o : DO} (h : G p = some o) (f : Fz H H' p o) : VR K H' (dl G p) o.tree (.ref p) ∧ Ext H G H' (dl G p) ∧ HR K H' (dl G p) := by
  have q := hr p o h
  cases o with
  | lst ds =>
    obtain rfl : H' = H := f
    obtain ⟨vs, e, r⟩ := q
    refine ⟨?_, .freeze, hr.freeze p⟩
    show VR K H' (dl G p) (.nd .lst ds) _
    rw [VR]
    exact ⟨p, vs, rfl, ⟨zo7, e⟩, r.ext hr .freeze⟩
  | dK kvs =>
    obtain ⟨ws, e, z, r⟩ := q
    obtain ⟨u, od, hu, _, rfl⟩ := f
    rw [e] at hu; cases hu
    refine ⟨?_, .freezeD h, hr.freezeD h⟩
    show VR K _ (dl G p) (.nd (.dK _) _) _
    rw [VR]
    refine ⟨p, _, rfl, ⟨by rw [← z]; simp, od, ?_⟩, r.ext hr (.freezeD h)⟩
    rw [← z, zqw, upd_same]
  | dN kvs =>
    obtain rfl : H' = H := f
    obtain ⟨ws, e, r⟩ := q
    refine ⟨?_, .freeze, hr.freeze p⟩
    show VR K H' (dl G p) (.nd (.dN _) _) _
    rw [VR]
    exact ⟨p, ws, rfl, ⟨zo7, e⟩, r.ext hr .freeze⟩
  | ins C fs =>
    obtain rfl : H' = H := f
    obtain ⟨dx, ws, e, z, r⟩ := q
    refine ⟨?_, .freeze, hr.freeze p⟩
    show VR K H' (dl G p) (.nd (.ins C _) _) _
    rw [VR]
    refine ⟨p, _, rfl, ⟨zo7, by rw [← z]; simp, dx, ?_⟩, r.ext hr .freeze⟩
    rw [← z, zqw]; exact e
  | rw es ep kvs =>
    obtain rfl : H' = H := f
    obtain ⟨ws, e, r⟩ := q
    refine ⟨?_, .freeze, hr.freeze p⟩
    show VR K H' (dl G p) (.nd (.dN _) _) _
    rw [VR]
    exact ⟨p, ws, rfl, ⟨zo7, e.at⟩, r.ext hr .freeze⟩
end
abbrev DSt := List (Option D)
/-- where one set out: the objects then -/
class Bs where
  H0 : Hp
  G0 : DHp
structure SR [Bs] (K : Ml) (H : Hp) (G : DHp) (σ : L2.St) (η : DSt) : Prop where
  len : η.length = σ.length
  get : ∀ (i : Nat) (d : D), η[i]? = some (some d) → ∃ v, σ[i]? = some (some v) ∧ VR K H G d v
  base : Ext Bs.H0 Bs.G0 H G
section
variable {K : Ml} {H H' : Hp} {G G' : DHp} {σ : L2.St} {η η' : DSt}
theorem SR.ext [Bs] (hr : HR K H G) (x : Ext H G H' G') (h : SR K H G σ η) : SR K H' G' σ η :=
  ⟨h.len, fun i d e => let ⟨v, q, r⟩ := h.get i d e; ⟨v, q, r.ext hr x⟩, h.base.trans x⟩
theorem SR.set [Bs] (h : SR K H G σ η) {d : D} {v : V} (i : Nat) (r : VR K H G d v) : SR K H G (σ.set i (some v)) (η.set i (some d)) := by
  refine ⟨by rw [List.length_set, List.length_set, h.len], fun j e q => ?_, h.base⟩
  by_cases hj : i = j
  · subst hj
    by_cases hl : i < η.length
    · rw [List.getElem?_set_self hl] at q
      cases q
      exact ⟨v, by rw [List.getElem?_set_self (by rw [← h.len]; exact hl)], r⟩
    · rw [List.getElem?_eq_none (by rw [List.length_set]; omega)] at q; cases q
  · rw [List.getElem?_set_ne hj] at q
    obtain ⟨u, a, b⟩ := h.get j e q
    exact ⟨u, by rw [List.getElem?_set_ne hj]; exact a, b⟩
/-- less is known -/
def Le (η η' : DSt) : Prop := η.length = η'.length ∧ ∀ (i : Nat) (d : D), η[i]? = some (some d) → η'[i]? = some (some d)
theorem Le.refl (η : DSt) : Le η η := ⟨rfl, fun _ _ h => h⟩
theorem SR.le [Bs] (h : SR K H G σ η') (l : Le η η') : SR K H G σ η := ⟨l.1.trans h.len, fun i d e => h.get i d (l.2 i d e), h.base⟩
theorem SR.none [Bs] (h : SR K H G σ η) (i : Nat) (o : Option V) : SR K H G (σ.set i o) (η.set i Option.none) := by
  refine ⟨by rw [List.length_set, List.length_set, h.len], fun j e q => ?_, h.base⟩
  by_cases hj : i = j
  · subst hj
    by_cases hl : i < η.length
    · rw [List.getElem?_set_self hl] at q; cases q
    · rw [List.getElem?_eq_none (by rw [List.length_set]; omega)] at q; cases q
  · rw [List.getElem?_set_ne hj] at q
    obtain ⟨u, a, b⟩ := h.get j e q
    exact ⟨u, by rw [List.getElem?_set_ne hj]; exact a, b⟩
theorem Le.nil : Le [] [] := Le.refl _
theorem Le.keep {o : Option D} {η η' : DSt} (h : Le η η') : Le (o :: η) (o :: η') :=
  ⟨by rw [List.length_cons, List.length_cons, h.1], fun i d e => by
    cases i with
    | zero => simpa using e
    | succ i => simpa using h.2 i d (by simpa using e)⟩
theorem Le.drop {o : Option D} {η η' : DSt} (h : Le η η') : Le (none :: η) (o :: η') :=
  ⟨by rw [List.length_cons, List.length_cons, h.1], fun i d e => by
    cases i with
    | zero => simp at e
    | succ i => simpa using h.2 i d (by simpa using e)⟩
end
end DL
namespace DL
open PySem PySem.Spec PyProof.Rows L2
abbrev DVK := D → DHp → Prop
abbrev DTE := DSt → DHp → DVK → Prop
abbrev DTT := DSt → DHp → (Bool → DHp → Prop) → Prop
abbrev DTA := DSt → DHp → (List D → DHp → Prop) → Prop
structure zla where
  nx : DSt → DHp → Prop
  rt : DVK
  bk : DSt → DHp → Prop := fun _ _ => False
  ct : DSt → DHp → Prop := fun _ _ => False
abbrev DTS := zla → DSt → DHp → Prop
abbrev DTG := D → DSt → DHp → (DSt → DHp → Prop) → Prop
abbrev DTGs := List D → DSt → DHp → (DSt → DHp → Prop) → Prop
def znj [Bs] (K : Ml) (T : DTE) : TE := fun σ H Q => ∃ η G P, SR K H G σ η ∧ HR K H G ∧ T η G P ∧ ∀ d G' v H', P d G' → Ext H G H' G' → HR K H' G' → VR K H' G' d v → Q v H'
def z06 [Bs] (K : Ml) (T : DTT) : TT := fun σ H Q => ∃ η G P, SR K H G σ η ∧ HR K H G ∧ T η G P ∧ ∀ b G' H', P b G' → Ext H G H' G' → HR K H' G' → Q b H'
def zaeo [Bs] (K : Ml) (T : DTA) : TA := fun σ H Q => ∃ η G P, SR K H G σ η ∧ HR K H G ∧ T η G P ∧ ∀ ds G' vs H', P ds G' → Ext H G H' G' → HR K H' G' → VRs K H' G' ds vs → Q vs H'
structure zkp [Bs] (K : Ml) (H : Hp) (G : DHp) (F : zla) (E : Ends) : Prop where
  nx : ∀ η G' σ H', F.nx η G' → Ext H G H' G' → SR K H' G' σ η → HR K H' G' → E.nx σ H'
  rt : ∀ d G' v H', F.rt d G' → Ext H G H' G' → HR K H' G' → VR K H' G' d v → E.rt v H'
  bk : ∀ η G' σ H', F.bk η G' → Ext H G H' G' → SR K H' G' σ η → HR K H' G' → E.bk σ H'
  ct : ∀ η G' σ H', F.ct η G' → Ext H G H' G' → SR K H' G' σ η → HR K H' G' → E.ct σ H'
theorem zkp.ext [Bs] {K H G H1 G1 F E} (h : zkp K H G F E) (x : Ext H G H1 G1) : zkp K H1 G1 F E :=
  ⟨fun η G' σ H' p y s r => h.nx η G' σ H' p (x.trans y) s r, fun d G' v H' p y r q => h.rt d G' v H' p (x.trans y) r q, fun η G' σ H' p y s r => h.bk η G' σ H' p (x.trans y) s r, fun η G' σ H' p y s r => h.ct η G' σ H' p (x.trans y) s r⟩
def z5l [Bs] (K : Ml) (T : DTS) : TS := fun E σ H => ∃ η G F, SR K H G σ η ∧ HR K H G ∧ T F η G ∧ zkp K H G F E
/-- is: the slots that a target may change -/
def z6w [Bs] (K : Ml) (is : List Nat) (T : DTG) : TG := fun v σ H Q => ∃ d η G P, VR K H G d v ∧ SR K H G σ η ∧ HR K H G ∧ T d η G P ∧ ∀ η' G' σ' H', P η' G' → Ext H G H' G' → SR K H' G' σ' η' → HR K H' G' → wipe σ' is = wipe σ is → Q σ' H'
def zae4 [Bs] (K : Ml) (is : List Nat) (T : DTGs) : TGs := fun vs σ H Q => ∃ ds η G P, VRs K H G ds vs ∧ SR K H G σ η ∧ HR K H G ∧ T ds η G P ∧ ∀ η' G' σ' H', P η' G' → Ext H G H' G' → SR K H' G' σ' η' → HR K H' G' → wipe σ' is = wipe σ is → Q σ' H'
abbrev PED [Bs] (X : Cx) (e : Expr) (T : DTE) : Prop := PE X e (znj X.ml T)
abbrev PTD [Bs] (X : Cx) (e : Expr) (T : DTT) : Prop := PT X e (z06 X.ml T)
abbrev PWD [Bs] (X : Cx) (e : Expr) (T : DTT) : Prop := PW X e (z06 X.ml T)
abbrev PAD [Bs] (X : Cx) (es : List Expr) (T : DTA) : Prop := PA X es (zaeo X.ml T)
abbrev PSD [Bs] (X : Cx) (st : Stmt) (T : DTS) : Prop := PS X st (z5l X.ml T)
abbrev PSsD [Bs] (X : Cx) (st : List Stmt) (T : DTS) : Prop := PSs X st (z5l X.ml T)
abbrev PGD [Bs] (X : Cx) (e : Expr) (is : List Nat) (T : DTG) : Prop := PG X e (z6w X.ml is T)
abbrev PGsD [Bs] (X : Cx) (es : List Expr) (is : List Nat) (T : DTGs) : Prop := PGs X es (zae4 X.ml is T)
section
variable {X : Cx}
theorem PE.impI {e : Expr} {t t' : TE} (h : PE X e t) (i : ∀ pins s σ H Q, Inv X pins σ H s → t' σ H Q → t σ H Q) : PE X e t' := ⟨fun pins s σ H Q I q => h.run pins s σ H Q I (i _ _ _ _ _ I q)⟩
theorem PT.impI {e : Expr} {t t' : TT} (h : PT X e t) (i : ∀ pins s σ H Q, Inv X pins σ H s → t' σ H Q → t σ H Q) : PT X e t' := ⟨fun pins s σ H Q I q => h.run pins s σ H Q I (i _ _ _ _ _ I q)⟩
theorem PW.impI {e : Expr} {t t' : TT} (h : PW X e t) (i : ∀ pins s σ H Q, Inv X pins σ H s → t' σ H Q → t σ H Q) : PW X e t' := ⟨fun w pins s σ H Q I q => h.run w pins s σ H Q I (i _ _ _ _ _ I q)⟩
theorem PA.impI {es : List Expr} {t t' : TA} (h : PA X es t) (i : ∀ pins s σ H Q, Inv X pins σ H s → t' σ H Q → t σ H Q) : PA X es t' := ⟨fun w pins s σ H Q I q => h.run w pins s σ H Q I (i _ _ _ _ _ I q)⟩
theorem PS.impI {e : Stmt} {t t' : TS} (h : PS X e t) (i : ∀ pins s σ H E, Inv X pins σ H s → t' E σ H → t E σ H) : PS X e t' := ⟨fun pins s σ H E I q => h.run pins s σ H E I (i _ _ _ _ _ I q)⟩
theorem PSs.impI {e : List Stmt} {t t' : TS} (h : PSs X e t) (i : ∀ pins s σ H E, Inv X pins σ H s → t' E σ H → t E σ H) : PSs X e t' := ⟨fun pins s σ H E I q => h.run pins s σ H E I (i _ _ _ _ _ I q)⟩
theorem PG.impI {e : Expr} {t t' : TG} (h : PG X e t) (i : ∀ pins s σ H v Q, Inv X pins σ H s → t' v σ H Q → t v σ H Q) : PG X e t' := ⟨fun pins s σ H v u Q I r q => h.run pins s σ H v u Q I r (i _ _ _ _ _ _ I q)⟩
theorem PGs.impI {e : List Expr} {t t' : TGs} (h : PGs X e t) (i : ∀ pins s σ H v Q, Inv X pins σ H s → t' v σ H Q → t v σ H Q) : PGs X e t' := ⟨fun pins s σ H v u Q I r q => h.run pins s σ H v u Q I r (i _ _ _ _ _ _ I q)⟩
def ze (i : Nat) : DTE := fun η G Q => match η[i]? with
  | some (some d) => Q d G
  | _ => False
theorem za [Bs] (i : Nat) {x : Str} {pos : Pos} (hN : X.N[i]? = some x := by rfl) (hv : Vis X.env.scope x := by first | exact Or.inl rfl | exact Or.inr (Or.inl rfl) | exact Or.inr (Or.inr rfl)) (hd : (x == ("__debug__" : Str)) = false := by decide)
    (hcd : (x == ("__classdict__" : Str)) = false := by decide) : PED X (.Name x pos) (ze i) :=
  PE.impI (pe_var hN hv hd hcd) fun pins s σ H Q I ⟨η, G, P, hs, hr, t, k⟩ => by
    unfold ze at t
    split at t
    · rename_i d e
      obtain ⟨v, q, r⟩ := hs.2 i d e
      exact ⟨v, q, k d G v H t (.refl _ _) hr r⟩
    · exact t.elim
def dC (d : D) : DTE := fun _ G Q => Q d G
theorem z5t [Bs] {e : Expr} {d : D} {v : V} (h : PE X e (tC v)) (r : ∀ H G, VR X.ml H G d v) : PED X e (dC d) :=
  PE.impI h fun pins s σ H Q I ⟨η, G, P, hs, hr, t, k⟩ => k d G v H t (.refl _ _) hr (r H G)
theorem zg [Bs] {i : Int} {j pos} : PED X (.Constant (.int i) j pos) (dC (.int i)) := z5t pe_int fun _ _ => by rw [VR]
theorem zje [Bs] {i : Bool} {j pos} : PED X (.Constant (.bool i) j pos) (dC (.bl i)) := z5t pe_bl fun _ _ => by rw [VR]
theorem zpk [Bs] {i : Str} {j pos} : PED X (.Constant (.str i) j pos) (dC (.str i)) := z5t pe_str fun _ _ => by rw [VR]
theorem zup [Bs] {j pos} : PED X (.Constant .none j pos) (dC .non) := z5t pe_non fun _ _ => by rw [VR]
theorem ze8 [Bs] {x : Str} {i : Int} {t : Tok} {pos : Pos} (hm : X.mg x = some (.int i t)) (hg : Gl X x := by rfl) (hd : (x == ("__debug__" : Str)) = false := by decide) : PED X (.Name x pos) (dC (.int i)) :=
  z5t (pe_glob (v := .int i) hg hm ⟨t, rfl⟩ hd) fun _ _ => by rw [VR]
theorem zma [Bs] {x : Str} {n : String} {pos : Pos} (hm : X.mg x = none) (hv : bootBuiltins x = some (.type n)) (hg : Gl X x := by rfl) (hn : x ≠ "__name__" := by decide) (hd : (x == ("__debug__" : Str)) = false := by decide) : PED X (.Name x pos) (dC (.ty n)) :=
  z5t (pe_bltn (v := .ty n) hg hm hv rfl hn hd) fun _ _ => by rw [VR]
def dNil : DTA := fun _ G Q => Q [] G
def zf (T : DTE) (R : DTA) : DTA := fun η G Q => T η G fun d G1 => R η G1 fun ds G2 => Q (d :: ds) G2
theorem zd [Bs] : PAD X [] dNil := PA.impI pa_nil fun pins s σ H Q I ⟨η, G, P, hs, hr, t, k⟩ => k [] G [] H t (.refl _ _) hr .nil
theorem zc [Bs] {e : Expr} {es : List Expr} {T : DTE} {R : DTA} (ha : PED X e T) (hb : PAD X es R) (hs : starEach (e :: es) X.env = (false, eval e X.env) :: starEach es X.env := by rfl) : PAD X (e :: es) (zf T R) :=
  PA.impI (pa_cons ha hb hs) fun pins s σ H Q I ⟨η, G, P, hs, hr, t, k⟩ =>
    ⟨η, G, _, hs, hr, t, fun d1 G1 v1 H1 p1 x1 r1 q1 => ⟨η, G1, _, hs.ext hr x1, r1, p1, fun ds G2 vs H2 p2 x2 r2 q2 => k (d1 :: ds) G2 (v1 :: vs) H2 p2 (x1.trans x2) r2 (.cons (q1.ext r1 x2) q2)⟩⟩
/-- a tuple -/
def dTup (T : DTA) : DTE := fun η G Q => T η G fun ds G1 => ds.length ≤ 1000 ∧ Q (.nd .tup ds) G1
theorem z7a {n : Nat} (h : n ≤ 1000) : n ≤ sizeLine := Nat.le_trans h (by decide)
theorem zt [Bs] {es : List Expr} {x1 : Nat} {pos : Pos} {T : DTA} (h : PAD X es T) : PED X (.Tuple es x1 pos) (dTup T) :=
  PE.impI (pe_tup h) fun pins s σ H Q I ⟨η, G, P, hs, hr, t, k⟩ =>
    ⟨η, G, _, hs, hr, t, fun ds G1 vs H1 ⟨pl, p1⟩ x1 r1 q1 => ⟨by rw [q1.length]; exact z7a pl, fun p hp => by
      have x2 : Ext H1 G1 (upd H1 p (.tup vs)) G1 := .laid hp
      refine k _ G1 (.ref p) _ p1 (x1.trans x2) (r1.laid hp) ?_
      rw [VR]
      exact ⟨p, vs, rfl, .inl (.inl upd_same), q1.ext r1 x2⟩⟩⟩
/-- a new list that is not changed later -/
def zjv (T : DTA) : DTE := fun η G Q => T η G fun ds G1 => ds.length ≤ 1000 ∧ Q (.nd .lst ds) G1
theorem zfr [Bs] {es : List Expr} {pos : Pos} {T : DTA} (h : PAD X es T) : PED X (.List es pos) (zjv T) :=
  PE.impI (pe_lst h) fun pins s σ H Q I ⟨η, G, P, hs, hr, t, k⟩ =>
    ⟨η, G, _, hs, hr, t, fun ds G1 vs H1 ⟨pl, p1⟩ x1 r1 q1 => ⟨by rw [q1.length]; exact z7a pl, fun p hp => by
      have x2 : Ext H1 G1 (upd H1 p (.lst vs)) G1 := .laid hp
      refine k _ G1 (.ref p) _ p1 (x1.trans x2) (r1.laid hp) ?_
      rw [VR]
      exact ⟨p, vs, rfl, ⟨r1.free hp, upd_same⟩, q1.ext r1 x2⟩⟩⟩
/-- a new list that is changed later -/
def zi7 (T : DTA) : DTE := fun η G Q => T η G fun ds G1 => ds.length ≤ 1000 ∧ ∀ p, G1 p = none → Q (.ref p) (up G1 p (.lst ds))
theorem zem [Bs] {es : List Expr} {pos : Pos} {T : DTA} (h : PAD X es T) : PED X (.List es pos) (zi7 T) :=
  PE.impI (pe_lst h) fun pins s σ H Q I ⟨η, G, P, hs, hr, t, k⟩ =>
    ⟨η, G, _, hs, hr, t, fun ds G1 vs H1 ⟨pl, p1⟩ x1 r1 q1 => ⟨by rw [q1.length]; exact z7a pl, fun p hp => by
      have x2 : Ext H1 G1 (upd H1 p (.lst vs)) (up G1 p (.lst ds)) := .new hp
      refine k _ _ (.ref p) _ (p1 p (r1.free hp)) (x1.trans x2) (r1.new hp ⟨vs, upd_same, q1.ext r1 x2⟩) ?_
      rw [VR]⟩⟩
abbrev DR2 := D → D → DHp → DVK → Prop
def zr8 (K : Ml) (r : DR2) : R2 := fun x y H Q => ∃ dx dy G P, HR K H G ∧ VR K H G dx x ∧ VR K H G dy y ∧ r dx dy G P ∧ ∀ d G' v H', P d G' → Ext H G H' G' → HR K H' G' → VR K H' G' d v → Q v H'
abbrev OpD (X : Cx) (f : Value → Value → Sem Value) (r : DR2) : Prop := OpR X f (zr8 X.ml r)
def dOp (r : DR2) (Ta Tb : DTE) : DTE := fun η G Q => Ta η G fun x G1 => Tb η G1 fun y G2 => r x y G2 Q
theorem zx4 [Bs] {r : DR2} {Ta Tb : DTE} {K : Ml} {σ : L2.St} {H : Hp} {Q : VK} (h : znj K (dOp r Ta Tb) σ H Q) : tOp (zr8 K r) (znj K Ta) (znj K Tb) σ H Q :=
  let ⟨η, G, P, hs, hr, t, k⟩ := h
  ⟨η, G, _, hs, hr, t, fun d1 G1 v1 H1 p1 x1 r1 q1 => ⟨η, G1, _, hs.ext hr x1, r1, p1, fun d2 G2 v2 H2 p2 x2 r2 q2 =>
    ⟨d1, d2, G2, P, r2, q1.ext r1 x2, q2, p2, fun d G' v H' p x r q => k d G' v H' p ((x1.trans x2).trans x) r q⟩⟩⟩
theorem zp [Bs] {a b : Expr} {op : Operator} {pos : Pos} {r : DR2} {Ta Tb : DTE} (ho : OpD X (binaryOp op) r) (ha : PED X a Ta) (hb : PED X b Tb) : PED X (.BinOp a op b pos) (dOp r Ta Tb) :=
  PE.impI (pe_op ho ha hb) fun _ _ _ _ _ _ h => zx4 h
theorem zh2 [Bs] {a b : Expr} {op : CmpOp} {pos : Pos} {r : DR2} {Ta Tb : DTE} (ho : OpD X (compareOp op) r) (ha : PED X a Ta) (hb : PED X b Tb) (hm : behindInMarks op b = false) : PED X (.Compare a [op] [b] pos) (dOp r Ta Tb) :=
  PE.impI (pe_cmpR ho ha hb hm) fun _ _ _ _ _ _ h => zx4 h
/-- a test by a truth value -/
def zag (T : DTE) : DTT := fun η G Q => T η G fun d G1 => match d with
  | .bl b => Q b G1
  | _ => False
theorem zty [Bs] {T : DTE} {K : Ml} {σ : L2.St} {H : Hp} {Q : Bool → Hp → Prop} (h : z06 K (zag T) σ H Q) : tB (znj K T) σ H Q := by
  obtain ⟨η, G, P, hs, hr, t, k⟩ := h
  refine ⟨η, G, _, hs, hr, t, fun d1 G1 v1 H1 p1 x1 r1 q1 => ?_⟩
  cases d1 with
  | bl b => rw [VR] at q1; exact ⟨b, q1, k b G1 H1 p1 x1 r1⟩
  | _ => exact p1.elim
theorem zw [Bs] {a b : Expr} {op : CmpOp} {pos : Pos} {r : DR2} {Ta Tb : DTE} (ho : OpD X (compareOp op) r) (ha : PED X a Ta) (hb : PED X b Tb) (hm : behindInMarks op b = false) : PTD X (.Compare a [op] [b] pos) (zag (dOp r Ta Tb)) :=
  PT.impI (pt_cmpR ho ha hb hm) fun _ _ σ H Q _ h => by
    have h2 := zty h
    obtain ⟨η, G, P, hs, hr, t, k⟩ := h2
    exact zx4 ⟨η, G, P, hs, hr, t, k⟩
theorem zfe [Bs] {e : Expr} {T : DTE} (h : PED X e T) (he : ∀ whole, isTrue e X.env whole = (do let v ← whole; standAt e.pos; holding [v] (truthy v)) := by intro _; rfl) : PTD X e (zag T) :=
  PT.impI (pt_val h he) fun _ _ σ H Q _ h => zty h
def dAnd (t u : DTT) : DTT := fun η G Q => t η G fun c G1 => if c = true then u η G1 Q else Q false G1
def dOr (t u : DTT) : DTT := fun η G Q => t η G fun c G1 => if c = true then Q true G1 else u η G1 Q
def dNot (t : DTT) : DTT := fun η G Q => t η G fun c G1 => Q (!c) G1
theorem zpm [Bs] {e : Expr} {T : DTT} (h : PWD X e T) : PTD X e T := h.pt
theorem zs0 [Bs] {a : Expr} {T : DTT} {pos : Pos} (h : PTD X a T) : PWD X (.BoolOp .And [a] pos) T := pw_and1 h
theorem zkt [Bs] {a : Expr} {T : DTT} {pos : Pos} (h : PTD X a T) : PWD X (.BoolOp .Or [a] pos) T := pw_or1 h
theorem zrj [Bs] {a b : Expr} {rest : List Expr} {t u : DTT} {pos : Pos} (ha : PTD X a t) (hb : PWD X (.BoolOp .And (b :: rest) pos) u) : PWD X (.BoolOp .And (a :: b :: rest) pos) (dAnd t u) :=
  PW.impI (pw_and ha hb) fun _ _ σ H Q _ ⟨η, G, P, hs, hr, t, k⟩ => ⟨η, G, _, hs, hr, t, fun c G1 H1 p1 x1 r1 => by
    by_cases hc : c = true
    · subst hc
      rw [if_pos rfl] at p1 ⊢
      exact ⟨η, G1, P, hs.ext hr x1, r1, p1, fun b G2 H2 p2 x2 r2 => k b G2 H2 p2 (x1.trans x2) r2⟩
    · rw [if_neg hc] at p1 ⊢
      exact k false G1 H1 p1 x1 r1⟩
theorem zll [Bs] {a b : Expr} {rest : List Expr} {t u : DTT} {pos : Pos} (ha : PTD X a t) (hb : PWD X (.BoolOp .Or (b :: rest) pos) u) : PWD X (.BoolOp .Or (a :: b :: rest) pos) (dOr t u) :=
  PW.impI (pw_or ha hb) fun _ _ σ H Q _ ⟨η, G, P, hs, hr, t, k⟩ => ⟨η, G, _, hs, hr, t, fun c G1 H1 p1 x1 r1 => by
    by_cases hc : c = true
    · subst hc
      rw [if_pos rfl] at p1 ⊢
      exact k true G1 H1 p1 x1 r1
    · rw [if_neg hc] at p1 ⊢
      exact ⟨η, G1, P, hs.ext hr x1, r1, p1, fun b G2 H2 p2 x2 r2 => k b G2 H2 p2 (x1.trans x2) r2⟩⟩
theorem zhd [Bs] {a : Expr} {T : DTT} {pos : Pos} (h : PTD X a T) : PTD X (.UnaryOp .Not a pos) (dNot T) :=
  PT.impI (pt_not h) fun _ _ σ H Q _ ⟨η, G, P, hs, hr, t, k⟩ => ⟨η, G, _, hs, hr, t, fun c G1 H1 p1 x1 r1 => k (!c) G1 H1 p1 x1 r1⟩
/-- as values; all but the last are truth values -/
def zna (Ta Tb : DTE) : DTE := fun η G Q => Ta η G fun d G1 => match d with
  | .bl c => if c = true then Tb η G1 Q else Q (.bl false) G1
  | _ => False
def dOrV (Ta Tb : DTE) : DTE := fun η G Q => Ta η G fun d G1 => match d with
  | .bl c => if c = true then Q (.bl true) G1 else Tb η G1 Q
  | _ => False
def zul (Ta : DTE) : DTE := fun η G Q => Ta η G fun d G1 => match d with
  | .bl c => Q (.bl (!c)) G1
  | _ => False
theorem zum [Bs] {op : BoolOp} {a : Expr} {T : DTE} {pos : Pos} (h : PED X a T) : PED X (.BoolOp op [a] pos) T := pe_one h
theorem znw [Bs] {a b : Expr} {rest : List Expr} {Ta Tb : DTE} {pos : Pos} (ha : PED X a Ta) (hb : PED X (.BoolOp .And (b :: rest) pos) Tb) : PED X (.BoolOp .And (a :: b :: rest) pos) (zna Ta Tb) :=
  PE.impI (pe_and ha hb) fun _ _ σ H Q _ ⟨η, G, P, hs, hr, t, k⟩ => ⟨η, G, _, hs, hr, t, fun d G1 v H1 p1 x1 r1 q1 => by
    cases d with
    | bl c =>
      rw [VR] at q1
      refine ⟨c, q1, ?_⟩
      by_cases hc : c = true
      · subst hc
        have p1 : Tb η G1 P := by simpa using p1
        rw [if_pos rfl]
        exact ⟨η, G1, P, hs.ext hr x1, r1, p1, fun d G2 v H2 p2 x2 r2 q => k d G2 v H2 p2 (x1.trans x2) r2 q⟩
      · have p1 : P (.bl false) G1 := by simpa [hc] using p1
        rw [if_neg hc]
        exact k _ G1 _ H1 p1 x1 r1 (by rw [VR])
    | _ => exact p1.elim⟩
theorem zac5 [Bs] {a : Expr} {Ta : DTE} {pos : Pos} (ha : PED X a Ta) : PED X (.UnaryOp .Not a pos) (zul Ta) :=
  PE.impI (pe_not ha) fun _ _ σ H Q _ ⟨η, G, P, hs, hr, t, k⟩ => ⟨η, G, _, hs, hr, t, fun d G1 v H1 p1 x1 r1 q1 => by
    cases d with
    | bl c =>
      rw [VR] at q1
      exact ⟨c, q1, k _ G1 _ H1 p1 x1 r1 (by rw [VR])⟩
    | _ => exact p1.elim⟩
def dIf (t : DTT) (Ta Tb : DTE) : DTE := fun η G Q => t η G fun c G1 => if c = true then Ta η G1 Q else Tb η G1 Q
theorem zzh [Bs] {c a b : Expr} {t : DTT} {Ta Tb : DTE} {pos : Pos} (hc : PTD X c t) (ha : PED X a Ta) (hb : PED X b Tb) : PED X (.IfExp c a b pos) (dIf t Ta Tb) :=
  PE.impI (pe_ifExp hc ha hb) fun _ _ σ H Q _ ⟨η, G, P, hs, hr, t, k⟩ => ⟨η, G, _, hs, hr, t, fun c G1 H1 p1 x1 r1 => by
    by_cases hc : c = true
    · subst hc
      rw [if_pos rfl] at p1 ⊢
      exact ⟨η, G1, P, hs.ext hr x1, r1, p1, fun d G2 v H2 p2 x2 r2 q => k d G2 v H2 p2 (x1.trans x2) r2 q⟩
    · rw [if_neg hc] at p1 ⊢
      exact ⟨η, G1, P, hs.ext hr x1, r1, p1, fun d G2 v H2 p2 x2 r2 q => k d G2 v H2 p2 (x1.trans x2) r2 q⟩⟩
def zc7 : DTS := fun F η G => F.nx η G
def dSeq (t u : DTS) : DTS := fun F η G => t { F with nx := u F } η G
theorem zaa [Bs] : PSsD X [] zc7 := PSs.impI pss_nil fun _ _ σ H E _ ⟨η, G, F, hs, hr, t, k⟩ => k.nx η G σ H t (.refl _ _) hs hr
theorem zh [Bs] {st : Stmt} {rest : List Stmt} {t u : DTS} (h1 : PSD X st t) (h2 : PSsD X rest u) : PSsD X (st :: rest) (dSeq t u) :=
  PSs.impI (pss_cons h1 h2) fun _ _ σ H E _ ⟨η, G, F, hs, hr, t, k⟩ => ⟨η, G, _, hs, hr, t,
    ⟨fun η' G' σ' H' p x s r => ⟨η', G', F, s, r, p, k.ext x⟩, k.rt, k.bk, k.ct⟩⟩
theorem zj [Bs] {st : Stmt} {t : DTS} (h1 : PSD X st t) : PSsD X [st] t := pss_one h1
def zpz : DTS := fun F η G => F.bk η G
def zyh : DTS := fun F η G => F.ct η G
def zh0 (T : DTE) : DTS := fun F η G => T η G fun _ G1 => F.nx η G1
theorem zc8 [Bs] {e : Expr} {T : DTE} {pos : Pos} (he : PED X e T) (hs : swapsWith e none pos.line X.env = pure false := by rfl) : PSD X (.Expr e pos) (zh0 T) :=
  PS.impI (ps_expr he hs) fun _ _ σ H E _ ⟨η, G, F, hs, hr, t, k⟩ => ⟨η, G, _, hs, hr, t, fun d G1 v H1 p1 x1 r1 q1 => k.nx η G1 σ H1 p1 x1 (hs.ext hr x1) r1⟩
def dRet (T : DTE) : DTS := fun F η G => T η G F.rt
theorem z8 [Bs] {e : Expr} {T : DTE} {pos : Pos} (he : PED X e T) : PSD X (.Return (some e) pos) (dRet T) :=
  PS.impI (ps_ret he) fun _ _ σ H E _ ⟨η, G, F, hs, hr, t, k⟩ => ⟨η, G, _, hs, hr, t, fun d G1 v H1 p1 x1 r1 q1 => k.rt d G1 v H1 p1 x1 r1 q1⟩
theorem Inv.fz {pins : List (Addr × Obj)} {σ : L2.St} {H : Hp} {G : DHp} {s : Shared} {p : Addr} {o : DO} (I : Inv X pins σ H s) (hr : HR X.ml H G) (h : G p = some o) : ∃ H', Fz H H' p o ∧ Inv X pins σ H' s := by
  have q := hr p o h
  cases o with
  | lst ds => exact ⟨H, rfl, I⟩
  | ins C fs => exact ⟨H, rfl, I⟩
  | rw es ep kvs => exact ⟨H, rfl, I⟩
  | dK kvs =>
    obtain ⟨ws, e, _⟩ := q
    obtain ⟨od, I'⟩ := I.lock e trivial
    exact ⟨_, ⟨_, od, e, trivial, rfl⟩, I'⟩
  | dN kvs => exact ⟨H, rfl, I⟩
/-- what is made is changed no more -/
def dFz (T : DTE) : DTE := fun η G Q => T η G fun d G1 => match d with
  | .ref a => match G1 a with
    | some o => Q o.tree (dl G1 a)
    | none => False
  | d => Q d G1
theorem za2 [Bs] {e : Expr} {T : DTE} (h : PED X e T) : PED X e (dFz T) := ⟨fun pins s σ H Q I ⟨η, G, P, hs, hr, t, k⟩ => by
  refine thn (h.run pins s σ H (fun v H1 => ∃ d G1, (match d with | .ref a => (match G1 a with | some o => P o.tree (dl G1 a) | none => False) | d => P d G1) ∧ Ext H G H1 G1 ∧ HR X.ml H1 G1 ∧ VR X.ml H1 G1 d v) I ⟨η, G, _, hs, hr, t, fun d G1 v H1 p x r q => ⟨d, G1, p, x, r, q⟩⟩) fun u s1 ⟨v, H1, I1, rv, d, G1, p, x, r, q⟩ => ?_
  cases d with
  | ref a =>
    rw [VR] at q
    subst q
    cases e : G1 a with
    | none =>
      have p : (match G1 a with | some o => P o.tree (dl G1 a) | none => False) := p
      rw [e] at p; exact p.elim
    | some o =>
      have p : (match G1 a with | some o => P o.tree (dl G1 a) | none => False) := p
      rw [e] at p
      obtain ⟨H2, f, I2⟩ := Inv.fz I1 r e
      obtain ⟨t1, t2, t3⟩ := r.tree e f
      exact ⟨_, H2, I2, rv, k _ _ _ _ p (x.trans t2) t3 t1⟩
  | _ => exact ⟨v, H1, I1, rv, k _ G1 v H1 p x r q⟩⟩
def zrc (T : DTE) : DTS := dRet (dFz T)
theorem zxp [Bs] {e : Expr} {T : DTE} {pos : Pos} (he : PED X e T) : PSD X (.Return (some e) pos) (zrc T) := z8 (za2 he)
def zxj : DTS := fun F _ G => F.rt .non G
def dIfS (c : DTT) (t u : DTS) : DTS := fun F η G => c η G fun b G1 => if b = true then t F η G1 else u F η G1
theorem zcc [Bs] {c : Expr} {a b : List Stmt} {tc : DTT} {t u : DTS} {pos : Pos} (hc : PTD X c tc) (ha : PSsD X a t) (hb : PSsD X b u) : PSD X (.If c a b pos) (dIfS tc t u) :=
  PS.impI (ps_if hc ha hb) fun _ _ σ H E _ ⟨η, G, F, hs, hr, t, k⟩ => ⟨η, G, _, hs, hr, t, fun c G1 H1 p1 x1 r1 => by
    by_cases hc : c = true
    · subst hc
      rw [if_pos rfl] at p1 ⊢
      exact ⟨η, G1, F, hs.ext hr x1, r1, p1, k.ext x1⟩
    · rw [if_neg hc] at p1 ⊢
      exact ⟨η, G1, F, hs.ext hr x1, r1, p1, k.ext x1⟩⟩
def zlp : DTS := fun _ _ _ => False
theorem zgd [Bs] {st : Stmt} : PSD X st zlp := PS.impI ps_never fun _ _ σ H E _ ⟨η, G, F, hs, hr, t, k⟩ => t
def zl (i : Nat) : DTG := fun d η G Q => Q (η.set i (some d)) G
theorem z9e (σ : L2.St) (i : Nat) (o : Option V) : wipe (σ.set i o) [i] = wipe σ [i] := by
  unfold wipe wipe
  rw [List.set_set]
theorem zk [Bs] {i : Nat} {x : Str} {pos : Pos} (hN : X.N.Nodup) (hi : X.N[i]? = some x) (hx : Loc X.env.scope x) (hf : X.fn x = true ∨ X.env.scope.names.lookup x = some .local := by first | exact .inl rfl | exact .inr rfl | assumption) : PGD X (.Name x pos) [i] (zl i) :=
  PG.impI (pg_name hN hi hx hf) fun _ _ σ H v Q _ ⟨d, η, G, P, q, hs, hr, t, k⟩ => k _ G _ H t (.refl _ _) (hs.set i q) hr (z9e _ _ _)
def zfc : DTGs := fun ds η G Q => match ds with
  | [] => Q η G
  | _ => False
def z4 (t : DTG) (u : DTGs) : DTGs := fun ds η G Q => match ds with
  | d :: r => t d η G fun η' G' => u r η' G' Q
  | [] => False
theorem zbb [Bs] : PGsD X [] [] zfc := PGs.impI pgs_nil fun _ _ σ H vs Q _ ⟨ds, η, G, P, q, hs, hr, t, k⟩ => by
  cases ds with
  | nil => exact ⟨q.nil_of, k η G σ H t (.refl _ _) hs hr rfl⟩
  | cons d ds => exact t.elim
theorem zy2 (σ : L2.St) (js : List Nat) : ∀ is : List Nat, wipe σ (is ++ js) = wipe (wipe σ js) is
  | [] => rfl
  | i :: is => by
    show (wipe σ (is ++ js)).set i none = (wipe (wipe σ js) is).set i none
    rw [zy2 σ js is]
theorem zwv (σ : L2.St) (i : Nat) : ∀ js : List Nat, wipe (σ.set i none) js = (wipe σ js).set i none
  | [] => rfl
  | j :: js => by
    show (wipe (σ.set i none) js).set j none = ((wipe σ js).set j none).set i none
    rw [zwv σ i js]
    by_cases h : i = j
    · subst h; rfl
    · rw [List.set_comm _ _ h]
theorem zu7 (σ : L2.St) (js : List Nat) : ∀ is : List Nat, wipe (wipe σ js) is = wipe (wipe σ is) js
  | [] => rfl
  | i :: is => by
    show (wipe (wipe σ js) is).set i none = wipe ((wipe σ is).set i none) js
    rw [zu7 σ js is, zwv]
theorem z5q {a b c : L2.St} {is js : List Nat} (h1 : wipe b is = wipe a is) (h2 : wipe c js = wipe b js) : wipe c (is ++ js) = wipe a (is ++ js) := by
  rw [zy2, zy2, h2, zu7 b, h1, zu7]
theorem zn [Bs] {e : Expr} {es : List Expr} {is js : List Nat} {t : DTG} {u : DTGs} (h1 : PGD X e is t) (h2 : PGsD X es js u)
    (hs : (assignEach (e :: es) X.env).map (·.2) = assign e X.env :: (assignEach es X.env).map (·.2) := by rfl) : PGsD X (e :: es) (is ++ js) (z4 t u) :=
  PGs.impI (pgs_cons h1 h2 hs) fun _ _ σ H vs Q _ ⟨ds, η, G, P, q, hs, hr, t, k⟩ => by
    cases ds with
    | nil => exact t.elim
    | cons d ds =>
      obtain ⟨v, r, rfl, q1, q2⟩ := q.uncons
      exact ⟨v, r, rfl, d, η, G, _, q1, hs, hr, t, fun η1 G1 σ1 H1 p1 x1 s1 r1 w1 => ⟨ds, η1, G1, P, q2.ext hr x1, s1, r1, p1, fun η2 G2 σ2 H2 p2 x2 s2 r2 w2 => k η2 G2 σ2 H2 p2 (x1.trans x2) s2 r2 (z5q w1 w2)⟩⟩
def ze2 (t : DTGs) (n : Nat) : DTG := fun d η G Q => match d with
  | .nd .tup ds => ds.length = n ∧ t ds η G Q
  | _ => False
theorem zcb [Bs] {es : List Expr} {is : List Nat} {k : Nat} {t : DTGs} {n : Nat} {pos : Pos} (hc : X.calm = true) (h : PGsD X es is t)
    (hn : (assignEach es X.env).length = n := by rfl) (hst : (assignEach es X.env).findIdx? (·.1) = none := by rfl) : PGD X (.Tuple es k pos) is (ze2 t n) :=
  PG.impI (pg_tup hc h hn hst) fun _ _ σ H v Q _ ⟨d, η, G, P, q, hs, hr, t, k⟩ => by
    cases d with
    | nd kd ds =>
      cases kd with
      | tup =>
        rw [VR] at q
        obtain ⟨a, vs, rfl, hh, q⟩ := q
        obtain ⟨hl, t⟩ := t
        exact ⟨a, vs, rfl, hh, q.length.trans hl, ds, η, G, P, q, hs, hr, t, k⟩
      | _ => exact t.elim
    | _ => exact t.elim
def dAsg (T : DTE) (g : DTG) : DTS := fun F η G => T η G fun d G1 => g d η G1 F.nx
theorem zin [Bs] {tg e : Expr} {T : DTE} {is : List Nat} {g : DTG} {pos : Pos} (he : PED X e T) (hg : PGD X tg is g) (hs : swapsWithSole [tg] e pos.line X.env = pure false := by rfl) (hw : swappedStores [tg] e X.env = pure none := by rfl)
    (h1 : (assignEach [tg] X.env).map (·.2) = [assign tg X.env] := by rfl) : PSD X (.Assign [tg] e pos) (dAsg T g) :=
  PS.impI (ps_asg he hg hs hw h1) fun _ _ σ H E _ ⟨η, G, F, hs, hr, t, k⟩ => ⟨η, G, _, hs, hr, t, fun d G1 v H1 p1 x1 r1 q1 =>
    ⟨d, η, G1, _, q1, hs.ext hr x1, r1, p1, fun η2 G2 σ2 H2 p2 x2 s2 r2 w2 => k.nx η2 G2 σ2 H2 p2 (x1.trans x2) s2 r2⟩⟩
theorem zae [Bs] {i : Nat} {x : Str} {e : Expr} {T : DTE} {pos pos' : Pos} (hN : X.N.Nodup) (hi : X.N[i]? = some x) (hx : Loc X.env.scope x) (he : PED X e T) (hs : swapsWith e (some (.Name x pos')) pos.line X.env = pure false := by rfl) (hf : X.fn x = true ∨ X.env.scope.names.lookup x = some .local := by first | exact .inl rfl | exact .inr rfl | assumption) :
    PSD X (.Assign [.Name x pos'] e pos) (dAsg T (zl i)) :=
  PS.impI (ps_set hN hi hx he hs hf) fun _ _ σ H E _ ⟨η, G, F, hs, hr, t, k⟩ => ⟨η, G, _, hs, hr, t, fun d G1 v H1 p1 x1 r1 q1 =>
    k.nx _ G1 _ H1 p1 x1 ((hs.ext hr x1).set i q1) r1⟩
/-- a, b = x, y -/
def dPar (i j : Nat) (T : DTA) : DTS := fun F η G => T η G fun ds G1 => match ds with
  | [d, e] => F.nx ((η.set i (some d)).set j (some e)) G1
  | _ => False
theorem zlh [Bs] {i j : Nat} {x y : Str} {a b : Expr} {T : DTA} {px py pt pos : Pos} {kt k2 pt2} (hc : X.calm = true) (hN : X.N.Nodup) (hi : X.N[i]? = some x) (hj : X.N[j]? = some y) (hij : i ≠ j)
    (hx : X.env.scope.names.lookup x = some .local) (hy : X.env.scope.names.lookup y = some .local) (ha : PAD X [a, b] T)
    (hw : swappedStores [.Tuple [.Name x px, .Name y py] kt pt] (.Tuple [a, b] k2 pt2) X.env = pure (some [x, y]))
    (hs : swapsWithSole [.Tuple [.Name x px, .Name y py] kt pt] (.Tuple [a, b] k2 pt2) pos.line X.env = pure false := by rfl) :
    PSD X (.Assign [.Tuple [.Name x px, .Name y py] kt pt] (.Tuple [a, b] k2 pt2) pos) (dPar i j T) :=
  PS.impI (ps_par hc hN hi hj hij hx hy ha hw hs) fun _ _ σ H E _ ⟨η, G, F, hs, hr, t, k⟩ => ⟨η, G, _, hs, hr, t, fun ds G1 vs H1 p1 x1 r1 q1 => by
    match ds, p1, q1 with
    | [d, e], p1, q1 =>
      obtain ⟨v, r, rfl, a1, q2⟩ := q1.uncons
      obtain ⟨w, r', rfl, a2, q3⟩ := q2.uncons
      rw [q3.nil_of]
      exact ⟨v, w, rfl, k.nx _ G1 _ H1 p1 x1 (((hs.ext hr x1).set i a1).set j a2) r1⟩
    | [], p1, _ => exact p1.elim
    | [_], p1, _ => exact p1.elim
    | _ :: _ :: _ :: _, p1, _ => exact p1.elim⟩
/-- the object in a slot is changed no more -/
def dFrz (i : Nat) (t : DTS) : DTS := fun F η G => match η[i]? with
  | some (some (.ref a)) => match G a with
    | some o => t F (η.set i (some o.tree)) (dl G a)
    | none => False
  | _ => False
theorem zbk [Bs] {sts : List Stmt} {t : DTS} (i : Nat) (h : PSsD X sts t) : PSsD X sts (dFrz i t) := ⟨fun pins s σ H E I ⟨η, G, F, hs, hr, t, k⟩ => by
    unfold dFrz at t
    split at t
    · rename_i a e
      split at t
      · rename_i o ho
        obtain ⟨v, q, r⟩ := hs.2 i _ e
        rw [VR] at r
        subst r
        obtain ⟨H2, f, I2⟩ := Inv.fz I hr ho
        obtain ⟨t1, t2, t3⟩ := hr.tree ho f
        have s2 : SR X.ml H2 (dl G a) σ (η.set i (some o.tree)) := by
          have z := (hs.ext hr t2).set i t1
          have e2 : σ.set i (some (V.ref a)) = σ := by
            refine List.ext_getElem? fun j => ?_
            by_cases hj : i = j
            · subst hj
              rw [List.getElem?_set_self (List.getElem?_eq_some_iff.mp q).1, q]
            · rw [List.getElem?_set_ne hj]
          rw [e2] at z; exact z
        exact h.run pins s σ H2 E I2 ⟨_, _, F, s2, t3, t, k.ext t2⟩
      · exact t.elim
    · exact t.elim⟩
end
end DL
namespace DL
open PySem PySem.Spec PyProof.Rows L2
abbrev DTI := DSt → DHp → (List D → (DHp → Prop) → DHp → Prop) → Prop
/-- the walk J gives the items ds, as long as ok holds -/
def ItD (K : Ml) (H1 : Hp) (G1 : DHp) (J : It) (ds : List D) (ok : DHp → Prop) : Prop :=
  ∀ i H G, Ext H1 G1 H G → HR K H G → ok G →
    (∀ d, ds[i]? = some d → J.go i H ∧ ∀ x H', J.yld i H x H' → Ext H G H' G ∧ HR K H' G ∧ VR K H' G d x) ∧ (ds.length ≤ i → J.stop i H)
def z6n [Bs] (K : Ml) (T : DTI) : TI := fun σ H R => ∃ η G P, SR K H G σ η ∧ HR K H G ∧ T η G P ∧
  ∀ ds ok G' J H', P ds ok G' → Ext H G H' G' → HR K H' G' → ItD K H' G' J ds ok → R J H'
abbrev PID [Bs] (X : Cx) (tg it : Expr) (T : DTI) : Prop := PI X tg it (z6n X.ml T)
def zco : DHp → Prop := fun _ => True
section
variable {X : Cx} {tg : Expr}
theorem Itl.itD {K : Ml} {H1 : Hp} {G1 : DHp} {a : Addr} {ds : List D} {ok : DHp → Prop} (h : ∀ H G, Ext H1 G1 H G → HR K H G → ok G → ∃ vs, SqL K.K H a vs ∧ VRs K H G ds vs) : ItD K H1 G1 (Itl K.K a) ds ok := by
  intro i H G x r o
  obtain ⟨vs, q, v⟩ := h H G x r o
  refine ⟨fun d e => ?_, fun l => ⟨vs, q, by rw [v.length]; exact l⟩⟩
  obtain ⟨u, e2, q2⟩ := v.get e
  refine ⟨⟨vs, u, q, e2⟩, fun y H' ⟨e3, e4⟩ => ?_⟩
  subst e3
  have e5 := e4 vs q
  rw [e2] at e5; cases e5
  exact ⟨.refl _ _, r, q2⟩
theorem Itt.itD {K : Ml} {H1 : Hp} {G1 : DHp} {a : Addr} {ds : List D} {ok : DHp → Prop} (h : ∀ H G, Ext H1 G1 H G → HR K H G → ok G → ∃ vs, SqT K.K H a vs ∧ VRs K H G ds vs) : ItD K H1 G1 (Itt K.K a) ds ok := by
  intro i H G x r o
  obtain ⟨vs, q, v⟩ := h H G x r o
  refine ⟨fun d e => ?_, fun l => ⟨vs, q, by rw [v.length]; exact l⟩⟩
  obtain ⟨u, e2, q2⟩ := v.get e
  refine ⟨⟨vs, u, q, e2⟩, fun y H' ⟨e3, e4⟩ => ?_⟩
  subst e3
  have e5 := e4 vs q
  rw [e2] at e5; cases e5
  exact ⟨.refl _ _, r, q2⟩
/-- a list or a tuple -/
def za1 (T : DTE) : DTI := fun η G R => T η G fun d G1 => match d with
  | .nd .tup ds => R ds zco G1
  | .nd .lst ds => R ds zco G1
  | .nd .scr ds => R ds zco G1
  | .ref a => (match G1 a with
    | some (.lst ds) => R ds (fun G => G a = some (.lst ds)) G1
    | _ => False)
  | _ => False
theorem zdu {K : Ml} {H : Hp} {G : DHp} {k : Kd} {a : Addr} {vs : List V} (h : Held K H G k a vs) (hk : k = .lst ∨ k = .scr) : SqL K.K H a vs := by
  rcases hk with rfl | rfl
  · exact .inl (.inl h.2)
  · rcases h with ⟨o, h⟩ | h
    · exact .inl (.inr ⟨o, h⟩)
    · exact .inr h
theorem zay [Bs] {l : Expr} {T : DTE} (hl : PED X l T) : PID X tg l (za1 T) := by
  refine ⟨fun pins s σ H R I ⟨η, G, P, hs, hr, t, k⟩ => ?_⟩
  refine thn (hl.run pins s σ H (fun v H1 => ∃ d G1, (match d with
    | .nd .tup ds => P ds zco G1
    | .nd .lst ds => P ds zco G1
    | .nd .scr ds => P ds zco G1
    | .ref a => (match G1 a with
      | some (.lst ds) => P ds (fun G => G a = some (.lst ds)) G1
      | _ => False)
    | _ => False) ∧ Ext H G H1 G1 ∧ HR X.ml H1 G1 ∧ VR X.ml H1 G1 d v) I ⟨η, G, _, hs, hr, t, fun d G1 v H1 p x r q => ⟨d, G1, p, x, r, q⟩⟩) fun u s1 ⟨v, H1, I1, rv, d, G1, p, x, r, q⟩ => ?_
  have doL : ∀ (a : Addr) (ds : List D) (ok : DHp → Prop), v = .ref a → P ds ok G1 → ok G1 → (∀ H G, Ext H1 G1 H G → HR X.ml H G → ok G → ∃ vs, SqL X.K H a vs ∧ VRs X.ml H G ds vs) →
      wpAny (model X.prog X.w) X.A (pyIter u) (PIE X pins σ tg R) X.xe s1 := by
    intro a ds ok e p1 o1 hh
    subst e
    cases rv
    obtain ⟨vs, hq, _⟩ := hh H1 G1 (.refl _ _) r o1
    have hp : PI X tg (.Constant .none 0 ⟨0, 0, 0, 0⟩) (fun σ H R => R (Itl X.K a) H) → True := fun _ => trivial
    obtain ⟨its, rv2, p2, hz⟩ := I1.list hq
    refine wpAny_pyIter_list p2.isList ?_
    refine ⟨s1.heap.objs.size, [s1.heap.objs.size], _, _, H1, rfl, I1.kept (t' := s1.toks) fun b o e => Heap.get?_push_of_some _ e, turn_list a _, ⟨_, Heap.get?_push_size _ rfl, rfl, rfl⟩, fun b hb => ?_, k ds ok G1 _ H1 p1 x r (Itl.itD hh)⟩
    have e : b = s1.heap.objs.size := by simpa using hb
    subst e
    exact I1.fpOk (Nat.le_refl _) (I1.hok.fresh (Nat.le_refl _))
  cases d with
  | nd kd ds =>
    cases kd with
    | tup =>
      rw [VR] at q
      obtain ⟨a, vs, rfl, hq, vr⟩ := q
      cases rv
      obtain ⟨its, rv2, p2, hz⟩ := I1.tuple hq
      refine wpAny_pyIter_tuple (show s1.heap.IsTuple a its.toArray from p2) ?_
      refine ⟨s1.heap.objs.size, [s1.heap.objs.size], _, _, H1, rfl, I1.kept (t' := s1.toks) fun b o e => Heap.get?_push_of_some _ e, turn_tuple a _, ⟨_, Heap.get?_push_size _ rfl, rfl, rfl⟩, fun b hb => ?_,
        k ds zco G1 _ H1 p x r (Itt.itD fun H' G' x' r' _ => ⟨vs, Held.ext (k := .tup) r x' hq, vr.ext r x'⟩)⟩
      have e : b = s1.heap.objs.size := by simpa using hb
      subst e
      exact I1.fpOk (Nat.le_refl _) (I1.hok.fresh (Nat.le_refl _))
    | lst =>
      rw [VR] at q
      obtain ⟨a, vs, e, hq, vr⟩ := q
      exact doL a ds zco e p trivial fun H' G' x' r' _ => ⟨vs, zdu (hq.ext r x') (.inl rfl), vr.ext r x'⟩
    | scr =>
      rw [VR] at q
      obtain ⟨a, vs, e, hq, vr⟩ := q
      exact doL a ds zco e p trivial fun H' G' x' r' _ => ⟨vs, zdu (hq.ext r x') (.inr rfl), vr.ext r x'⟩
    | _ => exact p.elim
  | ref a =>
    rw [VR] at q
    cases e : G1 a with
    | none =>
      have p : (match G1 a with | some (.lst ds) => P ds (fun G => G a = some (.lst ds)) G1 | _ => False) := p
      rw [e] at p; exact p.elim
    | some o =>
      have p : (match G1 a with | some (.lst ds) => P ds (fun G => G a = some (.lst ds)) G1 | _ => False) := p
      rw [e] at p
      cases o with
      | lst ds => exact doL a ds _ q p e fun H' G' x' r' o => let ⟨vs, z, w⟩ := r' a _ o; ⟨vs, .inl (.inl z), w⟩
      | _ => exact p.elim
  | _ => exact p.elim
/-- lo, lo + 1, .. below hi -/
def zb4 (lo hi : Int) : List Int := (List.range (hi - lo).toNat).map fun (k : Nat) => lo + (k : Int)
theorem Itr.itD {K : Ml} {H1 : Hp} {G1 : DHp} {lo hi : Int} : ItD K H1 G1 (Itr lo (hi - lo).toNat) ((zb4 lo hi).map D.int) zco := by
  intro i H G x r o
  have hl : ((zb4 lo hi).map D.int).length = (hi - lo).toNat := by simp [zb4]
  refine ⟨fun d e => ?_, fun l => by rw [hl] at l; exact l⟩
  have hi' : i < (hi - lo).toNat := by rw [← hl]; exact (List.getElem?_eq_some_iff.mp e).1
  refine ⟨hi', fun y H' ⟨e3, e4⟩ => ?_⟩
  subst e3 e4
  refine ⟨.refl _ _, r, ?_⟩
  have : d = D.int (lo + (i : Int)) := by
    simp only [zb4, List.map_map, List.getElem?_map, List.getElem?_range hi', Option.map_some, Function.comp, Option.some.injEq] at e
    exact e.symm
  subst this
  rw [VR]
def zcx (T : DTA) : DTI := fun η G R => T η G fun ds G1 => match ds with
  | [.int j] => (-(2 ^ 62) ≤ j ∧ j < 2 ^ 62) ∧ R ((zb4 0 j).map D.int) zco G1
  | _ => False
theorem zfk [Bs] {a : Expr} {T : DTA} {p pos : Pos} (hm : X.mg "range" = none) (ha : PAD X [a] T) (hg : Gl X "range" := by rfl) (hs : starEach [a] X.env = [(false, eval a X.env)] := by rfl) : PID X tg (.Call (.Name "range" p) [a] [] pos) (zcx T) := by
  refine ⟨fun pins s σ H R I ⟨η, G, P, hs', hr, t, k⟩ => (pi_range1 hg hm ha hs).run pins s σ H R I ⟨η, G, _, hs', hr, t, fun ds G1 vs H1 p x r q => ?_⟩⟩
  match ds, p, q with
  | [.int j], ⟨⟨h1, h2⟩, p⟩, q =>
    obtain ⟨v, w, rfl, q1, q2⟩ := q.uncons
    rw [VR] at q1; subst q1
    rw [q2.nil_of]
    refine ⟨j, rfl, h1, h2, ?_⟩
    have := k _ zco G1 (Itr 0 (j - 0).toNat) H1 p x r Itr.itD
    simpa using this
/-- what is known may be less -/
def Wk (W : DSt → DHp → Prop) : DSt → DHp → Prop := fun η G => ∃ η0, Le η0 η ∧ W η0 G
def dFor (wi : DTI) (g : DTG) (tb : DTS) : DTS := fun F η G => wi η G fun ds ok G1 => ∃ W : Nat → DSt → DHp → Prop, W 0 η G1 ∧ (∀ i η G, W i η G → ok G) ∧
  (∀ i d η G, ds[i]? = some d → W i η G → g d η G fun η2 G2 => tb { F with nx := Wk (W (i + 1)), ct := Wk (W (i + 1)), bk := F.nx } η2 G2) ∧ ∀ η G, W ds.length η G → F.nx η G
theorem zb9 [Bs] {iter : Expr} {body : List Stmt} {wi : DTI} {is : List Nat} {g : DTG} {tb : DTS} {pos : Pos} (hp : PassesOwn (model X.prog X.w) X.A X.env X.xe) (hc : X.calm = true) (hi : PID X tg iter wi) (hg : PGD X tg is g) (hb : PSsD X body tb)
    (hs : ∀ x, foldedSetIterable iter X.env x = pure x := by intro _; rfl) : PSD X (.For tg iter body [] pos) (dFor wi g tb) :=
  PS.impI (ps_for hp hc hi hg hb hs) fun _ _ σ H E _ ⟨η, G, F, hs, hr, t, k⟩ => ⟨η, G, _, hs, hr, t, fun ds ok G1 J H1 p x r it => by
    obtain ⟨W, w0, wok, step, fin⟩ := p
    refine ⟨fun i m σ' H' => m = ds.length - i ∧ i ≤ ds.length ∧ ∃ η' G', W i η' G' ∧ Ext H1 G1 H' G' ∧ SR X.ml H' G' σ' η' ∧ HR X.ml H' G',
      ⟨ds.length, by simp, Nat.zero_le _, η, G1, w0, .refl _ _, hs.ext hr x, r⟩, ?_⟩
    rintro i m σ1 H2 ⟨rfl, hle, η1, G2, w1, x1, s1, r1⟩
    obtain ⟨a1, a2⟩ := it i H2 G2 x1 r1 (wok _ _ _ w1)
    by_cases hlt : i < ds.length
    · have e : ds[i]? = some ds[i] := by simp [hlt]
      obtain ⟨go, yl⟩ := a1 _ e
      refine .inr ⟨go, fun σ' H' => ∃ η' G', Wk (W (i + 1)) η' G' ∧ Ext H1 G1 H' G' ∧ SR X.ml H' G' σ' η' ∧ HR X.ml H' G', fun σ' H' ⟨η', G', ⟨η0, l, w⟩, x', s', r'⟩ => ⟨_, by omega, rfl, hlt, η0, G', w, x', s'.le l, r'⟩, fun y H3 hy => ?_⟩
      obtain ⟨x3, r3, v3⟩ := yl y H3 hy
      refine ⟨_, η1, G2, _, v3, s1.ext r1 x3, r3, step i _ η1 G2 e w1, fun η4 G4 σ4 H4 p4 x4 s4 r4 _ => ⟨η4, G4, _, s4, r4, p4, ?_⟩⟩
      have x5 : Ext H1 G1 H4 G4 := (x1.trans x3).trans x4
      exact ⟨fun η' G' σ' H' p y s r => ⟨η', G', p, x5.trans y, s, r⟩, fun d G' v H' p y r q => k.rt d G' v H' p ((x.trans x5).trans y) r q, fun η' G' σ' H' p y s r => k.nx η' G' σ' H' p ((x.trans x5).trans y) s r,
        fun η' G' σ' H' p y s r => ⟨η', G', p, x5.trans y, s, r⟩⟩
    · have e : i = ds.length := by omega
      subst e
      exact .inl ⟨a2 (Nat.le_refl _), k.nx η1 G2 σ1 H2 (fin _ _ w1) (x.trans x1) s1 r1⟩⟩
def z0i (c : DTT) (tb : DTS) : DTS := fun F η G => ∃ W : Nat → DSt → DHp → Prop, (∃ m, W m η G) ∧ ∀ m η G, W m η G →
  c η G fun b G1 => if b = true then tb { F with nx := fun η' G' => ∃ m', m' < m ∧ Wk (W m') η' G', ct := fun η' G' => ∃ m', m' < m ∧ Wk (W m') η' G', bk := F.nx } η G1 else F.nx η G1
theorem zpy [Bs] {c : Expr} {body : List Stmt} {tc : DTT} {tb : DTS} {pos : Pos} (hp : PassesOwn (model X.prog X.w) X.A X.env X.xe) (hc : PTD X c tc) (hb : PSsD X body tb) : PSD X (.While c body [] pos) (z0i tc tb) :=
  PS.impI (ps_while hp hc hb) fun _ _ σ H E _ ⟨η, G, F, hs, hr, t, k⟩ => by
    obtain ⟨W, ⟨m0, w0⟩, step⟩ := t
    refine ⟨fun m σ' H' => ∃ η' G', W m η' G' ∧ Ext H G H' G' ∧ SR X.ml H' G' σ' η' ∧ HR X.ml H' G', ⟨m0, η, G, w0, .refl _ _, hs, hr⟩, ?_⟩
    rintro m σ1 H1 ⟨η1, G1, w1, x1, s1, r1⟩
    refine ⟨η1, G1, _, s1, r1, step m η1 G1 w1, fun b G2 H2 p2 x2 r2 => ?_⟩
    cases b with
    | true =>
      rw [if_pos rfl] at p2 ⊢
      refine ⟨fun σ' H' => ∃ m', m' < m ∧ ∃ η' G', Wk (W m') η' G' ∧ Ext H G H' G' ∧ SR X.ml H' G' σ' η' ∧ HR X.ml H' G', fun σ' H' ⟨m', hm, η', G', ⟨η0, l, w⟩, x', s', r'⟩ => ⟨m', hm, η0, G', w, x', s'.le l, r'⟩, ?_⟩
      refine ⟨η1, G2, _, s1.ext r1 x2, r2, p2, ?_⟩
      have x3 := x1.trans x2
      exact ⟨fun η' G' σ' H' ⟨m', hm, p⟩ y s r => ⟨m', hm, η', G', p, x3.trans y, s, r⟩, fun d G' v H' p y r q => k.rt d G' v H' p (x3.trans y) r q, fun η' G' σ' H' p y s r => k.nx η' G' σ' H' p (x3.trans y) s r,
        fun η' G' σ' H' ⟨m', hm, p⟩ y s r => ⟨m', hm, η', G', p, x3.trans y, s, r⟩⟩
    | false =>
      rw [if_neg Bool.false_ne_true] at p2 ⊢
      exact k.nx η1 G2 σ1 H2 p2 (x1.trans x2) (s1.ext r1 x2) r2
end
def zid (η : DSt) : List Nat → DSt
  | [] => η
  | v :: vs => (zid η vs).set v none
section
variable {X : Cx} {tg : Expr}
theorem SR.wipe [Bs] {K : Ml} {H : Hp} {G : DHp} {σ : L2.St} {η : DSt} (h : SR K H G σ η) : ∀ vs : List Nat, SR K H G (wipe σ vs) (zid η vs)
  | [] => h
  | v :: vs => SR.none (SR.wipe h vs) v Option.none
/-- a clause's tests -/
abbrev PTsD [Bs] (X : Cx) (ifs : List Expr) (T : DTT) : Prop := PTs X ifs (z06 X.ml T)
def dYes : DTT := fun _ G Q => Q true G
theorem zb3 [Bs] : PTsD X [] dYes := ⟨fun pins s σ H Q I ⟨η, G, P, hs, hr, t, k⟩ => pts_nil.run pins s σ H Q I (k true G H t (.refl _ _) hr)⟩
theorem zic [Bs] {c : Expr} {T : DTT} (h : PTD X c T) : PTsD X [c] T := pts_one h
/-- [elt for tg in iter if ..] -/
def dLc (wi : DTI) (g : DTG) (tt : DTT) (te : DTE) (own : List Nat) : DTE := fun η G Q => wi η G fun ds ok G1 => ∀ p, G1 p = none → ∃ W : Nat → List D → DHp → Prop, W 0 [] (up G1 p (.lst [])) ∧ (∀ i acc G, W i acc G → ok G ∧ G p = some (.lst acc)) ∧
  (∀ i d acc G, ds[i]? = some d → W i acc G → g d (zid η own) G fun η2 G2 => tt η2 G2 fun b G3 => if b = true then te η2 G3 fun y G4 => acc.length < sizeLine ∧ G4 p = some (.lst acc) ∧ W (i + 1) (acc ++ [y]) (up G4 p (.lst (acc ++ [y]))) else W (i + 1) acc G3) ∧
  ∀ acc G, W ds.length acc G → Q (.ref p) G
theorem ztg {a b : L2.St} {is vs : List Nat} (h : wipe b is = wipe a is) (hl : ∀ i ∈ is, i ∈ vs) (ha : a.length = b.length) : wipe b vs = wipe a vs := by
  have get : ∀ (σ : L2.St) (vs : List Nat) (j : Nat), (wipe σ vs)[j]? = if j ∈ vs then (if j < σ.length then some none else none) else σ[j]? := by
    intro σ vs j
    induction vs with
    | nil => simp [wipe]
    | cons v vs ih =>
      unfold wipe
      by_cases hj : v = j
      · subst hj
        by_cases hlt : v < σ.length
        · rw [List.getElem?_set_self (by rw [wipe_length]; exact hlt)]
          simp [hlt]
        · rw [List.getElem?_eq_none (by rw [List.length_set, wipe_length]; omega)]
          simp [hlt]
      · rw [List.getElem?_set_ne hj, ih]
        have : j ≠ v := Ne.symm hj
        simp [this]
  refine List.ext_getElem? fun j => ?_
  rw [get, get]
  by_cases hj : j ∈ vs
  · simp [hj, ha]
  · have hi : j ∉ is := fun q => hj (hl j q)
    have e := congrArg (fun l => l[j]?) h
    simp only [get, hi, if_false] at e
    simp [hj, e]
theorem zqm (σ : L2.St) (own : List Nat) : wipe (wipe σ own) own = wipe σ own := by
  refine List.ext_getElem? fun j => ?_
  by_cases hj : j ∈ own
  · have h1 : ∀ (vs : List Nat) (s : L2.St), j ∈ vs → (wipe s vs)[j]? = if j < s.length then some none else none := by
      intro vs s hm
      induction vs with
      | nil => cases hm
      | cons v vs ih =>
        unfold wipe
        by_cases e : v = j
        · subst e
          by_cases hlt : v < s.length
          · rw [List.getElem?_set_self (by rw [wipe_length]; exact hlt), if_pos hlt]
          · rw [List.getElem?_eq_none (by rw [List.length_set, wipe_length]; omega), if_neg hlt]
        · rw [List.getElem?_set_ne e, ih ((List.mem_cons.mp hm).resolve_left fun q => e q.symm)]
    rw [h1 own _ hj, h1 own _ hj, wipe_length]
  · rw [wipe_out hj]
theorem z7q [Bs] {K : Ml} {wi : DTI} {g : DTG} {tt : DTT} {te : DTE} {own is : List Nat} {σ : L2.St} {H : Hp} {Q : VK} (hsub : ∀ i ∈ is, i ∈ own) (h : znj K (dLc wi g tt te own) σ H Q) :
    tLc (z6n K wi) (z6w K is g) (z06 K tt) (znj K te) own σ H Q := by
  obtain ⟨η, G, P, hs, hr, t, k⟩ := h
  refine ⟨η, G, _, hs, hr, t, fun ds ok G1 J H1 pp x r it => ?_⟩
  intro D hD
  have gD : G1 D = none := r.free hD
  obtain ⟨W, w0, wok, step, fin⟩ := pp D gD
  have xD : Ext H1 G1 (upd H1 D (.lst [])) (up G1 D (.lst [])) := .new hD
  have rD : HR K (upd H1 D (.lst [])) (up G1 D (.lst [])) := r.new hD ⟨[], upd_same, .nil⟩
  refine ⟨fun i m H' => m = ds.length - i ∧ i ≤ ds.length ∧ ∃ acc G', W i acc G' ∧ Ext H1 G1 H' G' ∧ HR K H' G',
    ⟨ds.length, by simp, Nat.zero_le _, [], _, w0, xD, rD⟩, ?_⟩
  rintro i m H2 ⟨rfl, hle, acc, G2, w1, x1, r1⟩
  obtain ⟨a1, a2⟩ := it i H2 G2 x1 r1 (wok _ _ _ w1).1
  by_cases hlt : i < ds.length
  · have e : ds[i]? = some ds[i] := by simp [hlt]
    obtain ⟨go, yl⟩ := a1 _ e
    refine .inr ⟨go, fun H' => ∃ acc G', W (i + 1) acc G' ∧ Ext H1 G1 H' G' ∧ HR K H' G', fun H' ⟨acc', G', z⟩ => ⟨_, by omega, rfl, hlt, acc', G', z⟩, fun y H3 hy => ?_⟩
    obtain ⟨x3, r3, v3⟩ := yl y H3 hy
    have s3 : SR K H3 G2 (wipe σ own) (zid η own) := ((hs.ext hr x).ext r (x1.trans x3)).wipe own
    refine ⟨_, zid η own, G2, _, v3, s3, r3, step i _ acc G2 e w1, fun η4 G4 σ4 H4 p4 x4 s4 r4 wp => ⟨?_, η4, G4, _, s4, r4, p4, fun b G5 H5 p5 x5 r5 => ?_⟩⟩
    · have hlen : (wipe σ own).length = σ4.length := by
        have := congrArg List.length wp
        rw [wipe_length, wipe_length] at this
        exact this.symm
      rw [ztg (vs := own) wp hsub hlen]
      exact zqm _ _
    · by_cases hb : b = true
      · subst hb
        rw [if_pos rfl] at p5 ⊢
        refine ⟨η4, G5, _, s4.ext r4 x5, r5, p5, fun dy G6 vy H6 ⟨hz, hp6, w6⟩ x6 r6 q6 => ?_⟩
        obtain ⟨vs, hv6, ha⟩ := r6 D _ hp6
        have xx : Ext H2 G2 H6 G6 := ((x3.trans x4).trans x5).trans x6
        have xw : Ext H6 G6 (upd H6 D (.lst (vs ++ [vy]))) (up G6 D (.lst (acc ++ [dy]))) := .write hp6
        refine ⟨vs, hv6, by rw [ha.length]; exact hz, acc ++ [dy], _, w6, (x1.trans xx).trans xw, r6.write hp6 ⟨_, upd_same, ?_⟩⟩
        exact (ha.ext r6 xw).append (.cons (q6.ext r6 xw) .nil)
      · rw [if_neg hb] at p5 ⊢
        exact ⟨acc, G5, p5, x1.trans ((x3.trans x4).trans x5), r5⟩
  · have e : i = ds.length := by omega
    subst e
    exact .inl ⟨a2 (Nat.le_refl _), k (.ref D) G2 (.ref D) H2 (fin _ _ w1) (x.trans x1) r1 (by rw [VR])⟩
theorem zfw [Bs] {elt tg iter : Expr} {ifs : List Expr} {scope : Scope} {own : List (Str × Nat)} {is : List Nat} {pos : Pos} {wi : DTI} {g : DTG} {tt : DTT} {te : DTE} (hc : X.calm = true) (hN : X.N.Nodup) (hi : PID X tg iter wi) (ok : BlkOk X.N X.env.scope scope own)
    (hg : ∀ (s : Shared) (H : Hp) (C : Addr) (cl : List (Str × Addr)) (fp : List Addr), PGD (X.blk s H scope (compEnvC scope cl C X.env) fp) tg is g) (ht : ∀ (s : Shared) (H : Hp) (C : Addr) (cl : List (Str × Addr)) (fp : List Addr), PTsD (X.blk s H scope (compEnvC scope cl C X.env) fp) ifs tt)
    (he : ∀ (s : Shared) (H : Hp) (C : Addr) (cl : List (Str × Addr)) (fp : List Addr), PED (X.blk s H scope (compEnvC scope cl C X.env) fp) elt te) (hsub : ∀ i ∈ is, i ∈ own.map (·.2) := by decide) (hs : ∀ x, foldedSetIterable iter X.env x = pure x := by intro _; rfl) :
    PED X (.ListComp elt [⟨tg, iter, ifs, 0⟩] scope pos) (dLc wi g tt te (own.map (·.2))) :=
  PE.impI (pe_lc hc hN hi ok hg ht he hs) fun _ _ _ _ _ _ h => z7q hsub h
/-- name = [..] on one line -/
theorem zqk [Bs] {i : Nat} {y : Str} {py : Pos} {elt tg iter : Expr} {ifs : List Expr} {scope : Scope} {own : List (Str × Nat)} {is : List Nat} {pos spos : Pos} {wi : DTI} {g : DTG} {tt : DTT} {te : DTE} (hc : X.calm = true) (hN : X.N.Nodup) (hy : X.N[i]? = some y) (hyl : X.env.scope.names.lookup y = some .local)
    (hsw : swapsWith (.ListComp elt [⟨tg, iter, ifs, 0⟩] scope pos) (some (.Name y py)) spos.line X.env = pure true) (hi : PID X tg iter wi) (ok : BlkOk X.N X.env.scope scope own)
    (hg : ∀ (s : Shared) (H : Hp) (C : Addr) (cl : List (Str × Addr)) (fp : List Addr), PGD (X.blk s H scope (compEnvC scope cl C X.env) fp) tg is g) (ht : ∀ (s : Shared) (H : Hp) (C : Addr) (cl : List (Str × Addr)) (fp : List Addr), PTsD (X.blk s H scope (compEnvC scope cl C X.env) fp) ifs tt)
    (he : ∀ (s : Shared) (H : Hp) (C : Addr) (cl : List (Str × Addr)) (fp : List Addr), PED (X.blk s H scope (compEnvC scope cl C X.env) fp) elt te) (hsub : ∀ i ∈ is, i ∈ own.map (·.2) := by decide) (hs : ∀ x, foldedSetIterable iter X.env x = pure x := by intro _; rfl) :
    PSD X (.Assign [.Name y py] (.ListComp elt [⟨tg, iter, ifs, 0⟩] scope pos) spos) (dAsg (dLc wi g tt te (own.map (·.2))) (zl i)) :=
  PS.impI (ps_setLc hc hN hy hyl hsw hi ok hg ht he hs) fun _ _ σ H E _ ⟨η, G, F, hs, hr, t, k⟩ =>
    show tLc _ _ _ _ _ σ H _ from z7q hsub ⟨η, G, _, hs, hr, t, fun d G1 v H1 p1 x1 r1 q1 => k.nx _ G1 _ H1 p1 x1 ((hs.ext hr x1).set i q1) r1⟩
end
end DL
namespace DL
open PySem PySem.Spec PyProof.Rows L2
mutual
def py : D → PyData
  | .non => .none
  | .bl b => .bool b
  | .int i => .int i
  | .str x => .str x
  | .ty _ => .none
  | .ref _ => .none
  | .nd .tup ds => .tuple (pys ds)
  | .nd .lst ds => .list (pys ds)
  | .nd .scr ds => .list (pys ds)
  | .nd _ _ => .none
def pys : List D → List PyData
  | [] => []
  | d :: ds => py d :: pys ds
end
mutual
def zdm : D → Bool
  | .non => true
  | .bl _ => true
  | .int _ => true
  | .str _ => true
  | .nd .tup ds => plainDs ds
  | .nd .lst ds => plainDs ds
  | .nd .scr ds => plainDs ds
  | _ => false
def plainDs : List D → Bool
  | [] => true
  | d :: ds => zdm d && plainDs ds
end
section
variable {K : Ml} {H : Hp} {G : DHp}
mutual
theorem VR.dp : ∀ {d : D} {v : V}, VR K H G d v → zdm d = true → Dp K.K H v (py d)
  | .non, _, h, _ => by rw [VR] at h; subst h; exact .non
  | .bl _, _, h, _ => by rw [VR] at h; subst h; exact .bl _
  | .int _, _, h, _ => by rw [VR] at h; subst h; exact .int _
  | .str _, _, h, _ => by rw [VR] at h; subst h; exact .str _
  | .ty _, _, _, p => by simp [zdm] at p
  | .ref _, _, _, p => by simp [zdm] at p
  | .nd .tup ds, _, h, p => by
    rw [VR] at h
    obtain ⟨a, vs, rfl, q, r⟩ := h
    rw [py]
    exact .tup q (VRs.dp r (by rw [zdm] at p; exact p))
  | .nd .lst ds, _, h, p => by
    rw [VR] at h
    obtain ⟨a, vs, rfl, q, r⟩ := h
    rw [py]
    exact .lst (zdu q (.inl rfl)) (VRs.dp r (by rw [zdm] at p; exact p))
  | .nd .scr ds, _, h, p => by
    rw [VR] at h
    obtain ⟨a, vs, rfl, q, r⟩ := h
    rw [py]
    exact .lst (zdu q (.inr rfl)) (VRs.dp r (by rw [zdm] at p; exact p))
  | .nd (.ins _ _) ds, _, _, p => by simp [zdm] at p
  | .nd (.dK _) ds, _, _, p => by simp [zdm] at p
  | .nd (.dN _) ds, _, _, p => by simp [zdm] at p
theorem VRs.dp : ∀ {ds : List D} {vs : List V}, VRs K H G ds vs → plainDs ds = true → DpAll K.K H vs (pys ds)
  | [], _, h, _ => by rw [h.nil_of, pys]; exact .nil
  | d :: ds, _, h, p => by
    obtain ⟨v, r, rfl, q, t⟩ := h.uncons
    rw [plainDs, Bool.and_eq_true] at p
    rw [pys]
    exact .cons (VR.dp q p.1) (VRs.dp t p.2)
end
/-- what is read at a value: a tracked list by its items -/
def der (d : D) (G : DHp) : D := match d with
  | .ref a => (match G a with
    | some (.lst ds) => .nd .lst ds
    | _ => .ref a)
  | d => d
theorem zq5 {a : Addr} {G : DHp} : der (.ref a) G = (match G a with | some (.lst ds) => .nd .lst ds | _ => .ref a) := rfl
theorem zux {a : Addr} {G : DHp} {ds : List D} (h : G a = some (.lst ds)) : der (.ref a) G = .nd .lst ds := by rw [zq5, h]
theorem zr1 (hr : HR K H G) {d : D} {v : V} (h : VR K H G d v) (p : zdm (der d G) = true) : Dp K.K H v (py (der d G)) := by
  cases d with
  | ref a =>
    rw [VR] at h
    subst h
    rw [zq5] at p ⊢
    cases e : G a with
    | none => rw [e] at p; simp [zdm] at p
    | some o =>
      cases o with
      | lst ds =>
        rw [e] at p
        simp only at p ⊢
        obtain ⟨vs, q, r⟩ := hr a _ e
        rw [py]
        exact .lst (.inl (.inl q)) (r.dp (by rw [zdm] at p; exact p))
      | _ => rw [e] at p; simp [zdm] at p
  | _ => exact h.dp p
/-- a list, whatever way it is held -/
theorem znq (hr : HR K H G) {d : D} {v : V} {ds : List D} (h : VR K H G d v) (e : der d G = .nd .lst ds) : ∃ a vs, v = .ref a ∧ H a = some (.lst vs) ∧ VRs K H G ds vs := by
  cases d with
  | ref a =>
    rw [VR] at h
    subst h
    rw [zq5] at e
    cases g : G a with
    | none => rw [g] at e; cases e
    | some o =>
      cases o with
      | lst ds' =>
        rw [g] at e
        simp only [D.nd.injEq, true_and] at e
        subst e
        obtain ⟨vs, q, r⟩ := hr a _ g
        exact ⟨a, vs, rfl, q, r⟩
      | _ => rw [g] at e; cases e
  | nd k ds' =>
    have e : D.nd k ds' = .nd .lst ds := e
    cases e
    rw [VR] at h
    obtain ⟨a, vs, rfl, q, r⟩ := h
    exact ⟨a, vs, rfl, q.2, r⟩
  | _ => cases e
end
section
variable {X : Cx}
/-- an operator by cases -/
theorem znc {f : Value → Value → Sem Value} {r : DR2} (h : ∀ pins s σ H G x y v u dx dy P, Inv X pins σ H s → RelV x v → RelV y u → HR X.ml H G → VR X.ml H G dx x → VR X.ml H G dy y → r dx dy G P →
    wpAny (model X.prog X.w) X.A (f v u) (fun w s' => ∃ z d H' G', Inv X pins σ H' s' ∧ RelV z w ∧ P d G' ∧ Ext H G H' G' ∧ HR X.ml H' G' ∧ VR X.ml H' G' d z) X.xe s) : OpD X f r := by
  intro pins s σ H x y v u Q I rx ry ⟨dx, dy, G, P, hr, q1, q2, t, k⟩
  exact thn (h pins s σ H G x y v u dx dy P I rx ry hr q1 q2 t) fun w s' ⟨z, d, H', G', I', rz, p, x', r', q'⟩ => ⟨z, H', I', rz, k d G' z H' p x' r' q'⟩
/-- the end where nothing is made -/
theorem zbc {pins : List (Addr × Obj)} {σ : L2.St} {H : Hp} {G : DHp} {s : Shared} {P : D → DHp → Prop} {d : D} {z : V} {w : Value} (I : Inv X pins σ H s) (rz : RelV z w) (hr : HR X.ml H G) (q : VR X.ml H G d z) (p : P d G) :
    ∃ z d H' G', Inv X pins σ H' s ∧ RelV z w ∧ P d G' ∧ Ext H G H' G' ∧ HR X.ml H' G' ∧ VR X.ml H' G' d z := ⟨z, d, H, G, I, rz, p, .refl _ _, hr, q⟩
def i2 (C : Int → Int → Prop) (g : Int → Int → D) : DR2 := fun x y G Q => match x, y with
  | .int i, .int j => C i j ∧ Q (g i j) G
  | _, _ => False
theorem z1a {f : Value → Value → Sem Value} {C : Int → Int → Prop} {g : Int → Int → D} {gv : Int → Int → V} (hg : ∀ i j H G, VR X.ml H G (g i j) (gv i j)) (h : OpR X f (rI C gv)) : OpD X f (i2 C g) := znc fun pins s σ H G x y v u dx dy P I rx ry hr q1 q2 t => by
  unfold i2 at t
  split at t
  · rename_i i j
    rw [VR] at q1 q2
    subst q1 q2
    refine thn (h pins s σ H _ _ v u (fun z H' => z = gv i j ∧ H' = H) I rx ry ⟨i, j, rfl, rfl, t.1, rfl, rfl⟩) fun w s' ⟨z, H', I', rz, e1, e2⟩ => ?_
    subst e1 e2
    exact zbc I' rz hr (hg i j H' G) t.2
  · exact t.elim
theorem zae2 {f : Value → Value → Sem Value} {g : Int → Int → V} (h : OpR X f (rI0 g)) : OpR X f (rI (fun _ _ => True) g) := fun pins s σ H x y v u Q I rx ry ⟨i, j, e1, e2, _, q⟩ => h pins s σ H x y v u Q I rx ry ⟨i, j, e1, e2, q⟩
theorem zdv : OpD X (binaryOp .Sub) (i2 (fun _ _ => True) fun i j => .int (i - j)) := z1a (fun _ _ _ _ => by rw [VR]) (zae2 op_sub)
theorem zi8 : OpD X (binaryOp .Mult) (i2 CMul fun i j => .int (i * j)) := z1a (fun _ _ _ _ => by rw [VR]) op_mul
/-- a divisor below 2 ^ 30 -/
theorem zlj : OpD X (binaryOp .FloorDiv) (i2 CDiv fun i j => .int (i / j)) := z1a (fun _ _ _ _ => by rw [VR]) op_fdiv
theorem zr2 : OpD X (binaryOp .Mod) (i2 (fun _ j => 0 < j) fun i j => .int (i % j)) := z1a (fun _ _ _ _ => by rw [VR]) op_mod
theorem zadm : OpD X (binaryOp .Pow) (i2 CPow fun i j => .int (i ^ j.toNat)) := z1a (fun _ _ _ _ => by rw [VR]) op_pow
/-- + of ints, texts, tuples, lists (a new list that is changed no more) -/
def dAdd : DR2 := fun x y G Q => match der x G, der y G with
  | .int i, .int j => Q (.int (i + j)) G
  | .str a, .str b => a.length + b.length ≤ sizeLine ∧ Q (.str (a ++ b)) G
  | .nd .tup xs, .nd .tup ys => xs.length + ys.length ≤ sizeLine ∧ Q (.nd .tup (xs ++ ys)) G
  | .nd .lst xs, .nd .lst ys => xs.length + ys.length ≤ sizeLine ∧ Q (.nd .lst (xs ++ ys)) G
  | _, _ => False
theorem zm1 {G : DHp} {x d : D} (e : der x G = d) (hl : ∀ ds, d ≠ .nd .lst ds) : x = d := by
  cases x with
  | ref a =>
    rw [zq5] at e
    cases g : G a with
    | none => rw [g] at e; exact e
    | some o =>
      cases o with
      | lst ds => rw [g] at e; exact absurd e.symm (hl ds)
      | _ => rw [g] at e; exact e
  | _ => exact e
theorem zci : OpD X (binaryOp .Add) dAdd := znc fun pins s σ H G x y v u dx dy P I rx ry hr q1 q2 t => by
  unfold dAdd at t
  split at t
  · rename_i i j e1 e2
    have e1 := zm1 e1 (fun _ h => nomatch h)
    have e2 := zm1 e2 (fun _ h => nomatch h)
    subst e1 e2
    rw [VR] at q1 q2
    subst q1 q2
    obtain ⟨t1, rfl⟩ := rx
    obtain ⟨t2, rfl⟩ := ry
    exact add_int (zbc (z := .int (i + j)) (I.tok _) ⟨_, rfl⟩ hr (by rw [VR]) t)
  · rename_i i j e1 e2
    have e1 := zm1 e1 (fun _ h => nomatch h)
    have e2 := zm1 e2 (fun _ h => nomatch h)
    subst e1 e2
    rw [VR] at q1 q2
    subst q1 q2
    exact thn (op_add_str pins s σ H _ _ v u (fun z H' => z = .str (i ++ j) ∧ H' = H) I rx ry ⟨i, j, rfl, rfl, t.1, rfl, rfl⟩) fun w s' ⟨z, H', I', rz, e1, e2⟩ => by
      subst e1 e2
      exact zbc I' rz hr (by rw [VR]) t.2
  · rename_i xs ys e1 e2
    have e1 := zm1 e1 (fun _ h => nomatch h)
    have e2 := zm1 e2 (fun _ h => nomatch h)
    subst e1 e2
    rw [VR] at q1 q2
    obtain ⟨a, vs, rfl, h1, r1⟩ := q1
    obtain ⟨b, ws, rfl, h2, r2⟩ := q2
    refine thn (op_catA pins s σ H _ _ v u (fun z H' => Ext H G H' G ∧ HR X.ml H' G ∧ VR X.ml H' G (.nd .tup (xs ++ ys)) z) I rx ry ⟨a, b, vs, ws, rfl, rfl, h1, h2, by rw [r1.length, r2.length]; exact t.1, fun e => ?_, fun _ e => ?_, fun _ _ p hp => ?_⟩) fun w s' ⟨z, H', I', rz, x', r', q'⟩ => ⟨z, _, H', G, I', rz, t.2, x', r', q'⟩
    · have : xs = [] := by have := r1.length; rw [e] at this; exact List.length_eq_zero_iff.mp this.symm
      subst this
      refine ⟨.refl _ _, hr, ?_⟩
      rw [VR]
      exact ⟨b, ws, rfl, h2, r2⟩
    · have : ys = [] := by have := r2.length; rw [e] at this; exact List.length_eq_zero_iff.mp this.symm
      subst this
      refine ⟨.refl _ _, hr, ?_⟩
      rw [VR, List.append_nil]
      exact ⟨a, vs, rfl, h1, r1⟩
    · have x2 : Ext H G (upd H p (.tup (vs ++ ws))) G := .laid hp
      refine ⟨x2, hr.laid hp, ?_⟩
      rw [VR]
      exact ⟨p, _, rfl, .inl (.inl upd_same), (r1.append r2).ext hr x2⟩
  · rename_i xs ys e1 e2
    obtain ⟨a, vs, rfl, h1, r1⟩ := znq hr q1 e1
    obtain ⟨b, ws, rfl, h2, r2⟩ := znq hr q2 e2
    refine thn (op_cat pins s σ H _ _ v u (fun z H' => Ext H G H' G ∧ HR X.ml H' G ∧ VR X.ml H' G (.nd .lst (xs ++ ys)) z) I rx ry ⟨a, b, vs, ws, rfl, rfl, h1, h2, by rw [r1.length, r2.length]; exact t.1, fun p hp => ?_⟩) fun w s' ⟨z, H', I', rz, x', r', q'⟩ => ⟨z, _, H', G, I', rz, t.2, x', r', q'⟩
    have x2 : Ext H G (upd H p (.lst (vs ++ ws))) G := .laid hp
    refine ⟨x2, hr.laid hp, ?_⟩
    rw [VR]
    exact ⟨p, _, rfl, ⟨hr.free hp, upd_same⟩, (r1.append r2).ext hr x2⟩
  · exact t.elim
/-- equality of plain data -/
def dEq : DR2 := fun x y G Q => (zdm (der x G) = true ∧ zdm (der y G) = true ∧ SeqAt.shaped (py (der x G)) = true ∧ SeqAt.shaped (py (der y G)) = true) ∧ Q (.bl (PyData.eqv (py (der x G)) (py (der y G)))) G
def dNe : DR2 := fun x y G Q => (zdm (der x G) = true ∧ zdm (der y G) = true ∧ SeqAt.shaped (py (der x G)) = true ∧ SeqAt.shaped (py (der y G)) = true) ∧ Q (.bl (!PyData.eqv (py (der x G)) (py (der y G)))) G
theorem zsi (hu : X.A.units + 64 < cLine) : OpD X (compareOp .Eq) dEq := znc fun pins s σ H G x y v u dx dy P I rx ry hr q1 q2 ⟨⟨p1, p2, s1, s2⟩, t⟩ =>
  thn (op_eqD hu pins s σ H _ _ v u (fun z H' => z = .bl (PyData.eqv (py (der dx G)) (py (der dy G))) ∧ H' = H) I rx ry ⟨_, _, zr1 hr q1 p1, zr1 hr q2 p2, s1, s2, rfl, rfl⟩) fun w s' ⟨z, H', I', rz, e1, e2⟩ => by
    subst e1 e2
    exact zbc I' rz hr (by rw [VR]) t
theorem znr (hu : X.A.units + 64 < cLine) : OpD X (compareOp .NotEq) dNe := znc fun pins s σ H G x y v u dx dy P I rx ry hr q1 q2 ⟨⟨p1, p2, s1, s2⟩, t⟩ =>
  thn (op_neD hu pins s σ H _ _ v u (fun z H' => z = .bl (!PyData.eqv (py (der dx G)) (py (der dy G))) ∧ H' = H) I rx ry ⟨_, _, zr1 hr q1 p1, zr1 hr q2 p2, s1, s2, rfl, rfl⟩) fun w s' ⟨z, H', I', rz, e1, e2⟩ => by
    subst e1 e2
    exact zbc I' rz hr (by rw [VR]) t
/-- an order of plain data -/
def dOrd (g : PyData → PyData → Bool) : DR2 := fun x y G Q => (zdm x = true ∧ zdm y = true ∧ PySem.W.alike (py x) (py y) = true ∧ py x ≠ .none ∧ (py x).depth ≤ 64) ∧ Q (.bl (g (py x) (py y))) G
abbrev dLt : DR2 := dOrd PySem.W.dataLt
abbrev dLe : DR2 := dOrd fun a b => !PySem.W.dataLt b a
abbrev dGt : DR2 := dOrd fun a b => PySem.W.dataLt b a
abbrev dGe : DR2 := dOrd fun a b => !PySem.W.dataLt a b
theorem z3l {f : Value → Value → Sem Value} {g : PyData → PyData → Bool} (hu : X.A.units + 64 < cLine)
    (h : ∀ {s : Shared} {a b : Value} {da db : PyData} {as bs : List Addr} {Q : Value → Shared → Prop}, Reads s.heap a da as → Reads s.heap b db bs → PySem.W.alike da db = true → da ≠ .none → X.A.units + min da.depth db.depth < cLine → Q (.bool (g da db)) s → wpAny (model X.prog X.w) X.A (f a b) Q X.xe s) : OpD X f (dOrd g) :=
  znc fun pins s σ H G x y v u dx dy P I rx ry hr q1 q2 ⟨⟨p1, p2, al, nn, dp⟩, t⟩ => by
    obtain ⟨as, r1⟩ := Dp.reads I _ _ v (q1.dp p1) rx
    obtain ⟨bs, r2⟩ := Dp.reads I _ _ u (q2.dp p2) ry
    exact h r1 r2 al nn (by have := Nat.min_le_left (py dx).depth (py dy).depth; omega) (zbc (z := .bl _) I rfl hr (by rw [VR]) t)
theorem zvl (hu : X.A.units + 64 < cLine) : OpD X (compareOp .Lt) dLt := z3l hu fun r1 r2 h n u q => PySem.W.lt_data r1 r2 h n u q
theorem zng (hu : X.A.units + 64 < cLine) : OpD X (compareOp .LtE) dLe := z3l hu fun r1 r2 h n u q => PySem.W.le_data r1 r2 h n u q
theorem z6y (hu : X.A.units + 64 < cLine) : OpD X (compareOp .Gt) dGt := z3l hu fun r1 r2 h n u q => PySem.W.gt_data r1 r2 h n u q
theorem z15 (hu : X.A.units + 64 < cLine) : OpD X (compareOp .GtE) dGe := z3l hu fun r1 r2 h n u q => PySem.W.ge_data r1 r2 h n u q
/-- is None -/
def z9h : D → Bool
  | .non => true
  | _ => false
def dIsN (b : Bool) : DR2 := fun x y G Q => match y with
  | .non => Q (.bl (b != z9h x)) G
  | _ => False
theorem z64 {K : Ml} {H : Hp} {G : DHp} {d : D} {v : V} (h : VR K H G d v) : z9h d = decide (v = .non) := by
  cases d with
  | nd k ds => rw [VR] at h; obtain ⟨a, vs, rfl, _⟩ := h; rfl
  | _ => rw [VR] at h; subst h; rfl
theorem zafv : OpD X (compareOp .Is) (dIsN false) := znc fun pins s σ H G x y v u dx dy P I rx ry hr q1 q2 t => by
  cases dy with
  | non =>
    rw [VR] at q2; subst q2
    refine thn (op_isN pins s σ H _ _ v u (fun z H' => z = .bl (decide (x = .non)) ∧ H' = H) I rx ry ⟨rfl, rfl, rfl⟩) fun w s' ⟨z, H', I', rz, e1, e2⟩ => ?_
    subst e1 e2
    refine zbc I' rz hr (d := .bl (decide (x = .non))) (by rw [VR]) ?_
    rw [← z64 q1]
    have t : P (.bl (false != z9h dx)) G := t
    simpa using t
  | _ => exact t.elim
theorem z4c : OpD X (compareOp .IsNot) (dIsN true) := znc fun pins s σ H G x y v u dx dy P I rx ry hr q1 q2 t => by
  cases dy with
  | non =>
    rw [VR] at q2; subst q2
    refine thn (op_notN pins s σ H _ _ v u (fun z H' => z = .bl (!decide (x = .non)) ∧ H' = H) I rx ry ⟨rfl, rfl, rfl⟩) fun w s' ⟨z, H', I', rz, e1, e2⟩ => ?_
    subst e1 e2
    refine zbc I' rz hr (d := .bl (!decide (x = .non))) (by rw [VR]) ?_
    rw [← z64 q1]
    have t : P (.bl (true != z9h dx)) G := t
    simpa using t
  | _ => exact t.elim
end
end DL
namespace DL
open PySem PySem.Spec PyProof.Rows L2
def dicN (y : D) (G : DHp) : Option (List (NestedKey × D)) := match y with
  | .nd (.dN ks) vs => some (ks.zip vs)
  | .ref a => (match G a with
    | some (.dN kvs) => some kvs
    | _ => none)
  | _ => none
def dicK (y : D) (G : DHp) : Option (List (Key × D)) := match y with
  | .nd (.dK ks) vs => some (ks.zip vs)
  | .ref a => (match G a with
    | some (.dK kvs) => some kvs
    | _ => none)
  | _ => none
def D.kK : D → Option Key
  | .int i => some (.inl i)
  | .str x => some (.inr x)
  | _ => none
/-- what stands at a key -/
def dval {κ : Type} [DecidableEq κ] (kvs : List (κ × D)) (k : κ) : Option D := (kvs.find? fun p => decide (p.1 = k)).map (·.2)
/-- d[k] = v -/
def dput {κ : Type} [DecidableEq κ] (kvs : List (κ × D)) (k : κ) (v : D) : List (κ × D) :=
  if kvs.any fun p => decide (p.1 = k) then kvs.map fun p => if p.1 = k then (p.1, v) else p else kvs ++ [(k, v)]
theorem zn4 {α β : Type} : ∀ {l : List α} {m : List β}, l.length = m.length → (l.zip m).map (·.1) = l
  | [], _, _ => rfl
  | _ :: _, [], h => by simp at h
  | a :: l, b :: m, h => by simp [zn4 (l := l) (m := m) (by simpa using h)]
theorem zxw {α β : Type} : ∀ {l : List α} {m : List β}, l.length = m.length → (l.zip m).map (·.2) = m
  | [], [], _ => rfl
  | [], _ :: _, h => by simp at h
  | _ :: _, [], h => by simp at h
  | a :: l, b :: m, h => by simp [zxw (l := l) (m := m) (by simpa using h)]
section
variable {K : Ml} {H : Hp} {G : DHp}
theorem zpr (hr : HR K H G) {d : D} {v : V} {kvs : List (NestedKey × D)} (h : VR K H G d v) (e : dicN d G = some kvs) : ∃ a ws, v = .ref a ∧ DnAt K H a (kvs.map (·.1)) ws ∧ VRs K H G (kvs.map (·.2)) ws := by
  cases d with
  | ref a =>
    rw [VR] at h
    have e : (match G a with | some (.dN kvs) => some kvs | _ => none) = some kvs := e
    cases g : G a with
    | none => rw [g] at e; cases e
    | some o =>
      cases o with
      | dN kvs' =>
        rw [g] at e
        cases e
        obtain ⟨ws, q, r⟩ := hr a _ g
        exact ⟨a, ws, h, q, r⟩
      | _ => rw [g] at e; cases e
  | nd k ds =>
    cases k with
    | dN ks =>
      cases e
      rw [VR] at h
      obtain ⟨a, vs, ev, ⟨_, q⟩, r⟩ := h
      have hl : ks.length = ds.length := by
        obtain ⟨xs, _, _, _, _, _, h4, _, _, _, h8⟩ := id q
        rw [← r.length, h8.length, ← h4, List.length_map, List.length_map]
      exact ⟨a, vs, ev, by rw [zn4 hl]; exact q, by rw [zxw hl]; exact r⟩
    | _ => cases e
  | _ => cases e
theorem zpc (hr : HR K H G) {d : D} {v : V} {kvs : List (Key × D)} (h : VR K H G d v) (e : dicK d G = some kvs) : ∃ a ws, v = .ref a ∧ Rd H a (.dK ws) ∧ ws.map (·.1) = kvs.map (·.1) ∧ VRs K H G (kvs.map (·.2)) (ws.map (·.2)) := by
  cases d with
  | ref a =>
    rw [VR] at h
    have e : (match G a with | some (.dK kvs) => some kvs | _ => none) = some kvs := e
    cases g : G a with
    | none => rw [g] at e; cases e
    | some o =>
      cases o with
      | dK kvs' =>
        rw [g] at e
        cases e
        obtain ⟨ws, q, z, r⟩ := hr a _ g
        exact ⟨a, ws, h, .inl q, z, r⟩
      | _ => rw [g] at e; cases e
  | nd k ds =>
    cases k with
    | dK ks =>
      cases e
      rw [VR] at h
      obtain ⟨a, vs, ev, ⟨l, o, q⟩, r⟩ := h
      have hl : ks.length = ds.length := by rw [l, r.length]
      exact ⟨a, ks.zip vs, ev, .inr ⟨o, q⟩, by rw [zn4 l, zn4 hl], by rw [zxw l, zxw hl]; exact r⟩
    | _ => cases e
  | _ => cases e
/-- the values found by keys are the same -/
theorem zuf {κ : Type} [DecidableEq κ] (k : κ) : ∀ {ws : List (κ × V)} {kvs : List (κ × D)}, ws.map (·.1) = kvs.map (·.1) → VRs K H G (kvs.map (·.2)) (ws.map (·.2)) → (dval kvs k = none ∧ valV ws k = none) ∨ ∃ d v, dval kvs k = some d ∧ valV ws k = some v ∧ VR K H G d v
  | [], [], _, _ => .inl ⟨rfl, rfl⟩
  | [], _ :: _, h, _ => by simp at h
  | _ :: _, [], h, _ => by simp at h
  | (k1, v) :: ws, (k2, d) :: kvs, h, r => by
    simp only [List.map_cons, List.cons.injEq] at h
    obtain ⟨h1, h2⟩ := h
    subst h1
    obtain ⟨v', r', e, q, t⟩ := VRs.uncons r
    simp only [List.map_cons, List.cons.injEq] at e
    obtain ⟨rfl, rfl⟩ := e
    by_cases hk : k1 = k
    · exact .inr ⟨d, v, by simp [dval, hk], by simp [valV, hk], q⟩
    · have := zuf k h2 t
      simpa [dval, valV, hk] using this
mutual
theorem zqy : ∀ {d : D} {v : V} {k : NestedKey}, VR K H G d v → D.key d = some k → ze7 K H k v
  | .non, _, _, h, e => by rw [D.key] at e; cases e; rw [VR] at h; rw [ze7]; exact h
  | .bl _, _, _, h, e => by simp [D.key] at e
  | .int _, _, _, h, e => by rw [D.key] at e; cases e; rw [VR] at h; rw [ze7]; exact h
  | .str _, _, _, h, e => by rw [D.key] at e; cases e; rw [VR] at h; rw [ze7]; exact h
  | .ty _, _, _, h, e => by simp [D.key] at e
  | .ref _, _, _, h, e => by simp [D.key] at e
  | .nd .tup ds, _, _, h, e => by
    rw [D.key] at e
    cases q : D.keys ds with
    | none => rw [q] at e; cases e
    | some ks =>
      rw [q] at e
      cases e
      rw [VR] at h
      obtain ⟨a, vs, rfl, hh, r⟩ := h
      rw [ze7]
      exact ⟨a, vs, rfl, hh, keys_at r q⟩
  | .nd .lst _, _, _, h, e => by simp [D.key] at e
  | .nd .scr _, _, _, h, e => by simp [D.key] at e
  | .nd (.ins _ _) _, _, _, h, e => by simp [D.key] at e
  | .nd (.dK _) _, _, _, h, e => by simp [D.key] at e
  | .nd (.dN _) _, _, _, h, e => by simp [D.key] at e
theorem keys_at : ∀ {ds : List D} {vs : List V} {ks : List NestedKey}, VRs K H G ds vs → D.keys ds = some ks → KeysAt K H ks vs
  | [], _, _, h, e => by rw [D.keys] at e; cases e; rw [KeysAt]; exact h.nil_of
  | d :: ds, _, _, h, e => by
    obtain ⟨v, r, rfl, q, t⟩ := h.uncons
    rw [D.keys] at e
    cases e1 : D.key d with
    | none => rw [e1] at e; cases e
    | some k =>
      cases e2 : D.keys ds with
      | none => rw [e1, e2] at e; cases e
      | some ks' =>
        rw [e1, e2] at e
        cases e
        rw [KeysAt]
        exact ⟨v, r, rfl, zqy q e1, keys_at t e2⟩
end
mutual
/-- a key that is held, as a tree -/
theorem z6g : ∀ {k : NestedKey} {v : V}, ze7 K H k v → VR K H G (nkD k) v
  | .none, _, h => by rw [ze7] at h; rw [nkD, VR]; exact h
  | .num _, _, h => by rw [ze7] at h; rw [nkD, VR]; exact h
  | .text _, _, h => by rw [ze7] at h; rw [nkD, VR]; exact h
  | .tup ks, _, h => by
    rw [ze7] at h
    obtain ⟨a, vs, rfl, q, r⟩ := h
    rw [nkD, VR]
    exact ⟨a, vs, rfl, q, nkDs_vr r⟩
theorem nkDs_vr : ∀ {ks : List NestedKey} {vs : List V}, KeysAt K H ks vs → VRs K H G (nkDs ks) vs
  | [], _, h => by rw [KeysAt] at h; rw [nkDs, VRs]; exact h
  | k :: ks, _, h => by
    rw [KeysAt] at h
    obtain ⟨v, r, rfl, q, t⟩ := h
    rw [nkDs]
    exact .cons (z6g q) (nkDs_vr t)
end
end
section
variable {X : Cx}
mutual
theorem zgs {pins : List (Addr × Obj)} {σ : L2.St} {H : Hp} {s : Shared} (I : Inv X pins σ H s) : ∀ {k : NestedKey} {v : V} {u : Value}, ze7 X.ml H k v → RelV v u → NestedIs s.heap k u
  | .none, _, _, h, r => by rw [ze7] at h; subst h; cases (show _ = Value.none from r); exact .none
  | .num i, _, _, h, r => by rw [ze7] at h; subst h; obtain ⟨t, rfl⟩ := r; exact .int i t
  | .text x, _, _, h, r => by rw [ze7] at h; subst h; obtain ⟨t, rfl⟩ := r; exact .text x t
  | .tup ks, _, _, h, r => by
    rw [ze7] at h
    obtain ⟨a, vs, rfl, q, t⟩ := h
    cases (show _ = Value.ref a from r)
    obtain ⟨its, rv, ⟨o, ho, hc, n, hd⟩, _⟩ := I.tuple q
    exact .tup ho hc hd (nested_all I t rv)
theorem nested_all {pins : List (Addr × Obj)} {σ : L2.St} {H : Hp} {s : Shared} (I : Inv X pins σ H s) : ∀ {ks : List NestedKey} {vs : List V} {us : List Value}, KeysAt X.ml H ks vs → Vals vs us → NestedAll s.heap ks us
  | [], _, _, h, r => by rw [KeysAt] at h; subst h; cases r; exact .nil
  | k :: ks, _, _, h, r => by
    rw [KeysAt] at h
    obtain ⟨v, w, rfl, q, t⟩ := h
    cases r with
    | cons r1 r2 => exact .cons (zgs I q r1) (nested_all I t r2)
end
/-- a dict with nested keys at the library's level -/
theorem DnAt.of {pins : List (Addr × Obj)} {σ : L2.St} {H : Hp} {s : Shared} {a : Addr} {ks : List NestedKey} {vs : List V} (I : Inv X pins σ H s) (h : DnAt X.ml H a ks vs) :
    ∃ xs es ep, H a = some (rawO a es ep) ∧ s.heap.DictRaw a es ep ∧ es.toList = xs.map (entryOfKey (nestedKind X.prog X.w)) ∧ s.heap.DictOfH (nestedKind X.prog X.w) a xs ∧ (a == sysModules) = false ∧ xs.map (·.1) = ks ∧ ks.length ≤ sizeLine ∧ (∀ x ∈ xs, ze7 X.ml H x.1 (.ref x.2.1) ∧ x.1.depth ≤ 8) ∧ Vals vs (xs.map (·.2.2)) := by
  obtain ⟨xs, es, ep, h1, h2, h3, h4, h5, h6, h7, h8⟩ := h
  obtain ⟨φ, _, _⟩ := (show ObjOk X.prog X.w H s.heap a (rawO a es ep) from I.hok a _ h1)
  refine ⟨xs, es, ep, h1, φ, h3, ?_, h2, h4, h6, h7, h8⟩
  obtain ⟨o, ho, hc, hd⟩ := φ
  exact ⟨o, es, ep, ho, hc, hd, h3, fun x hx => ⟨zgs I (h7 x hx).1 rfl, (h7 x hx).2⟩, by rw [h4]; exact h5⟩
theorem zry {A : Around} (hu : A.units + 64 < cLine) : (nestedKind X.prog X.w).room A.in1 := by
  show A.units + 1 + 8 < cLine
  omega
/-- the dict at a has been written -/
theorem z3h {pins : List (Addr × Obj)} {σ : L2.St} {H : Hp} {s : Shared} {a : Addr} {es es' : Array DictEntry} {ep ep' t' : Nat} {h' : Heap} (I : Inv X pins σ H s) (hH : H a = some (rawO a es ep)) (hs : Heap.SameBut a s.heap h') (hr : h'.DictRaw a es' ep') :
    Inv X pins σ (upd H a (rawO a es' ep')) { s with heap := h', toks := t' } := by
  obtain ⟨o, ho, hc, hd⟩ := id hr
  exact I.write (by rw [hH]; trivial) (.inl rfl) (fun b u hb e => (hs.2 b hb).trans e) ⟨o, ho⟩ ⟨hr, ⟨o, ho⟩, fun h1 h2 φ k => φ.at k⟩
theorem zlt {K : Type} {xs : List (NestedKey × Addr × Value)} {k : NestedKey} {vs : List V} (r : Vals vs (xs.map (·.2.2))) : ∀ (kvs : List (NestedKey × D)) (H : Hp) (G : DHp) (M : Ml), xs.map (·.1) = kvs.map (·.1) → VRs M H G (kvs.map (·.2)) vs →
    (dval kvs k = none ∧ atKey xs k = none) ∨ ∃ d v p, dval kvs k = some d ∧ atKey xs k = some p ∧ RelV v p.2 ∧ VR M H G d v := by
  induction xs generalizing vs with
  | nil =>
    intro kvs H G M h1 h2
    cases kvs with
    | nil => exact .inl ⟨rfl, rfl⟩
    | cons _ _ => simp at h1
  | cons x xs ih =>
    intro kvs H G M h1 h2
    cases kvs with
    | nil => simp at h1
    | cons y kvs =>
      obtain ⟨k2, d⟩ := y
      simp only [List.map_cons, List.cons.injEq] at h1
      obtain ⟨v, w, rfl, q, t⟩ := VRs.uncons h2
      cases r with
      | cons r1 r2 =>
        by_cases hk : k2 = k
        · exact .inr ⟨d, v, x.2, by simp [dval, hk], by simp [atKey, h1.1, hk], r1, q⟩
        · have hk' : ¬ x.1 = k := by rw [h1.1]; exact hk
          have := ih r2 kvs H G M h1.2 t
          simpa [dval, atKey, hk, hk'] using this
theorem ztd {κ : Type} [DecidableEq κ] (k : κ) : ∀ kvs : List (κ × D), (kvs.any fun p => decide (p.1 = k)) = (dval kvs k).isSome
  | [] => rfl
  | (a, d) :: kvs => by
    by_cases h : a = k
    · simp [dval, h]
    · have := ztd k kvs
      simp only [List.any_cons, h, decide_false, Bool.false_or, this]
      simp [dval, h]
def dIn (neg : Bool) : DR2 := fun x y G Q => match der y G with
  | .nd .lst ds => (zdm x = true ∧ plainDs ds = true ∧ SeqAt.shaped (py x) = true ∧ PyData.canLayAll0 (pys ds) = true) ∧ Q (.bl (neg != (pys ds).any fun z => PyData.eqv z (py x))) G
  | .nd .tup ds => (zdm x = true ∧ plainDs ds = true ∧ SeqAt.shaped (py x) = true ∧ PyData.canLayAll0 (pys ds) = true) ∧ Q (.bl (neg != (pys ds).any fun z => PyData.eqv z (py x))) G
  | _ => match dicN y G with
    | some kvs => (match x with
      | .nd .tup _ => (match x.key with
        | some k => k.depth ≤ 8 ∧ Q (.bl (neg != (dval kvs k).isSome)) G
        | none => False)
      | _ => False)
    | none => match dicK y G with
      | some kvs => (match x.kK with
        | some k => Q (.bl (neg != (dval kvs k).isSome)) G
        | none => False)
      | none => False
theorem z5s {K : Ml} {H : Hp} {G : DHp} {d : D} {v : V} {k : Key} (h : VR K H G d v) (e : d.kK = some k) : v = kV k := by
  cases d with
  | int i => rw [VR] at h; cases e; exact h
  | str i => rw [VR] at h; cases e; exact h
  | _ => cases e
theorem zacq (hu : X.A.units + 65 < cLine) : OpD X (compareOp .In) (dIn false) := znc fun pins s σ H G x y v u dx dy P I rx ry hr q1 q2 t => by
  unfold dIn at t
  split at t
  · rename_i ds e
    obtain ⟨⟨p1, p2, s1, s2⟩, t⟩ := t
    have hp := zr1 hr q2 (by rw [e, zdm]; exact p2)
    rw [e, py] at hp
    obtain ⟨as, r1⟩ := Dp.reads I _ _ v (q1.dp p1) rx
    obtain ⟨bs, r2⟩ := Dp.reads I _ _ u hp ry
    exact SeqAt.in_list_reads r2 r1 s2 (SeqAt.canLay_of_shaped s1) (room_in_shaped s1 hu) (zbc (z := .bl _) I rfl hr (d := .bl ((pys ds).any fun z => PyData.eqv z (py dx))) (by rw [VR]) (by simpa using t))
  · rename_i ds e
    obtain ⟨⟨p1, p2, s1, s2⟩, t⟩ := t
    have hp := zr1 hr q2 (by rw [e, zdm]; exact p2)
    rw [e, py] at hp
    obtain ⟨as, r1⟩ := Dp.reads I _ _ v (q1.dp p1) rx
    obtain ⟨bs, r2⟩ := Dp.reads I _ _ u hp ry
    exact SeqAt.in_tuple_reads r2 r1 s2 (SeqAt.canLay_of_shaped s1) (room_in_shaped s1 hu) (zbc (z := .bl _) I rfl hr (d := .bl ((pys ds).any fun z => PyData.eqv z (py dx))) (by rw [VR]) (by simpa using t))
  · split at t
    · rename_i kvs e
      cases dx with
      | nd kd ds =>
        cases kd with
        | tup =>
          have t : (match D.key (.nd .tup ds) with | some k => k.depth ≤ 8 ∧ P (.bl (false != (dval kvs k).isSome)) G | none => False) := t
          cases ek : D.key (.nd .tup ds) with
          | none => rw [ek] at t; exact t.elim
          | some k =>
            rw [ek] at t
            obtain ⟨hd8, t⟩ := (show k.depth ≤ 8 ∧ P (.bl (false != (dval kvs k).isSome)) G from t)
            have ka := zqy q1 ek
            obtain ⟨a, ws, rfl, dn, vr⟩ := zpr hr q2 e
            obtain ⟨xs, es, ep, h1, h2, h3, h4, h5, h6, h7, h8, h9⟩ := DnAt.of I dn
            rw [VR] at q1
            obtain ⟨b, vs, rfl, hb, rb⟩ := q1
            cases (show v = Value.ref b from rx)
            cases (show u = Value.ref a from ry)
            refine wpAny_in_heap (zry (by omega)) ⟨zgs I ka rfl, hd8⟩ h5 h4 (zbc (z := .bl _) (I.tok _) rfl hr (d := .bl (atKey xs k).isSome) (by rw [VR]) ?_)
            rcases zlt (K := Unit) (k := k) h9 kvs H G X.ml h6 vr with ⟨e1, e2⟩ | ⟨d, w, p, e1, e2, _, _⟩
            · rw [e2]; rw [e1] at t; simpa using t
            · rw [e2]; rw [e1] at t; simpa using t
        | _ => exact t.elim
      | _ => exact t.elim
    · split at t
      · rename_i kvs e
        cases ek : dx.kK with
        | none => rw [ek] at t; exact t.elim
        | some k =>
          rw [ek] at t
          have t : P (.bl (false != (dval kvs k).isSome)) G := t
          obtain ⟨a, ws, rfl, rd, e1, vr⟩ := zpc hr q2 e
          cases (show u = Value.ref a from ry)
          have ex := z5s q1 ek
          subst ex
          have g : DGet H a (kV k) (valV ws k) := .inl ⟨ws, k, rd, rfl, rfl⟩
          refine d_in (by omega) I g rx fun s' I' => zbc (z := .bl _) I' rfl hr (d := .bl (valV ws k).isSome) (by rw [VR]) ?_
          rcases zuf k e1 vr with ⟨e2, e3⟩ | ⟨d, w, e2, e3, _⟩
          · rw [e3]; rw [e2] at t; simpa using t
          · rw [e3]; rw [e2] at t; simpa using t
      · exact t.elim
theorem zk5 (hu : X.A.units + 65 < cLine) : OpD X (compareOp .NotIn) (dIn true) := znc fun pins s σ H G x y v u dx dy P I rx ry hr q1 q2 t => by
  unfold dIn at t
  split at t
  · rename_i ds e
    obtain ⟨⟨p1, p2, s1, s2⟩, t⟩ := t
    have hp := zr1 hr q2 (by rw [e, zdm]; exact p2)
    rw [e, py] at hp
    obtain ⟨as, r1⟩ := Dp.reads I _ _ v (q1.dp p1) rx
    obtain ⟨bs, r2⟩ := Dp.reads I _ _ u hp ry
    exact SeqAt.notIn_list_reads r2 r1 s2 (SeqAt.canLay_of_shaped s1) (room_in_shaped s1 hu) (zbc (z := .bl _) I rfl hr (d := .bl (!(pys ds).any fun z => PyData.eqv z (py dx))) (by rw [VR]) (by simpa using t))
  · rename_i ds e
    obtain ⟨⟨p1, p2, s1, s2⟩, t⟩ := t
    have hp := zr1 hr q2 (by rw [e, zdm]; exact p2)
    rw [e, py] at hp
    obtain ⟨as, r1⟩ := Dp.reads I _ _ v (q1.dp p1) rx
    obtain ⟨bs, r2⟩ := Dp.reads I _ _ u hp ry
    exact SeqAt.notIn_tuple_reads r2 r1 s2 (SeqAt.canLay_of_shaped s1) (room_in_shaped s1 hu) (zbc (z := .bl _) I rfl hr (d := .bl (!(pys ds).any fun z => PyData.eqv z (py dx))) (by rw [VR]) (by simpa using t))
  · split at t
    · rename_i kvs e
      cases dx with
      | nd kd ds =>
        cases kd with
        | tup =>
          have t : (match D.key (.nd .tup ds) with | some k => k.depth ≤ 8 ∧ P (.bl (true != (dval kvs k).isSome)) G | none => False) := t
          cases ek : D.key (.nd .tup ds) with
          | none => rw [ek] at t; exact t.elim
          | some k =>
            rw [ek] at t
            obtain ⟨hd8, t⟩ := (show k.depth ≤ 8 ∧ P (.bl (true != (dval kvs k).isSome)) G from t)
            have ka := zqy q1 ek
            obtain ⟨a, ws, rfl, dn, vr⟩ := zpr hr q2 e
            obtain ⟨xs, es, ep, h1, h2, h3, h4, h5, h6, h7, h8, h9⟩ := DnAt.of I dn
            rw [VR] at q1
            obtain ⟨b, vs, rfl, hb, rb⟩ := q1
            cases (show v = Value.ref b from rx)
            cases (show u = Value.ref a from ry)
            show wpAny _ _ (do return Value.bool (!(← contains (.ref a) (.ref b)))) _ X.xe s
            refine wpAny_bind (wpAny_contains_heap (zry (X := X) (A := X.A) (by omega)) ⟨zgs I ka rfl, hd8⟩ h5 h4 (wpAny_pure (zbc (z := .bl _) (I.tok _) rfl hr (d := .bl (!(atKey xs k).isSome)) (by rw [VR]) ?_)))
            rcases zlt (K := Unit) (k := k) h9 kvs H G X.ml h6 vr with ⟨e1, e2⟩ | ⟨d, w, p, e1, e2, _, _⟩
            · rw [e2]; rw [e1] at t; simpa using t
            · rw [e2]; rw [e1] at t; simpa using t
        | _ => exact t.elim
      | _ => exact t.elim
    · split at t
      · rename_i kvs e
        cases ek : dx.kK with
        | none => rw [ek] at t; exact t.elim
        | some k =>
          rw [ek] at t
          have t : P (.bl (true != (dval kvs k).isSome)) G := t
          obtain ⟨a, ws, rfl, rd, e1, vr⟩ := zpc hr q2 e
          cases (show u = Value.ref a from ry)
          have ex := z5s q1 ek
          subst ex
          have g : DGet H a (kV k) (valV ws k) := .inl ⟨ws, k, rd, rfl, rfl⟩
          refine d_notIn (by omega) I g rx fun s' I' => zbc (z := .bl _) I' rfl hr (d := .bl (!(valV ws k).isSome)) (by rw [VR]) ?_
          rcases zuf k e1 vr with ⟨e2, e3⟩ | ⟨d, w, e2, e3, _⟩
          · rw [e3]; rw [e2] at t; simpa using t
          · rw [e3]; rw [e2] at t; simpa using t
      · exact t.elim
end
end DL
namespace DL
open PySem PySem.Spec PyProof.Rows L2
section
variable {K : Ml} {H : Hp} {G : DHp}
theorem z4q {κ : Type} [DecidableEq κ] (kvs : List (κ × D)) (k : κ) (v : D) : (dput kvs k v).map (·.1) = if (dval kvs k).isSome then kvs.map (·.1) else kvs.map (·.1) ++ [k] := by
  unfold dput
  rw [ztd]
  split
  · rw [List.map_map]
    refine List.map_congr_left fun x _ => ?_
    simp only [Function.comp]
    split <;> rfl
  · simp
theorem zacf {κ : Type} [DecidableEq κ] (kvs : List (κ × V)) (k : κ) (v : V) : (putK kvs k v).map (·.1) = if (valV kvs k).isSome then kvs.map (·.1) else kvs.map (·.1) ++ [k] := by
  unfold putK
  rw [valV_any]
  split
  · rw [List.map_map]
    refine List.map_congr_left fun x _ => ?_
    simp only [Function.comp]
    split <;> rfl
  · simp
theorem ztl {κ : Type} [DecidableEq κ] {k : κ} : ∀ {ws : List (κ × V)} {kvs : List (κ × D)}, ws.map (·.1) = kvs.map (·.1) → (valV ws k).isSome = (dval kvs k).isSome
  | [], [], _ => rfl
  | [], _ :: _, h => by simp at h
  | _ :: _, [], h => by simp at h
  | (k1, v) :: ws, (k2, d) :: kvs, h => by
    simp only [List.map_cons, List.cons.injEq] at h
    obtain ⟨h1, h2⟩ := h
    subst h1
    by_cases hk : k1 = k
    · simp [dval, valV, hk]
    · have := ztl (k := k) h2
      simpa [dval, valV, hk] using this
theorem z10 {κ : Type} [DecidableEq κ] (k : κ) {d : D} {v : V} (hv : VR K H G d v) : ∀ {ws : List (κ × V)} {kvs : List (κ × D)}, ws.map (·.1) = kvs.map (·.1) → VRs K H G (kvs.map (·.2)) (ws.map (·.2)) →
    VRs K H G ((kvs.map fun p => if p.1 = k then (p.1, d) else p).map (·.2)) ((ws.map fun p => if p.1 = k then (p.1, v) else p).map (·.2))
  | [], [], _, _ => .nil
  | [], _ :: _, h, _ => by simp at h
  | _ :: _, [], h, _ => by simp at h
  | (k1, w) :: ws, (k2, e) :: kvs, h, r => by
    simp only [List.map_cons, List.cons.injEq] at h
    obtain ⟨h1, h2⟩ := h
    subst h1
    obtain ⟨v', r', eq, q, t⟩ := VRs.uncons r
    simp only [List.map_cons, List.cons.injEq] at eq
    obtain ⟨rfl, rfl⟩ := eq
    by_cases hk : k1 = k
    · simp only [List.map_cons, hk, if_true]
      exact .cons hv (z10 k hv h2 t)
    · simp only [List.map_cons, hk, if_false]
      exact .cons q (z10 k hv h2 t)
theorem zaay {κ : Type} [DecidableEq κ] (k : κ) {d : D} {v : V} (hv : VR K H G d v) {ws : List (κ × V)} {kvs : List (κ × D)} (h : ws.map (·.1) = kvs.map (·.1)) (r : VRs K H G (kvs.map (·.2)) (ws.map (·.2))) :
    (putK ws k v).map (·.1) = (dput kvs k d).map (·.1) ∧ VRs K H G ((dput kvs k d).map (·.2)) ((putK ws k v).map (·.2)) := by
  refine ⟨by rw [zacf, z4q, h, ztl h], ?_⟩
  unfold dput putK
  rw [ztd, valV_any, ztl h]
  split
  · exact z10 k hv h r
  · rw [List.map_append, List.map_append]
    exact r.append (.cons hv .nil)
theorem z9v {κ : Type} [DecidableEq κ] (kvs : List (κ × D)) (k : κ) (v : D) : (dput kvs k v).length ≤ kvs.length + 1 := by
  unfold dput
  split <;> simp
end
section
variable {X : Cx}
/-- the entries that stand behind a store in a dict with nested keys -/
theorem z53 {pins : List (Addr × Obj)} {σ : L2.St} {H : Hp} {G : DHp} {s : Shared} {a b : Addr} {kvs : List (NestedKey × D)} {k : NestedKey} {d : D} {v : V} {u : Value} {h' : Heap} {t' : Nat} {es : Array DictEntry} {ep : Nat} {ws : List V} {xs : List (NestedKey × Addr × Value)}
    (I : Inv X pins σ H s) (hr : HR X.ml H G) (hG : G a = some (.dN kvs)) (hH : H a = some (rawO a es ep)) (hsm : (a == sysModules) = false) (hm : s.heap.DictOfH (nestedKind X.prog X.w) a xs) (hks : xs.map (·.1) = kvs.map (·.1)) (hat : ∀ x ∈ xs, ze7 X.ml H x.1 (.ref x.2.1) ∧ x.1.depth ≤ 8)
    (hvs : Vals ws (xs.map (·.2.2))) (vr : VRs X.ml H G (kvs.map (·.2)) ws) (hk : ze7 X.ml H k (.ref b)) (h8 : k.depth ≤ 8) (hv : VR X.ml H G d v) (ru : RelV v u) (hlen : kvs.length < sizeLine) (hm' : h'.DictOfH (nestedKind X.prog X.w) a (storedH xs k b u)) (hs : Heap.SameBut a s.heap h') :
    ∃ H', Inv X pins σ H' { s with heap := h', toks := t' } ∧ Ext H G H' (up G a (.dN (dput kvs k d))) ∧ HR X.ml H' (up G a (.dN (dput kvs k d))) := by
  obtain ⟨o', es', ep', ho', hc', hd', he', _, hn'⟩ := hm'
  have raw : h'.DictRaw a es' ep' := ⟨o', ho', hc', hd'⟩
  have x : Ext H G (upd H a (rawO a es' ep')) (up G a (.dN (dput kvs k d))) := .write hG
  refine ⟨_, z3h (t' := t') I hH hs raw, x, hr.write hG ?_⟩
  have some_eq : (atKey xs k).isSome = (dval kvs k).isSome := by
    rcases zlt (K := Unit) (k := k) hvs kvs H G X.ml hks vr with ⟨e1, e2⟩ | ⟨_, _, _, e1, e2, _, _⟩ <;> rw [e1, e2] <;> rfl
  have keys : (storedH xs k b u).map (·.1) = (dput kvs k d).map (·.1) := by
    rw [z4q, ← some_eq, ← hks]
    unfold storedH
    split
    · rw [List.map_map]
      refine List.map_congr_left fun x _ => ?_
      simp only [Function.comp, putAt]
      split <;> rfl
    · simp
  have vals : ∃ ws', Vals ws' ((storedH xs k b u).map (·.2.2)) ∧ VRs X.ml H G ((dput kvs k d).map (·.2)) ws' := by
    have go : ∀ {xs : List (NestedKey × Addr × Value)} {kvs : List (NestedKey × D)} {ws : List V}, xs.map (·.1) = kvs.map (·.1) → Vals ws (xs.map (·.2.2)) → VRs X.ml H G (kvs.map (·.2)) ws →
        ∃ ws', Vals ws' ((xs.map (putAt k u)).map (·.2.2)) ∧ VRs X.ml H G ((kvs.map fun p => if p.1 = k then (p.1, d) else p).map (·.2)) ws' := by
      intro xs
      induction xs with
      | nil =>
        intro kvs ws h1 h2 h3
        cases kvs with
        | nil => exact ⟨[], .nil, .nil⟩
        | cons _ _ => simp at h1
      | cons y xs ih =>
        intro kvs ws h1 h2 h3
        cases kvs with
        | nil => simp at h1
        | cons z kvs =>
          obtain ⟨k2, e⟩ := z
          simp only [List.map_cons, List.cons.injEq] at h1
          obtain ⟨v0, w0, rfl, q0, t0⟩ := VRs.uncons h3
          cases h2 with
          | cons r1 r2 =>
            obtain ⟨ws', a1, a2⟩ := ih h1.2 r2 t0
            by_cases hkk : k2 = k
            · refine ⟨v :: ws', ?_, ?_⟩
              · rw [List.map_cons, List.map_cons]
                have : (putAt k u y).2.2 = u := by simp [putAt, h1.1, hkk]
                rw [this]
                exact .cons ru a1
              · simp only [List.map_cons, hkk, if_true]
                exact .cons hv a2
            · refine ⟨v0 :: ws', ?_, ?_⟩
              · rw [List.map_cons, List.map_cons]
                have : (putAt k u y).2.2 = y.2.2 := by simp [putAt, h1.1, hkk]
                rw [this]
                exact .cons r1 a1
              · simp only [List.map_cons, hkk, if_false]
                exact .cons q0 a2
    unfold storedH dput
    rw [ztd, some_eq]
    split
    · exact go hks hvs vr
    · refine ⟨ws ++ [v], ?_, ?_⟩
      · rw [List.map_append]
        exact hvs.append (.cons ru .nil)
      · rw [List.map_append]
        exact vr.append (.cons hv .nil)
  obtain ⟨ws', v1, v2⟩ := vals
  refine ⟨ws', ⟨storedH xs k b u, es', ep', upd_same, hsm, he', keys, by rw [← keys]; exact hn', by rw [List.length_map]; have := z9v kvs k d; omega, fun y hy => ?_, v1⟩, v2.ext hr x⟩
  have old : ∀ y ∈ xs, ze7 X.ml (upd H a (rawO a es' ep')) y.1 (.ref y.2.1) ∧ y.1.depth ≤ 8 := fun y hy => ⟨(hat y hy).1.ext hr x, (hat y hy).2⟩
  unfold storedH at hy
  split at hy
  · obtain ⟨z, hz, rfl⟩ := List.mem_map.mp hy
    have e1 : (putAt k u z).1 = z.1 := by unfold putAt; split <;> rfl
    have e2 : (putAt k u z).2.1 = z.2.1 := by unfold putAt; split <;> rfl
    rw [e1, e2]
    exact old z hz
  · rcases List.mem_append.mp hy with hy | hy
    · exact old y hy
    · have : y = (k, b, u) := by simpa using hy
      subst this
      exact ⟨hk.ext hr x, h8⟩
abbrev DSet := D → D → D → DHp → (DHp → Prop) → Prop
def zxt (K : Ml) (r : DSet) : TSet := fun o i v H Q => ∃ do_ di dv G P, HR K H G ∧ VR K H G do_ o ∧ VR K H G di i ∧ VR K H G dv v ∧ r do_ di dv G P ∧ ∀ G' H', P G' → Ext H G H' G' → HR K H' G' → Q H'
def dSet : DSet := fun o i v G Q => match o with
  | .ref a => (match G a with
    | some (.lst ds) => (match i with
      | .int k => (match ixN ds.length k with
        | some j => Q (up G a (.lst (ds.set j v)))
        | none => False)
      | _ => False)
    | some (.dN kvs) => (match i with
      | .nd .tup ks => (match D.key (.nd .tup ks) with
        | some k => (k.depth ≤ 8 ∧ kvs.length < sizeLine) ∧ Q (up G a (.dN (dput kvs k v)))
        | none => False)
      | _ => False)
    | some (.dK kvs) => (match i.kK with
      | some k => kvs.length < sizeLine ∧ Q (up G a (.dK (dput kvs k v)))
      | none => False)
    | _ => False)
  | _ => False
theorem zw9 (hu : X.A.units + 64 < cLine) : PSet X (zxt X.ml dSet) := by
  intro pins s σ H o i v ov iv u Q I ro ri rv ⟨do_, di, dv, G, P, hr, q1, q2, q3, t, k⟩
  cases do_ with
  | ref a =>
    rw [VR] at q1
    subst q1
    cases (show ov = Value.ref a from ro)
    cases hG : G a with
    | none =>
      have : False := by simpa [dSet, hG] using t
      exact this.elim
    | some ob =>
      cases ob with
      | rw _ _ _ =>
        have : False := by simpa [dSet, hG] using t
        exact this.elim
      | ins C fs =>
        have : False := by simpa [dSet, hG] using t
        exact this.elim
      | lst ds =>
        cases di with
        | int kk =>
          rw [VR] at q2; subst q2
          obtain ⟨vs, hv, r⟩ := hr a _ hG
          cases hj : ixN ds.length kk with
          | none =>
            have : False := by simpa [dSet, hG, hj] using t
            exact this.elim
          | some j =>
            have t : P (up G a (.lst (ds.set j dv))) := by simpa [dSet, hG, hj] using t
            have x : Ext H G (upd H a (.lst (vs.set j v))) (up G a (.lst (ds.set j dv))) := .write hG
            exact set_list pins s σ H (.ref a) _ v _ _ u Q I rfl ri rv ⟨a, vs, kk, j, rfl, rfl, hv, by rw [r.length]; exact hj, k _ _ t x (hr.write hG ⟨_, upd_same, (r.set j q3).ext hr x⟩)⟩
        | _ =>
          have : False := by simpa [dSet, hG] using t
          exact this.elim
      | dK kvs =>
        cases ek : di.kK with
        | none =>
          have : False := by simpa [dSet, hG, ek] using t
          exact this.elim
        | some kk =>
          have t : kvs.length < sizeLine ∧ P (up G a (.dK (dput kvs kk dv))) := by simpa [dSet, hG, ek] using t
          obtain ⟨ws, hw, hks, r⟩ := hr a _ hG
          have e := z5s q2 ek
          subst e
          have x : Ext H G (upd H a (.dK (putK ws kk v))) (up G a (.dK (dput kvs kk dv))) := .write hG
          obtain ⟨p1, p2⟩ := zaay kk q3 hks r
          have hl : ws.length < sizeLine := by
            have := congrArg List.length hks
            rw [List.length_map, List.length_map] at this
            rw [this]; exact t.1
          exact d_setItem (by omega) I (.inl ⟨ws, kk, hw, rfl, hl, rfl⟩) ri rv fun s' I' => ⟨_, I', k _ _ t.2 x (hr.write hG ⟨_, upd_same, p1, p2.ext hr x⟩)⟩
      | dN kvs =>
        cases di with
        | nd kd ks =>
          cases kd with
          | tup =>
            cases ek : D.key (.nd .tup ks) with
            | none =>
              have : False := by simpa [dSet, hG, ek] using t
              exact this.elim
            | some kk =>
              have t : (kk.depth ≤ 8 ∧ kvs.length < sizeLine) ∧ P (up G a (.dN (dput kvs kk dv))) := by simpa [dSet, hG, ek] using t
              obtain ⟨⟨h8, hl⟩, t⟩ := t
              have ka := zqy q2 ek
              rw [VR] at q2
              obtain ⟨b, vs, rfl, hb, rb⟩ := q2
              cases (show iv = Value.ref b from ri)
              obtain ⟨ws, dn, vr⟩ := hr a _ hG
              obtain ⟨xs, es, ep, h1, h2, h3, h4, h5, h6, h7, h9, h10⟩ := DnAt.of I dn
              refine wpAny_setItem_heap (hsz := by have := congrArg List.length h6; rw [List.length_map] at this; rw [this]; exact h7) (zry hu) ⟨zgs I ka rfl, h8⟩ h4 fun h' hm' hs => ?_
              obtain ⟨H', I', x, r'⟩ := z53 (t' := s.toks + (nestedKind X.prog X.w).draws kk) I hr hG h1 h5 h4 h6 h9 h10 vr ka h8 q3 rv hl hm' hs
              exact ⟨H', I', k _ _ t x r'⟩
          | _ =>
            have : False := by simpa [dSet, hG] using t
            exact this.elim
        | _ =>
          have : False := by simpa [dSet, hG] using t
          exact this.elim
  | _ => exact t.elim
def zpt (To Ti : DTE) (r : DSet) : DTG := fun v η G Q => To η G fun o G1 => Ti η G1 fun i G2 => r o i v G2 fun G3 => Q η G3
theorem zto [Bs] {o i : Expr} {To Ti : DTE} {r : DSet} {pos : Pos} (ho : PED X o To) (hi : PED X i Ti) (hs : PSet X (zxt X.ml r))
    (ha : ∀ v, assign (.Subscript o i pos) X.env v = (do
      let ov ← holding [v] (eval o X.env)
      let iv ← holding [v, ov] (eval i X.env)
      standAt pos
      holding [v, ov, iv] (setItem ov iv v)
      release [v, ov, iv] []) := by intro _; rfl) : PGD X (.Subscript o i pos) [] (zpt To Ti r) :=
  PG.impI (pg_sub ho hi hs ha) fun _ _ σ H v Q _ ⟨d, η, G, P, q, hs', hr, t, k⟩ =>
    ⟨η, G, _, hs', hr, t, fun d1 G1 v1 H1 p1 x1 r1 q1 => ⟨η, G1, _, hs'.ext hr x1, r1, p1, fun d2 G2 v2 H2 p2 x2 r2 q2 =>
      ⟨d1, d2, d, G2, _, r2, q1.ext r1 x2, q2, (q.ext hr x1).ext r1 x2, p2, fun G3 H3 p3 x3 r3 => k η G3 σ H3 p3 ((x1.trans x2).trans x3) (hs'.ext hr ((x1.trans x2).trans x3)) r3 rfl⟩⟩⟩
abbrev IxD (X : Cx) (r : DR2) : Prop := IxR X (zr8 X.ml r)
/-- the item at a place -/
def atD (ds : List D) (y : D) (Q : D → Prop) : Prop := match y with
  | .int i => (match atI ds i with
    | some d => Q d
    | none => False)
  | _ => False
def dIx : DR2 := fun x y G Q => match der x G with
  | .nd .lst ds => atD ds y fun d => Q d G
  | .nd .scr ds => atD ds y fun d => Q d G
  | .nd .tup ds => atD ds y fun d => Q d G
  | _ => match dicN x G with
    | some kvs => (match y with
      | .nd .tup ks => (match D.key (.nd .tup ks) with
        | some k => k.depth ≤ 8 ∧ (match dval kvs k with
          | some d => Q d G
          | none => False)
        | none => False)
      | _ => False)
    | none => match dicK x G with
      | some kvs => (match y.kK with
        | some k => (match dval kvs k with
          | some d => Q d G
          | none => False)
        | none => False)
      | none => False
theorem z6r {K : Ml} {H : Hp} {G : DHp} {ds : List D} {vs : List V} {i : Int} {d : D} (r : VRs K H G ds vs) (e : atI ds i = some d) : ∃ v, atI vs i = some v ∧ VR K H G d v := by
  unfold atI at e ⊢
  rw [r.length]
  cases h : ixN ds.length i with
  | none => rw [h] at e; cases e
  | some j =>
    rw [h] at e
    obtain ⟨v, e1, q⟩ := r.get (show ds[j]? = some d from e)
    exact ⟨v, e1, q⟩
theorem zx6 {K : Ml} {H : Hp} {G : DHp} {P : D → DHp → Prop} {Q : VK} {d : D} {v : V} (k : ∀ d G' v H', P d G' → Ext H G H' G' → HR K H' G' → VR K H' G' d v → Q v H') (hr : HR K H G) (p : P d G) (q : VR K H G d v) : Q v H := k d G v H p (.refl _ _) hr q
theorem ixd (hu : X.A.units + 64 < cLine) : IxD X dIx := by
  intro value slice pins s σ H x y v u Q I rx ry ⟨dx, dy, G, P, hr, q1, q2, t, k⟩ hs
  have doL : ∀ (a : Addr) (ds : List D) (vs : List V), x = .ref a → SqL X.K H a vs → VRs X.ml H G ds vs → (atD ds dy fun d => P d G) → wpAny (model X.prog X.w) X.A (subscriptTail value slice v u) (EP X pins σ Q) X.xe s := by
    intro a ds vs e hq r t
    cases dy with
    | int i =>
      rw [VR] at q2; subst q2
      cases ea : atI ds i with
      | none =>
        have : False := by simpa [atD, ea] using t
        exact this.elim
      | some d =>
        have t : P d G := by simpa [atD, ea] using t
        obtain ⟨z, e2, q⟩ := z6r r ea
        exact ix_list value slice pins s σ H x _ v u Q I rx ry ⟨a, vs, i, z, e, rfl, hq, e2, zx6 k hr t q⟩ hs
    | _ => exact t.elim
  unfold dIx at t
  split at t
  · rename_i ds e
    obtain ⟨a, vs, e1, h1, r1⟩ := znq hr q1 e
    exact doL a ds vs e1 (.inl (.inl h1)) r1 t
  · rename_i ds e
    have e := zm1 e (fun _ h => nomatch h)
    rw [e, VR] at q1
    obtain ⟨a, vs, e1, h1, r1⟩ := q1
    exact doL a ds vs e1 (zdu h1 (.inr rfl)) r1 t
  · rename_i ds e
    have e := zm1 e (fun _ h => nomatch h)
    rw [e, VR] at q1
    obtain ⟨a, vs, e1, h1, r1⟩ := q1
    cases dy with
    | int i =>
      rw [VR] at q2; subst q2
      cases ea : atI ds i with
      | none =>
        have : False := by simpa [atD, ea] using t
        exact this.elim
      | some d =>
        have t : P d G := by simpa [atD, ea] using t
        obtain ⟨z, e2, q⟩ := z6r r1 ea
        exact ix_tup value slice pins s σ H x _ v u Q I rx ry ⟨a, vs, i, z, e1, rfl, h1, e2, zx6 k hr t q⟩ hs
    | _ => exact t.elim
  · split at t
    · rename_i kvs e
      cases dy with
      | nd kd ds =>
        cases kd with
        | tup =>
          cases ek : D.key (.nd .tup ds) with
          | none =>
            have : False := by simpa [ek] using t
            exact this.elim
          | some kk =>
            simp only [ek] at t
            obtain ⟨h8, t⟩ := t
            have ka := zqy q2 ek
            obtain ⟨a, ws, rfl, dn, vr⟩ := zpr hr q1 e
            obtain ⟨xs, es, ep, h1, h2, h3, h4, h5, h6, h7, h9, h10⟩ := DnAt.of I dn
            rw [VR] at q2
            obtain ⟨b, vs, rfl, hb, rb⟩ := q2
            cases (show v = Value.ref a from rx)
            cases (show u = Value.ref b from ry)
            rcases zlt (K := Unit) (k := kk) h10 kvs H G X.ml h6 vr with ⟨e1, e2⟩ | ⟨d, w, p, e1, e2, rw', qw⟩
            · rw [e1] at t; exact t.elim
            · rw [e1] at t
              exact tail_any h4.typeIs PySem.F.slot_dict_getitem.lookup (wpAny_getItem_heap (zry hu) ⟨zgs I ka rfl, h8⟩ h4 e2 ⟨w, H, I.tok _, rw', zx6 k hr t qw⟩) hs
        | _ => exact t.elim
      | _ => exact t.elim
    · split at t
      · rename_i kvs e
        cases ek : dy.kK with
        | none => rw [ek] at t; exact t.elim
        | some kk =>
          rw [ek] at t
          simp only at t
          obtain ⟨a, ws, rfl, rd, e1, vr⟩ := zpc hr q1 e
          cases (show v = Value.ref a from rx)
          have ex := z5s q2 ek
          subst ex
          rcases zuf kk e1 vr with ⟨e2, e3⟩ | ⟨d, w, e2, e3, qw⟩
          · rw [e2] at t; exact t.elim
          · rw [e2] at t
            have g : DGet H a (kV kk) (some w) := .inl ⟨ws, kk, rd, rfl, e3.symm⟩
            exact tail_any (dict_typeIs I g) PySem.F.slot_dict_getitem.lookup (d_getItem (by omega) I g ry fun w' s' I' rw' => ⟨w, H, I', rw', zx6 k hr t qw⟩) hs
      · exact t.elim
theorem zax [Bs] {a b : Expr} {pos : Pos} {r : DR2} {Ta Tb : DTE} (hr : IxD X r) (ha : PED X a Ta) (hb : PED X b Tb) (hs : PlainIx b := by intro _ _; rfl) : PED X (.Subscript a b pos) (dOp r Ta Tb) :=
  PE.impI (pe_ix hr ha hb hs) fun _ _ _ _ _ _ h => zx4 h
abbrev DTO := DSt → DHp → (Option Int → DHp → Prop) → Prop
def zaf0 [Bs] (K : Ml) (T : DTO) : TO := fun σ H Q => ∃ η G P, SR K H G σ η ∧ HR K H G ∧ T η G P ∧ ∀ o G' H', P o G' → Ext H G H' G' → HR K H' G' → Q o H'
abbrev POD [Bs] (X : Cx) (e : Option Expr) (T : DTO) : Prop := PO X e (zaf0 X.ml T)
theorem PO.impI {e : Option Expr} {t t' : TO} (h : PO X e t) (i : ∀ pins s σ H Q, Inv X pins σ H s → t' σ H Q → t σ H Q) : PO X e t' := ⟨fun pins s σ H Q I q => h.run pins s σ H Q I (i _ _ _ _ _ I q)⟩
def zhs : DTO := fun _ G Q => Q none G
def zp1 (T : DTE) : DTO := fun η G Q => T η G fun d G1 => match d with
  | .int i => Q (some i) G1
  | _ => False
theorem ztb [Bs] : POD X none zhs := PO.impI po_none fun _ _ _ H Q _ ⟨η, G, P, hs, hr, t, k⟩ => k none G H t (.refl _ _) hr
theorem zs4 [Bs] {e : Expr} {T : DTE} (h : PED X e T) : POD X (some e) (zp1 T) := PO.impI (po_some h) fun _ _ _ H Q _ ⟨η, G, P, hs, hr, t, k⟩ => ⟨η, G, _, hs, hr, t, fun d G1 v H1 p x r q => by
  cases d with
  | int i => rw [VR] at q; exact ⟨i, q, k (some i) G1 H1 p x r⟩
  | _ => exact p.elim⟩
def cutD (xs : List D) (lo hi : Option Int) : List D := (xs.drop (HT.sIx xs.length 0 lo)).take (HT.sIx xs.length xs.length hi - HT.sIx xs.length 0 lo)
theorem zaa2 {K : Ml} {H : Hp} {G : DHp} {ds : List D} {vs : List V} (r : VRs K H G ds vs) (lo hi : Option Int) : VRs K H G (cutD ds lo hi) (cutV vs lo hi) := by
  unfold cutD cutV
  rw [r.length]
  exact (r.drop _).take _
abbrev DSl := D → Option Int → Option Int → DHp → DVK → Prop
def zaa7 (K : Ml) (r : DSl) : V → Option Int → Option Int → Hp → VK → Prop := fun x lo hi H Q => ∃ d G P, HR K H G ∧ VR K H G d x ∧ r d lo hi G P ∧ ∀ d G' v H', P d G' → Ext H G H' G' → HR K H' G' → VR K H' G' d v → Q v H'
def dSl : DSl := fun x lo hi G Q => match der x G with
  | .nd .lst ds => Q (.nd .lst (cutD ds lo hi)) G
  | .nd .tup ds => Q (.nd .tup (cutD ds lo hi)) G
  | _ => False
theorem sld : SlR X (zaa7 X.ml dSl) := by
  intro pins s σ H x v vl vu lo hi sl Q I rx hs pl pu ⟨dx, G, P, hr, q1, t, k⟩
  unfold dSl at t
  split at t
  · rename_i ds e
    obtain ⟨a, vs, e1, h1, r1⟩ := znq hr q1 e
    refine sl_list pins s σ H x v vl vu lo hi sl Q I rx hs pl pu ⟨a, vs, e1, .inl (.inl h1), fun p hp => ?_⟩
    have x2 : Ext H G (upd H p (.lst (cutV vs lo hi))) G := .laid hp
    refine k _ G _ _ t x2 (hr.laid hp) ?_
    rw [VR]
    exact ⟨p, _, rfl, ⟨hr.free hp, upd_same⟩, (zaa2 r1 lo hi).ext hr x2⟩
  · rename_i ds e
    have e := zm1 e (fun _ h => nomatch h)
    subst e
    rw [VR] at q1
    obtain ⟨a, vs, e1, h1, r1⟩ := q1
    refine sl_tupA pins s σ H x v vl vu lo hi sl Q I rx hs pl pu ⟨a, vs, e1, h1, fun hw => ?_, fun _ p hp => ?_⟩
    · refine k _ G _ H t (.refl _ _) hr ?_
      rw [VR]
      have e2 : cutD ds lo hi = ds := by
        unfold cutD
        have hw' : HT.sIx ds.length 0 lo = 0 ∧ HT.sIx ds.length ds.length hi = ds.length := by rw [← r1.length]; exact hw
        rw [hw'.1, hw'.2, List.drop_zero, Nat.sub_zero, List.take_length]
      rw [e2]
      exact ⟨a, vs, rfl, h1, r1⟩
    · have x2 : Ext H G (upd H p (.tup (cutV vs lo hi))) G := .laid hp
      refine k _ G _ _ t x2 (hr.laid hp) ?_
      rw [VR]
      exact ⟨p, _, rfl, .inl (.inl upd_same), (zaa2 r1 lo hi).ext hr x2⟩
  · exact t.elim
def zk7 (r : DSl) (T : DTE) (Tl Th : DTO) : DTE := fun η G Q => T η G fun x G1 => Tl η G1 fun l G2 => Th η G2 fun u G3 => r x l u G3 Q
theorem zqb [Bs] {e : Expr} {lo hi : Option Expr} {p2 pos : Pos} {r : DSl} {T : DTE} {Tl Th : DTO} (hr : SlR X (zaa7 X.ml r)) (he : PED X e T) (hl : POD X lo Tl) (hu : POD X hi Th) : PED X (.Subscript e (.Slice lo hi none p2) pos) (zk7 r T Tl Th) :=
  PE.impI (pe_slice hr he hl hu) fun _ _ σ H Q _ ⟨η, G, P, hs, hr, t, k⟩ =>
    ⟨η, G, _, hs, hr, t, fun d1 G1 v1 H1 p1 x1 r1 q1 => ⟨η, G1, _, hs.ext hr x1, r1, p1, fun l G2 H2 p2 x2 r2 => ⟨η, G2, _, (hs.ext hr x1).ext r1 x2, r2, p2, fun u G3 H3 p3 x3 r3 =>
      ⟨d1, G3, P, r3, (q1.ext r1 x2).ext r2 x3, p3, fun d G' v H' p x r q => k d G' v H' p (((x1.trans x2).trans x3).trans x) r q⟩⟩⟩⟩
def zie (r r' : DR2) (Ta Tb Tc : DTE) : DTE := fun η G Q => Ta η G fun x G1 => Tb η G1 fun y G2 => r x y G2 fun z G3 => match z with
  | .bl k => if k = true then Tc η G3 fun w G4 => r' y w G4 Q else Q (.bl false) G3
  | _ => False
end
end DL
namespace DL
open PySem PySem.Spec PyProof.Rows L2
section
variable {X : Cx}
theorem zwl [Bs] {r r' : DR2} {Ta Tb Tc : DTE} {K : Ml} {σ : L2.St} {H : Hp} {Q : VK} (h : znj K (zie r r' Ta Tb Tc) σ H Q) : tChain (zr8 K r) (zr8 K r') (znj K Ta) (znj K Tb) (znj K Tc) σ H Q :=
  let ⟨η, G, P, hs, hr, t, k⟩ := h
  ⟨η, G, _, hs, hr, t, fun d1 G1 v1 H1 p1 x1 r1 q1 => ⟨η, G1, _, hs.ext hr x1, r1, p1, fun d2 G2 v2 H2 p2 x2 r2 q2 =>
    ⟨d1, d2, G2, _, r2, q1.ext r1 x2, q2, p2, fun z G3 vz H3 p3 x3 r3 q3 => by
      cases z with
      | bl c =>
        rw [VR] at q3
        refine ⟨c, q3, ?_⟩
        cases c with
        | true =>
          rw [if_pos rfl]
          have p3 : Tc η G3 fun w G4 => r' d2 w G4 P := by simpa using p3
          exact ⟨η, G3, _, ((hs.ext hr x1).ext r1 x2).ext r2 x3, r3, p3, fun dw G4 vw H4 p4 x4 r4 q4 => ⟨d2, dw, G4, P, r4, ((q2.ext r2 x3).ext r3 x4), q4, p4, fun d G' v H' p x r q => k d G' v H' p ((((x1.trans x2).trans x3).trans x4).trans x) r q⟩⟩
        | false =>
          rw [if_neg Bool.false_ne_true]
          have p3 : P (.bl false) G3 := by simpa using p3
          exact k _ G3 _ H3 p3 ((x1.trans x2).trans x3) r3 (by rw [VR])
      | _ => exact p3.elim⟩⟩⟩
theorem zqv [Bs] {a b c : Expr} {op op' : CmpOp} {pos : Pos} {r r' : DR2} {Ta Tb Tc : DTE} (ho : OpD X (compareOp op) r) (ho' : OpD X (compareOp op') r') (ha : PED X a Ta) (hb : PED X b Tb) (hc : PED X c Tc)
    (hm : lastMarks [op, op'] [b, c] = false := by with_unfolding_all rfl) : PED X (.Compare a [op, op'] [b, c] pos) (zie r r' Ta Tb Tc) :=
  PE.impI (pe_chain ho ho' ha hb hc hm) fun _ _ _ _ _ _ h => zwl h
theorem zzn [Bs] {a b c : Expr} {op op' : CmpOp} {pos : Pos} {r r' : DR2} {Ta Tb Tc : DTE} (ho : OpD X (compareOp op) r) (ho' : OpD X (compareOp op') r') (ha : PED X a Ta) (hb : PED X b Tb) (hc : PED X c Tc)
    (hm : lastMarks [op, op'] [b, c] = false := by with_unfolding_all rfl) : PTD X (.Compare a [op, op'] [b, c] pos) (zag (zie r r' Ta Tb Tc)) :=
  PT.impI (pt_chain ho ho' ha hb hc hm) fun _ _ σ H Q _ h => by
    have h2 := zty h
    obtain ⟨η, G, P, hs, hr, t, k⟩ := h2
    exact zwl ⟨η, G, P, hs, hr, t, k⟩
def dNeg (T : DTE) : DTE := fun η G Q => T η G fun d G1 => match d with
  | .int i => Q (.int (-i)) G1
  | _ => False
theorem zif [Bs] {a : Expr} {pos : Pos} {T : DTE} (h : PED X a T) : PED X (.UnaryOp .USub a pos) (dNeg T) :=
  PE.impI (pe_un un_neg h) fun _ _ σ H Q _ ⟨η, G, P, hs, hr, t, k⟩ => ⟨η, G, _, hs, hr, t, fun d G1 v H1 p x r q => by
    cases d with
    | int i =>
      rw [VR] at q
      exact ⟨i, q, k _ G1 _ H1 p x r (by rw [VR])⟩
    | _ => exact p.elim⟩
/-- what is done to a list of arguments -/
abbrev DRn := List D → DHp → DVK → Prop
def z20 (K : Ml) (r : DRn) : List V → Hp → VK → Prop := fun vs H Q => ∃ ds G P, VRs K H G ds vs ∧ HR K H G ∧ r ds G P ∧ ∀ d G' v H', P d G' → Ext H G H' G' → HR K H' G' → VR K H' G' d v → Q v H'
abbrev zkr (X : Cx) (f : Value) (r : DRn) : Prop := CallR X f (z20 X.ml r)
def dCB (r : DRn) (T : DTA) : DTE := fun η G Q => T η G fun ds G1 => r ds G1 Q
theorem z2n [Bs] {r : DRn} {T : DTA} {K : Ml} {σ : L2.St} {H : Hp} {Q : VK} (h : znj K (dCB r T) σ H Q) : tCB (z20 K r) (zaeo K T) σ H Q :=
  let ⟨η, G, P, hs, hr, t, k⟩ := h
  ⟨η, G, _, hs, hr, t, fun ds G1 vs H1 p1 x1 r1 q1 => ⟨ds, G1, P, q1, r1, p1, fun d G' v H' p x r q => k d G' v H' p (x1.trans x) r q⟩⟩
theorem zm [Bs] {id : String} {x : Str} {p pos : Pos} {e : Expr} {es : List Expr} {r : DRn} {T : DTA} (hc : zkr X (.builtin id) r) (hm : X.mg x = none) (hv : bootBuiltins x = some (.builtin id)) (ha : PAD X (e :: es) T) (hg : Gl X x := by rfl) (hn : x ≠ "__name__" := by decide) (hdb : (x == ("__debug__" : Str)) = false := by decide)
    (he : starEach (e :: es) X.env = (false, eval e X.env) :: starEach es X.env := by rfl) (hpl : (backTo pos (starEach es X.env)).any (·.1) = false := by rfl) : PED X (.Call (.Name x p) (e :: es) [] pos) (dCB r T) :=
  PE.impI (pe_callB hc hg hm hv ha hn hdb he hpl) fun _ _ _ _ _ _ h => z2n h
theorem z7 [Bs] {id : String} {x : Str} {p pos : Pos} {e : Expr} {es : List Expr} {r : DRn} {T : DTA} (hc : zkr X (.type id) r) (hm : X.mg x = none) (hv : bootBuiltins x = some (.type id)) (ha : PAD X (e :: es) T) (hg : Gl X x := by rfl) (hn : x ≠ "__name__" := by decide) (hdb : (x == ("__debug__" : Str)) = false := by decide)
    (he : starEach (e :: es) X.env = (false, eval e X.env) :: starEach es X.env := by rfl) (hpl : (backTo pos (starEach es X.env)).any (·.1) = false := by rfl) : PED X (.Call (.Name x p) (e :: es) [] pos) (dCB r T) :=
  PE.impI (pe_callTy hc hg hm hv ha hn hdb he hpl) fun _ _ _ _ _ _ h => z2n h
theorem zabq : Passes CX0 X fun _ _ _ => False := fun _ _ _ _ _ _ _ h => h.elim
/-- a def of the text keeps the promise sp -/
abbrev FnD (P : Program) (w : World) (K : PySem.W.Frag) (mg : Str → Option Value) (base : Heap) (k : Nat) (f : Addr) (fd : FuncData) (ps : List Str) (sp : DRn) : Prop := FnOk P w K mg base CX0 k f fd ps fun vs H Q _ => z20 ⟨K, w⟩ sp vs H Q
theorem zo [Bs] {k : Nat} {f : Addr} {fd : FuncData} {ps : List Str} {sp : DRn} {x : Str} {p pos : Pos} {e : Expr} {es : List Expr} {T : DTA} (F : FnD X.prog X.w X.K X.mg X.base k f fd ps sp) (hr : Room k X.A) (hm : X.mg x = some (.ref f)) (hk : PySem.W.keepIn X.K (.ref f) = true) (hb : Binds X.K fd ps [])
    (ha : PAD X (e :: es) T) (hg : Gl X x := by rfl) (hdb : (x == ("__debug__" : Str)) = false := by decide) (he : starEach (e :: es) X.env = (false, eval e X.env) :: starEach es X.env := by rfl) (hpl : (backTo pos (starEach es X.env)).any (·.1) = false := by rfl) :
    PED X (.Call (.Name x p) (e :: es) [] pos) (dCB sp T) :=
  PE.impI (pe_call F hr hg hm hk hb .nil (zabq (X := X)) ha hdb he hpl) fun _ _ _ _ _ _ h => by
    obtain ⟨η, G, P, hs, hr, t, k⟩ := z2n h
    exact ⟨η, G, P, hs, hr, t, fun ds G' vs H' p x r q => by
      show z20 X.ml sp (vs ++ []) H' _
      rw [List.append_nil]
      exact k ds G' vs H' p x r q⟩
def tyD (T : String) (d : D) (G : DHp) : Prop := match d with
  | .str _ => T = "str"
  | .ref a => (match G a with
    | some (.lst _) => T = "list"
    | some (.dK _) => T = "dict"
    | some (.dN _) => T = "dict"
    | _ => False)
  | .nd .lst _ => T = "list"
  | .nd .scr _ => T = "list"
  | .nd (.dK _) _ => T = "dict"
  | .nd (.dN _) _ => T = "dict"
  | _ => False
theorem zaet {pins : List (Addr × Obj)} {σ : L2.St} {H : Hp} {s : Shared} {a : Addr} {ks : List NestedKey} {vs : List V} (I : Inv X pins σ H s) (h : DnAt X.ml H a ks vs) :
    s.TypeIs (.ref a) "dict" ∧ (∀ b, Value.ref a = .ref b → ∃ ob, s.heap.get? b = some ob ∧ ob.dict = none) ∧ (a == sysModules) = false := by
  obtain ⟨xs, es, ep, h1, h2, h3, h4, h5, _⟩ := DnAt.of I h
  refine ⟨h4.typeIs, fun b q => ?_, h5⟩
  cases q
  obtain ⟨ob, ho, hx, _⟩ := h2
  exact ⟨ob, ho, hx.2.1⟩
theorem z3z {pins : List (Addr × Obj)} {σ : L2.St} {H : Hp} {G : DHp} {s : Shared} {T : String} {d : D} {x : V} {v : Value} (I : Inv X pins σ H s) (hr : HR X.ml H G) (q : VR X.ml H G d x) (r : RelV x v) (ty : tyD T d G) :
    s.TypeIs v T ∧ ∀ a, v = .ref a → ∃ ob, s.heap.get? a = some ob ∧ ob.dict = none := by
  have doL : ∀ (a : Addr) (vs : List V), x = .ref a → SqL X.K H a vs → s.TypeIs v "list" ∧ ∀ a, v = .ref a → ∃ ob, s.heap.get? a = some ob ∧ ob.dict = none := fun a vs e hq => by
    subst e
    exact tyV_is (T := "list") I r (.inl ⟨rfl, vs, hq⟩)
  have doK : ∀ (a : Addr), x = .ref a → IsD H a → s.TypeIs v "dict" ∧ ∀ a, v = .ref a → ∃ ob, s.heap.get? a = some ob ∧ ob.dict = none := fun a e hq => by
    subst e
    cases (show v = Value.ref a from r)
    exact ⟨(isD_at I hq).1, (isD_at I hq).2.1⟩
  have doN : ∀ (a : Addr) (ks : List NestedKey) (vs : List V), x = .ref a → DnAt X.ml H a ks vs → s.TypeIs v "dict" ∧ ∀ a, v = .ref a → ∃ ob, s.heap.get? a = some ob ∧ ob.dict = none := fun a ks vs e hq => by
    subst e
    cases (show v = Value.ref a from r)
    exact ⟨(zaet I hq).1, (zaet I hq).2.1⟩
  cases d with
  | str z =>
    rw [VR] at q; subst q
    cases (show T = "str" from ty)
    exact tyV_is I r (show tyV X.K "str" (.str z) H from rfl)
  | ref a =>
    rw [VR] at q
    cases e : G a with
    | none =>
      have : False := by simpa [tyD, e] using ty
      exact this.elim
    | some o =>
      have u := hr a o e
      cases o with
      | lst ds =>
        have : T = "list" := by simpa [tyD, e] using ty
        subst this
        obtain ⟨vs, z, _⟩ := u
        exact doL a vs q (.inl (.inl z))
      | dK ds =>
        have : T = "dict" := by simpa [tyD, e] using ty
        subst this
        obtain ⟨ws, z, _⟩ := u
        exact doK a q (.inl ⟨ws, .inl z⟩)
      | dN ds =>
        have : T = "dict" := by simpa [tyD, e] using ty
        subst this
        obtain ⟨ws, z, _⟩ := u
        exact doN a _ ws q z
      | rw _ _ _ =>
        have : False := by simpa [tyD, e] using ty
        exact this.elim
      | ins C fs =>
        have : False := by simpa [tyD, e] using ty
        exact this.elim
  | nd k ds =>
    rw [VR] at q
    obtain ⟨a, vs, e, hh, _⟩ := q
    cases k with
    | lst =>
      cases (show T = "list" from ty)
      exact doL a vs e (zdu hh (.inl rfl))
    | scr =>
      cases (show T = "list" from ty)
      exact doL a vs e (zdu hh (.inr rfl))
    | dK ks =>
      cases (show T = "dict" from ty)
      obtain ⟨_, o, z⟩ := hh
      exact doK a e (.inl ⟨_, .inr ⟨o, z⟩⟩)
    | dN ks =>
      cases (show T = "dict" from ty)
      exact doN a ks vs e hh.2
    | _ => exact ty.elim
  | _ => exact ty.elim
abbrev MtD (X : Cx) (id : String) (r : DRn) : Prop := zkr X (.builtin id) r
def dM0 (T : String) (r : DRn) (To : DTE) : DTE := fun η G Q => To η G fun x G1 => tyD T x G1 ∧ r [x] G1 Q
def dM (T : String) (r : DRn) (To : DTE) (Ta : DTA) : DTE := fun η G Q => To η G fun x G1 => tyD T x G1 ∧ Ta η G1 fun ds G2 => r (x :: ds) G2 Q
theorem zaa4 [Bs] {T id : String} {o : Expr} {name : Str} {apos cpos : Pos} {r : DRn} {To : DTE} (pa : PlainAttrs T) (slot : Slot T name id) (hty : typeOf (.builtin id) = pure (.type "method_descriptor")) (hm : MtD X id r) (ho : PED X o To)
    (hbase : attributeBase o name X.env (eval o X.env) = eval o X.env := by rfl) (hline : (apos.endLine == cpos.line) = true := by rfl) : PED X (.Call (.Attribute o name apos) [] [] cpos) (dM0 T r To) := by
  refine ⟨fun pins s σ H Q I ⟨η, G, P, hs, hr, t, k⟩ => ?_⟩
  refine wpAny_Call_method0_late hbase hline (thn (ho.run pins s σ H (fun v H1 => ∃ d G1, (tyD T d G1 ∧ r [d] G1 P) ∧ Ext H G H1 G1 ∧ HR X.ml H1 G1 ∧ VR X.ml H1 G1 d v) I ⟨η, G, _, hs, hr, t, fun d G1 v H1 p x r q => ⟨d, G1, p, x, r, q⟩⟩) fun v s1 ⟨x, H1, I1, r1, d, G1, ⟨ty, p⟩, x1, hr1, q1⟩ => ?_)
  obtain ⟨h1, h2⟩ := z3z I1 hr1 q1 r1 ty
  exact ⟨T, id, pa, slot, hty, h1, h2, Calls.callWith_builtin rfl (PySem.evalArgs_none (hm pins s1 σ H1 [x] [v] Q I1 (.cons r1 .nil) ⟨[d], G1, P, .cons q1 .nil, hr1, p, fun d G' v H' p x r q => k d G' v H' p (x1.trans x) r q⟩))⟩
theorem zm9 [Bs] {T id : String} {o e : Expr} {es : List Expr} {name : Str} {apos cpos : Pos} {r : DRn} {To : DTE} {Ta : DTA} (pa : PlainAttrs T) (slot : Slot T name id) (hty : typeOf (.builtin id) = pure (.type "method_descriptor")) (hm : MtD X id r) (ho : PED X o To) (ha : PAD X (e :: es) Ta)
    (hbase : attributeBase o name X.env (eval o X.env) = eval o X.env := by rfl)
    (hfew : ((backTo cpos (starEach (e :: es) X.env)).all (fun x => !x.1) && (backToKw cpos (keywordEach [] X.env)).all (fun x => x.1.isSome)
      && decide ((e :: es).length + ([] : List Keyword).length + (if ([] : List Keyword).isEmpty then 0 else 1) < 30)) = true := by rfl)
    (hline : (apos.endLine == cpos.line) = true := by rfl) (hs : starEach (e :: es) X.env = (false, eval e X.env) :: starEach es X.env := by rfl) (hplain : (backTo cpos (starEach es X.env)).any (·.1) = false := by rfl) :
    PED X (.Call (.Attribute o name apos) (e :: es) [] cpos) (dM T r To Ta) := by
  refine ⟨fun pins s σ H Q I ⟨η, G, P, hs', hr, t, k⟩ => ?_⟩
  refine wpAny_Call_method_late hbase hfew hline rfl (thn (ho.run pins s σ H (fun v H1 => ∃ d G1, (tyD T d G1 ∧ Ta η G1 fun ds G2 => r (d :: ds) G2 P) ∧ Ext H G H1 G1 ∧ HR X.ml H1 G1 ∧ VR X.ml H1 G1 d v) I ⟨η, G, _, hs', hr, t, fun d G1 v H1 p x r q => ⟨d, G1, p, x, r, q⟩⟩) fun v s1 ⟨x, H1, I1, r1, d, G1, ⟨ty, p⟩, x1, hr1, q1⟩ => ?_)
  obtain ⟨h1, h2⟩ := z3z I1 hr1 q1 r1 ty
  refine ⟨T, id, pa, slot, hty, h1, h2, ?_⟩
  have hA := ha.run cpos pins s1 σ H1 (fun vs H2 => ∃ ds G2, r (d :: ds) G2 P ∧ Ext H1 G1 H2 G2 ∧ HR X.ml H2 G2 ∧ VRs X.ml H2 G2 ds vs) I1 ⟨η, G1, _, hs'.ext hr x1, hr1, p, fun ds G2 vs H2 p x r q => ⟨ds, G2, p, x, r, q⟩⟩
  rw [hs] at hA ⊢
  refine Calls.callWith_builtin (by show (false || (backTo cpos (starEach es X.env)).any (·.1)) = false; rw [hplain] <;> rfl) (Calls.evalArgs_plain ?_)
  exact thn hA fun us s2 ⟨vs, H2, I2, r2, ds, G2, p2, x2, hr2, q2⟩ => hm pins s2 σ H2 (x :: vs) (v :: us) Q I2 (.cons r1 r2) ⟨d :: ds, G2, P, .cons (q1.ext hr1 x2) q2, hr2, p2, fun d G' v H' p x r q => k d G' v H' p ((x1.trans x2).trans x) r q⟩
theorem z3i {f : Value} {r : DRn} (h : ∀ pins s σ H G vs us ds P, Inv X pins σ H s → Vals vs us → HR X.ml H G → VRs X.ml H G ds vs → r ds G P →
    wpAny (model X.prog X.w) X.A (call f us) (fun w s' => ∃ z d H' G', Inv X pins σ H' s' ∧ RelV z w ∧ P d G' ∧ Ext H G H' G' ∧ HR X.ml H' G' ∧ VR X.ml H' G' d z) X.xe s) : zkr X f r := by
  intro pins s σ H vs us Q I r ⟨ds, G, P, q, hr, t, k⟩
  exact thn (h pins s σ H G vs us ds P I r hr q t) fun w s' ⟨z, d, H', G', I', rz, p, x', r', q'⟩ => ⟨z, H', I', rz, k d G' z H' p x' r' q'⟩
/-- what is asked of one argument -/
def d1 (g : D → DHp → DVK → Prop) : DRn := fun ds G Q => match ds with
  | [d] => g d G Q
  | _ => False
def d2 (g : D → D → DHp → DVK → Prop) : DRn := fun ds G Q => match ds with
  | [d, e] => g d e G Q
  | _ => False
def d3 (g : D → D → D → DHp → DVK → Prop) : DRn := fun ds G Q => match ds with
  | [d, e, f] => g d e f G Q
  | _ => False
theorem zjq {f : Value} {g : D → DHp → DVK → Prop} (h : ∀ pins s σ H G x v d P, Inv X pins σ H s → RelV x v → HR X.ml H G → VR X.ml H G d x → g d G P →
    wpAny (model X.prog X.w) X.A (call f [v]) (fun w s' => ∃ z d H' G', Inv X pins σ H' s' ∧ RelV z w ∧ P d G' ∧ Ext H G H' G' ∧ HR X.ml H' G' ∧ VR X.ml H' G' d z) X.xe s) : zkr X f (d1 g) := z3i fun pins s σ H G vs us ds P I r hr q t => by
  match ds, q, t with
  | [d], q, t =>
    obtain ⟨x, vs, rfl, q1, q2⟩ := q.uncons
    cases q2.nil_of
    obtain ⟨u, rfl, r1⟩ := r.one
    exact h pins s σ H G x u d P I r1 hr q1 t
  | [], _, t => exact t.elim
  | _ :: _ :: _, _, t => exact t.elim
theorem zw4 {f : Value} {g : D → D → DHp → DVK → Prop} (h : ∀ pins s σ H G x y v u d e P, Inv X pins σ H s → RelV x v → RelV y u → HR X.ml H G → VR X.ml H G d x → VR X.ml H G e y → g d e G P →
    wpAny (model X.prog X.w) X.A (call f [v, u]) (fun w s' => ∃ z d H' G', Inv X pins σ H' s' ∧ RelV z w ∧ P d G' ∧ Ext H G H' G' ∧ HR X.ml H' G' ∧ VR X.ml H' G' d z) X.xe s) : zkr X f (d2 g) := z3i fun pins s σ H G vs us ds P I r hr q t => by
  match ds, q, t with
  | [d, e], q, t =>
    obtain ⟨x, vs, rfl, q1, q2⟩ := q.uncons
    obtain ⟨y, vs, rfl, q3, q4⟩ := q2.uncons
    cases q4.nil_of
    obtain ⟨u, v, rfl, r1, r2⟩ := r.two
    exact h pins s σ H G x y u v d e P I r1 r2 hr q1 q3 t
  | [], _, t => exact t.elim
  | [_], _, t => exact t.elim
  | _ :: _ :: _ :: _, _, t => exact t.elim
/-- the list tracked at d -/
def onL (d : D) (G : DHp) (g : Addr → List D → Prop) : Prop := match d with
  | .ref a => (match G a with
    | some (.lst ds) => g a ds
    | _ => False)
  | _ => False
theorem z3x {d : D} {G : DHp} {g : Addr → List D → Prop} (h : onL d G g) : ∃ a ds, d = .ref a ∧ G a = some (.lst ds) ∧ g a ds := by
  cases d with
  | ref a =>
    have h : (match G a with | some (.lst ds) => g a ds | _ => False) := h
    cases e : G a with
    | none => rw [e] at h; exact h.elim
    | some o =>
      rw [e] at h
      cases o with
      | lst ds => exact ⟨a, ds, rfl, e, h⟩
      | _ => exact h.elim
  | _ => exact h.elim
theorem zabd {a : Addr} {G : DHp} {ds : List D} {g : Addr → List D → Prop} (e : G a = some (.lst ds)) (h : g a ds) : onL (.ref a) G g := by
  show (match G a with | some (.lst ds) => g a ds | _ => False)
  rw [e]; exact h
def zgp : DRn := d2 fun l y G Q => onL l G fun a ds => ds.length < sizeLine ∧ Q .non (up G a (.lst (ds ++ [y])))
theorem zd3 : MtD X "list.append" zgp := zw4 fun pins s σ H G x y v u d e P I rx ry hr q1 q2 t => by
  obtain ⟨a, ds, rfl, hG, hz, t⟩ := z3x t
  rw [VR] at q1; subst q1
  obtain ⟨vs, hv, r⟩ := hr a _ hG
  have x1 : Ext H G (upd H a (.lst (vs ++ [y]))) (up G a (.lst (ds ++ [e]))) := .write hG
  exact thn (mt_append pins s σ H _ [y] v [u] (fun z H' => z = .non ∧ H' = upd H a (.lst (vs ++ [y]))) I rx (.cons ry .nil) ⟨a, vs, y, rfl, rfl, hv, by rw [r.length]; exact hz, rfl, rfl⟩) fun w s' ⟨z, H', I', rz, e1, e2⟩ => by
    subst e1 e2
    exact ⟨.non, .non, _, _, I', rz, t, x1, hr.write hG ⟨_, upd_same, (r.append (.cons q2 .nil)).ext hr x1⟩, by rw [VR]⟩
def dPop : DRn := d1 fun l G Q => onL l G fun a ds => match ds[ds.length - 1]? with
  | some y => Q y (up G a (.lst ds.dropLast))
  | none => False
theorem zaa3 : MtD X "list.pop" dPop := zjq fun pins s σ H G x v d P I rx hr q1 t => by
  obtain ⟨a, ds, rfl, hG, t⟩ := z3x t
  rw [VR] at q1; subst q1
  obtain ⟨vs, hv, r⟩ := hr a _ hG
  cases e : ds[ds.length - 1]? with
  | none => rw [e] at t; exact t.elim
  | some y =>
    rw [e] at t
    obtain ⟨z, e2, q2⟩ := r.get e
    have x1 : Ext H G (upd H a (.lst vs.dropLast)) (up G a (.lst ds.dropLast)) := .write hG
    exact thn (mt_pop pins s σ H _ [] v [] (fun z' H' => z' = z ∧ H' = upd H a (.lst vs.dropLast)) I rx .nil ⟨a, vs, z, rfl, rfl, hv, by rw [r.length]; exact e2, rfl, rfl⟩) fun w s' ⟨z', H', I', rz, e1, e3⟩ => by
      subst e1 e3
      exact ⟨_, y, _, _, I', rz, t, x1, hr.write hG ⟨_, upd_same, r.dropLast.ext hr x1⟩, q2.ext hr x1⟩
def z4u : DRn := d2 fun l i G Q => onL l G fun a ds => match i with
  | .int i => (match ixN ds.length i with
    | some k => (match ds[k]? with
      | some y => Q y (up G a (.lst (ds.eraseIdx k)))
      | none => False)
    | none => False)
  | _ => False
theorem zaag : MtD X "list.pop" z4u := zw4 fun pins s σ H G x y v u d e P I rx ry hr q1 q2 t => by
  obtain ⟨a, ds, rfl, hG, t⟩ := z3x t
  rw [VR] at q1; subst q1
  obtain ⟨vs, hv, r⟩ := hr a _ hG
  cases e with
  | int i =>
    rw [VR] at q2; subst q2
    simp only at t
    cases ek : ixN ds.length i with
    | none => rw [ek] at t; exact t.elim
    | some k =>
      rw [ek] at t
      simp only at t
      cases e : ds[k]? with
      | none => rw [e] at t; exact t.elim
      | some y =>
        rw [e] at t
        obtain ⟨z, e2, q2⟩ := r.get e
        obtain ⟨h1, h2, h3, h4⟩ := ixN_seq ek
        have hlen := (I.lstM hv).1
        have hn := line63
        have hl := r.length
        have x1 : Ext H G (upd H a (.lst (vs.eraseIdx k))) (up G a (.lst (ds.eraseIdx k))) := .write hG
        exact thn (mt_popAt pins s σ H _ [.int i] v [u] (fun z' H' => z' = z ∧ H' = upd H a (.lst (vs.eraseIdx k))) I rx (.cons ry .nil) ⟨a, vs, i, k, z, rfl, rfl, hv, by omega, by omega, by rw [hl]; exact h1, e2, rfl, rfl⟩) fun w s' ⟨z', H', I', rz, e1, e3⟩ => by
          subst e1 e3
          exact ⟨_, y, _, _, I', rz, t, x1, hr.write hG ⟨_, upd_same, (r.eraseIdx k).ext hr x1⟩, q2.ext hr x1⟩
  | _ => exact t.elim
def zzm : DR2 := fun x y G Q => match x, y with
  | .int i, .int j => Q (.int (i + j)) G
  | .str a, .str b => a.length + b.length ≤ sizeLine ∧ Q (.str (a ++ b)) G
  | .ref a, y => onL (.ref a) G fun a ds => (match der y G with
    | .nd .lst es => ds.length + es.length ≤ sizeLine ∧ Q (.ref a) (up G a (.lst (ds ++ es)))
    | _ => False)
  | _, _ => False
theorem zxo : OpD X (inplaceOp .Add) zzm := znc fun pins s σ H G x y v u dx dy P I rx ry hr q1 q2 t => by
  unfold zzm at t
  split at t
  · rename_i i j
    rw [VR] at q1 q2
    subst q1 q2
    obtain ⟨t1, rfl⟩ := rx
    obtain ⟨t2, rfl⟩ := ry
    exact iadd_int (zbc (z := .int (i + j)) (I.tok _) ⟨_, rfl⟩ hr (by rw [VR]) t)
  · rename_i i j
    rw [VR] at q1 q2
    subst q1 q2
    exact thn (iop_add_str pins s σ H _ _ v u (fun z H' => z = .str (i ++ j) ∧ H' = H) I rx ry ⟨i, j, rfl, rfl, t.1, rfl, rfl⟩) fun w s' ⟨z, H', I', rz, e1, e2⟩ => by
      subst e1 e2
      exact zbc I' rz hr (by rw [VR]) t.2
  · rename_i a
    obtain ⟨a, ds, e0, hG, t⟩ := z3x t
    cases e0
    rw [VR] at q1; subst q1
    obtain ⟨vs, hv, r⟩ := hr a _ hG
    split at t
    · rename_i es ed
      obtain ⟨b, ws, e1, h1, r1⟩ := znq hr q2 ed
      subst e1
      have x1 : Ext H G (upd H a (.lst (vs ++ ws))) (up G a (.lst (ds ++ es))) := .write hG
      exact thn (iop_ext pins s σ H _ _ v u (fun z H' => z = .ref a ∧ H' = upd H a (.lst (vs ++ ws))) I rx ry ⟨a, b, vs, ws, rfl, rfl, hv, h1, by rw [r.length, r1.length]; exact t.1, rfl, rfl⟩) fun w s' ⟨z, H', I', rz, e1, e2⟩ => by
        subst e1 e2
        exact ⟨.ref a, .ref a, _, _, I', rz, t.2, x1, hr.write hG ⟨_, upd_same, (r.append r1).ext hr x1⟩, by rw [VR]⟩
    · exact t.elim
  · exact t.elim
def dAug (i : Nat) (T : DTE) (r : DR2) : DTS := fun F η G => match η[i]? with
  | some (some x) => T η G fun y G1 => r x y G1 fun z G2 => F.nx (η.set i (some z)) G2
  | _ => False
theorem z1q [Bs] {i : Nat} {x : Str} {e : Expr} {T : DTE} {op : Operator} {r : DR2} {pos' pos : Pos} (hN : X.N.Nodup) (hi : X.N[i]? = some x) (hx : Loc X.env.scope x) (he : PED X e T) (ho : OpD X (inplaceOp op) r) (hf : X.fn x = true ∨ X.env.scope.names.lookup x = some .local := by first | exact .inl rfl | exact .inr rfl | assumption) :
    PSD X (.AugAssign (.Name x pos') op e pos) (dAug i T r) :=
  PS.impI (ps_aug hN hi hx he (show PIp X op (zr8 X.ml r) from ho) hf) fun _ _ σ H E _ ⟨η, G, F, hs, hr, t, k⟩ => by
    unfold dAug at t
    split at t
    · rename_i d e
      obtain ⟨v, q, rv⟩ := hs.2 i d e
      exact ⟨v, q, η, G, _, hs, hr, t, fun y G1 vy H1 p1 x1 r1 q1 => ⟨d, y, G1, _, r1, rv.ext hr x1, q1, p1, fun z G2 vz H2 p2 x2 r2 q2 => k.nx _ G2 _ H2 p2 (x1.trans x2) ((hs.ext hr (x1.trans x2)).set i q2) r2⟩⟩
    · exact t.elim
/-- o[i], of a list -/
def z6f : DR2 := fun x y G Q => match der x G with
  | .nd .lst ds => atD ds y fun d => Q d G
  | _ => False
theorem zaax : OpD X getItem z6f := znc fun pins s σ H G x y v u dx dy P I rx ry hr q1 q2 t => by
  unfold z6f at t
  split at t
  · rename_i ds e
    obtain ⟨a, vs, rfl, h1, r1⟩ := znq hr q1 e
    cases dy with
    | int i =>
      rw [VR] at q2; subst q2
      cases ea : atI ds i with
      | none =>
        have : False := by simpa [atD, ea] using t
        exact this.elim
      | some d =>
        have t : P d G := by simpa [atD, ea] using t
        obtain ⟨z, e2, q⟩ := z6r r1 ea
        cases rx
        obtain ⟨tk, rfl⟩ := ry
        obtain ⟨its, r, pl, hz⟩ := I.list (.inl (.inl h1))
        obtain ⟨j, g1, g2, g3, g4, g5⟩ := atI_get e2
        obtain ⟨w, ew, rw'⟩ := r.get g2
        have hl := r.length
        have fin : ∃ z d H' G', Inv X pins σ H' s ∧ RelV z w ∧ P d G' ∧ Ext H G H' G' ∧ HR X.ml H' G' ∧ VR X.ml H' G' d z := zbc I rw' hr q t
        have hn := line63
        by_cases h0 : 0 ≤ i
        · have hj : i.toNat = j := by
            rw [seqIndex_of h0 g5] at g1
            exact Option.some.inj g1
          exact wpAny_getItem_list pl.isList h0 (by omega) (by rw [hj]; simpa using ew) fin
        · have hj : (i + (its.toArray.size : Int)).toNat = j := by
            rw [seqIndex_neg (by omega) g4] at g1
            rw [List.size_toArray, ← hl]
            exact Option.some.inj g1
          exact wpAny_getItem_list_neg pl.isList (by omega) (by rw [List.size_toArray] <;> omega) (by omega) (by rw [hj]; simpa using ew) fin
    | _ => exact t.elim
  · exact t.elim
def zuj (To Ti Te : DTE) (rg rp : DR2) (rs : DSet) : DTS := fun F η G => To η G fun o G1 => Ti η G1 fun i G2 => rg o i G2 fun x G3 => Te η G3 fun y G4 => rp x y G4 fun z G5 => rs o i z G5 fun G6 => F.nx η G6
theorem zaaj [Bs] {o i e : Expr} {To Ti Te : DTE} {rg rp : DR2} {rs : DSet} {op : Operator} {tpos pos : Pos} (ho : PED X o To) (hi : PED X i Ti) (hg : OpD X getItem rg) (he : PED X e Te) (hp : OpD X (inplaceOp op) rp) (hs : PSet X (zxt X.ml rs))
    (ha : ∀ ov iv new, augStore i ov iv new = (do holding [new, ov, iv] (setItem ov iv new); release [new, ov, iv] []; pure .next) := by intros; rfl) : PSD X (.AugAssign (.Subscript o i tpos) op e pos) (zuj To Ti Te rg rp rs) :=
  PS.impI (ps_augS ho hi (show PGet X (zr8 X.ml rg) from hg) he (show PIp X op (zr8 X.ml rp) from hp) hs ha) fun _ _ σ H E _ ⟨η, G, F, hs, hr, t, k⟩ =>
    ⟨η, G, _, hs, hr, t, fun d1 G1 v1 H1 p1 x1 r1 q1 => ⟨η, G1, _, hs.ext hr x1, r1, p1, fun d2 G2 v2 H2 p2 x2 r2 q2 =>
      ⟨d1, d2, G2, _, r2, q1.ext r1 x2, q2, p2, fun d3 G3 v3 H3 p3 x3 r3 q3 => ⟨η, G3, _, hs.ext hr ((x1.trans x2).trans x3), r3, p3, fun d4 G4 v4 H4 p4 x4 r4 q4 =>
        ⟨d3, d4, G4, _, r4, q3.ext r3 x4, q4, p4, fun d5 G5 v5 H5 p5 x5 r5 q5 => ⟨d1, d2, d5, G5, _, r5, q1.ext r1 (((x2.trans x3).trans x4).trans x5), q2.ext r2 ((x3.trans x4).trans x5), q5, p5, fun G6 H6 p6 x6 r6 =>
          k.nx η G6 σ H6 p6 (((((x1.trans x2).trans x3).trans x4).trans x5).trans x6) (hs.ext hr (((((x1.trans x2).trans x3).trans x4).trans x5).trans x6)) r6⟩⟩⟩⟩⟩⟩
end
end DL
namespace DL
open PySem PySem.Spec PyProof.Rows L2
section
variable {X : Cx}
def sqD (d : D) (G : DHp) : Option (List D) := match der d G with
  | .nd .lst ds => some ds
  | .nd .scr ds => some ds
  | .nd .tup ds => some ds
  | _ => none
/-- .. lists alone -/
def lsD (d : D) (G : DHp) : Option (List D) := match der d G with
  | .nd .lst ds => some ds
  | .nd .scr ds => some ds
  | _ => none
theorem zz4 {K : Ml} {H : Hp} {G : DHp} (hr : HR K H G) {d : D} {v : V} {ds : List D} (h : VR K H G d v) (e : lsD d G = some ds) : ∃ a vs, v = .ref a ∧ SqL K.K H a vs ∧ VRs K H G ds vs := by
  unfold lsD at e
  split at e
  · rename_i es e1
    cases e
    obtain ⟨a, vs, rfl, h1, r1⟩ := znq hr h e1
    exact ⟨a, vs, rfl, .inl (.inl h1), r1⟩
  · rename_i es e1
    cases e
    have e1 := zm1 e1 (fun _ h => nomatch h)
    subst e1
    rw [VR] at h
    obtain ⟨a, vs, rfl, h1, r1⟩ := h
    exact ⟨a, vs, rfl, zdu h1 (.inr rfl), r1⟩
  · cases e
theorem z8o {K : Ml} {H : Hp} {G : DHp} (hr : HR K H G) {d : D} {v : V} {ds : List D} (h : VR K H G d v) (e : sqD d G = some ds) : ∃ a vs, v = .ref a ∧ (SqL K.K H a vs ∨ SqT K.K H a vs) ∧ VRs K H G ds vs := by
  unfold sqD at e
  split at e
  · rename_i es e1
    cases e
    obtain ⟨a, vs, rfl, h1, r1⟩ := znq hr h e1
    exact ⟨a, vs, rfl, .inl (.inl (.inl h1)), r1⟩
  · rename_i es e1
    cases e
    have e1 := zm1 e1 (fun _ h => nomatch h)
    subst e1
    rw [VR] at h
    obtain ⟨a, vs, rfl, h1, r1⟩ := h
    exact ⟨a, vs, rfl, .inl (zdu h1 (.inr rfl)), r1⟩
  · rename_i es e1
    cases e
    have e1 := zm1 e1 (fun _ h => nomatch h)
    subst e1
    rw [VR] at h
    obtain ⟨a, vs, rfl, h1, r1⟩ := h
    exact ⟨a, vs, rfl, .inr h1, r1⟩
  · cases e
def dLen : DRn := d1 fun d G Q => match sqD d G with
  | some ds => Q (.int ds.length) G
  | none => match dicN d G with
    | some kvs => Q (.int kvs.length) G
    | none => match dicK d G with
      | some kvs => Q (.int kvs.length) G
      | none => match d with
        | .str x => x.length ≤ sizeLine ∧ Q (.int x.length) G
        | _ => False
theorem zc9 : zkr X (.builtin "len") dLen := zjq fun pins s σ H G x v d P I rx hr q1 t => by
  split at t
  · rename_i ds e
    obtain ⟨a, vs, rfl, hq, r⟩ := z8o hr q1 e
    exact thn (call_len_seq pins s σ H [.ref a] [v] (fun z H' => z = .int ds.length ∧ H' = H) I (.cons rx .nil) ⟨a, vs, rfl, hq, by rw [r.length], rfl⟩) fun w s' ⟨z, H', I', rz, e1, e2⟩ => by
      subst e1 e2
      exact zbc I' rz hr (by rw [VR]) t
  · split at t
    · rename_i kvs e
      obtain ⟨a, ws, rfl, dn, vr⟩ := zpr hr q1 e
      obtain ⟨xs, es, ep, h1, h2, h3, h4, h5, h6, h7, _⟩ := DnAt.of I dn
      cases (show v = Value.ref a from rx)
      have hl : xs.length = kvs.length := by have := congrArg List.length h6; simpa using this
      have hn := line63
      refine call_len_dictH h5 h4 (by rw [List.length_map] at h7; omega) ?_
      rw [hl]
      exact zbc (z := .int kvs.length) (I.tok _) ⟨_, rfl⟩ hr (by rw [VR]) t
    · split at t
      · rename_i kvs e
        obtain ⟨a, ws, rfl, rd, e1, vr⟩ := zpc hr q1 e
        cases (show v = Value.ref a from rx)
        have hl : ws.length = kvs.length := by have := congrArg List.length e1; simpa using this
        refine d_len I rd fun tk s' I' => ?_
        rw [hl]
        exact zbc (z := .int kvs.length) I' ⟨_, rfl⟩ hr (by rw [VR]) t
      · split at t
        · rename_i z _ _ _
          rw [VR] at q1; subst q1
          exact thn (call_len_str pins s σ H [.str z] [v] (fun z' H' => z' = .int z.length ∧ H' = H) I (.cons rx .nil) ⟨z, rfl, t.1, rfl, rfl⟩) fun w s' ⟨z', H', I', rz, e1, e2⟩ => by
            subst e1 e2
            exact zbc I' rz hr (by rw [VR]) t.2
        · exact t.elim
def dAbs : DRn := d1 fun d G Q => match d with
  | .int i => Q (.int (if i < 0 then -i else i)) G
  | _ => False
theorem zwx : zkr X (.builtin "abs") dAbs := zjq fun pins s σ H G x v d P I rx hr q1 t => by
  cases d with
  | int i =>
    rw [VR] at q1; subst q1
    exact thn (call_abs pins s σ H [.int i] [v] (fun z' H' => z' = .int (if i < 0 then -i else i) ∧ H' = H) I (.cons rx .nil) ⟨i, rfl, rfl, rfl⟩) fun w s' ⟨z', H', I', rz, e1, e2⟩ => by
      subst e1 e2
      exact zbc I' rz hr (by rw [VR]) t
  | _ => exact t.elim
def dInt : DRn := d1 fun d G Q => match d with
  | .int i => Q (.int i) G
  | .bl b => Q (.int (if b then 1 else 0)) G
  | _ => False
theorem zlr : zkr X (.type "int") dInt := zjq fun pins s σ H G x v d P I rx hr q1 t => by
  cases d with
  | int i =>
    rw [VR] at q1; subst q1
    exact thn (call_int1 pins s σ H [.int i] [v] (fun z' H' => z' = .int i ∧ H' = H) I (.cons rx .nil) (.inl ⟨i, rfl, rfl, rfl⟩)) fun w s' ⟨z', H', I', rz, e1, e2⟩ => by
      subst e1 e2
      exact zbc I' rz hr (by rw [VR]) t
  | bl i =>
    rw [VR] at q1; subst q1
    exact thn (call_int1 pins s σ H [.bl i] [v] (fun z' H' => z' = .int (if i then 1 else 0) ∧ H' = H) I (.cons rx .nil) (.inr ⟨i, rfl, rfl, rfl⟩)) fun w s' ⟨z', H', I', rz, e1, e2⟩ => by
      subst e1 e2
      exact zbc I' rz hr (by rw [VR]) t
  | _ => exact t.elim
def zact : DRn := d2 fun d e G Q => match d, e with
  | .int i, .int j => Q (.int (if j < i then j else i)) G
  | _, _ => False
theorem zacp (hc : X.calm = true) : zkr X (.builtin "min") zact := zw4 fun pins s σ H G x y v u d e P I rx ry hr q1 q2 t => by
  split at t
  · rename_i i j
    rw [VR] at q1 q2; subst q1 q2
    exact thn (call_min2 hc pins s σ H [.int i, .int j] [v, u] (fun z' H' => z' = .int (if j < i then j else i) ∧ H' = H) I (.cons rx (.cons ry .nil)) ⟨i, j, rfl, rfl, rfl⟩) fun w s' ⟨z', H', I', rz, e1, e2⟩ => by
      subst e1 e2
      exact zbc I' rz hr (by rw [VR]) t
  · exact t.elim
def z5c : DRn := d1 fun d G Q => ∃ ns : List Int, lsD d G = some (ns.map .int) ∧ 0 < ns.length ∧ ∀ m ∈ ns, (∀ y ∈ ns, y ≤ m) → Q (.int m) G
def z4z : DRn := d1 fun d G Q => ∃ ns : List Int, lsD d G = some (ns.map .int) ∧ 0 < ns.length ∧ ∀ m ∈ ns, (∀ y ∈ ns, m ≤ y) → Q (.int m) G
theorem zyd (hc : X.calm = true) : zkr X (.builtin "max") z5c := zjq fun pins s σ H G x v d P I rx hr q1 ⟨ns, e, hl, t⟩ => by
  obtain ⟨a, vs, rfl, hq, r⟩ := zz4 hr q1 e
  have e3 := r.ints; subst e3
  exact thn (cr_max hc pins s σ H [.ref a] [v] (fun z' H' => (∃ m, z' = .int m ∧ m ∈ ns ∧ (∀ y ∈ ns, y ≤ m)) ∧ H' = H) I (.cons rx .nil) ⟨a, ns, rfl, hq, hl, fun m h1 h2 => ⟨⟨m, rfl, h1, h2⟩, rfl⟩⟩) fun w s' ⟨z', H', I', rz, ⟨m, e1, h1, h2⟩, e2⟩ => by
    subst e1 e2
    exact zbc I' rz hr (by rw [VR]) (t m h1 h2)
theorem zxv (hc : X.calm = true) : zkr X (.builtin "min") z4z := zjq fun pins s σ H G x v d P I rx hr q1 ⟨ns, e, hl, t⟩ => by
  obtain ⟨a, vs, rfl, hq, r⟩ := zz4 hr q1 e
  have e3 := r.ints; subst e3
  exact thn (cr_min hc pins s σ H [.ref a] [v] (fun z' H' => (∃ m, z' = .int m ∧ m ∈ ns ∧ (∀ y ∈ ns, m ≤ y)) ∧ H' = H) I (.cons rx .nil) ⟨a, ns, rfl, hq, hl, fun m h1 h2 => ⟨⟨m, rfl, h1, h2⟩, rfl⟩⟩) fun w s' ⟨z', H', I', rz, ⟨m, e1, h1, h2⟩, e2⟩ => by
    subst e1 e2
    exact zbc I' rz hr (by rw [VR]) (t m h1 h2)
theorem VRs.bls {K : Ml} {H : Hp} {G : DHp} {bs : List Bool} {vs : List V} (h : VRs K H G (bs.map D.bl) vs) : vs = bs.map V.bl :=
  h.map_eq _ _ fun a v q => by rw [VR] at q; exact q
def dAny : DRn := d1 fun d G Q => ∃ bs : List Bool, lsD d G = some (bs.map .bl) ∧ Q (.bl (bs.any id)) G
def dAll : DRn := d1 fun d G Q => ∃ bs : List Bool, lsD d G = some (bs.map .bl) ∧ Q (.bl (bs.all id)) G
theorem zad1 (hc : X.calm = true) : zkr X (.builtin "any") dAny := zjq fun pins s σ H G x v d P I rx hr q1 ⟨ns, e, t⟩ => by
  obtain ⟨a, vs, rfl, hq, r⟩ := zz4 hr q1 e
  have e3 := r.bls; subst e3
  exact thn (cr_any hc pins s σ H [.ref a] [v] (fun z' H' => z' = .bl (ns.any id) ∧ H' = H) I (.cons rx .nil) ⟨a, ns, rfl, hq, rfl, rfl⟩) fun w s' ⟨z', H', I', rz, e1, e2⟩ => by
    subst e1 e2
    exact zbc I' rz hr (by rw [VR]) t
theorem z1h (hc : X.calm = true) : zkr X (.builtin "all") dAll := zjq fun pins s σ H G x v d P I rx hr q1 ⟨ns, e, t⟩ => by
  obtain ⟨a, vs, rfl, hq, r⟩ := zz4 hr q1 e
  have e3 := r.bls; subst e3
  exact thn (cr_all hc pins s σ H [.ref a] [v] (fun z' H' => z' = .bl (ns.all id) ∧ H' = H) I (.cons rx .nil) ⟨a, ns, rfl, hq, rfl, rfl⟩) fun w s' ⟨z', H', I', rz, e1, e2⟩ => by
    subst e1 e2
    exact zbc I' rz hr (by rw [VR]) t
def zkn : DRn := d1 fun d G Q => match sqD d G with
  | some ds => Q (.nd .tup ds) G
  | none => False
theorem zia : zkr X (.type "tuple") zkn := zjq fun pins s σ H G x v d P I rx hr q1 t => by
  split at t
  · rename_i ds e
    obtain ⟨a, vs, rfl, hq, r⟩ := z8o hr q1 e
    refine thn (call_tuple_of pins s σ H [.ref a] [v] (fun z H' => Ext H G H' G ∧ HR X.ml H' G ∧ VR X.ml H' G (.nd .tup ds) z) I (.cons rx .nil) ⟨a, vs, rfl, ?_⟩) fun w s' ⟨z, H', I', rz, x', r', q'⟩ => ⟨z, _, H', G, I', rz, t, x', r', q'⟩
    rcases hq with hq | hq
    · refine .inl ⟨hq, fun l hl => ?_⟩
      have x2 : Ext H G (upd H l (.tup vs)) G := .laid hl
      refine ⟨x2, hr.laid hl, ?_⟩
      rw [VR]
      exact ⟨l, vs, rfl, .inl (.inl upd_same), r.ext hr x2⟩
    · refine .inr ⟨hq, .refl _ _, hr, ?_⟩
      rw [VR]
      exact ⟨a, vs, rfl, hq, r⟩
  · exact t.elim
/-- a new list; it is tracked -/
def zaas : DRn := d1 fun d G Q => match sqD d G with
  | some ds => ∀ p, G p = none → Q (.ref p) (up G p (.lst ds))
  | none => False
theorem zabz : zkr X (.type "list") zaas := zjq fun pins s σ H G x v d P I rx hr q1 t => by
  split at t
  · rename_i ds e
    obtain ⟨a, vs, rfl, hq, r⟩ := z8o hr q1 e
    refine thn (call_list_of pins s σ H [.ref a] [v] (fun z H' => ∃ p, z = .ref p ∧ H p = none ∧ H' = upd H p (.lst vs)) I (.cons rx .nil) ⟨a, vs, rfl, hq, fun l hl => ⟨l, rfl, hl, rfl⟩⟩) fun w s' ⟨z, H', I', rz, p, e1, hp, e2⟩ => ?_
    subst e1 e2
    have x2 : Ext H G (upd H p (.lst vs)) (up G p (.lst ds)) := .new hp
    exact ⟨.ref p, .ref p, _, _, I', rz, t p (hr.free hp), x2, hr.new hp ⟨vs, upd_same, r.ext hr x2⟩, by rw [VR]⟩
  · exact t.elim
theorem zus {K : Ml} {H : Hp} {G : DHp} : ∀ {ds : List D} {vs : List V} {us : List Value}, VRs K H G ds vs → Vals vs us → PySem.W.EachIs (fun u d => ∃ v, RelV v u ∧ VR K H G d v) us ds
  | [], _, _, h, r => by rw [h.nil_of] at r; cases r; exact .nil
  | d :: ds, _, _, h, r => by
    obtain ⟨v, vs, rfl, q, t⟩ := h.uncons
    cases r with
    | cons r1 r2 => exact .cons ⟨v, r1, q⟩ (zus t r2)
theorem znz {K : Ml} {H : Hp} {G : DHp} : ∀ {us : List Value} {ds : List D}, PySem.W.EachIs (fun u d => ∃ v, RelV v u ∧ VR K H G d v) us ds → ∃ vs, Vals vs us ∧ VRs K H G ds vs
  | _, _, .nil => ⟨[], .nil, .nil⟩
  | _, _, .cons ⟨v, r, q⟩ t => by
    obtain ⟨vs, a, b⟩ := znz t
    exact ⟨v :: vs, .cons r a, .cons q b⟩
theorem zof {pins : List (Addr × Obj)} {σ : L2.St} {H : Hp} {G : DHp} {s : Shared} (I : Inv X pins σ H s) : ∀ {ds : List D} {vs : List V} {us : List Value}, VRs X.ml H G ds vs → Vals vs us → plainDs ds = true → PySem.W.EachIs (fun u d => ∃ as, Reads s.heap u (py d) as) us ds
  | [], _, _, h, r, _ => by rw [h.nil_of] at r; cases r; exact .nil
  | d :: ds, _, _, h, r, p => by
    obtain ⟨v, vs, rfl, q, t⟩ := h.uncons
    rw [plainDs, Bool.and_eq_true] at p
    cases r with
    | cons r1 r2 => exact .cons (Dp.reads I _ _ _ (q.dp p.1) r1) (zof I t r2 p.2)
def srt (ds : List D) : List D := ds.mergeSort (PySem.W.dataLe false py)
/-- a new list; it is tracked -/
def zjm : DRn := d1 fun d G Q => match lsD d G with
  | some ds => (plainDs ds = true ∧ PySem.W.AllAlike (ds.map py) ∧ PySem.W.Sortable (ds.map py) ∧ ∀ d ∈ ds, (py d).depth ≤ 60) ∧ ∀ p, G p = none → Q (.ref p) (up G p (.lst (srt ds)))
  | none => False
theorem zgx (hu : X.A.units + 64 < cLine) : zkr X (.builtin "sorted") zjm := zjq fun pins s σ H G x v d P I rx hr q1 t => by
  split at t
  · rename_i ds e
    obtain ⟨⟨p1, p2, p3, p4⟩, t⟩ := t
    obtain ⟨a, vs, rfl, hq, r⟩ := zz4 hr q1 e
    cases (show v = Value.ref a from rx)
    obtain ⟨its, rv, pl, hz⟩ := I.list hq
    refine PySem.W.sorted_data (R := fun u d => ∃ v, RelV v u ∧ VR X.ml H G d v) (enc := py) (bs := ds) pl.isList (zus r rv) (zof I r rv p1) p2 p3 (by rw [← r.length]; exact hz) (fun b hb => by have := p4 b hb; omega) fun out ho eo => ?_
    obtain ⟨ws, rw', qs⟩ := znz eo
    obtain ⟨ep, he'⟩ := PyProof.Rows.sortedAll_at s.heap its out.toArray
    have hp : H (s.heap.objs.size + 1) = none := I.hok.fresh (Nat.le_succ _)
    have x2 : Ext H G (upd H (s.heap.objs.size + 1) (.lst ws)) (up G (s.heap.objs.size + 1) (.lst (srt ds))) := .new hp
    have hlen : ws.length ≤ sizeLine := by rw [rw'.length, ho, ← r.length]; exact hz
    have I' : Inv X pins σ (upd H (s.heap.objs.size + 1) (.lst ws)) { s with heap := PyProof.Rows.sortedAll s.heap its (List.toArray out) } :=
      I.laid (t' := s.toks) (fun _ _ => PyProof.Rows.sortedAll_old) (Nat.le_succ _) ⟨hlen, out, ep, rw', he'⟩
    exact ⟨.ref _, .ref _, _, _, I', rfl, t _ (hr.free hp), x2, hr.new hp ⟨ws, upd_same, qs.ext hr x2⟩, by rw [VR]⟩
  · exact t.elim
def zac7 : DRn := d2 fun x y G Q => match dicN x G with
  | some kvs => (match y with
    | .nd .tup ks => (match D.key (.nd .tup ks) with
      | some k => k.depth ≤ 8 ∧ Q ((dval kvs k).getD .non) G
      | none => False)
    | _ => False)
  | none => match dicK x G with
    | some kvs => (match y.kK with
      | some k => Q ((dval kvs k).getD .non) G
      | none => False)
    | none => False
theorem zab6 (hu : X.A.units + 64 < cLine) : MtD X "dict.get" zac7 := zw4 fun pins s σ H G x y v u dx dy P I rx ry hr q1 q2 t => by
  split at t
  · rename_i kvs e
    split at t
    · rename_i ks
      split at t
      · rename_i k ek
        obtain ⟨h8, t⟩ := t
        have ka := zqy q2 ek
        obtain ⟨c, ws, rfl, dn, vr⟩ := zpr hr q1 e
        obtain ⟨xs, es, ep, h1, h2, h3, h4, h5, h6, h7, h9, h10⟩ := DnAt.of I dn
        rw [VR] at q2
        obtain ⟨b', vs, rfl, hb, rb⟩ := q2
        cases (show v = Value.ref c from rx)
        cases (show u = Value.ref b' from ry)
        refine call_meetsIn PySem.F.slot_dict_get h4.typeIs PySem.F.entry_dict_get (PySem.F.args_dict_get_2 _ _) (meetsH_dict_get (nestedKind X.prog X.w) c b' h5) ⟨zry hu, k, xs, ⟨zgs I ka rfl, h8⟩, h4, ?_⟩
        rcases zlt (K := Unit) (k := k) h10 kvs H G X.ml h6 vr with ⟨e1, e2⟩ | ⟨d, w, p, e1, e2, rw', qw⟩
        · rw [e1] at t; rw [e2]
          exact zbc (z := .non) (I.tok _) rfl hr (by show VR _ _ _ .non .non; rw [VR]) t
        · rw [e1] at t; rw [e2]
          exact zbc (I.tok _) rw' hr qw t
      · exact t.elim
    · exact t.elim
  · split at t
    · rename_i kvs e
      split at t
      · rename_i k ek
        obtain ⟨c, ws, rfl, rd, e1, vr⟩ := zpc hr q1 e
        cases (show v = Value.ref c from rx)
        have ex := z5s q2 ek
        subst ex
        refine d_get1 (by omega) I (.inl ⟨ws, k, rd, rfl, rfl⟩) ry fun w' s' I' rw' => ?_
        rcases zuf k e1 vr with ⟨e2, e3⟩ | ⟨d, w, e2, e3, qw⟩
        · rw [e2] at t; rw [e3] at rw'
          exact zbc I' rw' hr (by show VR _ _ _ .non .non; rw [VR]) t
        · rw [e2] at t; rw [e3] at rw'
          exact zbc I' rw' hr qw t
      · exact t.elim
    · exact t.elim
def zadj : DTE := fun _ G Q => ∀ p, G p = none → Q (.ref p) (up G p (.dN []))
def z7u : DTE := fun _ G Q => ∀ p, G p = none → Q (.ref p) (up G p (.dK []))
theorem z4v [Bs] {pos : Pos} : PED X (.Dict [] [] pos) z7u := PE.impI pe_dnewK fun _ _ σ H Q _ ⟨η, G, P, hs, hr, t, k⟩ => fun p hp =>
  k (.ref p) _ (.ref p) _ (t p (hr.free hp)) (.new hp) (hr.new hp ⟨[], upd_same, rfl, .nil⟩) (by rw [VR])
theorem zt3 {pins : List (Addr × Obj)} {σ : L2.St} {H : Hp} {s : Shared} (I : Inv X pins σ H s) : Inv X pins σ (upd H s.heap.objs.size (rawO s.heap.objs.size #[] 0)) { s with heap := s.heap.push { cls := .type "dict", data := .dict #[] } } := by
  have e := Heap.get?_push_size s.heap (o := { cls := .type "dict", data := .dict #[] }) rfl
  have hr : (s.heap.push { cls := .type "dict", data := .dict #[] }).DictRaw s.heap.objs.size #[] 0 := ⟨_, e, ⟨rfl, rfl, rfl⟩, rfl⟩
  exact I.laid (t' := s.toks) (fun _ _ q => Heap.get?_push_of_some _ q) (Nat.le_refl _) ⟨hr, ⟨_, e⟩, fun h1 h2 φ k => φ.at k⟩
theorem z35 {pins : List (Addr × Obj)} {σ : L2.St} {H : Hp} {s : Shared} (I : Inv X pins σ H s) : (s.heap.objs.size == sysModules) = false :=
  beq_eq_false_iff_ne.mpr (Ne.symm (Nat.ne_of_lt I.big))
theorem zro {K : Ml} {H : Hp} {a : Addr} (h : H a = some (rawO a #[] 0)) (hs : (a == sysModules) = false) : DnAt K H a [] [] :=
  ⟨[], #[], 0, h, hs, rfl, rfl, List.nodup_nil, Nat.zero_le _, (fun _ hx => nomatch hx), .nil⟩
theorem z9o [Bs] {pos : Pos} : PED X (.Dict [] [] pos) zadj := ⟨fun pins s σ H Q I ⟨η, G, P, hs, hr, t, k⟩ => by
  have hp : H s.heap.objs.size = none := I.hok.fresh (Nat.le_refl _)
  exact wpAny_Dict_empty ⟨.ref s.heap.objs.size, _, zt3 I, rfl, k _ _ _ _ (t _ (hr.free hp)) (.new hp) (hr.new hp ⟨[], zro upd_same (z35 I), .nil⟩) (by rw [VR])⟩⟩
end
end DL
namespace DL
open PySem PySem.Spec PyProof.Rows L2
/-- at d a dict with just the entries es stays -/
def zwf (H : Hp) (d : Addr) (es : Array DictEntry) (ep : Nat) : Prop := (H d = some (rawO d es ep) ∨ ∃ o kvs, H d = some (.frz o (.dK kvs)) ∧ o.ExactDict ∧ o.data = .dict es ep) ∧ (d == sysModules) = false
section
variable {X : Cx} {pins : List (Addr × Obj)} {σ : L2.St} {H : Hp} {s : Shared} {d : Addr} {es : Array DictEntry} {ep : Nat}
theorem zwf.raw (h : zwf H d es ep) (I : Inv X pins σ H s) : s.heap.DictRaw d es ep := by
  rcases h.1 with h | ⟨o, kvs, h, hx, hd⟩
  · obtain ⟨φ, _, _⟩ := (show ObjOk X.prog X.w H s.heap d (rawO d es ep) from I.hok d _ h)
    exact φ
  · obtain ⟨hg, _⟩ := I.hok d _ h
    exact ⟨o, hg, hx, hd⟩
end
/-- the items of a walk over kv -/
def EntV (es : Array DictEntry) (kv : List (V × V)) : Prop := Paired (fun (p : V × V) (e : DictEntry) => RelV p.1 e.key ∧ RelV p.2 e.val) kv es.toList
theorem EntV.size {es : Array DictEntry} {kv : List (V × V)} (h : EntV es kv) : kv.length = es.size := by
  have := Paired.length h
  rw [Array.length_toList] at this
  exact this
theorem EntV.at {es : Array DictEntry} {kv : List (V × V)} (h : EntV es kv) {i : Nat} {p : V × V} (e : kv[i]? = some p) (hi : i < es.size) : RelV p.1 es[i].key ∧ RelV p.2 es[i].val := by
  obtain ⟨b, hb, r⟩ := paired_get h e
  rw [Array.getElem?_toList, Array.getElem?_eq_getElem hi] at hb
  cases hb
  exact r
def Itw (d : Addr) (es : Array DictEntry) (ep : Nat) (kv : List (V × V)) : It :=
  ⟨fun i H => zwf H d es ep ∧ i < kv.length, fun i H x H' => ∃ T k v, kv[i]? = some (k, v) ∧ x = .ref T ∧ H T = none ∧ H' = upd H T (.tup [k, v]), fun i H => zwf H d es ep ∧ kv.length ≤ i⟩
def Itwk (d : Addr) (es : Array DictEntry) (ep : Nat) (kv : List (V × V)) : It :=
  ⟨fun i H => zwf H d es ep ∧ i < kv.length, fun i H x H' => H' = H ∧ ∃ v, kv[i]? = some (x, v), fun i H => zwf H d es ep ∧ kv.length ≤ i⟩
section
variable {P : Program} {w : World} {K : PySem.W.Frag} {tg : Expr} {d : Addr} {es : Array DictEntry} {ep : Nat} {kv : List (V × V)}
theorem z94 {elts : List Expr} {kk : Nat} {tpos : Pos} (it : Addr) (hv : EntV es kv) : Turn P w K (.Tuple elts kk tpos) (Itw d es ep kv) [it] it (fun n_i g_ => ∃ k_o v_o, IsItemIter g_ it d n_i es.size ep k_o v_o) where
  mem := by simp
  obj := fun n_i g_ sit c_ hcb => by
    have eq_ : c_ = it := by simpa using hcb
    subst eq_
    obtain ⟨k_o, v_o, eq_⟩ := sit
    exact ⟨_, eq_, fun vv zz => nomatch zz⟩
  keep := fun n_i g_ g' sit kp => let ⟨k_o, v_o, eq_⟩ := sit; ⟨k_o, v_o, kp it (by simp) _ eq_⟩
  item := by
    intro Y eP ew eK cal n_i pn s_a τ M Ex Iv young sit can
    subst eP ew eK
    obtain ⟨raw_, lt_⟩ := can
    have dr := raw_.raw Iv
    obtain ⟨k_o, v_o, hit_⟩ := sit
    have low : it < s_a.heap.objs.size := Heap.lt_size hit_
    have lt' : n_i < es.size := by rw [← hv.size]; exact lt_
    have at_i : kv[n_i]? = some kv[n_i] := List.getElem?_eq_getElem lt_
    obtain ⟨r1, r2⟩ := hv.at at_i lt'
    refine wpAny_pyNext_items_item_raw hit_ dr lt' fun g' out_ hT_ hz_ kept_ => ?_
    refine ⟨_, rfl, wpAny_letOwnedTupleGo_items (s := { s_a with heap := g' }) out_ fun g'' hit' same_ => ?_⟩
    have hT3 : g''.get? s_a.heap.objs.size = some { cls := .type "tuple", data := .seq #[es[n_i].key, es[n_i].val] } := (same_.2 _ (Nat.ne_of_gt low)).trans hT_
    have new_ : ObjOk Y.prog Y.w (upd M s_a.heap.objs.size (.tup [kv[n_i].1, kv[n_i].2])) g'' s_a.heap.objs.size (.tup [kv[n_i].1, kv[n_i].2]) :=
      ⟨by show 2 ≤ sizeLine; decide, [es[n_i].key, es[n_i].val], .cons r1 (.cons r2 .nil), ⟨_, hT3, rfl, _, rfl⟩⟩
    have Iw : Inv Y pn τ (upd M s_a.heap.objs.size (.tup [kv[n_i].1, kv[n_i].2])) { s_a with heap := g'' } :=
      Iv.turnedNew (t' := s_a.toks) (ch := [it]) (fun c_ o_b hcb eq_ => (same_.2 c_ (by simpa using hcb)).trans (kept_ c_ o_b (by simpa using hcb) eq_)) young (Nat.le_refl _) new_
    refine ⟨.ref s_a.heap.objs.size, _, Iw, rfl, ⟨_, kv[n_i].1, kv[n_i].2, at_i, rfl, Iv.hok.fresh (Nat.le_refl _), rfl⟩, ⟨es[n_i].key, es[n_i].val, hit'⟩, fun c_ hcb => ?_⟩
    have eq_ : c_ = it := by simpa using hcb
    rw [eq_, upd_ne (Nat.ne_of_lt low)]
    exact (young it (by simp)).1
  done := by
    intro Y eP ew eK cal n_i pn s_a τ M Ex Iv young sit can
    subst eP ew eK
    obtain ⟨raw_, lt_⟩ := can
    obtain ⟨p0, p1, p2, p3, p4, p5⟩ := young it (by simp)
    have dr := raw_.raw Iv
    obtain ⟨k_o, v_o, hit_⟩ := sit
    exact wpAny_pyNext_items_end_raw (Iv.ok.hd cal) hit_ dr (by rw [← hv.size]; exact lt_) fun g' but_ => ⟨rfl, Iv.turned (t' := s_a.toks) (fun c_ o_b hcb eq_ => but_ c_ o_b hcb eq_) p0 p1 p3 p4 p5⟩
  self := fun A_ n_i s_a Q_ Ex sit g_ => let ⟨_, _, eq_⟩ := sit; PySem.W.kcp_self eq_ g_
theorem z65 (it : Addr) (hv : EntV es kv) : Turn P w K tg (Itwk d es ep kv) [it] it (fun n_i g_ => g_.IsKeyIter it d n_i es.size ep) where
  mem := by simp
  obj := fun n_i g_ sit c_ hcb => by
    have eq_ : c_ = it := by simpa using hcb
    subst eq_
    obtain ⟨o_i, eq_, cl_, dt_⟩ := sit
    exact ⟨o_i, eq_, fun vv zz => by rw [dt_] at zz; cases zz⟩
  keep := fun n_i g_ g' sit kp => sit.at fun o_i eq_ => kp it (by simp) o_i eq_
  item := by
    intro Y eP ew eK cal n_i pn s_a τ M Ex Iv young sit can
    subst eP ew eK
    obtain ⟨raw_, lt_⟩ := can
    obtain ⟨p0, p1, p2, p3, p4, p5⟩ := young it (by simp)
    have dr := raw_.raw Iv
    have lt' : n_i < es.size := by rw [← hv.size]; exact lt_
    have at_i : kv[n_i]? = some kv[n_i] := List.getElem?_eq_getElem lt_
    obtain ⟨r1, r2⟩ := hv.at at_i lt'
    refine wpAny_pyNext_keys_item_raw sit dr lt' fun g' sit' same_ => ?_
    have Iw : Inv Y pn τ M { s_a with heap := g' } := Iv.turned (t' := s_a.toks) (fun c_ o_b hcb eq_ => (same_.2 c_ hcb).trans eq_) p0 p1 p3 p4 p5
    obtain ⟨o_i, eq_, cl_, dt_⟩ := id sit'
    exact ⟨es[n_i].key, rfl, go_of (s := { s_a with heap := g' }) eq_ cl_ dt_ (by decide) ⟨kv[n_i].1, M, Iw, r1, ⟨rfl, _, at_i⟩, sit', fun c_ hcb => (young c_ hcb).1⟩⟩
  done := by
    intro Y eP ew eK cal n_i pn s_a τ M Ex Iv young sit can
    subst eP ew eK
    obtain ⟨raw_, lt_⟩ := can
    obtain ⟨p0, p1, p2, p3, p4, p5⟩ := young it (by simp)
    exact wpAny_pyNext_keys_end_raw (Iv.ok.hd cal) sit (raw_.raw Iv) (by rw [← hv.size]; exact lt_) fun g' but_ => ⟨rfl, Iv.turned (t' := s_a.toks) (fun c_ o_b hcb eq_ => but_ c_ o_b hcb eq_) p0 p1 p3 p4 p5⟩
  self := fun A_ n_i s_a Q_ Ex sit g_ => wpAny_pyIter_keyiter sit g_
end
/-- a key of either kind of dict, as a tree -/
def kD : Key → D
  | .inl i => .int i
  | .inr x => .str x
/-- keys and values of a dict that is changed no more -/
def dicP : D → Option (List (D × D))
  | .nd (.dN ks) ds => some ((ks.map nkD).zip ds)
  | .nd (.dK ks) ds => some ((ks.map kD).zip ds)
  | _ => none
theorem zafq {K : Ml} {H : Hp} {G : DHp} (k : Key) : VR K H G (kD k) (kV k) := by
  cases k with
  | inl i => show VR K H G (.int i) (.int i); rw [VR]
  | inr i => show VR K H G (.str i) (.str i); rw [VR]
/-- the walk's own pairs -/
def zsb (K : Ml) (H : Hp) (G : DHp) (ps : List (D × D)) (kv : List (V × V)) : Prop := VRs K H G (ps.map (·.1)) (kv.map (·.1)) ∧ VRs K H G (ps.map (·.2)) (kv.map (·.2))
theorem z6p {K : Ml} {H : Hp} {G : DHp} : ∀ ks : List Key, VRs K H G (ks.map kD) (ks.map kV)
  | [] => .nil
  | k :: ks => .cons (zafq k) (z6p ks)
theorem z72 {P : Program} {w : World} {k : Key} {u : Value} (h : (mixKind P w).is k u = true) : RelV (kV k) u := relV_key (show keyIs k u = true from h)
section
variable {X : Cx}
/-- what is known of a dict that is changed no more -/
theorem zze {pins : List (Addr × Obj)} {σ : L2.St} {H : Hp} {G : DHp} {s : Shared} {d : D} {v : V} {ps : List (D × D)} (I : Inv X pins σ H s) (hr : HR X.ml H G) (q : VR X.ml H G d v) (e : dicP d = some ps) :
    ∃ a es ep kv, v = .ref a ∧ EntV es kv ∧ zsb X.ml H G ps kv ∧ ps.length = kv.length ∧ zwf H a es ep ∧ ∀ H' G', Ext H G H' G' → zwf H' a es ep := by
  cases d with
  | nd k ds =>
    cases k with
    | dN ks =>
      have e : some ((ks.map nkD).zip ds) = some ps := e
      cases e
      rw [VR] at q
      obtain ⟨a, vs, rfl, ⟨hn, dn⟩, r⟩ := q
      obtain ⟨xs, es, ep, h1, h2, h3, h4, h5, h6, h7, h8, h9⟩ := DnAt.of I dn
      have hl : ks.length = vs.length := by rw [← h6, List.length_map, h9.length, List.length_map]
      have hld : ks.length = ds.length := by rw [hl, r.length]
      have ent : ∀ (zs : List (NestedKey × Addr × Value)) (ws : List V), Vals ws (zs.map (·.2.2)) → Paired (fun (p : V × V) (e : DictEntry) => RelV p.1 e.key ∧ RelV p.2 e.val) ((zs.map fun z => V.ref z.2.1).zip ws) (zs.map (entryOfKey (nestedKind X.prog X.w))) := by
        intro zs
        induction zs with
        | nil => intro ws h; cases h; exact .nil
        | cons z zs ih =>
          intro ws h
          cases h with
          | cons r1 r2 => exact .cons ⟨rfl, r1⟩ (ih _ r2)
      refine ⟨a, es, ep, (xs.map fun z => V.ref z.2.1).zip vs, rfl, ?_, ⟨?_, ?_⟩, ?_, ⟨.inl h1, h5⟩, fun H' G' x => ⟨.inl (x.ex _ _ h1 hn).1, h5⟩⟩
      · unfold EntV
        rw [h3]
        exact ent xs vs h9
      · rw [zn4 (by rw [List.length_map]; exact hld), zn4 (by rw [List.length_map, ← hl, ← h6, List.length_map]), ← h6, List.map_map]
        have : ∀ zs : List (NestedKey × Addr × Value), (∀ x ∈ zs, ze7 X.ml H x.1 (.ref x.2.1) ∧ x.1.depth ≤ 8) → VRs X.ml H G (zs.map (nkD ∘ (·.1))) (zs.map fun z => V.ref z.2.1) := by
          intro zs
          induction zs with
          | nil => intro _; exact .nil
          | cons z zs ih => intro h; exact .cons (z6g (h z (by simp)).1) (ih fun x hx => h x (by simp [hx]))
        exact this xs h8
      · rw [List.map_snd_zip (by rw [List.length_map, hld] <;> exact Nat.le_refl _), List.map_snd_zip (by rw [List.length_map, ← hl, ← h6, List.length_map] <;> exact Nat.le_refl _)]
        exact r
      · rw [List.length_zip, List.length_zip, List.length_map, List.length_map, ← hld, ← hl, ← h6, List.length_map]
    | dK ks =>
      have e : some ((ks.map kD).zip ds) = some ps := e
      cases e
      rw [VR] at q
      obtain ⟨a, vs, rfl, ⟨hl, o, ho⟩, r⟩ := q
      obtain ⟨hs, hgd, hx, es, ep, ws, hdt, hsz, kv, hm⟩ := I.frzK ho
      have hld : ks.length = ds.length := by rw [hl, r.length]
      obtain ⟨o', es', ho', hx', hdt', _, pr, _⟩ := hm
      rw [hgd] at ho'; cases ho'
      rw [hdt] at hdt'; cases hdt'
      have ent : ∀ (qs : List (Key × V)) (us : List (Key × Value)) (en : List DictEntry), KV qs us → Pairs (mixKind X.prog X.w) en us → Paired (fun (p : V × V) (e : DictEntry) => RelV p.1 e.key ∧ RelV p.2 e.val) (qs.map fun p => (kV p.1, p.2)) en := by
        intro qs
        induction qs with
        | nil => intro us en h1 h2; cases h1; cases h2; exact .nil
        | cons z zs ih =>
          intro us en h1 h2
          cases h1 with
          | cons r1 r2 =>
            cases h2 with
            | cons p1 p2 p3 => exact .cons ⟨z72 (by rw [r1.1]; exact p1), by rw [p2]; exact r1.2⟩ (ih _ _ r2 p3)
      refine ⟨a, es, ep, (ks.zip vs).map fun p => (kV p.1, p.2), rfl, ?_, ⟨?_, ?_⟩, ?_, ⟨.inr ⟨o, _, ho, hx, hdt⟩, hs⟩, fun H' G' x => ⟨.inr ⟨o, _, (x.ex _ _ ho (hr.frz ho)).1, hx, hdt⟩, hs⟩⟩
      · unfold EntV
        exact ent _ _ _ kv pr
      · rw [zn4 (by rw [List.length_map]; exact hld), List.map_map]
        have : ((ks.zip vs).map ((fun p : V × V => p.1) ∘ fun p : Key × V => (kV p.1, p.2))) = ks.map kV := by
          rw [show ((fun p : V × V => p.1) ∘ fun p : Key × V => (kV p.1, p.2)) = kV ∘ (·.1) from rfl, ← List.map_map, zn4 hl]
        rw [this]
        exact z6p ks
      · rw [List.map_snd_zip (by rw [List.length_map, hld] <;> exact Nat.le_refl _), List.map_map]
        rw [show ((fun p : V × V => p.2) ∘ fun p : Key × V => (kV p.1, p.2)) = (·.2) from rfl, List.map_snd_zip (by rw [hl] <;> exact Nat.le_refl _)]
        exact r
      · rw [List.length_zip, List.length_map, List.length_map, List.length_zip, ← hld, ← hl]
    | _ => cases e
  | _ => cases e
theorem zsb.get {K : Ml} {H : Hp} {G : DHp} {ps : List (D × D)} {kv : List (V × V)} (h : zsb K H G ps kv) (hl : ps.length = kv.length) {i : Nat} {p : D × D} (e : ps[i]? = some p) : ∃ k v, kv[i]? = some (k, v) ∧ VR K H G p.1 k ∧ VR K H G p.2 v := by
  have hi : i < kv.length := by rw [← hl]; exact (List.getElem?_eq_some_iff.mp e).1
  obtain ⟨k, e1, q1⟩ := h.1.get (i := i) (d := p.1) (by rw [List.getElem?_map, e]; rfl)
  obtain ⟨v, e2, q2⟩ := h.2.get (i := i) (d := p.2) (by rw [List.getElem?_map, e]; rfl)
  rw [List.getElem?_map, List.getElem?_eq_getElem hi] at e1 e2
  cases e1; cases e2
  exact ⟨_, _, List.getElem?_eq_getElem hi, q1, q2⟩
theorem zsb.ext {K : Ml} {H H' : Hp} {G G' : DHp} {ps : List (D × D)} {kv : List (V × V)} (h : zsb K H G ps kv) (hr : HR K H G) (x : Ext H G H' G') : zsb K H' G' ps kv := ⟨h.1.ext hr x, h.2.ext hr x⟩
theorem Itw.itD {K : Ml} {H1 : Hp} {G1 : DHp} {d : Addr} {es : Array DictEntry} {ep : Nat} {kv : List (V × V)} {ps : List (D × D)} (hr1 : HR K H1 G1) (hp : zsb K H1 G1 ps kv) (hl : ps.length = kv.length) (hra : ∀ H' G', Ext H1 G1 H' G' → zwf H' d es ep) :
    ItD K H1 G1 (Itw d es ep kv) (ps.map fun p => .nd .tup [p.1, p.2]) zco := by
  intro i H G x r o
  refine ⟨fun t e => ?_, fun l => ⟨hra _ _ x, by rw [← hl]; simpa using l⟩⟩
  rw [List.getElem?_map] at e
  cases ep' : ps[i]? with
  | none => rw [ep'] at e; cases e
  | some p =>
    rw [ep'] at e; cases e
    obtain ⟨k, v, e1, q1, q2⟩ := (hp.ext hr1 x).get hl ep'
    refine ⟨⟨hra _ _ x, by rw [← hl]; exact (List.getElem?_eq_some_iff.mp ep').1⟩, fun y H' ⟨T, k', v', e2, ey, hT, eH⟩ => ?_⟩
    rw [e1] at e2; cases e2
    subst ey eH
    have x2 : Ext H G (upd H T (.tup [k, v])) G := .laid hT
    refine ⟨x2, r.laid hT, ?_⟩
    rw [VR]
    exact ⟨T, _, rfl, .inl (.inl upd_same), .cons (q1.ext r x2) (.cons (q2.ext r x2) .nil)⟩
theorem Itwk.itD {K : Ml} {H1 : Hp} {G1 : DHp} {d : Addr} {es : Array DictEntry} {ep : Nat} {kv : List (V × V)} {ps : List (D × D)} (hr1 : HR K H1 G1) (hp : zsb K H1 G1 ps kv) (hl : ps.length = kv.length) (hra : ∀ H' G', Ext H1 G1 H' G' → zwf H' d es ep) :
    ItD K H1 G1 (Itwk d es ep kv) (ps.map (·.1)) zco := by
  intro i H G x r o
  refine ⟨fun t e => ?_, fun l => ⟨hra _ _ x, by rw [← hl]; simpa using l⟩⟩
  rw [List.getElem?_map] at e
  cases ep' : ps[i]? with
  | none => rw [ep'] at e; cases e
  | some p =>
    rw [ep'] at e; cases e
    obtain ⟨k, v, e1, q1, q2⟩ := (hp.ext hr1 x).get hl ep'
    refine ⟨⟨hra _ _ x, by rw [← hl]; exact (List.getElem?_eq_some_iff.mp ep').1⟩, fun y H' ⟨eH, v', e2⟩ => ?_⟩
    rw [e1] at e2; cases e2
    subst eH
    exact ⟨.refl _ _, r, q1⟩
theorem z7k {d : D} {ps : List (D × D)} (e : dicP d = some ps) (G : DHp) : tyD "dict" d G := by
  cases d with
  | nd k ds =>
    cases k with
    | dN ks => exact rfl
    | dK ks => exact rfl
    | _ => cases e
  | _ => cases e
def zuw (T : DTE) : DTI := fun η G R => T η G fun d G1 => match dicP d with
  | some ps => R (ps.map fun p => .nd .tup [p.1, p.2]) zco G1
  | none => False
def z6m (T : DTE) : DTI := fun η G R => T η G fun d G1 => match dicP d with
  | some ps => R (ps.map (·.1)) zco G1
  | none => False
theorem z1f [Bs] {e : Expr} {T : DTE} {elts : List Expr} {kk : Nat} {tpos apos cpos : Pos} (he : PED X e T) (hbase : attributeBase e "items" X.env (eval e X.env) = eval e X.env := by rfl) (hline : (apos.endLine == cpos.line) = true := by rfl) :
    PID X (.Tuple elts kk tpos) (.Call (.Attribute e "items" apos) [] [] cpos) (zuw T) := by
  refine ⟨fun pins s σ H R I ⟨η, G, P, hs, hr, t, k⟩ => ?_⟩
  refine wpAny_Call_method (T := "dict") (id := "dict.items") hbase rfl hline F.plainAttrs_dict F.slot_dict_items F.type_dict_items (thn (he.run pins s σ H (fun v H1 => ∃ d G1, (match dicP d with | some ps => P (ps.map fun p => .nd .tup [p.1, p.2]) zco G1 | none => False) ∧ Ext H G H1 G1 ∧ HR X.ml H1 G1 ∧ VR X.ml H1 G1 d v) I ⟨η, G, _, hs, hr, t, fun d G1 v H1 p x r q => ⟨d, G1, p, x, r, q⟩⟩) fun u s1 ⟨x, H1, I1, rx, d, G1, p, x1, r1, q1⟩ => ?_)
  split at p
  · rename_i ps e
    obtain ⟨h1, h2⟩ := z3z I1 r1 q1 rx (z7k e G1)
    obtain ⟨a, es, ep, kv, rfl, ent, pr, hl, ra, hra⟩ := zze I1 r1 q1 e
    cases (show u = Value.ref a from rx)
    refine ⟨h1, h2, ?_⟩
    have hm := ra.raw I1
    have I2 : Inv X pins σ H1 { s1 with heap := s1.heap.push { cls := .type "dict_items", data := .fields #[.ref a] } } := I1.kept (t' := s1.toks) fun b ob q => Heap.get?_push_of_some _ q
    have fin : wpAny (model X.prog X.w) X.A (pyIter (.ref s1.heap.objs.size)) (PIE X pins σ (.Tuple elts kk tpos) R) X.xe { s1 with heap := s1.heap.push { cls := .type "dict_items", data := .fields #[.ref a] } } := by
      refine wpAny_pyIter_items_raw (d := a) ⟨_, Heap.get?_push_size _ rfl, rfl, rfl⟩ (hm.at fun o q => Heap.get?_push_of_some _ q) (pi_one (tk := s1.toks) I2 _ (z94 _ ent) ⟨.none, .none, ?_⟩ (k _ _ _ _ _ p x1 r1 (Itw.itD r1 pr hl hra)))
      exact Heap.get?_push_size _ rfl
    show wpAny _ _ (callWith cpos (.builtin "dict.items") [.ref a] [] []) _ X.xe s1
    exact method_meetsIn F.slot_dict_items F.entry_dict_items rfl (PySem.evalArgs_none ⟨rfl, h1, F.args_dict_items_1 _, _, meets_dict_items_raw a ra.2, ⟨es, ep, hm⟩, fin⟩)
  · exact p.elim
theorem z84 [Bs] {tg e : Expr} {T : DTE} (he : PED X e T) : PID X tg e (z6m T) := by
  refine ⟨fun pins s σ H R I ⟨η, G, P, hs, hr, t, k⟩ => ?_⟩
  refine thn (he.run pins s σ H (fun v H1 => ∃ d G1, (match dicP d with | some ps => P (ps.map (·.1)) zco G1 | none => False) ∧ Ext H G H1 G1 ∧ HR X.ml H1 G1 ∧ VR X.ml H1 G1 d v) I ⟨η, G, _, hs, hr, t, fun d G1 v H1 p x r q => ⟨d, G1, p, x, r, q⟩⟩) fun u s1 ⟨x, H1, I1, rx, d, G1, p, x1, r1, q1⟩ => ?_
  split at p
  · rename_i ps e
    obtain ⟨a, es, ep, kv, rfl, ent, pr, hl, ra, hra⟩ := zze I1 r1 q1 e
    cases (show u = Value.ref a from rx)
    exact wpAny_pyIter_dict_raw ra.2 (ra.raw I1) (pi_one (tk := s1.toks) I1 _ (z65 _ ent) ⟨_, Heap.get?_push_size _ rfl, rfl, rfl⟩ (k _ _ _ _ _ p x1 r1 (Itwk.itD r1 pr hl hra)))
  · exact p.elim
end
end DL
namespace DL
open PySem PySem.Spec PyProof.Rows L2
/-- a store of the dict at D by a comprehension -/
def StOk (Y : Cx) (St : Addr → V → V → Hp → (Hp → Prop) → Prop) : Prop := ∀ (D : Addr) (pins : List (Addr × Obj)) (σ : L2.St) (H : Hp) (s : Shared) (y z : V) (u r : Value) (Q : Hp → Prop) (E : Value → Shared → Prop), Inv Y pins σ H s → RelV y u → RelV z r → St D y z H Q →
  wpAny (model Y.prog Y.w) Y.A (dictSet D u r) (fun _ s' => ∃ H', Inv Y pins σ H' s' ∧ Q H') E s
section
variable {X : Cx}
def tDcG (o0 : Addr → HO) (St : Addr → V → V → Hp → (Hp → Prop) → Prop) (wi : TI) (g : TG) (tt : TT) (tk tv : TE) (vs : List Nat) : TE := fun σ H Q => wi σ H fun Jt M1 => ∀ D, M1 D = none → (D == sysModules) = false → ∃ Wi : Nat → Nat → Hp → Prop, (∃ n_m, Wi 0 n_m (upd M1 D (o0 D))) ∧ ∀ n_i n_m H, Wi n_i n_m H →
  (Jt.stop n_i H ∧ Q (.ref D) H) ∨ (Jt.go n_i H ∧ ∃ Nq : Hp → Prop, (∀ M', Nq M' → ∃ n_k, n_k < n_m ∧ Wi (n_i + 1) n_k M') ∧ ∀ v_x M', Jt.yld n_i H v_x M' → g v_x (wipe σ vs) M' fun τ M2 => wipe τ vs = wipe σ vs ∧ tt τ M2 fun ok_ M3 =>
    if ok_ = true then tk τ M3 fun ky M4 => tv τ M4 fun vz M5 => St D ky vz M5 Nq else Nq M3)
theorem z3o {pins : List (Addr × Obj)} {s : Shared} {σ : L2.St} {H : Hp} {Q : VK} {kx vx tg iter : Expr} {ifs : List Expr} {scope : Scope} {own : List (Str × Nat)} {pos pos' : Pos} {o0 : Addr → HO} {St : Addr → V → V → Hp → (Hp → Prop) → Prop} {tw : TI} {tg_ : TG} {tts : TT} {tkx tvx : TE} {use : Option (Value → Sem Unit)} {Qe : Value → Shared → Prop}
    (hc : X.calm = true) (hN : X.N.Nodup) (I : Inv X pins σ H s) (hi : PI X tg iter tw) (hbk : BlkOk X.N X.env.scope scope own)
    (hpg : ∀ (s : Shared) (H : Hp) (Cc : Addr) (cs_ : List (Str × Addr)) (ws : List Addr), PG (X.blk s H scope (compEnvC scope cs_ Cc X.env) ws) tg tg_) (hpt : ∀ (s : Shared) (H : Hp) (Cc : Addr) (cs_ : List (Str × Addr)) (ws : List Addr), PTs (X.blk s H scope (compEnvC scope cs_ Cc X.env) ws) ifs tts)
    (hpk : ∀ (s : Shared) (H : Hp) (Cc : Addr) (cs_ : List (Str × Addr)) (ws : List Addr), PE (X.blk s H scope (compEnvC scope cs_ Cc X.env) ws) kx tkx)
    (hpv : ∀ (s : Shared) (H : Hp) (Cc : Addr) (cs_ : List (Str × Addr)) (ws : List Addr), PE (X.blk s H scope (compEnvC scope cs_ Cc X.env) ws) vx tvx) (hfs : ∀ x, foldedSetIterable iter X.env x = pure x)
    (hnew : ∀ pins σ H s, Inv X pins σ H s → Inv X pins σ (upd H s.heap.objs.size (o0 s.heap.objs.size)) { s with heap := s.heap.push { cls := .type "dict", data := .dict #[] } }) (hst : ∀ (s : Shared) (H : Hp) (cenv : Env) (ws : List Addr), StOk (X.blk s H scope cenv ws) St)
    (h : tDcG o0 St tw tg_ tts tkx tvx (own.map (·.2)) σ H Q)
    (hend : ∀ Dd Cc s' n_m H', Inv X pins σ H' s' → Q (.ref Dd) H' → s'.heap.Ns Cc n_m → FpOk X pins H' Cc → compPost (model X.prog X.w) X.A X.xe use Qe (.ref Dd) Cc (.ok .next) s') :
    wpAny (model X.prog X.w) X.A (comprehension (.DictComp kx vx [⟨tg, iter, ifs, 0⟩] scope pos) scope X.env pos' newDict false (eval iter X.env) use) Qe X.xe s := by
  have hfr : ∀ y ∈ scope.names, y.2 = .free → ∃ c, X.env.cells.lookup y.1 = some c := fun y hy e => by
    rcases hbk.free y hy e with k | k
    · exact I.ok.has _ (.inl k)
    · exact I.ok.has _ (.inr k)
  refine wpAny_comprehension_free (use := use) rfl hfs (closure_ok hfr) hbk.kind (fun y hy e => by rw [hbk.uniq y hy, e])
    (thn (hi.run pins s σ H _ I h) fun xv1 t1 hx1 => thn hx1 fun iv1 t2 hh2 => ?_)
  obtain ⟨ia, ws, kd, Jt, M2, e, J2, Tu, u2, g2, q⟩ := hh2
  subst e
  refine wpAny_newObj_type
    (newEnv_comp ?_)
  generalize hd : t2.heap.objs.size = Dd
  have dn : M2 Dd = none := J2.hok.fresh (Nat.le_of_eq hd)
  obtain ⟨Wi, ⟨l0, z0⟩, trn⟩ := q Dd dn (by rw [← hd]; exact z35 J2)
  -- the new list
  generalize ht3 : ({ t2 with heap := t2.heap.push { cls := .type "dict", data := .dict #[] } } : Shared) = t3
  have J3 : Inv X pins σ (upd M2 Dd (o0 Dd)) t3 := by
    rw [← ht3]
    rw [← hd]
    exact hnew pins σ M2 t2 J2
  have h3 : t3.heap = t2.heap.push { cls := .type "dict", data := .dict #[] } := by rw [← ht3]
  have young : ∀ b ∈ ws, b < t2.heap.objs.size := fun b hb => by
    obtain ⟨o, e, _⟩ := Tu.obj _ _ u2 b hb
    exact Heap.lt_size e
  have g3 : ∀ b ∈ ws, FpOk X pins (upd M2 Dd (o0 Dd)) b ∧ b < t3.heap.objs.size := fun b hb => by
    have hlt := young b hb
    refine ⟨⟨?_, (g2 b hb).2⟩, by rw [h3, Heap.size_push]; exact Nat.lt_succ_of_lt hlt⟩
    rw [upd_ne (by rw [← hd]; exact Nat.ne_of_lt hlt)]
    exact (g2 b hb).1
  have u3 : kd 0 t3.heap := Tu.keep _ _ _ u2 fun b _ o e => by rw [h3]; exact Heap.get?_push_of_some _ e
  have J4 := block_start J3 hbk hN g3
  have pa1 := hpg t3 (upd M2 Dd (o0 Dd)) t3.heap.objs.size (cellsFrom (t3.heap.objs.size + 1) scope.names (cloFrom X.env.cells scope.names [])) ws
  have pa2 := hpt t3 (upd M2 Dd (o0 Dd)) t3.heap.objs.size (cellsFrom (t3.heap.objs.size + 1) scope.names (cloFrom X.env.cells scope.names [])) ws
  have pa3 := hpk t3 (upd M2 Dd (o0 Dd)) t3.heap.objs.size (cellsFrom (t3.heap.objs.size + 1) scope.names (cloFrom X.env.cells scope.names [])) ws
  have pa4 := hpv t3 (upd M2 Dd (o0 Dd)) t3.heap.objs.size (cellsFrom (t3.heap.objs.size + 1) scope.names (cloFrom X.env.cells scope.names [])) ws
  show codeAny _ _ (.compStart (.DictComp kx vx [⟨tg, iter, ifs, 0⟩] scope pos) 0 (.ref ia) (.ref Dd) (compEnvC scope (cellsFrom (t3.heap.objs.size + 1) scope.names (cloFrom X.env.cells scope.names [])) t3.heap.objs.size X.env)) (compPost (model X.prog X.w) X.A X.xe use Qe (.ref Dd) t3.heap.objs.size) { t3 with heap := pushCells (t3.heap.push { cls := .type "dict", data := .dict #[] }) scope.names }
  have gone : ∀ b ∈ ws, (upd M2 Dd (o0 Dd)) b = none := fun b hb => (g3 b hb).1.1
  generalize hcv : compEnvC scope (cellsFrom (t3.heap.objs.size + 1) scope.names (cloFrom X.env.cells scope.names [])) t3.heap.objs.size X.env = cv at J4 pa1 pa2 pa3 pa4 ⊢
  have cl_ : cv.locals = t3.heap.objs.size := by subst hcv; rfl
  generalize hM3 : upd M2 Dd (o0 Dd) = M3 at J3 J4 pa1 pa2 pa3 pa4 z0 gone g3
  generalize ht4 : ({ t3 with heap := pushCells (t3.heap.push { cls := .type "dict", data := .dict #[] }) scope.names } : Shared) = t4 at J4 ⊢
  have u4 : kd 0 t4.heap := Tu.keep _ _ _ u3 fun b _ o e => by rw [← ht4]; exact pushCells_keeps _ _ _ _ (Heap.get?_push_of_some _ e)
  have calm_ : ∀ {σ' : L2.St} {H' : Hp} {s' : Shared}, Inv (X.blk t3 M3 scope cv ws) [] σ' H' s' → (∀ b ∈ ws, H' b = none) → ∀ b ∈ ws, FpOk (X.blk t3 M3 scope cv ws) [] H' b := fun {σ' H' s'} J' hn b hb =>
    ⟨hn b hb, (J'.ok.exf b hb).1, J'.ok.exfs b hb, .inl hb, fun x c e => (J'.ok.exf b hb).2 x c e, fun p hp => absurd (show p ∈ ([] : List (Addr × Obj)) ++ [] from hp) (by simp)⟩
  have go_ : codeAny (model X.prog X.w) X.A (.compLoop (.DictComp kx vx [⟨tg, iter, ifs, 0⟩] scope pos) 0 (.ref ia) (.ref Dd) cv) (compPost (model X.prog X.w) X.A X.xe use Qe (.ref Dd) t3.heap.objs.size) t4 := by
    refine compLoop_anyD (fun n s' => ∃ n_i H', Inv (X.blk t3 M3 scope cv ws) [] (wipe σ (own.map (·.2))) H' s' ∧ kd n_i s'.heap ∧ (∀ b ∈ ws, H' b = none) ∧ Wi n_i n H') ?_ l0 ⟨0, M3, J4, u4, gone, z0⟩
    rintro n t5 ⟨n_i, M5, J5, u5, k5, z5⟩
    rcases trn n_i n M5 z5 with ⟨ends, q_⟩ | ⟨go, Nx, hnx, stp⟩
    · have e1 := Tu.done (X.blk t3 M3 scope cv ws) rfl rfl rfl hc n_i [] t5 _ M5 (fun _ _ => False) J5 (calm_ J5 k5) u5 ends
      refine thnF e1 fun r t6 ⟨hr, J6⟩ => ?_
      subst hr
      -- back in the def's context
      have J7 : Inv X pins σ M5 t6 := J3.call' (ch := ws) J6.os J6.base J6.hok J6.bare fun b hb => ⟨(g3 b hb).1.2.2.2.1, (g3 b hb).1.2.1, (g3 b hb).1.2.2.2.2.1, (g3 b hb).1.2.2.2.2.2⟩
      have cN : M5 t3.heap.objs.size = none := by
        have z : M5 cv.locals = none := J6.free
        rw [cl_] at z
        exact z
      obtain ⟨n_m, hn, _⟩ := J6.loc
      have hn : t6.heap.Ns cv.locals n_m := hn
      rw [cl_] at hn
      exact hend Dd t3.heap.objs.size t6 n_m M5 J7 q_ hn (J3.fpOk (Nat.le_refl _) cN)
    · have e2 := Tu.item (X.blk t3 M3 scope cv ws) rfl rfl rfl hc n_i [] t5 _ M5 (fun _ _ => False) J5 (calm_ J5 k5) u5 go
      refine thnF e2 fun r t6 ⟨u, hr, hh6⟩ => ?_
      subst hr
      refine thnF hh6 fun _ t7 ⟨x, M7, J7, r_7, y7, u7, k7⟩ => ?_
      have J7' := J7.pinned (calm_ J7 k7) (Tu.obj _ _ u7)
      refine thnF (pa1.run _ t7 _ M7 x u _ J7' r_7 (stp x M7 y7)) fun _ t8 ⟨σ8, M8, J8, hw8, p8⟩ => ?_
      refine thnF (pa2.run _ t8 σ8 M8 _ J8 p8) fun b t9 ⟨M9, J9, p9⟩ => ?_
      -- the turn's end
      have over : ∀ {s' : Shared} {H' : Hp}, Inv (X.blk t3 M3 scope cv ws) ([] ++ pinsAt ws t7.heap) σ8 H' s' → Nx H' → ∃ n_m, n_m < n ∧ ∃ n_i H', Inv (X.blk t3 M3 scope cv ws) [] (wipe σ (own.map (·.2))) H' s' ∧ kd n_i s'.heap ∧ (∀ b ∈ ws, H' b = none) ∧ Wi n_i n_m H' := fun {s' H'} J' nx => by
        obtain ⟨m', hm_, z'⟩ := hnx H' nx
        have pin1 : ∀ b ∈ ws, ∀ o, t7.heap.get? b = some o → s'.heap.get? b = some o ∧ H' b = none := fun b hb o e =>
          let z := J'.pin (b, o) (List.mem_append_right _ (List.mem_append_right _ (mem_pinsAt hb e)))
          ⟨z.1, z.2.1⟩
        have hlen8 : (wipe σ (own.map (·.2))).length = σ8.length := by
          rw [← hw8, wipe_length]
        refine ⟨m', hm_, n_i + 1, H', (J'.unpinned (pins := [])).weak hlen8 (fun j v e => ?_), Tu.keep _ _ _ u7 fun b hb o e => (pin1 b hb o e).1, fun b hb => ?_, z'⟩
        · rw [← hw8] at e
          exact (wipe_some e).1
        · obtain ⟨o, e, _⟩ := Tu.obj _ _ u7 b hb
          exact (pin1 b hb o e).2
      cases b with
      | false =>
        simp only [Bool.false_eq_true, if_false] at p9 ⊢
        exact over J9 p9
      | true =>
        simp only [if_true] at p9 ⊢
        refine thnF (pa3.run _ t9 σ8 M9 _ J9 p9) fun z ta ⟨k_y, Ma, Ja, ra, p10⟩ => ?_
        refine thnF (pa4.run _ ta σ8 Ma _ Ja p10) fun zz tb ⟨v_y, Mb, Jb, rb, nx⟩ => ?_
        exact thnF (hst t3 M3 cv ws Dd _ _ _ _ _ _ _ _ _ (fun _ _ => False) Jb ra rb nx) fun _ tc ⟨Mc, Jc, nx12⟩ => over Jc nx12
  exact codeAny_compStart_dict go_ (Tu.self X.A 0 _ _ _ u4 go_)
/-- as a value -/
theorem zabc {o0 : Addr → HO} {St : Addr → V → V → Hp → (Hp → Prop) → Prop} {kx vx tg iter : Expr} {ifs : List Expr} {scope : Scope} {own : List (Str × Nat)} {pos : Pos} {tw : TI} {tg_ : TG} {tts : TT} {tkx tvx : TE} (hc : X.calm = true) (hN : X.N.Nodup) (hi : PI X tg iter tw) (hbk : BlkOk X.N X.env.scope scope own)
    (hnew : ∀ pins σ H s, Inv X pins σ H s → Inv X pins σ (upd H s.heap.objs.size (o0 s.heap.objs.size)) { s with heap := s.heap.push { cls := .type "dict", data := .dict #[] } }) (hst : ∀ (s : Shared) (H : Hp) (cenv : Env) (ws : List Addr), StOk (X.blk s H scope cenv ws) St)
    (hpg : ∀ (s : Shared) (H : Hp) (Cc : Addr) (cs_ : List (Str × Addr)) (ws : List Addr), PG (X.blk s H scope (compEnvC scope cs_ Cc X.env) ws) tg tg_) (hpt : ∀ (s : Shared) (H : Hp) (Cc : Addr) (cs_ : List (Str × Addr)) (ws : List Addr), PTs (X.blk s H scope (compEnvC scope cs_ Cc X.env) ws) ifs tts)
    (hpk : ∀ (s : Shared) (H : Hp) (Cc : Addr) (cs_ : List (Str × Addr)) (ws : List Addr), PE (X.blk s H scope (compEnvC scope cs_ Cc X.env) ws) kx tkx)
    (hpv : ∀ (s : Shared) (H : Hp) (Cc : Addr) (cs_ : List (Str × Addr)) (ws : List Addr), PE (X.blk s H scope (compEnvC scope cs_ Cc X.env) ws) vx tvx) (hfs : ∀ x, foldedSetIterable iter X.env x = pure x := by intro _; rfl) :
    PE X (.DictComp kx vx [⟨tg, iter, ifs, 0⟩] scope pos) (tDcG o0 St tw tg_ tts tkx tvx (own.map (·.2))) := by
  refine ⟨fun pins s σ H Q I h => ?_⟩
  rw [arm_eval_DictComp]
  refine z3o hc hN I hi hbk hpg hpt hpk hpv hfs hnew hst h fun Dd Cc s' n_m H' J' q hn f => ⟨n_m, hn, fun h'' sb => ?_⟩
  obtain ⟨f0, f1, g2, g3, f4, f5⟩ := f
  exact ⟨.ref Dd, H', J'.turned (t' := s'.toks) (fun b o hb e => (sb.2 b hb).trans e) f0 f1 g3 f4 f5, rfl, q⟩
/-- the store, at the trees -/
def stD (K : Ml) : Addr → V → V → Hp → (Hp → Prop) → Prop := fun D y z H Q => zxt K dSet (.ref D) y z H Q ∧ ∀ xs, H D ≠ some (.lst xs)
theorem z7b {Y : Cx} (hu : Y.A.units + 64 < cLine) : StOk Y (stD Y.ml) := by
  intro a pins σ H s y z u r Q E I ry rz ⟨⟨do_, di, dv, G, P, hr, q1, q2, q3, t, k⟩, nl⟩
  cases do_ with
  | nd _ _ =>
    rw [VR] at q1
    exact t.elim
  | ref b =>
    rw [VR] at q1
    cases q1
    cases hG : G a with
    | none =>
      have : False := by simpa [dSet, hG] using t
      exact this.elim
    | some ob =>
      cases ob with
      | rw _ _ _ =>
        have : False := by simpa [dSet, hG] using t
        exact this.elim
      | ins C fs =>
        have : False := by simpa [dSet, hG] using t
        exact this.elim
      | lst ds =>
        obtain ⟨vs, hv, _⟩ := hr a _ hG
        exact (nl vs hv).elim
      | dK kvs =>
        cases ek : di.kK with
        | none =>
          have : False := by simpa [dSet, hG, ek] using t
          exact this.elim
        | some kk =>
          have t : kvs.length < sizeLine ∧ P (up G a (.dK (dput kvs kk dv))) := by simpa [dSet, hG, ek] using t
          obtain ⟨ws, hw, hks, r'⟩ := hr a _ hG
          have e := z5s q2 ek
          subst e
          have x : Ext H G (upd H a (.dK (putK ws kk z))) (up G a (.dK (dput kvs kk dv))) := .write hG
          obtain ⟨p1, p2⟩ := zaay kk q3 hks r'
          have hl : ws.length < sizeLine := by
            have := congrArg List.length hks
            rw [List.length_map, List.length_map] at this
            rw [this]; exact t.1
          exact d_dictSet I hw hl ry rz fun s' I' => ⟨_, I', k _ _ t.2 x (hr.write hG ⟨_, upd_same, p1, p2.ext hr x⟩)⟩
      | dN kvs =>
        cases di with
        | nd kd ks =>
          cases kd with
          | tup =>
            cases ek : D.key (.nd .tup ks) with
            | none =>
              have : False := by simpa [dSet, hG, ek] using t
              exact this.elim
            | some kk =>
              have t : (kk.depth ≤ 8 ∧ kvs.length < sizeLine) ∧ P (up G a (.dN (dput kvs kk dv))) := by simpa [dSet, hG, ek] using t
              obtain ⟨⟨h8, hl⟩, t⟩ := t
              have ka := zqy q2 ek
              rw [VR] at q2
              obtain ⟨b, vs, rfl, hb, rb⟩ := q2
              cases (show u = Value.ref b from ry)
              obtain ⟨ws, dn, vr⟩ := hr a _ hG
              obtain ⟨xs, es, ep, h1, h2, h3, h4, h5, h6, h7, h9, h10⟩ := DnAt.of I dn
              refine wpAny_dictSet_heap (hsz := by have := congrArg List.length h6; rw [List.length_map] at this; rw [this]; exact h7) (show (nestedKind Y.prog Y.w).room Y.A by show Y.A.units + 8 < cLine; omega) ⟨zgs I ka rfl, h8⟩ h4 fun h' hm' hs => ?_
              obtain ⟨H', I', x, r'⟩ := z53 (t' := s.toks + (nestedKind Y.prog Y.w).draws kk) I hr hG h1 h5 h4 h6 h9 h10 vr ka h8 q3 rz hl hm' hs
              exact ⟨H', I', k _ _ t x r'⟩
          | _ =>
            have : False := by simpa [dSet, hG] using t
            exact this.elim
        | _ =>
          have : False := by simpa [dSet, hG] using t
          exact this.elim
  | _ => exact t.elim
/-- {k: v for tg in iter if ..}: a tracked dict -/
def dDc (o : DO) (wi : DTI) (g : DTG) (tt : DTT) (tk tv : DTE) (own : List Nat) : DTE := fun η G Q => wi η G fun ds ok G1 => ∀ p, G1 p = none → ∃ W : Nat → DHp → Prop, W 0 (up G1 p o) ∧ (∀ i G, W i G → ok G ∧ ∀ xs, G p ≠ some (.lst xs)) ∧
  (∀ i d G, ds[i]? = some d → W i G → g d (zid η own) G fun η2 G2 => tt η2 G2 fun b G3 => if b = true then tk η2 G3 fun y G4 => tv η2 G4 fun z G5 => (∀ xs, G5 p ≠ some (.lst xs)) ∧ dSet (.ref p) y z G5 (W (i + 1)) else W (i + 1) G3) ∧
  ∀ G, W ds.length G → Q (.ref p) G
def o0K : Addr → HO := fun _ => .dK []
def o0N : Addr → HO := fun a => rawO a #[] 0
theorem z1s [Bs] {K : Ml} {o0 : Addr → HO} {o : DO} {wi : DTI} {g : DTG} {tt : DTT} {tk tv : DTE} {own is : List Nat} {σ : L2.St} {H : Hp} {Q : VK} (hsub : ∀ i ∈ is, i ∈ own) (hor : ∀ H G D, H D = some (o0 D) → (D == sysModules) = false → OR K H G D o) (hnl : ∀ H G D ob, OR K H G D ob → (∀ ds, ob ≠ .lst ds) → ∀ xs, H D ≠ some (.lst xs))
    (h : znj K (dDc o wi g tt tk tv own) σ H Q) : tDcG o0 (stD K) (z6n K wi) (z6w K is g) (z06 K tt) (znj K tk) (znj K tv) own σ H Q := by
  obtain ⟨η, G, P, hs, hr, t, k⟩ := h
  refine ⟨η, G, _, hs, hr, t, fun ds ok G1 J H1 pp x r it => ?_⟩
  intro D hD hsys
  have gD : G1 D = none := r.free hD
  obtain ⟨W, w0, wok, step, fin⟩ := pp D gD
  have xD : Ext H1 G1 (upd H1 D (o0 D)) (up G1 D o) := .new hD
  have rD : HR K (upd H1 D (o0 D)) (up G1 D o) := r.new hD (hor _ _ _ upd_same hsys)
  refine ⟨fun i m H' => m = ds.length - i ∧ i ≤ ds.length ∧ ∃ G', W i G' ∧ Ext H1 G1 H' G' ∧ HR K H' G',
    ⟨ds.length, by simp, Nat.zero_le _, _, w0, xD, rD⟩, ?_⟩
  rintro i m H2 ⟨rfl, hle, G2, w1, x1, r1⟩
  obtain ⟨a1, a2⟩ := it i H2 G2 x1 r1 (wok _ _ w1).1
  by_cases hlt : i < ds.length
  · have e : ds[i]? = some ds[i] := by simp [hlt]
    obtain ⟨go, yl⟩ := a1 _ e
    refine .inr ⟨go, fun H' => ∃ G', W (i + 1) G' ∧ Ext H1 G1 H' G' ∧ HR K H' G', fun H' ⟨G', z⟩ => ⟨_, by omega, rfl, hlt, G', z⟩, fun y H3 hy => ?_⟩
    obtain ⟨x3, r3, v3⟩ := yl y H3 hy
    have s3 : SR K H3 G2 (wipe σ own) (zid η own) := ((hs.ext hr x).ext r (x1.trans x3)).wipe own
    refine ⟨_, zid η own, G2, _, v3, s3, r3, step i _ G2 e w1, fun η4 G4 σ4 H4 p4 x4 s4 r4 wp => ⟨?_, η4, G4, _, s4, r4, p4, fun b G5 H5 p5 x5 r5 => ?_⟩⟩
    · have hlen : (wipe σ own).length = σ4.length := by
        have := congrArg List.length wp
        rw [wipe_length, wipe_length] at this
        exact this.symm
      rw [ztg (vs := own) wp hsub hlen]
      exact zqm _ _
    · by_cases hb : b = true
      · subst hb
        rw [if_pos rfl] at p5 ⊢
        refine ⟨η4, G5, _, s4.ext r4 x5, r5, p5, fun dk G6 vk H6 p6 x6 r6 q6 => ⟨η4, G6, _, (s4.ext r4 x5).ext r5 x6, r6, p6, fun dy G7 vy H7 ⟨nl7, p7⟩ x7 r7 q7 => ⟨⟨.ref D, dk, dy, G7, _, r7, by rw [VR], q6.ext r6 x7, q7, p7, fun G8 H8 w8 x8 r8 => ⟨G8, w8, (x1.trans ((((x3.trans x4).trans x5).trans x6).trans x7)).trans x8, r8⟩⟩, ?_⟩⟩⟩
        have : ∃ ob, G7 D = some ob := by
          cases e7 : G7 D with
          | none =>
            have : False := by simpa [dSet, e7] using p7
            exact this.elim
          | some ob => exact ⟨ob, rfl⟩
        obtain ⟨ob, e7⟩ := this
        exact hnl _ _ _ ob (r7 D ob e7) fun ds e => nl7 ds (by rw [e7, e])
      · rw [if_neg hb] at p5 ⊢
        exact ⟨G5, p5, x1.trans ((x3.trans x4).trans x5), r5⟩
  · have e : i = ds.length := by omega
    subst e
    exact .inl ⟨a2 (Nat.le_refl _), k (.ref D) G2 (.ref D) H2 (fin _ w1) (x.trans x1) r1 (by rw [VR])⟩
theorem zabu {K : Ml} (H : Hp) (G : DHp) (D : Addr) (ob : DO) (h : OR K H G D ob) (n : ∀ ds, ob ≠ .lst ds) (xs : List V) : H D ≠ some (.lst xs) := fun e => by
  cases ob with
  | lst ds => exact n ds rfl
  | dK ds => obtain ⟨_, e', _⟩ := h; rw [e] at e'; cases e'
  | dN ds => obtain ⟨_, ⟨_, _, _, e', _⟩, _⟩ := h; rw [e] at e'; cases e'
  | ins C fs => obtain ⟨_, _, e', _⟩ := h; rw [e] at e'; cases e'
  | rw es ep kvs => obtain ⟨_, ⟨_, e', _⟩, _⟩ := h; rw [e] at e'; cases e'
theorem zadc [Bs] {kx vx tg iter : Expr} {ifs : List Expr} {scope : Scope} {own : List (Str × Nat)} {is : List Nat} {pos : Pos} {wi : DTI} {g : DTG} {tt : DTT} {tk tv : DTE} (hu : X.A.units + 64 < cLine) (hc : X.calm = true) (hN : X.N.Nodup) (hi : PID X tg iter wi) (ok : BlkOk X.N X.env.scope scope own)
    (hg : ∀ (s : Shared) (H : Hp) (C : Addr) (cl : List (Str × Addr)) (fp : List Addr), PGD (X.blk s H scope (compEnvC scope cl C X.env) fp) tg is g) (ht : ∀ (s : Shared) (H : Hp) (C : Addr) (cl : List (Str × Addr)) (fp : List Addr), PTsD (X.blk s H scope (compEnvC scope cl C X.env) fp) ifs tt)
    (hk : ∀ (s : Shared) (H : Hp) (C : Addr) (cl : List (Str × Addr)) (fp : List Addr), PED (X.blk s H scope (compEnvC scope cl C X.env) fp) kx tk)
    (he : ∀ (s : Shared) (H : Hp) (C : Addr) (cl : List (Str × Addr)) (fp : List Addr), PED (X.blk s H scope (compEnvC scope cl C X.env) fp) vx tv) (hsub : ∀ i ∈ is, i ∈ own.map (·.2) := by decide) (hs : ∀ x, foldedSetIterable iter X.env x = pure x := by intro _; rfl) :
    PED X (.DictComp kx vx [⟨tg, iter, ifs, 0⟩] scope pos) (dDc (.dK []) wi g tt tk tv (own.map (·.2))) :=
  PE.impI (zabc (o0 := o0K) (St := stD X.ml) hc hN hi ok (fun pins σ H s I => I.laid (t' := s.toks) (fun _ _ q => Heap.get?_push_of_some _ q) (Nat.le_refl _) (dk_empty s.heap I.big)) (fun s H cenv fp => z7b (Y := X.blk s H scope cenv fp) hu) hg ht hk he hs)
    fun _ _ _ _ _ _ h => z1s (o := .dK []) hsub (fun H G D e _ => ⟨[], e, rfl, .nil⟩) zabu h
theorem zacu [Bs] {kx vx tg iter : Expr} {ifs : List Expr} {scope : Scope} {own : List (Str × Nat)} {is : List Nat} {pos : Pos} {wi : DTI} {g : DTG} {tt : DTT} {tk tv : DTE} (hu : X.A.units + 64 < cLine) (hc : X.calm = true) (hN : X.N.Nodup) (hi : PID X tg iter wi) (ok : BlkOk X.N X.env.scope scope own)
    (hg : ∀ (s : Shared) (H : Hp) (C : Addr) (cl : List (Str × Addr)) (fp : List Addr), PGD (X.blk s H scope (compEnvC scope cl C X.env) fp) tg is g) (ht : ∀ (s : Shared) (H : Hp) (C : Addr) (cl : List (Str × Addr)) (fp : List Addr), PTsD (X.blk s H scope (compEnvC scope cl C X.env) fp) ifs tt)
    (hk : ∀ (s : Shared) (H : Hp) (C : Addr) (cl : List (Str × Addr)) (fp : List Addr), PED (X.blk s H scope (compEnvC scope cl C X.env) fp) kx tk)
    (he : ∀ (s : Shared) (H : Hp) (C : Addr) (cl : List (Str × Addr)) (fp : List Addr), PED (X.blk s H scope (compEnvC scope cl C X.env) fp) vx tv) (hsub : ∀ i ∈ is, i ∈ own.map (·.2) := by decide) (hs : ∀ x, foldedSetIterable iter X.env x = pure x := by intro _; rfl) :
    PED X (.DictComp kx vx [⟨tg, iter, ifs, 0⟩] scope pos) (dDc (.dN []) wi g tt tk tv (own.map (·.2))) :=
  PE.impI (zabc (o0 := o0N) (St := stD X.ml) hc hN hi ok (fun pins σ H s I => zt3 I) (fun s H cenv fp => z7b (Y := X.blk s H scope cenv fp) hu) hg ht hk he hs)
    fun _ _ _ _ _ _ h => z1s (o := .dN []) hsub (fun H G D e n => ⟨[], zro e n, .nil⟩) zabu h
end
end DL
namespace DL
open PySem PySem.Spec PyProof.Rows L2
section
variable {X : Cx}
theorem zyn {kx vx : Expr} {gs : List Comprehension} {scope : Scope} {pos py : Pos} {y : Str} {l : Nat} {env_ : Env} (hkn : env_.scope.kind = .function) (hyn : env_.scope.names.lookup y = some .local) (hln : (py.line == pos.line) = true)
    (had : (scope.names.any fun (n_, k_) => n_ == y && (k_ == .local || k_ == .cell)) = false) : swapsWith (.DictComp kx vx gs scope pos) (some (.Name y py)) l env_ = pure true := by
  have kyn : env_.kindOf y = some .local := hyn
  have hbn : env_.blockKind = .function := by unfold Env.blockKind; rw [hkn]; rfl
  unfold swapsWith
  simp only [hbn, kyn, Expr.pos, had, hln]
  rfl
theorem z5w {i : Nat} {y : Str} {py : Pos} {o0 : Addr → HO} {St : Addr → V → V → Hp → (Hp → Prop) → Prop} {kx vx tg iter : Expr} {ifs : List Expr} {scope : Scope} {own : List (Str × Nat)} {pos spos : Pos} {wi : TI} {g : TG} {tt : TT} {tk tv : TE} (hc : X.calm = true) (hN : X.N.Nodup) (hyn : X.N[i]? = some y) (hyl : X.env.scope.names.lookup y = some .local)
    (hsw : swapsWith (.DictComp kx vx [⟨tg, iter, ifs, 0⟩] scope pos) (some (.Name y py)) spos.line X.env = pure true) (hi : PI X tg iter wi) (ok : BlkOk X.N X.env.scope scope own)
    (hnew : ∀ pn τ M s_a, Inv X pn τ M s_a → Inv X pn τ (upd M s_a.heap.objs.size (o0 s_a.heap.objs.size)) { s_a with heap := s_a.heap.push { cls := .type "dict", data := .dict #[] } }) (hst : ∀ (s_a : Shared) (M : Hp) (cenv : Env) (ws_ : List Addr), StOk (X.blk s_a M scope cenv ws_) St)
    (hpg : ∀ (s_a : Shared) (M : Hp) (Cn : Addr) (cs_ : List (Str × Addr)) (ws_ : List Addr), PG (X.blk s_a M scope (compEnvC scope cs_ Cn X.env) ws_) tg g) (hpt : ∀ (s_a : Shared) (M : Hp) (Cn : Addr) (cs_ : List (Str × Addr)) (ws_ : List Addr), PTs (X.blk s_a M scope (compEnvC scope cs_ Cn X.env) ws_) ifs tt)
    (hkn : ∀ (s_a : Shared) (M : Hp) (Cn : Addr) (cs_ : List (Str × Addr)) (ws_ : List Addr), PE (X.blk s_a M scope (compEnvC scope cs_ Cn X.env) ws_) kx tk)
    (hpv : ∀ (s_a : Shared) (M : Hp) (Cn : Addr) (cs_ : List (Str × Addr)) (ws_ : List Addr), PE (X.blk s_a M scope (compEnvC scope cs_ Cn X.env) ws_) vx tv) (hfs : ∀ x_, foldedSetIterable iter X.env x_ = pure x_ := by intro _; rfl) :
    PS X (.Assign [.Name y py] (.DictComp kx vx [⟨tg, iter, ifs, 0⟩] scope pos) spos) (tAsg (tDcG o0 St wi g tt tk tv (own.map (·.2))) (gName i)) := by
  refine ⟨fun pn s_a τ M Dn Iv hq => ?_⟩
  rw [exec_Assign_Name_used _ _ _ _ hsw]
  refine wpAny_bind (wpAny_standAt (wpAny_bind ?_))
  show wpAny _ X.A (do let _ ← comprehension (.DictComp kx vx [⟨tg, iter, ifs, 0⟩] scope pos) scope X.env (firstIterPos [⟨tg, iter, ifs, 0⟩] pos) newDict false (eval iter X.env) (some (assign (.Name y py) X.env))) _ _ s_a
  have hq : tDcG o0 St wi g tt tk tv (own.map (·.2)) τ M (fun x_ H1 => gName i x_ τ H1 Dn.nx) := hq
  refine wpAny_bind (thn (z3o (Qe := fun _ s_b => SP X pn Dn .next s_b) hc hN Iv hi ok hpg hpt hkn hpv hfs hnew hst hq fun Ln Cn s_b n_m M' Iw qv hns hfp => ?_) fun _ s_b hq => wpAny_pure (wpAny_pure hq))
  show wpAny _ _ (assign (.Name y py) X.env (.ref Ln)) _ _ _
  refine wpAny_assign_Name (store_ok2 (v := V.ref Ln) Iw hN hyn (.inl hyl) rfl (fun s_c Ix ⟨ad, sbt, had⟩ => ?_) (.inr hyl))
  obtain ⟨p0, p1, p2, p3, p4, p5⟩ := hfp
  have hne : Cn ≠ ad := by
    rcases had with zz | zz
    · rw [zz]; exact p1
    · exact fun e_ => p4 y ad zz e_.symm
  refine ⟨n_m, hns.sameBut sbt hne, fun hp3 sbt3 => ?_⟩
  exact ⟨_, M', Ix.turned (t' := s_c.toks) (fun b_ o_ hbn e_ => (sbt3.2 b_ hbn).trans e_) p0 p1 p3 p4 p5, qv⟩
theorem zrq [Bs] {i : Nat} {y : Str} {py : Pos} {kx vx tg iter : Expr} {ifs : List Expr} {scope : Scope} {own : List (Str × Nat)} {is : List Nat} {pos spos : Pos} {wi : DTI} {g : DTG} {tt : DTT} {tk tv : DTE} (hu : X.A.units + 64 < cLine) (hc : X.calm = true) (hN : X.N.Nodup) (hy : X.N[i]? = some y) (hyl : X.env.scope.names.lookup y = some .local)
    (hsw : swapsWith (.DictComp kx vx [⟨tg, iter, ifs, 0⟩] scope pos) (some (.Name y py)) spos.line X.env = pure true) (hi : PID X tg iter wi) (ok : BlkOk X.N X.env.scope scope own)
    (hg : ∀ (s : Shared) (H : Hp) (C : Addr) (cl : List (Str × Addr)) (fp : List Addr), PGD (X.blk s H scope (compEnvC scope cl C X.env) fp) tg is g) (ht : ∀ (s : Shared) (H : Hp) (C : Addr) (cl : List (Str × Addr)) (fp : List Addr), PTsD (X.blk s H scope (compEnvC scope cl C X.env) fp) ifs tt)
    (hk : ∀ (s : Shared) (H : Hp) (C : Addr) (cl : List (Str × Addr)) (fp : List Addr), PED (X.blk s H scope (compEnvC scope cl C X.env) fp) kx tk)
    (he : ∀ (s : Shared) (H : Hp) (C : Addr) (cl : List (Str × Addr)) (fp : List Addr), PED (X.blk s H scope (compEnvC scope cl C X.env) fp) vx tv) (hsub : ∀ i ∈ is, i ∈ own.map (·.2) := by decide) (hs : ∀ x, foldedSetIterable iter X.env x = pure x := by intro _; rfl) :
    PSD X (.Assign [.Name y py] (.DictComp kx vx [⟨tg, iter, ifs, 0⟩] scope pos) spos) (dAsg (dDc (.dK []) wi g tt tk tv (own.map (·.2))) (zl i)) :=
  PS.impI (z5w (o0 := o0K) (St := stD X.ml) hc hN hy hyl hsw hi ok (fun pins σ H s I => I.laid (t' := s.toks) (fun _ _ q => Heap.get?_push_of_some _ q) (Nat.le_refl _) (dk_empty s.heap I.big)) (fun s H cenv fp => z7b (Y := X.blk s H scope cenv fp) hu) hg ht hk he hs)
    fun _ _ σ H E _ ⟨η, G, F, hs, hr, t, k⟩ => show tDcG _ _ _ _ _ _ _ _ σ H _ from z1s (o := .dK []) hsub (fun H G D e _ => ⟨[], e, rfl, .nil⟩) zabu ⟨η, G, _, hs, hr, t, fun d G1 v H1 p1 x1 r1 q1 => k.nx _ G1 _ H1 p1 x1 ((hs.ext hr x1).set i q1) r1⟩
end
end DL
namespace DL
open PySem PySem.Spec PyProof.Rows L2
def zao (N : List Str) (ds : List D) : DSt := ds.map some ++ List.replicate (N.length - ds.length) none
theorem SR.st [Bs] {K : Ml} {H : Hp} {G : DHp} {N : List Str} {ds : List D} {vs : List V} (h : VRs K H G ds vs) (x : Ext Bs.H0 Bs.G0 H G) : SR K H G (L2.start N vs) (zao N ds) := by
  refine ⟨?_, fun i d e => ?_, x⟩
  · unfold L2.start zao
    rw [List.length_append, List.length_append, List.length_map, List.length_map, List.length_replicate, List.length_replicate, h.length]
  · unfold zao at e
    by_cases hi : i < ds.length
    · rw [List.getElem?_append_left (by rw [List.length_map]; exact hi), List.getElem?_map] at e
      cases ed : ds[i]? with
      | none => rw [ed] at e; cases e
      | some d' =>
        rw [ed] at e
        simp only [Option.map_some, Option.some.injEq] at e
        subst e
        obtain ⟨v, ev, q⟩ := h.get ed
        refine ⟨v, ?_, q⟩
        unfold L2.start
        rw [List.getElem?_append_left (by rw [List.length_map, h.length]; exact hi), List.getElem?_map, ev]
        rfl
    · rw [List.getElem?_append_right (by rw [List.length_map]; omega), List.getElem?_replicate] at e
      split at e
      · cases e
      · cases e
section
variable {P : Program} {w : World} {K : PySem.W.Frag} {mg : Str → Option Value} {base : Heap}
theorem fn_d {x qual : Str} {st : Stmt} {f : Addr} {fd : FuncData} {N ps : List Str} {k : Nat} {sp : DRn} (F : Fun K x qual st f fd) (S : FnScope N ps (defScope st)) (len : ∀ ds G Q, sp ds G Q → ds.length = ps.length) {T : DTS}
    (hp : ∀ [Bs] (cdv : Value) (A : Around) (outer : List Env) (s : Shared) (H : Hp) (E : XK), Room k (A.deeper (envOfC qual (defScope st) s.heap.objs.size f cdv)) → PSsD (cxOf CX0 P w K mg base N qual (defScope st) f cdv A outer s H E).nox (defBody st) T)
    (hs : ∀ ds G Q, sp ds G Q → T { nx := fun _ G' => Q .non G', rt := Q } (zao N ds) G) : FnD P w K mg base (k + 1) f fd ps sp := by
  refine F.ok S (fun vs H Q E h => ?_) (fun cdv A outer s H vs Q E hr h => ?_)
  · obtain ⟨ds, G, Q', q, _, t, _⟩ := h
    rw [q.length]
    exact len _ _ _ t
  · obtain ⟨ds, G, Q', q, hr', t, k'⟩ := h
    letI : Bs := ⟨H, G⟩
    refine ⟨z5l ⟨K, w⟩ T, hp cdv A outer s H E hr, zao N ds, G, _, .st q (.refl _ _), hr', hs ds G Q' t, ?_⟩
    exact ⟨fun η G' σ H' p x _ r => k' _ _ _ _ p x r (by rw [VR]), fun d G' v H' p x r q => k' _ _ _ _ p x r q, fun _ _ _ _ p => p.elim, fun _ _ _ _ p => p.elim⟩
/-- a promise: the arguments, then what the body leads to -/
def z6s : DRn := d1 fun d G Q => ∃ ns : List Int, d = .nd .scr (ns.map .int) ∧ ns.length ≤ 63 ∧ (∀ a, G a = none) ∧ ∀ G', Q (.bl true) G'
end
theorem Room.u65 {k : Nat} {A : Around} (r : Room k A) : A.units + 65 < cLine := by have := r.un; omega
end DL
namespace DL
open PySem PySem.Spec PyProof.Rows L2
def znl (d : D) (G : DHp) : Option (List D) := match dicN d G with
  | some kvs => some (kvs.map fun p => nkD p.1)
  | none => match dicK d G with
    | some kvs => some (kvs.map fun p => kD p.1)
    | none => none
section
variable {X : Cx}
mutual
theorem zzy {pins : List (Addr × Obj)} {σ : L2.St} {H : Hp} {s : Shared} (I : Inv X pins σ H s) : ∀ {k : NestedKey} {v : V} {u : Value}, ze7 X.ml H k v → RelV v u → Reads s.heap u (py (nkD k)) []
  | .none, _, _, h, r => by rw [ze7] at h; subst h; cases (show _ = Value.none from r); rw [nkD, py]; exact .none
  | .num i, _, _, h, r => by rw [ze7] at h; subst h; obtain ⟨t, rfl⟩ := r; rw [nkD, py]; exact .int i t
  | .text x, _, _, h, r => by rw [ze7] at h; subst h; obtain ⟨t, rfl⟩ := r; rw [nkD, py]; exact .str x t
  | .tup ks, _, _, h, r => by
    rw [ze7] at h
    obtain ⟨a, vs, rfl, q, t⟩ := h
    cases r
    obtain ⟨its, rv, tt, hz⟩ := I.tuple q
    obtain ⟨o, ho, hc, n, hd⟩ := tt
    rw [nkD, py]
    exact .tuple ho hc hd (by simpa using keys_reads I t rv)
theorem keys_reads {pins : List (Addr × Obj)} {σ : L2.St} {H : Hp} {s : Shared} (I : Inv X pins σ H s) : ∀ {k : List NestedKey} {v : List V} {u : List Value}, KeysAt X.ml H k v → Vals v u → ReadsAll s.heap u (pys (nkDs k)) []
  | [], _, _, h, r => by rw [KeysAt] at h; subst h; cases r; rw [nkDs, pys]; exact .nil
  | k :: ks, _, _, h, r => by
    rw [KeysAt] at h
    obtain ⟨v, vs, rfl, q, t⟩ := h
    cases r with
    | cons r1 r2 =>
      rw [nkDs, pys]
      exact .cons (as := []) (bs := []) (zzy I q r1) (keys_reads I t r2)
end
/-- what is known of the keys -/
theorem z4l {pins : List (Addr × Obj)} {σ : L2.St} {H : Hp} {G : DHp} {s : Shared} {d : D} {v : V} {ks : List D} (I : Inv X pins σ H s) (hr : HR X.ml H G) (q : VR X.ml H G d v) (e : znl d G = some ks) :
    ∃ a es ep vs, v = .ref a ∧ (a == sysModules) = false ∧ s.heap.DictRaw a es ep ∧ es.size ≤ sizeLine ∧ Vals vs (es.toList.map (·.key)) ∧ VRs X.ml H G ks vs ∧ PySem.W.EachIs (fun u d => Reads s.heap u (py d) []) (es.toList.map (·.key)) ks := by
  unfold znl at e
  split at e
  · rename_i kvs e1
    cases e
    obtain ⟨a, ws, rfl, dn, vr⟩ := zpr hr q e1
    obtain ⟨xs, es, ep, h1, h2, h3, h4, h5, h6, h7, h8, h9⟩ := DnAt.of I dn
    have hm : es.toList.map (·.key) = xs.map fun x => Value.ref x.2.1 := by
      rw [h3, List.map_map]
      exact List.map_congr_left fun x _ => rfl
    have hk : kvs.map (fun p => nkD p.1) = xs.map fun x => nkD x.1 := by
      rw [show (fun p : NestedKey × D => nkD p.1) = nkD ∘ (·.1) from rfl, ← List.map_map, ← h6, List.map_map]; rfl
    have hsz : es.size ≤ sizeLine := by
      have := congrArg List.length h3
      rw [List.length_map, Array.length_toList] at this
      have h62 := congrArg List.length h6
      rw [List.length_map] at h62
      omega
    refine ⟨a, es, ep, xs.map fun x => V.ref x.2.1, rfl, h5, h2, hsz, ?_, ?_, ?_⟩
    · rw [hm]
      have : ∀ zs : List (NestedKey × Addr × Value), Vals (zs.map fun x => V.ref x.2.1) (zs.map fun x => Value.ref x.2.1) := fun zs => by
        induction zs with
        | nil => exact .nil
        | cons z zs ih => exact .cons rfl ih
      exact this xs
    · rw [hk]
      have : ∀ zs : List (NestedKey × Addr × Value), (∀ x ∈ zs, ze7 X.ml H x.1 (.ref x.2.1) ∧ x.1.depth ≤ 8) → VRs X.ml H G (zs.map fun x => nkD x.1) (zs.map fun z => V.ref z.2.1) := by
        intro zs
        induction zs with
        | nil => intro _; exact .nil
        | cons z zs ih => intro h; exact .cons (z6g (h z (by simp)).1) (ih fun x hx => h x (by simp [hx]))
      exact this xs h8
    · rw [hk, hm]
      have : ∀ zs : List (NestedKey × Addr × Value), (∀ x ∈ zs, ze7 X.ml H x.1 (.ref x.2.1) ∧ x.1.depth ≤ 8) → PySem.W.EachIs (fun u d => Reads s.heap u (py d) []) (zs.map fun x => Value.ref x.2.1) (zs.map fun x => nkD x.1) := by
        intro zs
        induction zs with
        | nil => intro _; exact .nil
        | cons z zs ih => intro h; exact .cons (zzy I (h z (by simp)).1 rfl) (ih fun x hx => h x (by simp [hx]))
      exact this xs h8
  · split at e
    · rename_i kvs e1
      cases e
      obtain ⟨a, ws, rfl, rd, hks, vr⟩ := zpc hr q e1
      obtain ⟨z, hd, vs, rel, dd⟩ := dk_rd I.hok rd
      obtain ⟨es, ep, raw, hsz, hat⟩ := dd.raw
      have hl : ws.length = vs.length := rel.length
      have hk : kvs.map (fun p => kD p.1) = (ws.map (·.1)).map kD := by
        rw [hks, List.map_map]; rfl
      have hkey : ws.map (·.1) = vs.map (·.1) := rel.keys
      have each : ∀ (F : Value → Key → Prop), (∀ k u, (mixKind X.prog X.w).is k u = true → F u k) → PySem.W.EachIs F (es.toList.map (·.key)) (vs.map (·.1)) := fun F hF => by
        have go : ∀ (l : List DictEntry) (m : List (Key × Value)), l.length = m.length → (∀ i (hi : i < l.length) k v, m[i]? = some (k, v) → (mixKind X.prog X.w).is k l[i].key = true) → PySem.W.EachIs F (l.map (·.key)) (m.map (·.1)) := by
          intro l
          induction l with
          | nil =>
            intro m h1 h2
            cases m with
            | nil => exact .nil
            | cons _ _ => simp at h1
          | cons x l ih =>
            intro m h1 h2
            cases m with
            | nil => simp at h1
            | cons y m =>
              obtain ⟨k, v⟩ := y
              refine .cons (hF _ _ (h2 0 (by simp) k v rfl)) (ih m (by simpa using h1) fun i hi k' v' e => ?_)
              have := h2 (i + 1) (by simpa using hi) k' v' (by simpa using e)
              simpa using this
        refine go _ _ (by rw [Array.length_toList]; exact hsz) fun i hi k v e => ?_
        have := (hat i (by simpa using hi) k v e).1
        simpa using this
      refine ⟨a, es, ep, (ws.map (·.1)).map kV, rfl, hd, raw, by rw [hsz, ← hl]; exact z, ?_, ?_, ?_⟩
      · rw [hkey]
        have := each (fun u k => RelV (kV k) u) fun k u h => z72 h
        have go : ∀ {us : List Value} {ks : List Key}, PySem.W.EachIs (fun u k => RelV (kV k) u) us ks → Vals (ks.map kV) us := by
          intro us ks h
          induction h with
          | nil => exact .nil
          | cons r _ ih => exact .cons r ih
        exact go this
      · rw [hk]
        exact z6p _
      · rw [hk, hkey]
        have := each (fun u k => Reads s.heap u (py (kD k)) []) fun k u h => by
          rcases keyIs_shape (show keyIs k u = true from h) with ⟨i, t, rfl, rfl⟩ | ⟨x, t, rfl, rfl⟩
          · show Reads _ _ (py (.int i)) []; rw [py]; exact .int i t
          · show Reads _ _ (py (.str x)) []; rw [py]; exact .str x t
        have go : ∀ {us : List Value} {ks : List Key}, PySem.W.EachIs (fun u k => Reads s.heap u (py (kD k)) []) us ks → PySem.W.EachIs (fun u d => Reads s.heap u (py d) []) us (ks.map kD) := by
          intro us ks h
          induction h with
          | nil => exact .nil
          | cons r _ ih => exact .cons r ih
        exact go this
    · cases e
theorem zww {es : Array DictEntry} {acc : Array Value} (h : ItemsOf (fun i v => ∃ hi : i < es.size, v = es[i].key) acc es.size) : acc.toList = es.toList.map (·.key) := by
  refine List.ext_getElem? fun i => ?_
  rw [Array.getElem?_toList, List.getElem?_map, Array.getElem?_toList]
  by_cases hi : i < es.size
  · have hi' : i < acc.size := by rw [h.1]; exact hi
    obtain ⟨_, e⟩ := h.2 i acc[i] (Array.getElem?_eq_getElem hi')
    rw [Array.getElem?_eq_getElem hi', Array.getElem?_eq_getElem hi, e]
    rfl
  · rw [Array.getElem?_eq_none (by rw [h.1]; omega), Array.getElem?_eq_none (by omega)]
    rfl
/-- list(d): tracked -/
def z4o : DRn := d1 fun d G Q => match znl d G with
  | some ks => ∀ p, G p = none → Q (.ref p) (up G p (.lst ks))
  | none => False
theorem z4g (hc : X.calm = true) : zkr X (.type "list") z4o := zjq fun pins s σ H G x v d P I rx hr q1 t => by
  split at t
  · rename_i ks e
    obtain ⟨a, es, ep, vs, rfl, hsys, raw, hsz, rv, qs, _⟩ := z4l I hr q1 e
    cases (show v = Value.ref a from rx)
    refine PySem.W.kdl_call (PySem.KdlSrc.rawDict hsys) (I.ok.hd hc) raw hsz fun h' tk acc c hk hS hacc => ?_
    have hp : H s.heap.objs.size = none := I.hok.fresh (Nat.le_refl _)
    have e2 := zww hacc
    have x2 : Ext H G (upd H s.heap.objs.size (.lst vs)) (up G s.heap.objs.size (.lst ks)) := .new hp
    have I' : Inv X pins σ (upd H s.heap.objs.size (.lst vs)) { s with heap := h', toks := tk } :=
      I.laid hk (Nat.le_refl _) ⟨by rw [rv.length, List.length_map, Array.length_toList]; exact hsz, acc.toList, c, by rw [e2]; exact rv, by rw [Array.toArray_toList]; exact hS⟩
    exact ⟨.ref _, .ref _, _, _, I', rfl, t _ (hr.free hp), x2, hr.new hp ⟨vs, upd_same, qs.ext hr x2⟩, by rw [VR]⟩
  · exact t.elim
/-- sorted(d): tracked -/
def zqq : DRn := d1 fun d G Q => match znl d G with
  | some ks => (PySem.W.AllAlike (ks.map py) ∧ PySem.W.Sortable (ks.map py) ∧ ∀ d ∈ ks, (py d).depth ≤ 60) ∧ ∀ p, G p = none → Q (.ref p) (up G p (.lst (srt ks)))
  | none => False
theorem zw2 (hu : X.A.units + 64 < cLine) (hc : X.calm = true) : zkr X (.builtin "sorted") zqq := zjq fun pins s σ H G x v d P I rx hr q1 t => by
  split at t
  · rename_i ks e
    obtain ⟨⟨p2, p3, p4⟩, t⟩ := t
    obtain ⟨a, es, ep, vs, rfl, hsys, raw, hsz, rv, qs, rd⟩ := z4l I hr q1 e
    cases (show v = Value.ref a from rx)
    refine Calls.call_function_entry PyProof.Rows.kind_sorted PyProof.Rows.plain_sorted PyProof.Rows.entry_sorted (PyProof.Rows.args_sorted1 _) ?_
    unfold Builtin.«sorted»
    refine wpAny_bind (m := checkCount "sorted" 1 1 _) (wpAny_pure ?_)
    refine wpAny_bind (PySem.W.kdu_collect (A := X.A.in1) (PySem.KdlSrc.rawDict hsys) (I.ok.hd hc) raw hsz fun h' tk acc hk hacc => ?_)
    have e2 := zww hacc
    have rva : Vals vs acc.toList := by rw [e2]; exact rv
    have hal : acc.toList.length = ks.length := by rw [← rva.length, qs.length]
    have I1 : Inv X pins σ H { s with heap := h', toks := tk } := I.kept hk
    have hlen : acc.toList.length ≤ sizeLine := by rw [e2, List.length_map, Array.length_toList]; exact hsz
    refine wpAny_bind (wpAny_newList ?_ hlen)
    have hoL : (h'.push (seqObj "list" acc.toList.toArray 0)).get? h'.objs.size = some (seqObj "list" acc.toList.toArray 0) := Heap.get?_push_size _ rfl
    show wpAny _ _ _ _ _ { s with heap := h'.push (seqObj "list" acc.toList.toArray 0), toks := tk }
    have er : PySem.W.EachIs (fun v b => ∃ as, Reads (h'.push (seqObj "list" acc.toList.toArray 0)) v (py b) as ∧ h'.objs.size ∉ as) acc.toList ks := by
      rw [e2]
      exact rd.mono fun u b r => ⟨[], PyProof.Rows.Reads.keeps (fun b o q => Heap.get?_push_of_some _ (hk b o q)) r, by simp⟩
    refine wpAny_bind (wpAny_holding (PySem.W.list_sort_data (s := { s with heap := h'.push (seqObj "list" acc.toList.toArray 0), toks := tk }) (R := fun u d => ∃ v, RelV v u ∧ VR X.ml H G d v) (enc := py) (bs := ks) hoL (zus qs rva) er p2 p3 (by rw [← hal]; exact hlen) (fun b hb => by have := p4 b hb; show X.A.units + 1 + 1 + _ < _; omega) fun out ho eo => ?_))
    obtain ⟨ws, rw', qs'⟩ := znz eo
    obtain ⟨e', he'⟩ := PyProof.Rows.sortedHeap_at (vs := acc.toList) (out := List.toArray out) hoL
    have hp : H h'.objs.size = none := I1.hok.fresh (Nat.le_refl _)
    have x2 : Ext H G (upd H h'.objs.size (.lst ws)) (up G h'.objs.size (.lst (srt ks))) := .new hp
    refine wpAny_pure ⟨_, rfl, .ref h'.objs.size, .ref h'.objs.size, upd H h'.objs.size (.lst ws), _, I1.laid (t' := tk) (fun b u e => ?_) (Nat.le_refl _)
      (show ObjOk X.prog X.w _ _ _ (.lst ws) from ⟨by rw [rw'.length, ho, ← hal]; exact hlen, out, e', rw', he'⟩), rfl, t _ (hr.free hp), x2, hr.new hp ⟨ws, upd_same, qs'.ext hr x2⟩, by rw [VR]⟩
    have hb : b < h'.objs.size := Heap.lt_size e
    rw [PyProof.Rows.sortedHeap_old (Nat.ne_of_lt hb) (by rw [size_push']; exact Nat.lt_succ_of_lt hb)]
    exact Heap.get?_push_of_some _ e
  · exact t.elim
end
end DL
namespace DL
open PySem PySem.Spec PyProof.Rows L2
abbrev dSub : DR2 := i2 (fun _ _ => True) fun i j => .int (i - j)
abbrev dMul : DR2 := i2 CMul fun i j => .int (i * j)
abbrev zv7 : DR2 := i2 CDiv fun i j => .int (i / j)
abbrev dMod : DR2 := i2 (fun _ j => 0 < j) fun i j => .int (i % j)
abbrev dPow : DR2 := i2 CPow fun i j => .int (i ^ j.toNat)
def e2 (p : Int × Int) : D := .nd .tup [.int p.1, .int p.2]
def e3 (p : Int × Int × Int) : D := .nd .tup [.int p.1, .int p.2.1, .int p.2.2]
def eL {α : Type} (f : α → D) (xs : List α) : D := .nd .lst (xs.map f)
def eT {α : Type} (f : α → D) (xs : List α) : D := .nd .tup (xs.map f)
mutual
def zbl : D → Bool
  | .non => true
  | .int _ => true
  | .nd .tup ds => cleans ds
  | .nd .lst ds => cleans ds
  | _ => false
def cleans : List D → Bool
  | [] => true
  | d :: ds => zbl d && cleans ds
end
mutual
theorem zha : ∀ {d : D}, zbl d = true → zdm d = true
  | .non, _ => rfl
  | .int _, _ => rfl
  | .nd .tup ds, h => by rw [zdm]; rw [zbl] at h; exact cleans_plain h
  | .nd .lst ds, h => by rw [zdm]; rw [zbl] at h; exact cleans_plain h
  | .bl _, h => by simp [zbl] at h
  | .str _, h => by simp [zbl] at h
  | .ty _, h => by simp [zbl] at h
  | .ref _, h => by simp [zbl] at h
  | .nd .scr _, h => by simp [zbl] at h
  | .nd (.ins _ _) _, h => by simp [zbl] at h
  | .nd (.dK _) _, h => by simp [zbl] at h
  | .nd (.dN _) _, h => by simp [zbl] at h
theorem cleans_plain : ∀ {ds : List D}, cleans ds = true → plainDs ds = true
  | [], _ => rfl
  | d :: ds, h => by
    rw [cleans, Bool.and_eq_true] at h
    rw [plainDs, zha h.1, cleans_plain h.2]; rfl
end
mutual
theorem z0h : ∀ {d : D}, zbl d = true → PyData.canLay0 (py d) = true
  | .non, _ => by rw [py, PyData.canLay0]
  | .int _, _ => by rw [py, PyData.canLay0]
  | .nd .tup ds, h => by rw [py, PyData.canLay0]; rw [zbl] at h; exact cleans_lay h
  | .nd .lst ds, h => by rw [py, PyData.canLay0]; rw [zbl] at h; exact cleans_lay h
  | .bl _, h => by simp [zbl] at h
  | .str _, h => by simp [zbl] at h
  | .ty _, h => by simp [zbl] at h
  | .ref _, h => by simp [zbl] at h
  | .nd .scr _, h => by simp [zbl] at h
  | .nd (.ins _ _) _, h => by simp [zbl] at h
  | .nd (.dK _) _, h => by simp [zbl] at h
  | .nd (.dN _) _, h => by simp [zbl] at h
theorem cleans_lay : ∀ {ds : List D}, cleans ds = true → PyData.canLayAll0 (pys ds) = true
  | [], _ => by rw [pys, PyData.canLayAll0]
  | d :: ds, h => by
    rw [cleans, Bool.and_eq_true] at h
    rw [pys, PyData.canLayAll0, z0h h.1, cleans_lay h.2]; rfl
end
mutual
theorem zqd : ∀ {d e : D}, zbl d = true → zbl e = true → (PyData.eqv (py d) (py e) = true ↔ d = e)
  | .non, .non, _, _ => by simp [py, PyData.eqv]
  | .non, .int _, _, _ => by simp [py, PyData.eqv]
  | .non, .nd .tup _, _, _ => by simp [py, PyData.eqv]
  | .non, .nd .lst _, _, _ => by simp [py, PyData.eqv]
  | .int _, .non, _, _ => by simp [py, PyData.eqv]
  | .int i, .int j, _, _ => by simp [py, PyData.eqv]
  | .int _, .nd .tup _, _, _ => by simp [py, PyData.eqv]
  | .int _, .nd .lst _, _, _ => by simp [py, PyData.eqv]
  | .nd .tup _, .non, _, _ => by simp [py, PyData.eqv]
  | .nd .tup _, .int _, _, _ => by simp [py, PyData.eqv]
  | .nd .tup ds, .nd .tup es, h1, h2 => by
    rw [zbl] at h1 h2
    rw [py, py, PyData.eqv, cleans_eq h1 h2]
    simp
  | .nd .tup _, .nd .lst _, _, _ => by simp [py, PyData.eqv]
  | .nd .lst _, .non, _, _ => by simp [py, PyData.eqv]
  | .nd .lst _, .int _, _, _ => by simp [py, PyData.eqv]
  | .nd .lst _, .nd .tup _, _, _ => by simp [py, PyData.eqv]
  | .nd .lst ds, .nd .lst es, h1, h2 => by
    rw [zbl] at h1 h2
    rw [py, py, PyData.eqv, cleans_eq h1 h2]
    simp
  | .bl _, _, h, _ => by simp [zbl] at h
  | .str _, _, h, _ => by simp [zbl] at h
  | .ty _, _, h, _ => by simp [zbl] at h
  | .ref _, _, h, _ => by simp [zbl] at h
  | .nd .scr _, _, h, _ => by simp [zbl] at h
  | .nd (.ins _ _) _, _, h, _ => by simp [zbl] at h
  | .nd (.dK _) _, _, h, _ => by simp [zbl] at h
  | .nd (.dN _) _, _, h, _ => by simp [zbl] at h
  | _, .bl _, _, h => by simp [zbl] at h
  | _, .str _, _, h => by simp [zbl] at h
  | _, .ty _, _, h => by simp [zbl] at h
  | _, .ref _, _, h => by simp [zbl] at h
  | _, .nd .scr _, _, h => by simp [zbl] at h
  | _, .nd (.ins _ _) _, _, h => by simp [zbl] at h
  | _, .nd (.dK _) _, _, h => by simp [zbl] at h
  | _, .nd (.dN _) _, _, h => by simp [zbl] at h
theorem cleans_eq : ∀ {ds es : List D}, cleans ds = true → cleans es = true → (PyData.eqvAll (pys ds) (pys es) = true ↔ ds = es)
  | [], [], _, _ => by simp [pys, PyData.eqvAll]
  | [], _ :: _, _, _ => by simp [pys, PyData.eqvAll]
  | _ :: _, [], _, _ => by simp [pys, PyData.eqvAll]
  | d :: ds, e :: es, h1, h2 => by
    rw [cleans, Bool.and_eq_true] at h1 h2
    rw [pys, pys, PyData.eqvAll, Bool.and_eq_true, zqd h1.1 h2.1, cleans_eq h1.2 h2.2]
    simp
end
theorem zwk : ∀ ds : List D, cleans ds = ds.all zbl
  | [] => rfl
  | d :: ds => by rw [cleans, zwk ds]; rfl
theorem zdk {α : Type} {f : α → D} (h : ∀ a, zbl (f a) = true) (xs : List α) : cleans (xs.map f) = true := by
  rw [zwk, List.all_map, List.all_eq_true]
  intro x _; exact h x
theorem zmh {B : Nat} : ∀ {ds : List D}, (∀ d ∈ ds, (py d).depth ≤ B) → PyData.depthAll (pys ds) ≤ B
  | [], _ => by rw [pys, PyData.depthAll]; exact Nat.zero_le _
  | d :: ds, h => by
    rw [pys, PyData.depthAll]
    have h1 := h d (by simp)
    have h2 := zmh (B := B) (ds := ds) fun e he => h e (by simp [he])
    omega
theorem z0k {B : Nat} {ds : List D} (h : ∀ d ∈ ds, (py d).depth ≤ B) : (py (.nd .lst ds)).depth ≤ B + 1 := by
  rw [py, PyData.depth]; have := zmh h; omega
theorem zqe {B : Nat} {ds : List D} (h : ∀ d ∈ ds, (py d).depth ≤ B) : (py (.nd .tup ds)).depth ≤ B + 1 := by
  rw [py, PyData.depth]; have := zmh h; omega
theorem zdo (i : Int) : (py (.int i)).depth = 0 := by rw [py, PyData.depth]
theorem zlm {d : D} (h : zbl d = true) (h2 : (py d).depth ≤ 64) : SeqAt.shaped (py d) = true := by
  unfold SeqAt.shaped
  rw [z0h h, decide_eq_true h2]; rfl
theorem zp2 (i : Int) : zbl (.int i) = true := rfl
theorem zd0 (p : Int × Int) : zbl (e2 p) = true := rfl
theorem zn9 (p : Int × Int × Int) : zbl (e3 p) = true := rfl
theorem zod {α : Type} {f : α → D} (h : ∀ a, zbl (f a) = true) (xs : List α) : zbl (eL f xs) = true := by
  unfold eL; rw [zbl]; exact zdk h xs
theorem zs1 {α : Type} {f : α → D} (h : ∀ a, zbl (f a) = true) (xs : List α) : zbl (eT f xs) = true := by
  unfold eT; rw [zbl]; exact zdk h xs
theorem ze3 (p : Int × Int) : (py (e2 p)).depth ≤ 1 := zqe (B := 0) fun d hd => by
  simp at hd; rcases hd with rfl | rfl <;> exact Nat.le_of_eq (zdo _)
theorem zoa (p : Int × Int × Int) : (py (e3 p)).depth ≤ 1 := zqe (B := 0) fun d hd => by
  simp at hd; rcases hd with rfl | rfl | rfl <;> exact Nat.le_of_eq (zdo _)
theorem zqf {α : Type} {f : α → D} {B : Nat} (h : ∀ a, (py (f a)).depth ≤ B) (xs : List α) : (py (eL f xs)).depth ≤ B + 1 := z0k fun d hd => by
  obtain ⟨a, _, rfl⟩ := List.mem_map.mp hd; exact h a
theorem zs9 {α : Type} {f : α → D} {B : Nat} (h : ∀ a, (py (f a)).depth ≤ B) (xs : List α) : (py (eT f xs)).depth ≤ B + 1 := zqe fun d hd => by
  obtain ⟨a, _, rfl⟩ := List.mem_map.mp hd; exact h a
theorem zwz {a b : Int × Int} : e2 a = e2 b ↔ a = b := by
  constructor
  · intro h; obtain ⟨a1, a2⟩ := a; obtain ⟨b1, b2⟩ := b
    simp [e2] at h; simp [h]
  · intro h; rw [h]
theorem zae0 {a b : Int × Int × Int} : e3 a = e3 b ↔ a = b := by
  constructor
  · intro h; obtain ⟨a1, a2, a3⟩ := a; obtain ⟨b1, b2, b3⟩ := b
    simp [e3] at h; simp [h]
  · intro h; rw [h]
theorem z69 {α : Type} {f : α → D} (h : ∀ {a b}, f a = f b ↔ a = b) : ∀ {xs ys : List α}, xs.map f = ys.map f ↔ xs = ys
  | [], [] => by simp
  | [], _ :: _ => by simp
  | _ :: _, [] => by simp
  | x :: xs, y :: ys => by simp [h, z69 h (xs := xs) (ys := ys)]
theorem zabb {α : Type} {f : α → D} (h : ∀ {a b}, f a = f b ↔ a = b) {xs ys : List α} : eT f xs = eT f ys ↔ xs = ys := by
  unfold eT
  constructor
  · intro e; exact (z69 h).mp (D.nd.inj e).2
  · intro e; rw [e]
theorem zabi {d e : D} {G : DHp} {Q : DVK} (h1 : zbl (der d G) = true) (h2 : zbl (der e G) = true) (d1 : (py (der d G)).depth ≤ 64) (d2 : (py (der e G)).depth ≤ 64) (b : Bool) (hb : b = true ↔ der d G = der e G) (h : Q (.bl b) G) : dEq d e G Q := by
  refine ⟨⟨zha h1, zha h2, zlm h1 d1, zlm h2 d2⟩, ?_⟩
  have : PyData.eqv (py (der d G)) (py (der e G)) = b := by
    rw [Bool.eq_iff_iff, zqd h1 h2]; exact hb.symm
  rw [this]; exact h
theorem ztt {d e : D} {G : DHp} {Q : DVK} (h1 : zbl (der d G) = true) (h2 : zbl (der e G) = true) (d1 : (py (der d G)).depth ≤ 64) (d2 : (py (der e G)).depth ≤ 64) (b : Bool) (hb : b = true ↔ der d G ≠ der e G) (h : Q (.bl b) G) : dNe d e G Q := by
  refine ⟨⟨zha h1, zha h2, zlm h1 d1, zlm h2 d2⟩, ?_⟩
  have : (!PyData.eqv (py (der d G)) (py (der e G))) = b := by
    rw [Bool.eq_iff_iff, Bool.not_eq_true', hb, ← Bool.not_eq_true, zqd h1 h2]
  rw [this]; exact h
theorem zz8 {x : D} (hx : zbl x = true) : ∀ {ds : List D}, cleans ds = true → (((pys ds).any fun z => PyData.eqv z (py x)) = true ↔ x ∈ ds)
  | [], _ => by simp [pys]
  | d :: ds, h => by
    rw [cleans, Bool.and_eq_true] at h
    rw [pys, List.any_cons, Bool.or_eq_true, zqd h.1 hx, zz8 hx h.2, List.mem_cons]
    constructor
    · rintro (h | h)
      · exact .inl h.symm
      · exact .inr h
    · rintro (h | h)
      · exact .inl h.symm
      · exact .inr h
theorem z1k {neg : Bool} {x y : D} {ds : List D} {G : DHp} {Q : DVK} (hy : der y G = .nd .lst ds ∨ der y G = .nd .tup ds) (hx : zbl x = true) (hs : cleans ds = true) (dx : (py x).depth ≤ 64) (b : Bool) (hb : b = true ↔ x ∈ ds) (h : Q (.bl (neg != b)) G) : dIn neg x y G Q := by
  have e : ((pys ds).any fun z => PyData.eqv z (py x)) = b := by rw [Bool.eq_iff_iff, zz8 hx hs]; exact hb.symm
  unfold dIn
  rcases hy with hy | hy
  · rw [hy]
    exact ⟨⟨zha hx, cleans_plain hs, zlm hx dx, cleans_lay hs⟩, by rw [e]; exact h⟩
  · rw [hy]
    exact ⟨⟨zha hx, cleans_plain hs, zlm hx dx, cleans_lay hs⟩, by rw [e]; exact h⟩
/-- order of ints -/
theorem zab9 {g : PyData → PyData → Bool} {i j : Int} {G : DHp} {Q : DVK} (h : Q (.bl (g (.int i) (.int j))) G) : dOrd g (.int i) (.int j) G Q :=
  ⟨⟨rfl, rfl, by rw [py, py]; simp [PySem.W.alike], by rw [py]; exact (nomatch ·), by rw [zdo]; exact Nat.zero_le _⟩, by rw [py, py]; exact h⟩
theorem z90 {i j : Int} : PySem.W.dataLt (.int i) (.int j) = decide (i < j) := PySem.W.dataLt_int i j
theorem zta {g : PyData → PyData → Bool} {i j : Int} {G : DHp} {Q : DVK} : dOrd g (.int i) (.int j) G Q = Q (.bl (g (.int i) (.int j))) G := propext ⟨fun h => by
  have h := h.2
  rwa [py, py] at h, zab9⟩
theorem zw8 {i j : Int} : (!decide (j < i)) = decide (i ≤ j) := by rw [← decide_not]; exact decide_eq_decide.mpr (by omega)
theorem zq1 {i j : Int} {G : DHp} {Q : DVK} : dLt (.int i) (.int j) G Q = Q (.bl (decide (i < j))) G := by
  show dOrd _ _ _ _ _ = _
  rw [zta, z90]
theorem zqn {i j : Int} {G : DHp} {Q : DVK} : dLe (.int i) (.int j) G Q = Q (.bl (decide (i ≤ j))) G := by
  show dOrd _ _ _ _ _ = _
  rw [zta]
  show Q (.bl (!PySem.W.dataLt (.int j) (.int i))) G = _
  rw [z90, zw8]
theorem zpv {i j : Int} {G : DHp} {Q : DVK} : dGt (.int i) (.int j) G Q = Q (.bl (decide (j < i))) G := by
  show dOrd _ _ _ _ _ = _
  rw [zta]
  show Q (.bl (PySem.W.dataLt (.int j) (.int i))) G = _
  rw [z90]
theorem zp0 {i j : Int} {G : DHp} {Q : DVK} : dGe (.int i) (.int j) G Q = Q (.bl (decide (j ≤ i))) G := by
  show dOrd _ _ _ _ _ = _
  rw [zta]
  show Q (.bl (!PySem.W.dataLt (.int i) (.int j))) G = _
  rw [z90, zw8]
theorem zl6 {i j : Int} {G : DHp} {Q : DVK} : dEq (.int i) (.int j) G Q = Q (.bl (decide (i = j))) G := propext ⟨fun h => by
  have h := h.2
  rwa [show PyData.eqv (py (der (.int i) G)) (py (der (.int j) G)) = decide (i = j) by
    show PyData.eqv (py (.int i)) (py (.int j)) = _
    rw [py, py, PyData.eqv]; rfl] at h, fun h => zabi rfl rfl (by show (py (.int i)).depth ≤ 64; rw [zdo]; decide) (by show (py (.int j)).depth ≤ 64; rw [zdo]; decide) _ (by
    show _ ↔ D.int i = D.int j
    simp) h⟩
theorem zl9 {i j : Int} {G : DHp} {Q : DVK} : dNe (.int i) (.int j) G Q = Q (.bl (!decide (i = j))) G := propext ⟨fun h => by
  have h := h.2
  rwa [show PyData.eqv (py (der (.int i) G)) (py (der (.int j) G)) = decide (i = j) by
    show PyData.eqv (py (.int i)) (py (.int j)) = _
    rw [py, py, PyData.eqv]; rfl] at h, fun h => ztt rfl rfl (by show (py (.int i)).depth ≤ 64; rw [zdo]; decide) (by show (py (.int j)).depth ≤ 64; rw [zdo]; decide) _ (by
    show _ ↔ D.int i ≠ D.int j
    simp) h⟩
theorem zju {i j : Int} {G : DHp} {Q : DVK} : dAdd (.int i) (.int j) G Q = Q (.int (i + j)) G := rfl
theorem zhz {i j : Int} {G : DHp} {Q : DVK} : zzm (.int i) (.int j) G Q = Q (.int (i + j)) G := rfl
theorem zgu {i j : Int} (h : -1000000 ≤ i ∧ i ≤ 1000000) : CMul i j := .inl ⟨by omega, by omega⟩
theorem zaq {α : Type} {f : α → D} {xs : List α} {i : Nat} {d : D} (h : (xs.map f)[i]? = some d) : ∃ x, xs[i]? = some x ∧ d = f x := by
  rw [List.getElem?_map] at h
  cases e : xs[i]? with
  | none => rw [e] at h; cases h
  | some x => rw [e] at h; exact ⟨x, rfl, (Option.some.inj h).symm⟩
end DL
namespace DL
open PySem PySem.Spec PyProof.Rows L2
theorem zv {n : Nat} (h : n ≤ 1000000) : n < sizeLine := by rw [sizeLine_eq]; omega
theorem zh5 {xs : List D} {p : Addr} {y : D} {G : DHp} {Q : DVK} (e : G p = some (.lst xs)) (hl : xs.length < sizeLine) (q : Q .non (up G p (.lst (xs ++ [y])))) : tyD "list" (.ref p) G ∧ zgp [.ref p, y] G Q := by
  refine ⟨by simp only [tyD, e], ?_⟩
  show onL (.ref p) G fun a ds => ds.length < sizeLine ∧ Q .non (up G a (.lst (ds ++ [y])))
  exact zabd e ⟨hl, q⟩
theorem mem_range {lo hi x : Int} : x ∈ zb4 lo hi ↔ lo ≤ x ∧ x < hi := by
  unfold zb4
  rw [List.mem_map]
  constructor
  · rintro ⟨k, hk, rfl⟩
    rw [List.mem_range] at hk
    omega
  · rintro ⟨h1, h2⟩
    exact ⟨(x - lo).toNat, by rw [List.mem_range]; omega, by omega⟩
theorem zcq (lo hi : Int) : (zb4 lo hi).length = (hi - lo).toNat := by
  unfold zb4; rw [List.length_map, List.length_range]
theorem zz0 (lo hi : Int) : (zb4 lo hi).Pairwise (· < ·) := by
  unfold zb4
  exact List.pairwise_map.mpr (List.Pairwise.imp (fun h => by omega) List.pairwise_lt_range)
theorem zud (lo hi : Int) : (zb4 lo hi).Nodup := List.Pairwise.imp (fun {a b} (h : a < b) => (by omega : a ≠ b)) (zz0 lo hi)
theorem up3 {G : DHp} {a p : Addr} {x x' y : DO} (h : a ≠ p) : up (up (up G a x) p y) a x' = up (up G a x') p y := by
  rw [zg7 (G := up G a x) (a := p) (b := a) (Ne.symm h), zc1]
theorem zrf {ds : List D} {i : Int} {d : D} {Q : D → Prop} (h0 : 0 ≤ i) (e : ds[i.toNat]? = some d) (q : Q d) : atD ds (.int i) Q := by
  have h : atI ds i = some d := by
    obtain ⟨k, rfl⟩ := Int.eq_ofNat_of_zero_le h0
    exact atI_nat (by simpa using e)
  show (match atI ds i with | some d => Q d | none => False)
  rw [h]; exact q
section
variable {α β κ : Type} [DecidableEq α] [DecidableEq κ]
def aget (kvs : List (α × β)) (a : α) : Option β := (kvs.find? fun p => decide (p.1 = a)).map (·.2)
def aput (kvs : List (α × β)) (a : α) (b : β) : List (α × β) := if kvs.any fun p => decide (p.1 = a) then kvs.map fun p => if p.1 = a then (p.1, b) else p else kvs ++ [(a, b)]
def enc (k : α → κ) (f : β → D) (kvs : List (α × β)) : List (κ × D) := kvs.map fun p => (k p.1, f p.2)
theorem zoe {k : α → κ} {f : β → D} (hk : ∀ {a b}, k a = k b ↔ a = b) (kvs : List (α × β)) (a : α) : dval (enc k f kvs) (k a) = (aget kvs a).map f := by
  unfold dval aget enc
  induction kvs with
  | nil => rfl
  | cons p kvs ih =>
    by_cases e : p.1 = a
    · simp [e]
    · simpa [e, hk] using ih
theorem zabv {k : α → κ} {f : β → D} (hk : ∀ {a b}, k a = k b ↔ a = b) (kvs : List (α × β)) (a : α) : ((enc k f kvs).any fun p => decide (p.1 = k a)) = kvs.any fun p => decide (p.1 = a) := by
  unfold enc
  rw [List.any_map]
  congr 1
  funext p
  exact decide_eq_decide.mpr hk
theorem z3r {k : α → κ} {f : β → D} (hk : ∀ {a b}, k a = k b ↔ a = b) (kvs : List (α × β)) (a : α) (b : β) : dput (enc k f kvs) (k a) (f b) = enc k f (aput kvs a b) := by
  unfold dput aput
  rw [zabv hk]
  split
  · unfold enc
    rw [List.map_map, List.map_map]
    refine List.map_congr_left fun p _ => ?_
    by_cases e : p.1 = a
    · simp [e]
    · simp [e, hk]
  · unfold enc; simp
theorem zbp (kvs : List (α × β)) (a c : α) (b : β) : aget (aput kvs a b) c = if c = a then some b else aget kvs c := by
  have h1 : ∀ kvs : List (α × β), aget (kvs.map fun p => if p.1 = a then (p.1, b) else p) c = if c = a then (aget kvs c).map fun _ => b else aget kvs c := by
    intro kvs
    induction kvs with
    | nil => unfold aget; split <;> rfl
    | cons p kvs ih =>
      unfold aget at ih ⊢
      by_cases e : p.1 = a
      · by_cases e2 : c = a
        · subst e2; simp [e]
        · have : ¬ a = c := fun h => e2 h.symm
          simp [e, this, e2] at ih ⊢
          exact ih
      · by_cases e3 : p.1 = c
        · have : ¬ c = a := fun h => e (e3.trans h)
          simp [e, e3, this]
        · simp [e, e3] at ih ⊢
          exact ih
  have h2 : ∀ kvs : List (α × β), (kvs.any fun p => decide (p.1 = a)) = (aget kvs a).isSome := by
    intro kvs
    induction kvs with
    | nil => rfl
    | cons p kvs ih =>
      unfold aget at ih ⊢
      by_cases e : p.1 = a
      · simp [e]
      · simp only [List.any_cons, e, decide_false, Bool.false_or, List.find?_cons] ; exact ih
  unfold aput
  rw [h2]
  split
  · rename_i h
    rw [h1]
    by_cases e : c = a
    · subst e
      rw [if_pos rfl, if_pos rfl]
      obtain ⟨x, hx⟩ := Option.isSome_iff_exists.mp h
      rw [hx]; rfl
    · rw [if_neg e, if_neg e]
  · rename_i h
    have hn : aget kvs a = none := by simpa using h
    unfold aget at hn ⊢
    rw [List.find?_append]
    by_cases e : c = a
    · subst e
      have : kvs.find? (fun p => decide (p.1 = c)) = none := by simpa using hn
      simp [this]
    · have : ¬ a = c := fun h => e h.symm
      simp [e, this]
theorem zvi (kvs : List (α × β)) (a : α) (b : β) : ((aput kvs a b).map (·.1)) = if (aget kvs a).isSome then kvs.map (·.1) else kvs.map (·.1) ++ [a] := by
  have h2 : (kvs.any fun p => decide (p.1 = a)) = (aget kvs a).isSome := by
    induction kvs with
    | nil => rfl
    | cons p kvs ih =>
      unfold aget at ih ⊢
      by_cases e : p.1 = a
      · simp [e]
      · simp only [List.any_cons, e, decide_false, Bool.false_or, List.find?_cons] ; exact ih
  unfold aput
  rw [h2]
  split
  · rw [List.map_map]
    refine List.map_congr_left fun p _ => ?_
    simp only [Function.comp]
    split <;> rfl
  · simp
theorem zdt (kvs : List (α × β)) (a : α) : (aget kvs a).isSome ↔ a ∈ kvs.map (·.1) := by
  induction kvs with
  | nil => simp [aget]
  | cons p kvs ih =>
    unfold aget at ih ⊢
    by_cases e : p.1 = a
    · simp [e]
    · have : ¬ a = p.1 := fun h => e h.symm
      simp only [List.find?_cons, e, decide_false, List.map_cons, List.mem_cons, this, false_or]
      exact ih
theorem zsw (kvs : List (α × β)) (a : α) (b : β) : (aput kvs a b).length ≤ kvs.length + 1 := by
  unfold aput; split <;> simp
theorem zer (kvs : List (α × β)) (a : α) (b : β) (h : (kvs.map (·.1)).Nodup) : ((aput kvs a b).map (·.1)).Nodup := by
  rw [zvi]
  split
  · exact h
  · rename_i hn
    rw [zdt] at hn
    rw [List.nodup_append]
    exact ⟨h, by simp, fun x hx y hy => by simp at hy; subst hy; exact fun e => hn (e ▸ hx)⟩
/-- kvs counts L -/
structure Cnt (kvs : List (α × Int)) (L : List α) : Prop where
  nd : (kvs.map (·.1)).Nodup
  at_ : ∀ a, aget kvs a = if L.count a = 0 then none else some (L.count a : Int)
  le : kvs.length ≤ L.length
theorem Cnt.nil : Cnt ([] : List (α × Int)) [] := ⟨List.nodup_nil, fun a => by simp [aget], Nat.le_refl _⟩
theorem Cnt.step {kvs : List (α × Int)} {L : List α} (h : Cnt kvs L) (a : α) : Cnt (aput kvs a ((aget kvs a).getD 0 + 1)) (L ++ [a]) := by
  refine ⟨zer _ _ _ h.nd, fun c => ?_, ?_⟩
  · rw [zbp, h.at_ a, h.at_ c, List.count_append]
    by_cases e : c = a
    · subst e
      rw [if_pos rfl]
      by_cases z : L.count c = 0
      · simp [z]
      · simp [z]
    · have e' : ¬ a = c := fun h => e h.symm
      rw [if_neg e]
      simp [e', List.count_singleton]
  · have := zsw kvs a ((aget kvs a).getD 0 + 1)
    have := h.le
    rw [List.length_append, List.length_singleton]; omega
theorem Cnt.mem {kvs : List (α × Int)} {L : List α} (h : Cnt kvs L) (a : α) : a ∈ kvs.map (·.1) ↔ a ∈ L := by
  rw [← zdt, h.at_ a]
  by_cases z : L.count a = 0
  · simp [z, List.count_eq_zero.mp z]
  · simp only [z, if_false, Option.isSome_some, true_iff]
    exact List.count_pos_iff.mp (Nat.pos_of_ne_zero z)
end
def k2 (p : Int × Int) : NestedKey := .tup [.num p.1, .num p.2]
def k3 (p : Int × Int × Int) : NestedKey := .tup [.num p.1, .num p.2.1, .num p.2.2]
theorem zae8 {a b : Int × Int} : k2 a = k2 b ↔ a = b := by
  obtain ⟨a1, a2⟩ := a; obtain ⟨b1, b2⟩ := b
  simp [k2]
theorem zaes (p : Int × Int) : D.key (e2 p) = some (k2 p) := by simp [e2, k2, D.key, D.keys]
theorem zado (p : Int × Int) : (k2 p).depth ≤ 8 := by simp [k2, NestedKey.depth, NestedKey.depthAll]
theorem zaef (p : Int × Int) : nkD (k2 p) = e2 p := by simp [e2, k2, nkD, nkDs]
def drw (ns : List Int) (c : Int) : DO := .lst [.nd .scr (ns.map .int), .int c]
def zef : DRn := d2 fun s i G Q => ∃ (ns : List Int) (c : Int), s = .nd .scr (ns.map .int) ∧ i = .int c ∧ ns.length ≤ 63 ∧ ∀ r : Int, 0 ≤ r → Q (.int r) G
def zr : DRn := d2 fun dr m G Q => ∃ (a : Addr) (ns : List Int) (c n : Int), dr = .ref a ∧ m = .int n ∧ 0 < n ∧ ns.length ≤ 63 ∧ G a = some (drw ns c) ∧ ∀ r : Int, 0 ≤ r → r < n → Q (.int r) (up G a (drw ns (c + 1)))
theorem zu4 : ∀ ds G Q, zef ds G Q → ds.length = 2 := fun ds G Q h => by
  match ds, h with
  | [_, _], _ => rfl
theorem zy4 : ∀ ds G Q, zr ds G Q → ds.length = 2 := fun ds G Q h => by
  match ds, h with
  | [_, _], _ => rfl
abbrev zjw : List Str := ["script", "index", "cell", "far", "rest", "lap", "blend"]
def z56 : DTS :=
    (dSeq (dFor (zcx (zf (dOp dMod (dCB dInt (zf (ze 3) dNil)) (dC (.int 60))) dNil)) (zl 5)
    (dAsg (dOp zv7 (ze 4) (dC (.int 1009))) (zl 4)))
    (dSeq (dIfS (zag (dOp dGt (ze 4) (dC (.int 0))))
    (dRet (dOp dMod (dCB dInt (zf (ze 4) dNil)) (dC (.int 1009))))
    zc7)
    (dSeq (dAsg (dOp dMod (dOp dAdd (dOp dMul (dCB dInt (zf (dOp dAdd (ze 2) (dOp dMul (dC (.int 977)) (ze 1))) dNil)) (dC (.int 48271))) (dOp dMul (dC (.int 31)) (dCB dLen (zf (ze 0) dNil)))) (dC (.int 2147483647))) (zl 6))
    (dSeq (dAsg (dOp dMod (dOp dAdd (dOp dMul (ze 6) (ze 6)) (dOp dMul (dC (.int 40503)) (ze 1))) (dC (.int 2147483629))) (zl 6))
    (dRet (dCB dInt (zf (dOp dMod (dOp dAdd (dOp dMul (ze 6) (dC (.int 69621))) (dOp zv7 (ze 6) (dC (.int 977)))) (dC (.int 2147483587))) dNil)))))))
def zmo : DTS :=
    (dSeq (dAsg (dIf (zag (dOp dNe (ze 0) (zjv dNil))) (dTup (zf (dOp dIx (ze 0) (dOp dMod (ze 1) (dCB dLen (zf (ze 0) dNil)))) (zf (dOp zv7 (ze 1) (dCB dLen (zf (ze 0) dNil))) dNil))) (dTup (zf (dC (.int 12345)) (zf (dC (.int 0)) dNil)))) (ze2 (z4 (zl 2) (z4 (zl 3) zfc)) 2))
    (dSeq (dAsg (dIf (zag (dOp dLt (ze 3) (dC (.int 60)))) (dOp dSub (ze 2) (dOp dPow (dC (.int 10)) (dC (.int 18)))) (dC (.int 0))) (zl 4))
    z56))
abbrev zmb : List Str := ["draw", "many"]
def zpf : DTS :=
    (dSeq (zuj (ze 0) (dC (.int 1)) (dC (.int 1)) z6f zzm dSet)
    (dRet (dOp dMod (dCB dInt (zf (dCB zef (zf (dOp dIx (ze 0) (dC (.int 0))) (zf (dCB dInt (zf (dOp dIx (ze 0) (dC (.int 1))) dNil)) dNil))) dNil)) (ze 1))))
theorem z4w (ns : List Int) : plainDs (ns.map .int) = true := by
  induction ns with
  | nil => rfl
  | cons n ns ih => exact ih
theorem z44 {ns : List Int} {G : DHp} {Q : DVK} (h : Q (.bl (!ns.isEmpty)) G) : dNe (.nd .scr (ns.map .int)) (.nd .lst []) G Q := by
  have hc : cleans (ns.map D.int) = true := zdk (fun _ => rfl) ns
  have e1 : py (.nd .scr (ns.map .int)) = .list (pys (ns.map .int)) := by rw [py]
  have e2 : py (.nd .lst []) = .list [] := by rw [py, pys]
  refine ⟨⟨by show zdm (.nd .scr _) = true; rw [zdm]; exact z4w ns, rfl, ?_, ?_⟩, ?_⟩
  · show SeqAt.shaped (py (.nd .scr (ns.map .int))) = true
    rw [e1]
    unfold SeqAt.shaped
    have := zmh (B := 0) (ds := ns.map D.int) fun d hd => by
      obtain ⟨i, _, rfl⟩ := List.mem_map.mp hd; exact Nat.le_of_eq (zdo i)
    rw [PyData.canLay0, cleans_lay hc, PyData.depth, decide_eq_true (by omega)]; rfl
  · show SeqAt.shaped (py (.nd .lst [])) = true
    rw [e2]; decide
  · show Q (.bl (!PyData.eqv (py (.nd .scr (ns.map .int))) (py (.nd .lst [])))) G
    rw [e1, e2, PyData.eqv]
    cases ns with
    | nil => simpa [pys, PyData.eqvAll] using h
    | cons n ns => simpa [pys, PyData.eqvAll] using h
theorem zps {d : D} {ds : List D} {G : DHp} {Q : DVK} (h : sqD d G = some ds) : dLen [d] G Q = Q (.int ds.length) G := by
  unfold dLen d1
  simp only [h]
theorem zoz {ns : List Int} {G : DHp} {Q : DVK} : dLen [.nd .scr (ns.map .int)] G Q = Q (.int ns.length) G := by
  rw [zps (ds := ns.map .int) rfl, List.length_map]
theorem zn8 {i : Int} {G : DHp} {Q : DVK} : dInt [.int i] G Q = Q (.int i) G := rfl
theorem zs6 {ns : List Int} {c cell far rest : Int} {G : DHp} {Q : DVK} (q : ∀ r : Int, 0 ≤ r → Q (.int r) G) :
    z56 { nx := fun _ G' => Q .non G', rt := Q } [some (.nd .scr (ns.map .int)), some (.int c), some (.int cell), some (.int far), some (.int rest), none, none] G := by
  unfold z56
  refine ⟨(by show (0 : Int) < 60; decide), ⟨by omega, by omega⟩, fun i η G' => G' = G ∧ ∃ z : Int, η = [some (.nd .scr (ns.map .int)), some (.int c), some (.int cell), some (.int far), some (.int z), none, none], ⟨rfl, rest, rfl⟩, fun _ _ _ _ => trivial, ?_, ?_⟩
  · rintro i d η G' hd ⟨rfl, z, rfl⟩
    obtain ⟨x, hx, rfl⟩ := zaq hd
    simp only [dSeq, dIfS, zag, dOp, ze, dC, dRet, zjv, zf, dNil, dTup, zc7, dAsg, zi7, zl, zh0, dM, dM0, dIf, dAnd, dOr, dNot, zna, dOrV, zul, zie, dFz, zrc, zxj, zpz, zyh, dCB, ze2, z4, zfc, zpt, dNeg, dAug, zuj, dFrz, dPar, zhs, zp1, zk7, dYes, zid, i2, d1, d2, d3, zao, List.map_cons, List.map_nil, List.length_cons, List.length_nil, List.cons_append, List.nil_append, List.append_nil, List.getElem?_cons_zero, List.getElem?_cons_succ, List.getElem?_nil, List.replicate, List.set_cons_succ, List.set_cons_zero, Nat.reduceAdd, Nat.reduceSub, Nat.reduceLeDiff, zl6, zl9, zq1, zqn, zpv, zp0, zju, zhz, true_and, and_true, Bool.not_eq_true, Bool.not_true, Bool.not_false, if_true, if_false, Bool.false_eq_true, ite_true, ite_false, reduceIte, reduceCtorEq, decide_eq_true_eq, decide_eq_false_iff_not]
    exact ⟨⟨by decide, by decide⟩, _, (by repeat (first | exact Le.nil | apply Le.keep | apply Le.drop)), rfl, _, rfl⟩
  · rintro η G' ⟨rfl, z, rfl⟩
    simp only [zoz, zn8, dSeq, dIfS, zag, dOp, ze, dC, dRet, zjv, zf, dNil, dTup, zc7, dAsg, zi7, zl, zh0, dM, dM0, dIf, dAnd, dOr, dNot, zna, dOrV, zul, zie, dFz, zrc, zxj, zpz, zyh, dCB, ze2, z4, zfc, zpt, dNeg, dAug, zuj, dFrz, dPar, zhs, zp1, zk7, dYes, zid, i2, d1, d2, d3, zao, List.map_cons, List.map_nil, List.length_cons, List.length_nil, List.cons_append, List.nil_append, List.append_nil, List.getElem?_cons_zero, List.getElem?_cons_succ, List.getElem?_nil, List.replicate, List.set_cons_succ, List.set_cons_zero, Nat.reduceAdd, Nat.reduceSub, Nat.reduceLeDiff, zl6, zl9, zq1, zqn, zpv, zp0, zju, zhz, true_and, and_true, Bool.not_eq_true, Bool.not_true, Bool.not_false, if_true, if_false, Bool.false_eq_true, ite_true, ite_false, reduceIte, reduceCtorEq, decide_eq_true_eq, decide_eq_false_iff_not]
    split
    · exact ⟨by decide, q _ (Int.emod_nonneg _ (by decide))⟩
    · refine ⟨.inl ⟨by decide, by decide⟩, .inr ⟨by decide, by decide⟩, .inl ⟨by decide, by decide⟩, by decide, ?_⟩
      have hb := Int.emod_nonneg ((cell + 977 * c) * 48271 + 31 * (ns.length : Int)) (show (2147483647 : Int) ≠ 0 by decide)
      have hb2 := Int.emod_lt_of_pos ((cell + 977 * c) * 48271 + 31 * (ns.length : Int)) (show (0 : Int) < 2147483647 by decide)
      generalize ((cell + 977 * c) * 48271 + 31 * (ns.length : Int)) % 2147483647 = b at hb hb2 ⊢
      refine ⟨.inl ⟨by omega, by omega⟩, .inl ⟨by decide, by decide⟩, by decide, ?_⟩
      refine ⟨.inr ⟨by decide, by decide⟩, ⟨by decide, by decide⟩, by decide, q _ (Int.emod_nonneg _ (by decide))⟩
theorem z5g {ns : List Int} {i : Int} {G : DHp} {Q : DVK} (h0 : 0 ≤ i) (h1 : i < ns.length) (h : ∀ z : Int, Q (.int z) G) : dIx (.nd .scr (ns.map .int)) (.int i) G Q := by
  show atD (ns.map .int) (.int i) fun d => Q d G
  have hi : i.toNat < (ns.map D.int).length := by rw [List.length_map]; omega
  refine zrf h0 (d := (ns.map D.int)[i.toNat]) (List.getElem?_eq_getElem hi) ?_
  rw [List.getElem_map]
  exact h _
theorem zvm : ∀ ds G Q, zef ds G Q → zmo { nx := fun _ G' => Q .non G', rt := Q } (zao zjw ds) G := fun ds G Q h => by
  match ds, h with
  | [_, _], ⟨ns, c, rfl, rfl, hl, q⟩ =>
    simp only [zmo, zjw, zoz, zn8, dSeq, dIfS, zag, dOp, ze, dC, dRet, zjv, zf, dNil, dTup, zc7, dAsg, zi7, zl, zh0, dM, dM0, dIf, dAnd, dOr, dNot, zna, dOrV, zul, zie, dFz, zrc, zxj, zpz, zyh, dCB, ze2, z4, zfc, zpt, dNeg, dAug, zuj, dFrz, dPar, zhs, zp1, zk7, dYes, zid, i2, d1, d2, d3, zao, List.map_cons, List.map_nil, List.length_cons, List.length_nil, List.cons_append, List.nil_append, List.append_nil, List.getElem?_cons_zero, List.getElem?_cons_succ, List.getElem?_nil, List.replicate, List.set_cons_succ, List.set_cons_zero, Nat.reduceAdd, Nat.reduceSub, Nat.reduceLeDiff, zl6, zl9, zq1, zqn, zpv, zp0, zju, zhz, true_and, and_true, Bool.not_eq_true, Bool.not_true, Bool.not_false, if_true, if_false, Bool.false_eq_true, ite_true, ite_false, reduceIte, reduceCtorEq, decide_eq_true_eq, decide_eq_false_iff_not]
    refine z44 ?_
    simp only [zoz, zn8, dSeq, dIfS, zag, dOp, ze, dC, dRet, zjv, zf, dNil, dTup, zc7, dAsg, zi7, zl, zh0, dM, dM0, dIf, dAnd, dOr, dNot, zna, dOrV, zul, zie, dFz, zrc, zxj, zpz, zyh, dCB, ze2, z4, zfc, zpt, dNeg, dAug, zuj, dFrz, dPar, zhs, zp1, zk7, dYes, zid, i2, d1, d2, d3, zao, List.map_cons, List.map_nil, List.length_cons, List.length_nil, List.cons_append, List.nil_append, List.append_nil, List.getElem?_cons_zero, List.getElem?_cons_succ, List.getElem?_nil, List.replicate, List.set_cons_succ, List.set_cons_zero, Nat.reduceAdd, Nat.reduceSub, Nat.reduceLeDiff, zl6, zl9, zq1, zqn, zpv, zp0, zju, zhz, true_and, and_true, Bool.not_eq_true, Bool.not_true, Bool.not_false, if_true, if_false, Bool.false_eq_true, ite_true, ite_false, reduceIte, reduceCtorEq, decide_eq_true_eq, decide_eq_false_iff_not]
    split
    · rename_i hne
      have hp : 0 < ns.length := by
        cases ns with
        | nil => simp at hne
        | cons _ _ => simp
      refine ⟨by omega, z5g (Int.emod_nonneg _ (by omega)) (Int.emod_lt_of_pos _ (by omega)) fun z => ⟨⟨by omega, by omega⟩, ?_⟩⟩
      split
      · exact ⟨⟨by decide, by decide, by decide⟩, trivial, zs6 q⟩
      · exact zs6 q
    · split
      · exact ⟨⟨by decide, by decide, by decide⟩, zs6 q⟩
      · exact zs6 q
theorem zys : ∀ ds G Q, zr ds G Q → zpf { nx := fun _ G' => Q .non G', rt := Q } (zao zmb ds) G := fun ds G Q h => by
  match ds, h with
  | [_, _], ⟨a, ns, c, n, rfl, rfl, hn, hl, hG, q⟩ =>
    simp only [zpf, zmb, dSeq, dIfS, zag, dOp, ze, dC, dRet, zjv, zf, dNil, dTup, zc7, dAsg, zi7, zl, zh0, dM, dM0, dIf, dAnd, dOr, dNot, zna, dOrV, zul, zie, dFz, zrc, zxj, zpz, zyh, dCB, ze2, z4, zfc, zpt, dNeg, dAug, zuj, dFrz, dPar, zhs, zp1, zk7, dYes, zid, i2, d1, d2, d3, zao, List.map_cons, List.map_nil, List.length_cons, List.length_nil, List.cons_append, List.nil_append, List.append_nil, List.getElem?_cons_zero, List.getElem?_cons_succ, List.getElem?_nil, List.replicate, List.set_cons_succ, List.set_cons_zero, Nat.reduceAdd, Nat.reduceSub, Nat.reduceLeDiff, zl6, zl9, zq1, zqn, zpv, zp0, zju, zhz, true_and, and_true, Bool.not_eq_true, Bool.not_true, Bool.not_false, if_true, if_false, Bool.false_eq_true, ite_true, ite_false, reduceIte, reduceCtorEq, decide_eq_true_eq, decide_eq_false_iff_not]
    have e1 : der (.ref a) G = .nd .lst [.nd .scr (ns.map .int), .int c] := zux hG
    show z6f (.ref a) (.int 1) G _
    unfold z6f
    rw [e1]
    refine zrf (by decide) rfl ?_
    simp only [dSeq, dIfS, zag, dOp, ze, dC, dRet, zjv, zf, dNil, dTup, zc7, dAsg, zi7, zl, zh0, dM, dM0, dIf, dAnd, dOr, dNot, zna, dOrV, zul, zie, dFz, zrc, zxj, zpz, zyh, dCB, ze2, z4, zfc, zpt, dNeg, dAug, zuj, dFrz, dPar, zhs, zp1, zk7, dYes, zid, i2, d1, d2, d3, zao, List.map_cons, List.map_nil, List.length_cons, List.length_nil, List.cons_append, List.nil_append, List.append_nil, List.getElem?_cons_zero, List.getElem?_cons_succ, List.getElem?_nil, List.replicate, List.set_cons_succ, List.set_cons_zero, Nat.reduceAdd, Nat.reduceSub, Nat.reduceLeDiff, zl6, zl9, zq1, zqn, zpv, zp0, zju, zhz, true_and, and_true, Bool.not_eq_true, Bool.not_true, Bool.not_false, if_true, if_false, Bool.false_eq_true, ite_true, ite_false, reduceIte, reduceCtorEq, decide_eq_true_eq, decide_eq_false_iff_not]
    have e2 : up G a (.lst ([D.nd .scr (ns.map .int), .int c].set 1 (.int (c + 1)))) = up G a (drw ns (c + 1)) := rfl
    have hs : ∀ R, R (up G a (drw ns (c + 1))) → dSet (.ref a) (.int 1) (.int (c + 1)) G R := fun R h => by
      show (match G a with | some (.lst ds) => _ | some (.dN kvs) => _ | some (.dK kvs) => _ | _ => False)
      rw [hG]
      exact h
    refine hs _ ?_
    have e3 : der (.ref a) (up G a (drw ns (c + 1))) = .nd .lst [.nd .scr (ns.map .int), .int (c + 1)] := zux zi
    have hix : ∀ (i : Int) (d : D) R, 0 ≤ i → [D.nd .scr (ns.map .int), .int (c + 1)][i.toNat]? = some d → R d (up G a (drw ns (c + 1))) → dIx (.ref a) (.int i) (up G a (drw ns (c + 1))) R := fun i d R h0 h1 h => by
      unfold dIx
      rw [e3]
      exact zrf h0 h1 h
    refine hix 0 _ _ (by decide) rfl ?_
    refine hix 1 _ _ (by decide) rfl ?_
    simp only [zn8, dSeq, dIfS, zag, dOp, ze, dC, dRet, zjv, zf, dNil, dTup, zc7, dAsg, zi7, zl, zh0, dM, dM0, dIf, dAnd, dOr, dNot, zna, dOrV, zul, zie, dFz, zrc, zxj, zpz, zyh, dCB, ze2, z4, zfc, zpt, dNeg, dAug, zuj, dFrz, dPar, zhs, zp1, zk7, dYes, zid, i2, d1, d2, d3, zao, List.map_cons, List.map_nil, List.length_cons, List.length_nil, List.cons_append, List.nil_append, List.append_nil, List.getElem?_cons_zero, List.getElem?_cons_succ, List.getElem?_nil, List.replicate, List.set_cons_succ, List.set_cons_zero, Nat.reduceAdd, Nat.reduceSub, Nat.reduceLeDiff, zl6, zl9, zq1, zqn, zpv, zp0, zju, zhz, true_and, and_true, Bool.not_eq_true, Bool.not_true, Bool.not_false, if_true, if_false, Bool.false_eq_true, ite_true, ite_false, reduceIte, reduceCtorEq, decide_eq_true_eq, decide_eq_false_iff_not]
    refine ⟨ns, c + 1, rfl, rfl, hl, fun r hr => ?_⟩
    simp only [zn8, dSeq, dIfS, zag, dOp, ze, dC, dRet, zjv, zf, dNil, dTup, zc7, dAsg, zi7, zl, zh0, dM, dM0, dIf, dAnd, dOr, dNot, zna, dOrV, zul, zie, dFz, zrc, zxj, zpz, zyh, dCB, ze2, z4, zfc, zpt, dNeg, dAug, zuj, dFrz, dPar, zhs, zp1, zk7, dYes, zid, i2, d1, d2, d3, zao, List.map_cons, List.map_nil, List.length_cons, List.length_nil, List.cons_append, List.nil_append, List.append_nil, List.getElem?_cons_zero, List.getElem?_cons_succ, List.getElem?_nil, List.replicate, List.set_cons_succ, List.set_cons_zero, Nat.reduceAdd, Nat.reduceSub, Nat.reduceLeDiff, zl6, zl9, zq1, zqn, zpv, zp0, zju, zhz, true_and, and_true, Bool.not_eq_true, Bool.not_true, Bool.not_false, if_true, if_false, Bool.false_eq_true, ite_true, ite_false, reduceIte, reduceCtorEq, decide_eq_true_eq, decide_eq_false_iff_not]
    exact ⟨hn, q _ (Int.emod_nonneg _ (by omega)) (Int.emod_lt_of_pos _ hn)⟩
/-- a draw -/
theorem z83 {a : Addr} {ns : List Int} {c n : Int} {G : DHp} {Q : DVK} (hn : 0 < n) (hl : ns.length ≤ 63) (hG : G a = some (drw ns c)) (q : ∀ r : Int, 0 ≤ r → r < n → Q (.int r) (up G a (drw ns (c + 1)))) : zr [.ref a, .int n] G Q :=
  ⟨a, ns, c, n, rfl, rfl, hn, hl, hG, q⟩
end DL
namespace DL
open PySem PySem.Spec PyProof.Rows L2
section
variable {α β : Type} [DecidableEq α]
def eD (k : α → NestedKey) (f : β → D) (kvs : List (α × β)) : D := .nd (.dN ((enc k f kvs).map (·.1))) ((enc k f kvs).map (·.2))
theorem zab7 (k : α → NestedKey) (f : β → D) (kvs : List (α × β)) : DO.tree (.dN (enc k f kvs)) = eD k f kvs := rfl
theorem z1p (k : α → NestedKey) (f : β → D) (kvs : List (α × β)) (G : DHp) : dicN (eD k f kvs) G = some (enc k f kvs) := by
  show some (((enc k f kvs).map (·.1)).zip ((enc k f kvs).map (·.2))) = _
  rw [zqw]
/-- a key that is a tuple -/
structure TKey (k : α → NestedKey) (e : α → D) : Prop where
  inj : ∀ {a b}, k a = k b ↔ a = b
  shp : ∀ a, ∃ ks, e a = .nd .tup ks
  key : ∀ a, D.key (e a) = some (k a)
  dep : ∀ a, (k a).depth ≤ 8
  nk : ∀ a, nkD (k a) = e a
theorem tk2 : TKey k2 e2 := ⟨zae8, fun _ => ⟨_, rfl⟩, zaes, zado, zaef⟩
variable {k : α → NestedKey} {e : α → D} {f : β → D} {kvs : List (α × β)} {G : DHp} {Q : DVK} {a : α}
theorem z2p (T : TKey k e) {p : Addr} {b : β} {R : DHp → Prop} (h : G p = some (.dN (enc k f kvs))) (hl : kvs.length < sizeLine) (q : R (up G p (.dN (enc k f (aput kvs a b))))) : dSet (.ref p) (e a) (f b) G R := by
  obtain ⟨ks, ek⟩ := T.shp a
  show (match G p with | some (.lst ds) => _ | some (.dN kvs) => _ | some (.dK kvs) => _ | _ => False)
  rw [h]
  show (match e a with | .nd .tup ks => _ | _ => False)
  have hk := T.key a
  rw [ek] at hk ⊢
  show (match D.key (.nd .tup ks) with | some k => _ | none => False)
  rw [hk]
  refine ⟨⟨T.dep a, by unfold enc; rw [List.length_map]; exact hl⟩, ?_⟩
  rw [z3r T.inj]
  exact q
theorem z6d (T : TKey k e) {neg : Bool} {y : D} (h : dicN y G = some (enc k f kvs)) (q : Q (.bl (neg != (aget kvs a).isSome)) G) : dIn neg (e a) y G Q := by
  obtain ⟨ks, ek⟩ := T.shp a
  have hk := T.key a
  have hd : ∀ ds, der y G ≠ .nd .lst ds ∧ der y G ≠ .nd .tup ds := fun ds => by
    cases y with
    | ref p =>
      have h' : (match G p with | some (.dN kvs) => some kvs | _ => none) = some (enc k f kvs) := h
      cases g : G p with
      | none => rw [g] at h'; cases h'
      | some o =>
        rw [g] at h'
        cases o with
        | dN kk => rw [zq5, g]; exact ⟨(nomatch ·), (nomatch ·)⟩
        | _ => cases h'
    | nd kd es =>
      cases kd with
      | dN _ => exact ⟨(nomatch ·), (nomatch ·)⟩
      | _ => cases h
    | _ => cases h
  unfold dIn
  split
  · rename_i ds he; exact ((hd ds).1 he).elim
  · rename_i ds he; exact ((hd ds).2 he).elim
  · rw [h]
    show (match e a with | .nd .tup ks => _ | _ => False)
    rw [ek] at hk ⊢
    show (match D.key (.nd .tup ks) with | some k => _ | none => False)
    rw [hk]
    refine ⟨T.dep a, ?_⟩
    rw [zoe T.inj, Option.isSome_map]
    exact q
end
def srtT {α : Type} (f : α → D) (xs : List α) : List α := xs.mergeSort fun a b => PySem.W.dataLe false py (f a) (f b)
theorem zuv {α : Type} (f : α → D) (xs : List α) : srt (xs.map f) = (srtT f xs).map f := by
  unfold srt srtT
  exact (List.map_mergeSort (r := fun a b => PySem.W.dataLe false py (f a) (f b)) (s := PySem.W.dataLe false py) (f := f) (l := xs) fun a _ b _ => rfl).symm
theorem zam {α : Type} (f : α → D) (xs : List α) : (srtT f xs).Perm xs := List.mergeSort_perm _ _
theorem zgn {α : Type} {f : α → D} {d : D} {xs : List α} {G : DHp} {Q : DVK} (h : lsD d G = some (xs.map f)) (hp : ∀ a, zbl (f a) = true) (al : ∀ a b, PySem.W.alike (py (f a)) (py (f b)) = true) (st : PySem.W.Sortable ((xs.map f).map py)) (dp : ∀ a, (py (f a)).depth ≤ 60)
    (q : ∀ p, G p = none → Q (.ref p) (up G p (.lst ((srtT f xs).map f)))) : zjm [d] G Q := by
  show (match lsD d G with | some ds => _ | none => False)
  rw [h]
  refine ⟨⟨cleans_plain (zdk hp xs), ?_, st, fun d hd => ?_⟩, fun p hn => by rw [zuv]; exact q p hn⟩
  · rw [List.map_map]; exact PySem.W.AllAlike.of al
  · obtain ⟨a, _, rfl⟩ := List.mem_map.mp hd; exact dp a
theorem z2m {α β : Type} [DecidableEq α] {k : α → NestedKey} {e : α → D} {f : β → D} (T : TKey k e) {d : D} {kvs : List (α × β)} {G : DHp} {Q : DVK} (h : dicN d G = some (enc k f kvs)) (al : ∀ a b, PySem.W.alike (py (e a)) (py (e b)) = true) (st : PySem.W.Sortable (((kvs.map (·.1)).map e).map py)) (dp : ∀ a, (py (e a)).depth ≤ 60)
    (q : ∀ p, G p = none → Q (.ref p) (up G p (.lst ((srtT e (kvs.map (·.1))).map e)))) : zqq [d] G Q := by
  have hk : znl d G = some ((kvs.map (·.1)).map e) := by
    unfold znl
    rw [h]
    unfold enc
    show some (List.map (fun p => nkD p.1) (List.map (fun p => (k p.1, f p.2)) kvs)) = _
    rw [List.map_map, List.map_map]
    congr 1
    exact List.map_congr_left fun p _ => T.nk p.1
  show (match znl d G with | some ks => _ | none => False)
  rw [hk]
  refine ⟨⟨?_, st, fun d hd => ?_⟩, fun p hn => by rw [zuv]; exact q p hn⟩
  · rw [List.map_map]; exact PySem.W.AllAlike.of al
  · obtain ⟨a, _, rfl⟩ := List.mem_map.mp hd; exact dp a
theorem al2 (a b : Int × Int) : PySem.W.alike (py (e2 a)) (py (e2 b)) = true := by simp [e2, py, pys, PySem.W.alike, PySem.W.alikeAll]
theorem al3 (a b : Int × Int × Int) : PySem.W.alike (py (e3 a)) (py (e3 b)) = true := by simp [e3, py, pys, PySem.W.alike, PySem.W.alikeAll]
theorem st2 (xs : List (Int × Int)) : PySem.W.Sortable ((xs.map e2).map py) := by
  rw [List.map_map]
  exact PySem.W.Sortable.tuples fun b => ⟨.int b.1, [.int b.2], by simp [e2, py, pys]⟩
theorem st3 (xs : List (Int × Int × Int)) : PySem.W.Sortable ((xs.map e3).map py) := by
  rw [List.map_map]
  exact PySem.W.Sortable.tuples fun b => ⟨.int b.1, [.int b.2.1, .int b.2.2], by simp [e3, py, pys]⟩
/-- two sortings of the same are the same -/
theorem zqx {α : Type} {le : α → α → Bool} (anti : ∀ a b, le a b = true → le b a = true → a = b) : ∀ {xs ys : List α}, xs.Perm ys → xs.Pairwise (fun a b => le a b = true) → ys.Pairwise (fun a b => le a b = true) → xs = ys
  | [], ys, p, _, _ => (List.Perm.nil_eq p)
  | x :: xs, [], p, _, _ => absurd p.length_eq (by simp)
  | x :: xs, y :: ys, p, hx, hy => by
    rw [List.pairwise_cons] at hx hy
    have e : x = y := by
      have m1 : x ∈ y :: ys := p.subset (by simp)
      have m2 : y ∈ x :: xs := p.symm.subset (by simp)
      rcases List.mem_cons.mp m1 with e | m1
      · exact e
      · rcases List.mem_cons.mp m2 with e | m2
        · exact e.symm
        · exact anti _ _ (hx.1 y m2) (hy.1 x m1)
    subst e
    rw [zqx anti ((List.perm_cons x).mp p) hx.2 hy.2]
theorem zrv {α : Type} [DecidableEq α] {xs ys : List α} (h1 : xs.Nodup) (h2 : ys.Nodup) (h : ∀ a, a ∈ xs ↔ a ∈ ys) : xs.Perm ys := by
  rw [List.perm_iff_count]
  intro a
  rw [h1.count, h2.count]
  simp only [h]
theorem zms {α β : Type} {f : α → List β} {B : Nat} : ∀ {xs : List α}, (∀ x ∈ xs, (f x).length ≤ B) → (xs.flatMap f).length ≤ xs.length * B
  | [], _ => by simp
  | x :: xs, h => by
    rw [List.flatMap_cons, List.length_append, List.length_cons, Nat.succ_mul]
    have := h x (by simp)
    have := zms (f := f) (B := B) (xs := xs) fun y hy => h y (by simp [hy])
    omega
end DL
namespace DL
open PySem PySem.Spec PyProof.Rows L2
/-- the field n set to d -/
def fput (n : Str) (d : D) : List (Str × D) → List (Str × D)
  | [] => [(n, d)]
  | (g, x) :: r => if g = n then (g, d) :: r else (g, x) :: fput n d r
/-- the field of an instance of the class C -/
def fldD (C : Addr) (n : Str) (x : D) (G : DHp) : Option D := match x with
  | .ref a => (match G a with
    | some (.ins B fs) => if B = C then fs.lookup n else none
    | _ => none)
  | .nd (.ins B ns) ds => if B = C then (ns.zip ds).lookup n else none
  | _ => none
/-- an instance of the class C, without a field m of its own -/
def insD (C : Addr) (m : Str) (x : D) (G : DHp) : Prop := match x with
  | .ref a => (match G a with
    | some (.ins B fs) => B = C ∧ (fs.map (·.1)).contains m = false
    | _ => False)
  | .nd (.ins B ns) _ => B = C ∧ ns.contains m = false
  | _ => False
section
variable {K : Ml} {H : Hp} {G : DHp}
theorem z7h (n : Str) {d : D} {v : V} (q : VR K H G d v) : ∀ {fs : List (Str × D)} {ws : List (Str × V)}, ws.map (·.1) = fs.map (·.1) → VRs K H G (fs.map (·.2)) (ws.map (·.2)) →
    (putF n v ws).map (·.1) = (fput n d fs).map (·.1) ∧ VRs K H G ((fput n d fs).map (·.2)) ((putF n v ws).map (·.2))
  | [], [], _, _ => ⟨rfl, .cons q .nil⟩
  | [], _ :: _, h, _ => by simp at h
  | _ :: _, [], h, _ => by simp at h
  | (g, x) :: fs, (g2, y) :: ws, h, r => by
    simp only [List.map_cons, List.cons.injEq] at h
    obtain ⟨h1, h2⟩ := h
    subst h1
    obtain ⟨v', r', eq, q1, t⟩ := VRs.uncons r
    simp only [List.map_cons, List.cons.injEq] at eq
    obtain ⟨rfl, rfl⟩ := eq
    by_cases hg : g2 = n
    · simp only [fput, putF, hg, if_true, List.map_cons]
      exact ⟨by rw [h2], .cons q t⟩
    · simp only [fput, putF, hg, if_false, List.map_cons]
      obtain ⟨a, b⟩ := z7h n q h2 t
      exact ⟨by rw [a], .cons q1 b⟩
theorem zyf {n : Str} {d : D} : ∀ {fs : List (Str × D)} {ws : List (Str × V)}, ws.map (·.1) = fs.map (·.1) → VRs K H G (fs.map (·.2)) (ws.map (·.2)) → fs.lookup n = some d → ∃ v, ws.lookup n = some v ∧ VR K H G d v
  | [], _, _, _, e => by simp at e
  | _ :: _, [], h, _, _ => by simp at h
  | (g, x) :: fs, (g2, y) :: ws, h, r, e => by
    simp only [List.map_cons, List.cons.injEq] at h
    obtain ⟨h1, h2⟩ := h
    subst h1
    obtain ⟨v', r', eq, q1, t⟩ := VRs.uncons r
    simp only [List.map_cons, List.cons.injEq] at eq
    obtain ⟨rfl, rfl⟩ := eq
    by_cases hg : (n == g2) = true
    · simp only [List.lookup, hg, Option.some.injEq] at e ⊢
      subst e
      exact ⟨_, rfl, q1⟩
    · have hg : (n == g2) = false := by simpa using hg
      simp only [List.lookup, hg] at e ⊢
      exact zyf h2 t e
theorem zt5 {n : Str} : ∀ {ws : List (Str × V)}, (ws.map (·.1)).contains n = false → ws.lookup n = none
  | [], _ => rfl
  | (g, y) :: ws, h => by
    simp only [List.map_cons, List.contains_cons, Bool.or_eq_false_iff] at h
    simp only [List.lookup, h.1]
    exact zt5 h.2
theorem z3c : ∀ {ns : List Str} {vs : List V}, ns.length = vs.length → (ns.zip vs).map (·.1) = ns
  | [], [], _ => rfl
  | n :: ns, v :: vs, h => by
    simp only [List.zip_cons_cons, List.map_cons]
    rw [z3c (by simpa using h)]
theorem z8l : ∀ {ns : List Str} {vs : List V}, ns.length = vs.length → (ns.zip vs).map (·.2) = vs
  | [], [], _ => rfl
  | n :: ns, v :: vs, h => by
    simp only [List.zip_cons_cons, List.map_cons]
    rw [z8l (by simpa using h)]
theorem z3e : ∀ {ns : List Str} {vs : List D}, ns.length = vs.length → (ns.zip vs).map (·.1) = ns
  | [], [], _ => rfl
  | n :: ns, v :: vs, h => by
    simp only [List.zip_cons_cons, List.map_cons]
    rw [z3e (by simpa using h)]
theorem z4b : ∀ {ns : List Str} {vs : List D}, ns.length = vs.length → (ns.zip vs).map (·.2) = vs
  | [], [], _ => rfl
  | n :: ns, v :: vs, h => by
    simp only [List.zip_cons_cons, List.map_cons]
    rw [z4b (by simpa using h)]
/-- what stands where a field is read -/
theorem zab4 {C : Addr} {n : Str} {x d : D} {v : V} (hr : HR K H G) (q : VR K H G x v) (e : fldD C n x G = some d) :
    ∃ a dx ws u, v = .ref a ∧ H a = some (.ins C dx ws) ∧ ws.lookup n = some u ∧ VR K H G d u := by
  cases x with
  | ref a =>
    rw [VR] at q
    have e : (match G a with
      | some (.ins B fs) => if B = C then fs.lookup n else none
      | _ => none) = some d := e
    cases hG : G a with
    | none => rw [hG] at e; cases e
    | some o =>
      rw [hG] at e
      cases o with
      | ins B fs =>
        simp only at e
        by_cases hB : B = C
        · subst hB
          rw [if_pos rfl] at e
          obtain ⟨dx, ws, h1, h2, h3⟩ := hr a _ hG
          obtain ⟨u, h4, h5⟩ := zyf h2 h3 e
          exact ⟨a, dx, ws, u, q, h1, h4, h5⟩
        · rw [if_neg hB] at e; cases e
      | _ => cases e
  | nd k ds =>
    cases k with
    | ins B ns =>
      rw [VR] at q
      obtain ⟨a, vs, rfl, ⟨h0, h1, dx, h2⟩, r⟩ := q
      have e : (if B = C then (ns.zip ds).lookup n else none) = some d := e
      by_cases hB : B = C
      · subst hB
        rw [if_pos rfl] at e
        have hl : ns.length = ds.length := h1.trans r.length
        obtain ⟨u, h4, h5⟩ := zyf (ws := ns.zip vs) (by rw [z3c h1, z3e hl]) (by rw [z8l h1, z4b hl]; exact r) e
        exact ⟨a, dx, _, u, rfl, h2, h4, h5⟩
      · rw [if_neg hB] at e; cases e
    | _ => cases e
  | _ => cases e
/-- what stands where a method is asked for -/
theorem zacd {C : Addr} {m : Str} {x : D} {v : V} (hr : HR K H G) (q : VR K H G x v) (e : insD C m x G) : ∃ a dx ws, v = .ref a ∧ H a = some (.ins C dx ws) ∧ ws.lookup m = none := by
  cases x with
  | ref a =>
    rw [VR] at q
    have e : (match G a with
      | some (.ins B fs) => B = C ∧ (fs.map (·.1)).contains m = false
      | _ => False) := e
    cases hG : G a with
    | none => rw [hG] at e; exact e.elim
    | some o =>
      rw [hG] at e
      cases o with
      | ins B fs =>
        have e2 : B = C := e.1
        have e3 := e.2
        subst e2
        obtain ⟨dx, ws, h1, h2, h3⟩ := hr a _ hG
        exact ⟨a, dx, ws, q, h1, zt5 (by rw [h2]; exact e3)⟩
      | _ => exact e.elim
  | nd k ds =>
    cases k with
    | ins B ns =>
      rw [VR] at q
      obtain ⟨a, vs, rfl, ⟨h0, h1, dx, h2⟩, r⟩ := q
      obtain ⟨rfl, e⟩ := e
      exact ⟨a, dx, _, rfl, h2, zt5 (by rw [z3c h1]; exact e)⟩
    | _ => exact e.elim
  | _ => exact e.elim
end
section
variable {X : Cx}
/-- o.n -/
def dFld (C : Addr) (n : Str) (T : DTE) : DTE := fun η G Q => T η G fun x G1 => match fldD C n x G1 with
  | some d => Q d G1
  | none => False
theorem zce [Bs] {C : Addr} {n : Str} {e : Expr} {T : DTE} {pos : Pos} (c : Cls X.K C) (na : NoAttr X.K C n) (he : PED X e T) (hb : attributeBase e n X.env (eval e X.env) = eval e X.env := by rfl) : PED X (.Attribute e n pos) (dFld C n T) :=
  PE.impI (pe_fld he hb) fun _ _ σ H Q _ ⟨η, G, P, hs, hr, t, k⟩ => ⟨η, G, _, hs, hr, t, fun d G1 v H1 p1 x1 r1 q1 => by
    cases e : fldD C n d G1 with
    | none => rw [e] at p1; exact p1.elim
    | some z =>
      rw [e] at p1
      obtain ⟨a, dx, ws, u, h1, h2, h3, h4⟩ := zab4 r1 q1 e
      exact ⟨a, C, dx, ws, u, h1, h2, c, na, h3, k z G1 u H1 p1 x1 r1 h4⟩⟩
/-- o.n = value, o tracked -/
def zq3 (C : Addr) (n : Str) (To Tv : DTE) : DTS := fun F η G => Tv η G fun y G1 => To η G1 fun x G2 => match x with
  | .ref a => (match G2 a with
    | some (.ins B fs) => (B = C ∧ fs.length < 1000) ∧ F.nx η (up G2 a (.ins C (fput n y fs)))
    | _ => False)
  | _ => False
theorem zlg [Bs] {C : Addr} {n : Str} {o e : Expr} {To Tv : DTE} {pos pos' : Pos} (c : Cls X.K C) (na : NoAttr X.K C n) (ho : PED X o To) (he : PED X e Tv) (hs : swapsWith e (some (.Attribute o n pos')) pos.line X.env = pure false := by rfl) : PSD X (.Assign [.Attribute o n pos'] e pos) (zq3 C n To Tv) :=
  PS.impI (ps_fld ho he hs) fun _ _ σ H E _ ⟨η, G, F, hs, hr, t, k⟩ => ⟨η, G, _, hs, hr, t, fun y G1 vy H1 p1 x1 r1 q1 => ⟨η, G1, _, hs.ext hr x1, r1, p1, fun d G2 v H2 p2 x2 r2 q2 => by
    cases d with
    | ref a =>
      rw [VR] at q2
      cases hG : G2 a with
      | none =>
        have : False := by simpa [hG] using p2
        exact this.elim
      | some ob =>
        cases ob with
        | ins B fs =>
          have p2 : (B = C ∧ fs.length < 1000) ∧ F.nx η (up G2 a (.ins C (fput n y fs))) := by simpa [hG] using p2
          obtain ⟨⟨rfl, hl⟩, p2⟩ := p2
          obtain ⟨dx, ws, h1, h2, h3⟩ := r2 a _ hG
          have x3 : Ext H2 G2 (upd H2 a (.ins B dx (putF n vy ws))) (up G2 a (.ins B (fput n y fs))) := .write hG
          obtain ⟨h4, h5⟩ := z7h n (q1.ext r1 x2) h2 h3
          have hl2 : ws.length < 1000 := by
            have := congrArg List.length h2
            rw [List.length_map, List.length_map] at this
            omega
          refine ⟨a, B, dx, ws, q2, h1, c, na, hl2, k.nx η _ σ _ p2 ((x1.trans x2).trans x3) (hs.ext hr ((x1.trans x2).trans x3)) (r2.write hG ⟨dx, _, upd_same, h4, h5.ext r2 x3⟩)⟩
        | _ =>
          have : False := by simpa [hG] using p2
          exact this.elim
    | _ => exact p2.elim⟩⟩
/-- C(..): the new instance stays tracked -/
def zsg (C : Addr) (sp : DRn) (T : DTA) : DTE := fun η G Q => T η G fun ds G1 => ∀ x, G1 x = none → sp (.ref x :: ds) (up G1 x (.ins C [])) fun d G2 => d = .non ∧ Q (.ref x) G2
theorem zmf [Bs] {C : Addr} {k : Nat} {f : Addr} {fd : FuncData} {ps : List Str} {sp : DRn} {x : Str} {p pos : Pos} {e : Expr} {es : List Expr} {T : DTA} (M : Mk X.K C f) (F : FnD X.prog X.w X.K X.mg X.base k f fd ps sp) (hr : Room (k + 1) X.A) (hm : X.mg x = some (.ref C)) (hb : Binds X.K fd ps [])
    (ha : PAD X (e :: es) T) (hg : Gl X x := by rfl) (hdb : (x == ("__debug__" : Str)) = false := by decide) (he : starEach (e :: es) X.env = (false, eval e X.env) :: starEach es X.env := by rfl) (hpl : (backTo pos (starEach es X.env)).any (·.1) = false := by rfl) :
    PED X (.Call (.Name x p) (e :: es) [] pos) (zsg C sp T) :=
  PE.impI (pe_make M F hr hg hm hb .nil (zabq (X := X)) ha hdb he hpl) fun _ _ σ H Q _ ⟨η, G, P, hs, hr, t, k⟩ => ⟨η, G, _, hs, hr, t, fun ds G1 vs H1 p1 x1 r1 q1 => fun x dx hx hdx hne => by
    have x2 : Ext H1 G1 (upd H1 dx (.own x)) G1 := .laid hdx
    have r2 : HR X.ml (upd H1 dx (.own x)) G1 := r1.laid hdx
    have hx' : (upd H1 dx (.own x)) x = none := by rw [upd_ne hne.symm]; exact hx
    have x3 : Ext (upd H1 dx (.own x)) G1 (upd (upd H1 dx (.own x)) x (.ins C dx [])) (up G1 x (.ins C [])) := .new hx'
    have r3 := r2.new (u := .ins C []) hx' ⟨dx, [], upd_same, rfl, .nil⟩
    show z20 X.ml sp (.ref x :: (vs ++ [])) _ _
    rw [List.append_nil]
    exact ⟨.ref x :: ds, _, _, .cons (by rw [VR]) ((q1.ext r1 x2).ext r2 x3), r3, p1 x (r1.free hx), fun d G' v H' ⟨pd, pq⟩ xx rr qq => ⟨by subst pd; rw [VR] at qq; exact qq, k _ G' (.ref x) H' pq (((x1.trans x2).trans x3).trans xx) rr (by rw [VR])⟩⟩⟩
/-- o.m(..), m a def of the class -/
def zo5 (C : Addr) (m : Str) (sp : DRn) (To : DTE) (T : DTA) : DTE := fun η G Q => To η G fun x G1 => insD C m x G1 ∧ T η G1 fun ds G2 => sp (x :: ds) G2 Q
theorem zmd [Bs] {C : Addr} {m : Str} {k : Nat} {f : Addr} {fd : FuncData} {ps : List Str} {sp : DRn} {apos pos : Pos} {o e : Expr} {es : List Expr} {To : DTE} {T : DTA} {pl : Sem Bool} (c : Cls X.K C) (hm : Meth X.K C m f) (F : FnD X.prog X.w X.K X.mg X.base k f fd ps sp) (hr : Room k X.A) (hb : Binds X.K fd ps [])
    (ho : PED X o To) (ha : PAD X (e :: es) T) (hst : starEach (e :: es) X.env = (false, eval e X.env) :: starEach es X.env := by rfl) (hpl : (backTo pos (starEach es X.env)).any (·.1) = false := by rfl)
    (ht : eval (.Call (.Attribute o m apos) (e :: es) [] pos) X.env = (do
      let ov ← eval o X.env
      standAt apos.atName
      let (g, first) ← holding [ov] (getMethod ov m pl)
      callWith pos g first (backTo pos (starEach (e :: es) X.env)) (backToKw pos (keywordEach [] X.env))) := by rfl) :
    PED X (.Call (.Attribute o m apos) (e :: es) [] pos) (zo5 C m sp To T) :=
  PE.impI (pe_meth (pl := pl) ho c hm F hr hb .nil (zabq (X := X)) ha hst hpl ht) fun _ _ σ H Q _ ⟨η, G, P, hs, hr, t, k⟩ => ⟨η, G, _, hs, hr, t, fun d G1 v H1 ⟨pi, p1⟩ x1 r1 q1 => by
    obtain ⟨a, dx, ws, h1, h2, h3⟩ := zacd r1 q1 pi
    refine ⟨a, dx, ws, h1, h2, h3, η, G1, _, hs.ext hr x1, r1, p1, fun ds G2 vs H2 p2 x2 r2 q2 => ?_⟩
    show z20 X.ml sp (v :: (vs ++ [])) _ _
    rw [List.append_nil]
    exact ⟨d :: ds, G2, P, .cons (q1.ext r1 x2) q2, r2, p2, fun d' G' v' H' p x r q => k d' G' v' H' p ((x1.trans x2).trans x) r q⟩⟩
end
end DL
namespace DL
open PySem PySem.Spec PyProof.Rows L2
/-- the type of a tree -/
def kTy (x : D) (G : DHp) : Option Value := match x with
  | .non => some (.type "NoneType")
  | .bl _ => some (.type "bool")
  | .int _ => some (.type "int")
  | .str _ => some (.type "str")
  | .nd .tup _ => some (.type "tuple")
  | .nd .lst _ => some (.type "list")
  | .nd .scr _ => some (.type "list")
  | .nd (.dK _) _ => some (.type "dict")
  | .nd (.ins C _) _ => some (.ref C)
  | .ref a => (match G a with
    | some (.lst _) => some (.type "list")
    | some (.dK _) => some (.type "dict")
    | some (.ins C _) => some (.ref C)
    | _ => none)
  | _ => none
def kCl (c : D) : Option Value := match c with
  | .ty n => some (.type n)
  | .ref C => some (.ref C)
  | _ => none
/-- a class whose instances tell their class -/
structure IsC (K : PySem.W.Frag) (C : Addr) : Prop where
  cl : Cls K C
  own : PySem.W.findIn K (.ref C) "__class__" = some (some (.builtin "object.__class__"))
  gs : PySem.W.specialIn K (.builtin "object.__class__") "__get__" = some (some (.builtin "getset_descriptor.__get__"))
  tk : PySem.W.takesIn K (.builtin "object.__class__") = some true
  ob : PySem.W.mroIn K C (.type "object") = some true
/-- the table tells the truth -/
def zac2 (K : PySem.W.Frag) (I : Value → Value → Option Bool) : Prop := ∀ t u b, I t u = some b → PySem.W.kitOne K t u = some b ∧ ∀ C, t = .ref C → IsC K C
def dIsi (I : Value → Value → Option Bool) : DRn := d2 fun x c G Q => match kTy x G, kCl c with
  | some t, some u => (match I t u with
    | some b => Q (.bl b) G
    | none => False)
  | _, _ => False
abbrev z75 : List String := ["int", "bool", "str", "tuple", "list", "dict", "NoneType"]
/-- of the built-in types -/
def tyIs (a b : String) : Option Bool := if a = b then some true else if a ∈ z75 ∧ b ∈ ["int", "bool", "str", "tuple", "list", "dict"] then some (a == "bool" && b == "int") else none
theorem z9m : ∀ a ∈ z75, ∀ b ∈ ["int", "bool", "str", "tuple", "list", "dict"], a ≠ b → kitB a b = some (a == "bool" && b == "int") := by decide +kernel
theorem z8z {K : PySem.W.Frag} {a b : String} {r : Bool} (h : tyIs a b = some r) : PySem.W.kitOne K (.type a) (.type b) = some r := by
  unfold tyIs at h
  refine kit_ty ?_
  split at h
  · rename_i e
    subst e
    cases h
    unfold kitB
    rw [if_pos (by simp)]
  · rename_i e
    split at h
    · rename_i q
      rw [z9m a q.1 b q.2 e]
      exact h
    · cases h
section
variable {X : Cx}
theorem zaex {K : Ml} {H : Hp} {G : DHp} {x : D} {v : V} {t : Value} (hr : HR K H G) (q : VR K H G x v) (e : kTy x G = some t) (ic : ∀ C, t = .ref C → IsC K.K C) : TyX K.K H v t := by
  cases x with
  | non => rw [VR] at q; subst q; cases e; exact .base .non
  | bl b => rw [VR] at q; subst q; cases e; exact .base (.bl _)
  | int b => rw [VR] at q; subst q; cases e; exact .base (.int _)
  | str b => rw [VR] at q; subst q; cases e; exact .base (.str _)
  | ty n => cases e
  | ref a =>
    rw [VR] at q
    subst q
    cases hG : G a with
    | none => simp [kTy, hG] at e
    | some o =>
      cases o with
      | lst ds =>
        have e : Value.type "list" = t := by simpa [kTy, hG] using e
        subst e
        obtain ⟨vs, h1, _⟩ := hr a _ hG
        exact .base (.lst h1)
      | dK kvs =>
        have e : Value.type "dict" = t := by simpa [kTy, hG] using e
        subst e
        obtain ⟨ws, h1, _⟩ := hr a _ hG
        exact .base (.dK h1)
      | dN kvs => simp [kTy, hG] at e
      | rw _ _ _ => simp [kTy, hG] at e
      | ins C fs =>
        have e : Value.ref C = t := by simpa [kTy, hG] using e
        subst e
        obtain ⟨dx, ws, h1, _⟩ := hr a _ hG
        have c := ic C rfl
        exact .base (.ins h1 c.cl c.own c.gs c.tk c.ob)
  | nd k ds =>
    rw [VR] at q
    obtain ⟨a, vs, rfl, hh, _⟩ := q
    cases k with
    | tup =>
      cases e
      rcases hh with (h | ⟨o, h⟩) | ⟨o, its, n, h1, h2, _⟩
      · exact .base (.tup h)
      · exact .fTuple h
      · exact .kTuple h1 h2
    | lst =>
      cases e
      exact .base (.lst hh.2)
    | scr =>
      cases e
      rcases hh with ⟨o, h⟩ | ⟨o, its, n, h1, h2, _⟩
      · exact .base (.frz h)
      · exact .kList h1 h2
    | dK ks =>
      cases e
      obtain ⟨_, o, h⟩ := hh
      exact .fDict h
    | dN ks => cases e
    | ins C ns =>
      cases e
      obtain ⟨_, _, dx, h⟩ := hh
      have c := ic C rfl
      exact .base (.ins h c.cl c.own c.gs c.tk c.ob)
theorem zu9 {I : Value → Value → Option Bool} (hI : zac2 X.K I) : zkr X (.builtin "isinstance") (dIsi I) := zw4 fun pins s σ H G x y v u d e P Iv rx ry hr q1 q2 t => by
  cases ht : kTy d G with
  | none => rw [ht] at t; exact t.elim
  | some tt =>
    cases hc : kCl e with
    | none => rw [ht, hc] at t; exact t.elim
    | some uu =>
      rw [ht, hc] at t
      simp only at t
      cases hi : I tt uu with
      | none => rw [hi] at t; exact t.elim
      | some b =>
        rw [hi] at t
        obtain ⟨k1, k2⟩ := hI _ _ _ hi
        have cv : ClsV y uu := by
          cases e with
          | ty n => rw [VR] at q2; subst q2; cases hc; exact .ty n
          | ref C => rw [VR] at q2; subst q2; cases hc; exact .own C
          | _ => cases hc
        exact thn (call_isi pins s σ H [x, y] [v, u] (fun z H' => z = .bl b ∧ H' = H) Iv (.cons rx (.cons ry .nil)) ⟨x, y, tt, uu, b, rfl, cv, zaex hr q1 ht k2, k1, rfl, rfl⟩) fun w s' ⟨z, H', I', rz, e1, e2⟩ => by
          subst e1 e2
          exact ⟨.bl b, .bl b, _, _, I', rz, t, .refl _ _, hr, by rw [VR]⟩
end
/-- the items by their places -/
def zpq (ds : List D) : List D := ds.mapIdx fun i d => .nd .tup [.int (i : Nat), d]
def zgt (T : DTA) : DTI := fun η G R => T η G fun ds G1 => match ds with
  | [d] => (match d with
    | .nd .tup xs => R (zpq xs) zco G1
    | .nd .lst xs => R (zpq xs) zco G1
    | .nd .scr xs => R (zpq xs) zco G1
    | _ => False)
  | _ => False
theorem zgb {ds : List D} {i : Nat} {d : D} (h : (zpq ds)[i]? = some d) : ∃ x, ds[i]? = some x ∧ d = .nd .tup [.int (i : Nat), x] := by
  unfold zpq at h
  rw [List.getElem?_mapIdx] at h
  cases e : ds[i]? with
  | none => rw [e] at h; cases h
  | some x => rw [e] at h; cases h; exact ⟨x, rfl, rfl⟩
theorem zib (ds : List D) : (zpq ds).length = ds.length := by unfold zpq; rw [List.length_mapIdx]
theorem Ite.itD {K : Ml} {H1 : Hp} {G1 : DHp} {a : Addr} {ds : List D} (h : ∀ H G, Ext H1 G1 H G → HR K H G → ∃ vs, SqL K.K H a vs ∧ VRs K H G ds vs) : ItD K H1 G1 (Ite K.K a) (zpq ds) zco := by
  intro i H G x r o
  obtain ⟨vs, q, v⟩ := h H G x r
  refine ⟨fun d e => ?_, fun l => ⟨vs, q, by rw [v.length]; rw [zib] at l; exact l⟩⟩
  obtain ⟨z, e1, rfl⟩ := zgb e
  obtain ⟨u, e2, q2⟩ := v.get e1
  refine ⟨⟨vs, u, q, e2⟩, fun y H' ⟨T, y2, e3, hT, e5, e4⟩ => ?_⟩
  subst e3 e5
  have e6 := e4 vs q
  rw [e2] at e6; cases e6
  have x2 : Ext H G (upd H T (.tup [.int (i : Nat), u])) G := .laid hT
  refine ⟨x2, r.laid hT, ?_⟩
  rw [VR]
  exact ⟨T, _, rfl, .inl (.inl upd_same), .cons (by rw [VR]) (.cons (q2.ext r x2) .nil)⟩
/-- the tuple at a, each item in a new pair -/
def IteT (K : PySem.W.Frag) (a : Addr) : It :=
  ⟨fun i H => ∃ (xs : List V) (x : V), SqT K H a xs ∧ xs[i]? = some x,
    fun i H v H' => ∃ T x, v = .ref T ∧ H T = none ∧ H' = upd H T (.tup [.int (i : Nat), x]) ∧ ∀ xs, SqT K H a xs → xs[i]? = some x,
    fun i H => ∃ xs : List V, SqT K H a xs ∧ xs.length ≤ i⟩
theorem IteT.itD {K : Ml} {H1 : Hp} {G1 : DHp} {a : Addr} {ds : List D} (h : ∀ H G, Ext H1 G1 H G → HR K H G → ∃ vs, SqT K.K H a vs ∧ VRs K H G ds vs) : ItD K H1 G1 (IteT K.K a) (zpq ds) zco := by
  intro i H G x r o
  obtain ⟨vs, q, v⟩ := h H G x r
  refine ⟨fun d e => ?_, fun l => ⟨vs, q, by rw [v.length]; rw [zib] at l; exact l⟩⟩
  obtain ⟨z, e1, rfl⟩ := zgb e
  obtain ⟨u, e2, q2⟩ := v.get e1
  refine ⟨⟨vs, u, q, e2⟩, fun y H' ⟨T, y2, e3, hT, e5, e4⟩ => ?_⟩
  subst e3 e5
  have e6 := e4 vs q
  rw [e2] at e6; cases e6
  have x2 : Ext H G (upd H T (.tup [.int (i : Nat), u])) G := .laid hT
  refine ⟨x2, r.laid hT, ?_⟩
  rw [VR]
  exact ⟨T, _, rfl, .inl (.inl upd_same), .cons (by rw [VR]) (.cons (q2.ext r x2) .nil)⟩
theorem z9g {P : Program} {w : World} {K : PySem.W.Frag} {elts : List Expr} {kk : Nat} {tpos : Pos} (a e it : Addr) (hai : a ≠ it) :
    Turn P w K (.Tuple elts kk tpos) (IteT K a) [e, it] e (fun i h => (∃ old, IsEnum h e it ((i : Nat) : Int) old) ∧ h.IsTupleIter it a i ∧ e ≠ it ∧ e ≠ a) where
  mem := by simp
  obj := fun i h ⟨⟨old, he⟩, ⟨o, ho, hc, hd⟩, _⟩ b hb => by
    rcases (by simpa using hb : b = e ∨ b = it) with z | z
    · subst z; exact ⟨_, he, fun v q => nomatch q⟩
    · subst z; exact ⟨o, ho, fun v q => by rw [hd] at q; cases q⟩
  keep := fun i h h' ⟨⟨old, he⟩, hi, hne⟩ k => ⟨⟨old, k e (by simp) _ he⟩, hi.at fun o q => k it (by simp) o q, hne⟩
  item := by
    intro X hP hw hK hc i pins s σ H E I hf ⟨⟨old, he⟩, hit, hne, hea⟩ ⟨xs, x, hq, hx⟩
    subst hP hw hK
    obtain ⟨its, rv, p, hz⟩ := I.tuple hq
    obtain ⟨u, hu, ru⟩ := rv.get hx
    have hel : e < s.heap.objs.size := Heap.lt_size he
    have hil : it < s.heap.objs.size := by obtain ⟨_, q, _⟩ := hit; exact Heap.lt_size q
    have hlt : i < its.toArray.size := by
      rw [List.size_toArray]
      exact (List.getElem?_eq_some_iff.mp hu).1
    have D := Draws.tuple (prog := X.prog) (w := X.w) (A := X.A.in1) (I.ok.hd hc) it a hai its.toArray
    refine wpAny_pyNext_enum_itemD D he ⟨hit, p⟩ hlt hne (by simp only [List.mem_cons, List.not_mem_nil, or_false, not_or]; exact ⟨hne, hea⟩) fun x' h' tk hP ho hs' hT hsz hk => ?_
    have e0 : x' = u := by
      rw [List.getElem?_toArray] at hP
      rw [hu] at hP; cases hP; rfl
    subst e0
    refine ⟨_, rfl, wpAny_letOwnedTupleGo_enum (s := { s with heap := h', toks := tk + 1 }) ho fun h'' he' sb => ?_⟩
    have hT2 : h''.get? s.heap.objs.size = some { cls := .type "tuple", data := .seq #[.int i tk, x'] } := (sb.2 _ (Nat.ne_of_gt hel)).trans hT
    have new : ObjOk X.prog X.w (upd H s.heap.objs.size (.tup [.int (i : Nat), x])) h'' s.heap.objs.size (.tup [.int (i : Nat), x]) :=
      ⟨by show 2 ≤ sizeLine; decide, [.int i tk, x'], .cons ⟨_, rfl⟩ (.cons ru .nil), ⟨_, hT2, rfl, _, rfl⟩⟩
    have I1 : Inv X pins σ (upd H s.heap.objs.size (.tup [.int (i : Nat), x])) { s with heap := h'', toks := tk + 1 } :=
      I.turnedNew (ch := [e, it]) (fun b ob hb q => by
        have hb1 : b ≠ e := fun z => hb (by simp [z])
        have hb2 : b ≠ it := fun z => hb (by simp [z])
        exact (sb.2 b hb1).trans (hk b ob hb1 hb2 q)) hf (Nat.le_refl _) new
    refine ⟨.ref s.heap.objs.size, _, I1, rfl, ⟨_, x, rfl, I.hok.fresh (Nat.le_refl _), rfl, fun ys hy => by rw [I.tuple_inj hy hq]; exact hx⟩, ⟨⟨x', ?_⟩, hs'.1.at fun o q => (sb.2 it (Ne.symm hne)).trans q, hne, hea⟩, fun b hb => ?_⟩
    · have e1 : ((i + 1 : Nat) : Int) = (i : Int) + 1 := by omega
      show IsEnum h'' e it ((i + 1 : Nat) : Int) x'
      rw [e1]; exact he'
    have hb' : b < s.heap.objs.size := by
      rcases (by simpa using hb : b = e ∨ b = it) with z | z
      · subst z; exact hel
      · subst z; exact hil
    rw [upd_ne (Nat.ne_of_lt hb')]
    exact (hf b hb).1
  done := by
    intro X hP hw hK hc i pins s σ H E I hf ⟨⟨old, he⟩, hit, hne, hea⟩ ⟨xs, hq, hx⟩
    subst hP hw hK
    obtain ⟨its, rv, p, hz⟩ := I.tuple hq
    obtain ⟨f0, f1, f2, f3, f4, f5⟩ := hf it (by simp)
    have hl := rv.length
    have hT : s.TypeIs (.ref e) "enumerate" := ⟨_, he, rfl⟩
    unfold pyNext
    refine wpAny_bind (wpAny_attempt (wpAny_callSpecial?_slot (name := Str.ofString "__next__") hT F.slot_enumerate_next (wpAny_call_entry F.slot_enumerate_next hT F.entry_enumerate_next ?_ (F.args_enumerate_next_1 _))))
    show wpAny _ _ (field (.ref e) 2 >>= _) _ _ _
    refine wpAny_bind (wpAny_field he rfl (x := .ref it) rfl ?_)
    refine wpAny_bind (wpAny_nextOf_tuple_end (I.ok.hd hc) hit p (by simp; omega) fun h' x hx1 hx2 => ?_)
    obtain ⟨o, ho, hc2⟩ := hx2
    refine wpAny_bind (wpAny_isInstance (T := "StopIteration") (b := true) ⟨o, ho, hc2⟩ isSubtype_stop ?_)
    exact wpAny_pure ⟨rfl, I.turned (t' := s.toks) (fun b o hb q => hx1 b o hb q) f0 f1 f3 f4 f5⟩
  self := fun A i s Q E ⟨⟨_, he⟩, _⟩ h => wpAny_pyIter_enum he h
set_option maxHeartbeats 8000000 in
theorem z55 {v : Value} {o : Obj} {S : Heap → Prop} (B : Begins v o S) :
    Meets (Builtin.«enumerate.__new__» ⟨[.type "enumerate", v], []⟩) (fun _ R s => S s.heap ∧
      R (.ok (.ret (.ref (s.heap.push o).objs.size))) { s with heap := (s.heap.push o).push { cls := .type "enumerate", data := .fields #[.none, .bool false, .ref s.heap.objs.size, rawInt 0, .none, .none] } }) :=
  .of_wp fun prog w A R s ⟨h1, h⟩ => by
    obtain ⟨hp, g, d, tk, os⟩ := s
    have hsub := sub_enumerate
    have q1 : ∀ {A' : Around} {E : Value → Shared → Prop} {Q : Value → Shared → Prop}, Q (.ref hp.objs.size) ⟨hp.push o, g, d, tk, os⟩ → wpAny (model prog w) A' (pyIter v) Q E ⟨hp, g, d, tk, os⟩ :=
      fun q => B.iter prog w _ _ ⟨hp, g, d, tk, os⟩ _ h1 q
    wp_walk using q1
    refine wpAny_stack_any fun st => wpAny_pure ?_
    split
    · rename_i c _ _ _ _ _
      cases (c == Value.type "enumerate")
      · wp_walk using q1
        exact ⟨_, rfl, h⟩
      · wp_walk using q1
        exact ⟨_, rfl, h⟩
    · wp_walk using q1
      exact ⟨_, rfl, h⟩
/-- enumerate(v) -/
theorem zaan {prog : Program} {w : World} {A : Around} {E : Value → Shared → Prop} {s : Shared} {v : Value} {o : Obj} {S : Heap → Prop} {Q : Value → Shared → Prop} (B : Begins v o S) (h1 : S s.heap)
    (h : ∀ h', IsEnum h' (s.heap.objs.size + 1) s.heap.objs.size 0 .none → h'.get? s.heap.objs.size = some o → (∀ b u, s.heap.get? b = some u → h'.get? b = some u) → Q (.ref (s.heap.objs.size + 1)) { s with heap := h' }) :
    wpAny (model prog w) A (call (.type "enumerate") [v]) Q E s := by
  refine callType_new F.called_enumerate (by decide) (F.typeCall_enumerate_1 _) (F.newCall_enumerate_1 _) (fun obj => F.args_object_init_2 obj _) F.entry_enumerate_new (z55 B) ⟨h1, ?_⟩
  have hz : (s.heap.push o).objs.size = s.heap.objs.size + 1 := Heap.size_push ..
  have he : IsEnum ((s.heap.push o).push { cls := .type "enumerate", data := .fields #[.none, .bool false, .ref s.heap.objs.size, rawInt 0, .none, .none] }) (s.heap.objs.size + 1) s.heap.objs.size 0 .none := by
    have q := Heap.get?_push_size (s.heap.push o) (o := { cls := .type "enumerate", data := .fields #[.none, .bool false, .ref s.heap.objs.size, rawInt 0, .none, .none] }) rfl
    rw [hz] at q; exact q
  show _ ∧ _
  rw [hz]
  exact ⟨⟨_, he, rfl⟩, h _ he (Heap.get?_push_of_some _ (Heap.get?_push_size _ B.free)) fun b u x => Heap.get?_push_of_some _ (Heap.get?_push_of_some _ x)⟩
section
variable {X : Cx}
theorem zix [Bs] {e : Expr} {T : DTA} {p pos tpos : Pos} {elts : List Expr} {kk : Nat} (hm : X.mg "enumerate" = none) (ha : PAD X [e] T) (hg : Gl X "enumerate" := by rfl) (hs : starEach [e] X.env = [(false, eval e X.env)] := by rfl) :
    PID X (.Tuple elts kk tpos) (.Call (.Name "enumerate" p) [e] [] pos) (zgt T) := by
  refine ⟨fun pins s σ H R I ⟨η, G, P, hs', hr, t, k⟩ => ?_⟩
  refine Call_ (ld_blt I hg hm boot_enumerate (PyProof.Rows.callWith_type1 (thn (ha.run pos pins s σ H (fun vs H1 => ∃ ds G1, (match ds with
    | [d] => (match d with
      | .nd .tup xs => P (zpq xs) zco G1
      | .nd .lst xs => P (zpq xs) zco G1
      | .nd .scr xs => P (zpq xs) zco G1
      | _ => False)
    | _ => False) ∧ Ext H G H1 G1 ∧ HR X.ml H1 G1 ∧ VRs X.ml H1 G1 ds vs) I ⟨η, G, _, hs', hr, t, fun ds G1 vs H1 p x r q => ⟨ds, G1, p, x, r, q⟩⟩) fun us s1 ⟨vs, H1, I1, r1, ds, G1, p, x, r, q⟩ => ?_) hs rfl))
  match ds, p, q with
  | [d], p, q =>
    obtain ⟨v, r', rfl, q1, q2⟩ := q.uncons
    cases q2.nil_of
    obtain ⟨u, rfl, ru⟩ := r1.one
    have fin2 : ∀ b, b ∈ [s1.heap.objs.size + 1, s1.heap.objs.size] → FpOk X pins H1 b := fun b hb => by
      have hle : s1.heap.objs.size ≤ b := by
        rcases (by simpa using hb : b = s1.heap.objs.size + 1 ∨ b = s1.heap.objs.size) with z | z <;> omega
      exact I1.fpOk hle (I1.hok.fresh hle)
    have doL : ∀ (a : Addr) (ws : List V) (xs : List D), v = .ref a → SqL X.K H1 a ws → (∀ H G, Ext H1 G1 H G → HR X.ml H G → ∃ vs, SqL X.K H a vs ∧ VRs X.ml H G xs vs) → P (zpq xs) zco G1 →
        wpAny (model X.prog X.w) X.A (call (.type "enumerate") [u]) (fun v s1 => wpAny (model X.prog X.w) X.A (pyIter v) (PIE X pins σ (.Tuple elts kk tpos) R) X.xe s1) X.xe s1 := by
      intro a ws xs e hq hh p
      subst e
      cases ru
      obtain ⟨its, rv, p', hz⟩ := I1.list hq
      refine call_enumerate_list p'.isList fun h' he hit hsz hk => wpAny_pyIter_enum he ?_
      have I2 : Inv X pins σ H1 { s1 with heap := h' } := I1.kept (t' := s1.toks) hk
      exact ⟨s1.heap.objs.size + 1, [s1.heap.objs.size + 1, s1.heap.objs.size], _, _, H1, rfl, I2, turn_enum a (s1.heap.objs.size + 1) s1.heap.objs.size, ⟨⟨.none, he⟩, hit, Nat.succ_ne_self _⟩, fin2, k _ _ G1 _ H1 p x r (Ite.itD hh)⟩
    cases d with
    | nd kd xs =>
      rw [VR] at q1
      obtain ⟨a, ws, e, hq, vr⟩ := q1
      cases kd with
      | tup =>
        subst e
        cases ru
        obtain ⟨its, rv, p', hz⟩ := I1.tuple hq
        have p2 : s1.heap.IsTuple a its.toArray := p'
        have hal : a < s1.heap.objs.size := by obtain ⟨_, z, _⟩ := p2; exact Heap.lt_size z
        refine zaan (begins_tuple a its.toArray) p2 fun h' he hit hk => wpAny_pyIter_enum he ?_
        have I2 : Inv X pins σ H1 { s1 with heap := h' } := I1.kept (t' := s1.toks) hk
        exact ⟨s1.heap.objs.size + 1, [s1.heap.objs.size + 1, s1.heap.objs.size], _, _, H1, rfl, I2, z9g a (s1.heap.objs.size + 1) s1.heap.objs.size (Nat.ne_of_lt hal), ⟨⟨.none, he⟩, ⟨_, hit, rfl, rfl⟩, Nat.succ_ne_self _, Nat.ne_of_gt (Nat.lt_succ_of_lt hal)⟩, fin2,
          k _ _ G1 _ H1 p x r (IteT.itD fun H' G' x' r' => ⟨ws, Held.ext (k := .tup) r x' hq, vr.ext r x'⟩)⟩
      | lst => exact doL a ws xs e (zdu hq (.inl rfl)) (fun H' G' x' r' => ⟨ws, zdu (hq.ext r x') (.inl rfl), vr.ext r x'⟩) p
      | scr => exact doL a ws xs e (zdu hq (.inr rfl)) (fun H' G' x' r' => ⟨ws, zdu (hq.ext r x') (.inr rfl), vr.ext r x'⟩) p
      | _ => exact p.elim
    | _ => exact p.elim
  | [], p, _ => exact p.elim
  | _ :: _ :: _, p, _ => exact p.elim
end
end DL
namespace DL
open PySem PySem.Spec PyProof.Rows L2
/-- a frozen dict's items, as pairs -/
def prD (ps : List (D × D)) : List D := ps.map fun p => .nd .tup [p.1, p.2]
/-- what is asked of things that are sorted -/
def Srts (ds : List D) : Prop := plainDs ds = true ∧ PySem.W.AllAlike (ds.map py) ∧ PySem.W.Sortable (ds.map py) ∧ ∀ d ∈ ds, (py d).depth ≤ 60
section
variable {X : Cx}
/-- d.items(), as a thing -/
def zafu [Bs] (K : Ml) (T : DTE) : TE := fun σ H Q => ∃ η G P, SR K H G σ η ∧ HR K H G ∧ T η G P ∧
  ∀ d G1 v H1, P d G1 → Ext H G H1 G1 → HR K H1 G1 → VR K H1 G1 d v → ∃ ps a, dicP d = some ps ∧ v = .ref a ∧ ∀ r, H1 r = none → Q (.ref r) (upd H1 r (L2.DX.itemsO r a))
theorem zacv [Bs] {e : Expr} {T : DTE} {apos cpos : Pos} (he : PED X e T) (hbase : attributeBase e "items" X.env (eval e X.env) = eval e X.env := by rfl) (hline : (apos.endLine == cpos.line) = true := by rfl) :
    PE X (.Call (.Attribute e "items" apos) [] [] cpos) (zafu X.ml T) := by
  refine ⟨fun pins s σ H Q I ⟨η, G, P, hs, hr, t, k⟩ => ?_⟩
  refine wpAny_Call_method (T := "dict") (id := "dict.items") hbase rfl hline F.plainAttrs_dict F.slot_dict_items F.type_dict_items (thn (he.run pins s σ H (fun v H1 => ∃ d G1, P d G1 ∧ Ext H G H1 G1 ∧ HR X.ml H1 G1 ∧ VR X.ml H1 G1 d v) I ⟨η, G, _, hs, hr, t, fun d G1 v H1 p x r q => ⟨d, G1, p, x, r, q⟩⟩) fun u s1 ⟨x, H1, I1, rx, d, G1, p, x1, r1, q1⟩ => ?_)
  obtain ⟨ps, a0, e, ev, kk⟩ := k d G1 x H1 p x1 r1 q1
  obtain ⟨h1, h2⟩ := z3z I1 r1 q1 rx (z7k e G1)
  obtain ⟨a, es, ep, kv, e0, ent, pr, hl, ra, hra⟩ := zze I1 r1 q1 e
  rw [ev] at e0
  cases e0
  subst ev
  cases (show u = Value.ref a0 from rx)
  refine ⟨h1, h2, ?_⟩
  have hm := ra.raw I1
  have hf : H1 s1.heap.objs.size = none := I1.hok.fresh (Nat.le_refl _)
  show wpAny _ _ (callWith cpos (.builtin "dict.items") [.ref a0] [] []) _ X.xe s1
  refine method_meetsIn F.slot_dict_items F.entry_dict_items rfl (PySem.evalArgs_none ⟨rfl, h1, F.args_dict_items_1 _, _, meets_dict_items_raw a0 ra.2, ⟨es, ep, hm⟩, ?_⟩)
  exact ⟨.ref s1.heap.objs.size, upd H1 s1.heap.objs.size (L2.DX.itemsO s1.heap.objs.size a0), I1.laid (t' := s1.toks) (fun b o q => Heap.get?_push_of_some _ q) (Nat.le_refl _) (L2.DX.itemsO_ok (Heap.get?_push_size _ rfl)), rfl, kk _ hf⟩
def zads (K : Ml) : List V → Hp → VK → Prop := fun xs H Q => ∃ r a d G ps, xs = [.ref r] ∧ H r = some (L2.DX.itemsO r a) ∧ HR K H G ∧ VR K H G d (.ref a) ∧ dicP d = some ps ∧ Srts (prD ps) ∧
  ∀ H' l, G l = none → Ext H G H' (up G l (.lst (srt (prD ps)))) → HR K H' (up G l (.lst (srt (prD ps)))) → Q (.ref l) H'
theorem z5i (hu : X.A.units + 64 < cLine) (hc : X.calm = true) : CallR X (.builtin "sorted") (zads X.ml) := by
  intro pins s σ H xs us Q I rv ⟨r, a, d, G, ps, exs, hH, hr, q, e, ⟨p1, p2, p3, p4⟩, k⟩
  subst exs
  obtain ⟨u, rfl, ru⟩ := rv.one
  cases ru
  have view : s.heap.IsItemsView r a := (show ObjOk X.prog X.w H s.heap r (L2.DX.itemsO r a) from I.hok r _ hH).1
  obtain ⟨a', es, ep, kv, e0, ent, pr, hl, ra, hra⟩ := zze I hr q e
  cases e0
  have raw := ra.raw I
  have hn : es.size ≤ sizeLine := by
    rcases ra.1 with h | ⟨o, kvs, h, hx, hd⟩
    · cases d with
      | nd kd ds =>
        cases kd with
        | dN ks =>
          rw [VR] at q
          obtain ⟨a2, vs, e2, ⟨_, xs, es2, ep2, g1, g2, g3, g4, g5, g6, _⟩, _⟩ := q
          cases e2
          rw [h] at g1
          have e3 : rawO a es ep = rawO a es2 ep2 := Option.some.inj g1
          obtain ⟨φ, _, _⟩ := (show ObjOk X.prog X.w H s.heap a (rawO a es2 ep2) from e3 ▸ I.hok a _ h)
          obtain ⟨o1, w1, _, w3⟩ := raw
          obtain ⟨o2, w4, _, w6⟩ := φ
          rw [w1] at w4
          cases w4
          rw [w3] at w6
          cases w6
          have := congrArg List.length g3
          rw [Array.length_toList, List.length_map] at this
          have g7 := congrArg List.length g4
          rw [List.length_map] at g7
          omega
        | dK ks =>
          rw [VR] at q
          obtain ⟨a2, vs, e2, ⟨_, o, ho⟩, _⟩ := q
          cases e2
          rw [h] at ho
          cases ho
        | _ => cases e
      | _ => cases e
    · obtain ⟨hs, hgd, hx, es2, ep2, ws, hdt, hsz, kv2, hm⟩ := I.frzK h
      rw [hd] at hdt
      cases hdt
      obtain ⟨_, z, _⟩ := I.hok a _ h
      rw [hsz]
      exact z
  refine Calls.call_function_entry PyProof.Rows.kind_sorted PyProof.Rows.plain_sorted PyProof.Rows.entry_sorted (PyProof.Rows.args_sorted1 _) ?_
  unfold Builtin.«sorted»
  refine wpAny_bind (m := checkCount "sorted" 1 1 _) (wpAny_pure ?_)
  refine wpAny_bind (PySem.W.dil_collect (A := X.A.in1) (es := es) (ep := ep) (I.ok.hd hc) view raw hn fun h' tk as hk hla hG => ?_)
  have I1 : Inv X pins σ H { s with heap := h', toks := tk } := I.kept hk
  have nd : as.Nodup := List.Pairwise.imp (fun h => Nat.ne_of_lt h) hG.rise
  obtain ⟨H2, I2, keep, laid⟩ := L2.DX.takeT (P := fun b vs => ∃ (j : Nat) (x y : V), as[j]? = some b ∧ kv[j]? = some (x, y) ∧ vs = [x, y]) I as H I1 nd fun b hb => by
    have hle : s.heap.objs.size ≤ b := Nat.le_of_lt (hG.above b hb)
    obtain ⟨j, hj⟩ := List.mem_iff_getElem?.mp hb
    obtain ⟨hj2, hob⟩ := hG.pairs j b hj
    have hjk : j < kv.length := by rw [ent.size]; exact hj2
    have hkj : kv[j]? = some (kv[j]) := List.getElem?_eq_getElem hjk
    obtain ⟨r1, r2⟩ := ent.at hkj hj2
    exact ⟨hle, I.hok.fresh hle, [kv[j].1, kv[j].2], ⟨j, _, _, hj, hkj, rfl⟩, fun H3 => ⟨by show 2 ≤ sizeLine; decide, [es[j].key, es[j].val], .cons r1 (.cons r2 .nil), ⟨_, hob, rfl, _, rfl⟩⟩⟩
  have x2 : Ext H G H2 G := ⟨fun b o h n => ⟨keep b o h, n⟩⟩
  have hr2 : HR X.ml H2 G := fun b o h => by
    have h1 := hr b o h
    obtain ⟨z, hz⟩ := h1.some
    exact h1.ext hr x2 ((keep b z hz).trans hz.symm)
  have pr2 := pr.ext hr x2
  have hlen : (as.map Value.ref).length ≤ sizeLine := by rw [List.length_map, hla]; exact hn
  have vrs : VRs X.ml H2 G (prD ps) (as.map V.ref) := by
    have go : ∀ (n : Nat) (ps' : List (D × D)) (as' : List Addr), ps'.length = as'.length → (∀ j p, ps'[j]? = some p → ps[n + j]? = some p) → (∀ j b, as'[j]? = some b → as[n + j]? = some b) → VRs X.ml H2 G (prD ps') (as'.map V.ref) := by
      intro n ps'
      induction ps' generalizing n with
      | nil =>
        intro as' h1 _ _
        cases as' with
        | nil => exact .nil
        | cons _ _ => simp at h1
      | cons p ps' ih =>
        intro as' h1 h2 h3
        cases as' with
        | nil => simp at h1
        | cons b as' =>
          have hb : as[n]? = some b := by simpa using h3 0 b rfl
          have hp : ps[n]? = some p := by simpa using h2 0 p rfl
          obtain ⟨x, y, e1, q1, q2⟩ := pr2.get hl hp
          obtain ⟨vs, ⟨j, x', y', g1, g2, g3⟩, g4⟩ := laid b (List.mem_of_getElem? hb)
          have hjn : j = n := by
            obtain ⟨l1, l3⟩ := List.getElem?_eq_some_iff.mp g1
            obtain ⟨l2, l4⟩ := List.getElem?_eq_some_iff.mp hb
            have pw := List.pairwise_iff_getElem.mp hG.rise
            rcases Nat.lt_trichotomy j n with h | h | h
            · have := pw j n l1 l2 h
              rw [l3, l4] at this
              exact absurd this (Nat.lt_irrefl _)
            · exact h
            · have := pw n j l2 l1 h
              rw [l3, l4] at this
              exact absurd this (Nat.lt_irrefl _)
          subst hjn
          rw [e1] at g2
          cases g2
          subst g3
          refine .cons ?_ (ih (j + 1) as' (by simpa using h1) (fun i z hz => by have := h2 (i + 1) z (by simpa using hz); rw [show j + 1 + i = j + (i + 1) by omega]; exact this) fun i z hz => by have := h3 (i + 1) z (by simpa using hz); rw [show j + 1 + i = j + (i + 1) by omega]; exact this)
          rw [VR]
          exact ⟨b, _, rfl, .inl (.inl g4), .cons q1 (.cons q2 .nil)⟩
    exact go 0 ps as (by rw [hla, hl, ent.size]) (fun j p h => by rw [Nat.zero_add]; exact h) fun j b h => by rw [Nat.zero_add]; exact h
  have rvs : Vals (as.map V.ref) (as.map Value.ref) := by
    have go : ∀ l : List Addr, Vals (l.map V.ref) (l.map Value.ref) := fun l => by
      induction l with
      | nil => exact .nil
      | cons b l ih => exact .cons rfl ih
    exact go as
  refine wpAny_bind (wpAny_newList ?_ hlen)
  have hoL : (h'.push (seqObj "list" (as.map Value.ref).toArray 0)).get? h'.objs.size = some (seqObj "list" (as.map Value.ref).toArray 0) := Heap.get?_push_size _ rfl
  show wpAny _ _ _ _ _ { s with heap := h'.push (seqObj "list" (as.map Value.ref).toArray 0), toks := tk }
  have er : PySem.W.EachIs (fun v b => ∃ rs, Reads (h'.push (seqObj "list" (List.map Value.ref as).toArray 0)) v (py b) rs ∧ h'.objs.size ∉ rs) (as.map Value.ref) (prD ps) := (zof I2 vrs rvs p1).mono fun u b ⟨l, rd⟩ => ⟨l, PyProof.Rows.Reads.keeps (fun b o q => Heap.get?_push_of_some _ q) rd, fun hm => by
    obtain ⟨o, ho⟩ := PyProof.On.reads_mem_get rd _ hm
    exact absurd (Heap.lt_size ho) (Nat.lt_irrefl _)⟩
  have al : (prD ps).length = as.length := by rw [prD, List.length_map, hla, hl, ent.size]
  have hlen2 : (prD ps).length ≤ sizeLine := by rw [al, hla]; exact hn
  refine wpAny_bind (wpAny_holding (PySem.W.list_sort_data (s := { s with heap := h'.push (seqObj "list" (as.map Value.ref).toArray 0), toks := tk }) (R := fun u d => ∃ v, RelV v u ∧ VR X.ml H2 G d v) (enc := py) (bs := prD ps) hoL (zus vrs rvs) er p2 p3 hlen2 (fun b hb => by have := p4 b hb; show X.A.units + 1 + 1 + _ < _; omega) fun out ho eo => ?_))
  obtain ⟨ws, rw', qs'⟩ := znz eo
  obtain ⟨e', he'⟩ := PyProof.Rows.sortedHeap_at (vs := as.map Value.ref) (out := List.toArray out) hoL
  have hp : H2 h'.objs.size = none := I2.hok.fresh (Nat.le_refl _)
  have x3 : Ext H2 G (upd H2 h'.objs.size (.lst ws)) (up G h'.objs.size (.lst (srt (prD ps)))) := .new hp
  refine wpAny_pure ⟨_, rfl, .ref h'.objs.size, upd H2 h'.objs.size (.lst ws), I2.laid (t' := tk) (fun b u e => ?_) (Nat.le_refl _)
    (show ObjOk X.prog X.w _ _ _ (.lst ws) from ⟨by rw [rw'.length, ho]; exact hlen2, out, e', rw', he'⟩), rfl, k _ _ (hr2.free hp) (x2.trans x3) (hr2.new hp ⟨ws, upd_same, qs'.ext hr2 x3⟩)⟩
  have hb : b < h'.objs.size := Heap.lt_size e
  rw [PyProof.Rows.sortedHeap_old (Nat.ne_of_lt hb) (by rw [size_push']; exact Nat.lt_succ_of_lt hb)]
  exact Heap.get?_push_of_some _ e
/-- sorted(d.items()): tracked -/
def zya (T : DTE) : DTE := fun η G Q => T η G fun d G1 => match dicP d with
  | some ps => Srts (prD ps) ∧ ∀ p, G1 p = none → Q (.ref p) (up G1 p (.lst (srt (prD ps))))
  | none => False
theorem z18 [Bs] {e : Expr} {T : DTE} {p apos cpos pos : Pos} (hu : X.A.units + 64 < cLine) (hc : X.calm = true) (hm : X.mg "sorted" = none) (hv : bootBuiltins "sorted" = some (.builtin "sorted")) (he : PED X e T) (hg : Gl X "sorted" := by rfl)
    (hbase : attributeBase e "items" X.env (eval e X.env) = eval e X.env := by rfl) (hline : (apos.endLine == cpos.line) = true := by rfl)
    (h1 : starEach [.Call (.Attribute e "items" apos) [] [] cpos] X.env = (false, eval (.Call (.Attribute e "items" apos) [] [] cpos) X.env) :: starEach [] X.env := by rfl) (h2 : (backTo pos (starEach [] X.env)).any (·.1) = false := by rfl) :
    PED X (.Call (.Name "sorted" p) [.Call (.Attribute e "items" apos) [] [] cpos] [] pos) (zya T) :=
  PE.impI (pe_callB (z5i hu hc) hg hm hv (pa_cons (zacv he hbase hline) pa_nil h1) (by decide) (by decide) h1 h2) fun _ _ σ H Q _ ⟨η, G, P, hs, hr, t, k⟩ => by
    refine ⟨η, G, _, hs, hr, t, fun d G1 v H1 p1 x1 r1 q1 => ?_⟩
    split at p1
    · rename_i ps e1
      obtain ⟨ss, p1⟩ := p1
      have hv : ∃ a, v = .ref a := by
        cases d with
        | nd kd ds => rw [VR] at q1; obtain ⟨a, _, e2, _⟩ := q1; exact ⟨a, e2⟩
        | _ => cases e1
      obtain ⟨a, rfl⟩ := hv
      refine ⟨ps, a, e1, rfl, fun r hr0 => ?_⟩
      have x2 : Ext H1 G1 (upd H1 r (L2.DX.itemsO r a)) G1 := .laid hr0
      exact ⟨r, a, d, G1, ps, rfl, upd_same, r1.laid hr0, q1.ext r1 x2, e1, ss, fun H' l hl x3 r3 => k (.ref l) _ (.ref l) H' (p1 l hl) ((x1.trans x2).trans x3) r3 (by rw [VR])⟩
    · exact p1.elim
end
end DL
namespace DL
open PySem PySem.Spec PyProof.Rows L2
def zipL (xs ys : List D) : List D := List.zipWith (fun a b => D.nd .tup [a, b]) xs ys
def zacx (T : DTA) : DTI := fun η G R => T η G fun ds G1 => match ds with
  | [.nd .tup xs, .nd .tup ys] => R (zipL xs ys) zco G1
  | [.nd .lst xs, .nd .lst ys] => R (zipL xs ys) zco G1
  | _ => False
theorem z3w {xs ys : List D} {i : Nat} {d : D} (h : (zipL xs ys)[i]? = some d) : ∃ x y, xs[i]? = some x ∧ ys[i]? = some y ∧ d = .nd .tup [x, y] := by
  unfold zipL at h
  rw [List.getElem?_zipWith] at h
  cases e1 : xs[i]? with
  | none => rw [e1] at h; cases h
  | some x =>
    cases e2 : ys[i]? with
    | none => rw [e1, e2] at h; cases h
    | some y => rw [e1, e2] at h; cases h; exact ⟨x, y, rfl, rfl, rfl⟩
theorem zz7 {xs ys : List D} {i : Nat} (h : (zipL xs ys).length ≤ i) : xs.length ≤ i ∨ ys.length ≤ i := by
  unfold zipL at h
  rw [List.length_zipWith] at h
  omega
theorem ItzT.itD {K : Ml} {H1 : Hp} {G1 : DHp} {a b : Addr} {xs ys : List D} (h : ∀ H G, Ext H1 G1 H G → HR K H G → ∃ vs ws, SqT K.K H a vs ∧ SqT K.K H b ws ∧ VRs K H G xs vs ∧ VRs K H G ys ws) : ItD K H1 G1 (RZ.ItzT K.K a b) (zipL xs ys) zco := by
  intro i H G x r o
  obtain ⟨vs, ws, qa, qb, va, vb⟩ := h H G x r
  refine ⟨fun d e => ?_, fun l => ⟨vs, ws, qa, qb, by rw [va.length, vb.length]; exact zz7 l⟩⟩
  obtain ⟨p, q, e1, e2, rfl⟩ := z3w e
  obtain ⟨u, g1, r1⟩ := va.get e1
  obtain ⟨u2, g2, r2⟩ := vb.get e2
  refine ⟨⟨vs, ws, u, u2, qa, qb, g1, g2⟩, fun y H' ⟨T, z1, z2, e3, hT, e5, k1, k2⟩ => ?_⟩
  subst e3 e5
  have e6 := k1 vs qa
  have e7 := k2 ws qb
  rw [g1] at e6; cases e6
  rw [g2] at e7; cases e7
  have x2 : Ext H G (upd H T (.tup [u, u2])) G := .laid hT
  refine ⟨x2, r.laid hT, ?_⟩
  rw [VR]
  exact ⟨T, _, rfl, .inl (.inl upd_same), .cons (r1.ext r x2) (.cons (r2.ext r x2) .nil)⟩
theorem Itz.itD {K : Ml} {H1 : Hp} {G1 : DHp} {a b : Addr} {xs ys : List D} (h : ∀ H G, Ext H1 G1 H G → HR K H G → ∃ vs ws, SqL K.K H a vs ∧ SqL K.K H b ws ∧ VRs K H G xs vs ∧ VRs K H G ys ws) : ItD K H1 G1 (Itz K.K a b) (zipL xs ys) zco := by
  intro i H G x r o
  obtain ⟨vs, ws, qa, qb, va, vb⟩ := h H G x r
  refine ⟨fun d e => ?_, fun l => ⟨vs, ws, qa, qb, by rw [va.length, vb.length]; exact zz7 l⟩⟩
  obtain ⟨p, q, e1, e2, rfl⟩ := z3w e
  obtain ⟨u, g1, r1⟩ := va.get e1
  obtain ⟨u2, g2, r2⟩ := vb.get e2
  refine ⟨⟨vs, ws, u, u2, qa, qb, g1, g2⟩, fun y H' ⟨T, z1, z2, e3, hT, e5, k1, k2⟩ => ?_⟩
  subst e3 e5
  have e6 := k1 vs qa
  have e7 := k2 ws qb
  rw [g1] at e6; cases e6
  rw [g2] at e7; cases e7
  have x2 : Ext H G (upd H T (.tup [u, u2])) G := .laid hT
  refine ⟨x2, r.laid hT, ?_⟩
  rw [VR]
  exact ⟨T, _, rfl, .inl (.inl upd_same), .cons (r1.ext r x2) (.cons (r2.ext r x2) .nil)⟩
section
variable {X : Cx}
theorem zabk [Bs] {e e2 : Expr} {T : DTA} {p pos tpos : Pos} {elts : List Expr} {kk : Nat} (hm : X.mg "zip" = none) (ha : PAD X [e, e2] T) (hg : Gl X "zip" := by rfl)
    (hs : starEach [e, e2] X.env = (false, eval e X.env) :: starEach [e2] X.env := by rfl) (hpl : (backTo pos (starEach [e2] X.env)).any (·.1) = false := by rfl) :
    PID X (.Tuple elts kk tpos) (.Call (.Name "zip" p) [e, e2] [] pos) (zacx T) := by
  refine ⟨fun pins s σ H R I ⟨η, G, P, hs', hr, t, k⟩ => (RZ.pi_zipA hg hm ha hs hpl).run pins s σ H R I ⟨η, G, _, hs', hr, t, fun ds G1 vs H1 p x r q => ?_⟩⟩
  split at p
  · rename_i xs ys
    obtain ⟨v1, r1, rfl, a1, q1⟩ := q.uncons
    obtain ⟨v2, r2, rfl, a2, q2⟩ := q1.uncons
    cases q2.nil_of
    rw [VR] at a1 a2
    obtain ⟨a, ws, rfl, ha, va⟩ := a1
    obtain ⟨b, us, rfl, hb, vb⟩ := a2
    exact ⟨a, b, ws, us, rfl, .inr ⟨ha, hb, k _ _ G1 _ H1 p x r (ItzT.itD fun H' G' x' r' => ⟨ws, us, Held.ext (k := .tup) r x' ha, Held.ext (k := .tup) r x' hb, va.ext r x', vb.ext r x'⟩)⟩⟩
  · rename_i xs ys
    obtain ⟨v1, r1, rfl, a1, q1⟩ := q.uncons
    obtain ⟨v2, r2, rfl, a2, q2⟩ := q1.uncons
    cases q2.nil_of
    rw [VR] at a1 a2
    obtain ⟨a, ws, rfl, ha, va⟩ := a1
    obtain ⟨b, us, rfl, hb, vb⟩ := a2
    exact ⟨a, b, ws, us, rfl, .inl ⟨zdu ha (.inl rfl), zdu hb (.inl rfl), k _ _ G1 _ H1 p x r (Itz.itD fun H' G' x' r' => ⟨ws, us, zdu (ha.ext r x') (.inl rfl), zdu (hb.ext r x') (.inl rfl), va.ext r x', vb.ext r x'⟩)⟩⟩
  · exact p.elim
def z9t (T : DTE) (R : DTA) : DTA := fun η G Q => T η G fun d G1 => match d with
  | .nd .tup xs => R η G1 fun ds G2 => Q (xs ++ ds) G2
  | .nd .lst xs => R η G1 fun ds G2 => Q (xs ++ ds) G2
  | _ => False
theorem z3q [Bs] {e : Expr} {es : List Expr} {T : DTE} {R : DTA} {p : Pos} (ha : PED X e T) (hb : PAD X es R) (hs : starEach (.Starred e p :: es) X.env = (true, eval e X.env) :: starEach es X.env := by rfl) : PAD X (.Starred e p :: es) (z9t T R) :=
  PA.impI (StX.pa_star ha hb hs) fun pins s σ H Q I ⟨η, G, P, hs, hr, t, k⟩ =>
    ⟨η, G, _, hs, hr, t, fun d1 G1 v1 H1 p1 x1 r1 q1 => by
      split at p1
      · rename_i xs
        rw [VR] at q1
        obtain ⟨a, vs, rfl, ha, va⟩ := q1
        exact ⟨a, vs, rfl, .inl ha, η, G1, _, hs.ext hr x1, r1, p1, fun ds G2 ws H2 p2 x2 r2 q2 => k (xs ++ ds) G2 (vs ++ ws) H2 p2 (x1.trans x2) r2 ((va.ext r1 x2).append q2)⟩
      · rename_i xs
        rw [VR] at q1
        obtain ⟨a, vs, rfl, ha, va⟩ := q1
        exact ⟨a, vs, rfl, .inr (zdu ha (.inl rfl)), η, G1, _, hs.ext hr x1, r1, p1, fun ds G2 ws H2 p2 x2 r2 q2 => k (xs ++ ds) G2 (vs ++ ws) H2 p2 (x1.trans x2) r2 ((va.ext r1 x2).append q2)⟩
      · exact p1.elim⟩
def z6b : DRn := d1 fun d G Q => match dicK d G with
  | some kvs => ∀ p, G p = none → Q (.ref p) (up G p (.dK kvs))
  | none => False
theorem z9i : zkr X (.type "dict") z6b := zjq fun pins s σ H G x v d P I rx hr q1 t => by
  split at t
  · rename_i kvs e
    obtain ⟨a, ws, rfl, h1, h2, h3⟩ := zpc hr q1 e
    cases rx
    refine d_copyOf I h1 fun p s' hp I' => ?_
    have x2 : Ext H G (upd H p (.dK ws)) (up G p (.dK kvs)) := .new hp
    exact ⟨.ref p, .ref p, _, _, I', rfl, t p (hr.free hp), x2, hr.new hp ⟨ws, upd_same, h2, h3.ext hr x2⟩, by rw [VR]⟩
  · exact t.elim
end
end DL
namespace DL
open PySem PySem.Spec PyProof.Rows L2
/-- the table of the built-in types, and of the classes cs by themselves -/
def zsq (cs : List Addr) : Value → Value → Option Bool := fun t u => match t, u with
  | .type a, .type b => tyIs a b
  | .ref C, .ref B => if C = B ∧ C ∈ cs then some true else none
  | _, _ => none
theorem z86 {K : PySem.W.Frag} {cs : List Addr} (h : ∀ C ∈ cs, IsC K C) : zac2 K (zsq cs) := by
  intro t u b e
  cases t with
  | type a =>
    cases u with
    | type c => exact ⟨z8z e, fun C z => nomatch z⟩
    | _ => cases e
  | ref C =>
    cases u with
    | ref B =>
      have e : (if C = B ∧ C ∈ cs then some true else none) = some b := e
      by_cases q : C = B ∧ C ∈ cs
      · rw [if_pos q] at e
        cases e
        obtain ⟨rfl, hC⟩ := q
        refine ⟨?_, fun C' z => by cases z; exact h _ hC⟩
        unfold PySem.W.kitOne
        rw [if_pos (by simp)]
      · rw [if_neg q] at e; cases e
    | _ => cases e
  | _ => cases u <;> cases e
section
variable {cs : List Addr} {G : DHp} {Q : DVK}
theorem z1t {i : Int} : (dIsi (zsq cs)) [.int i, .ty "int"] G Q ↔ Q (.bl true) G := Iff.rfl
theorem z0q {i : Int} : (dIsi (zsq cs)) [.int i, .ty "bool"] G Q ↔ Q (.bl false) G := Iff.rfl
theorem zg8 {ds : List D} : (dIsi (zsq cs)) [.nd .tup ds, .ty "tuple"] G Q ↔ Q (.bl true) G := Iff.rfl
end
def zabr (i j l : Nat) (T : DTA) : DTS := fun F η G => T η G fun ds G1 => match ds with
  | [d, e, f] => F.nx (((η.set i (some d)).set j (some e)).set l (some f)) G1
  | _ => False
section
variable {X : Cx}
theorem z82 [Bs] {i j l : Nat} {x y z : Str} {a b c : Expr} {T : DTA} {px py pz pt pos : Pos} {kt k2 pt2} (hc : X.calm = true) (hN : X.N.Nodup) (hi : X.N[i]? = some x) (hj : X.N[j]? = some y) (hl : X.N[l]? = some z) (hij : i ≠ j) (hil : i ≠ l) (hjl : j ≠ l)
    (hx : X.env.scope.names.lookup x = some .local) (hy : X.env.scope.names.lookup y = some .local) (hz : X.env.scope.names.lookup z = some .local) (ha : PAD X [a, b, c] T)
    (hw : swappedStores [.Tuple [.Name x px, .Name y py, .Name z pz] kt pt] (.Tuple [a, b, c] k2 pt2) X.env = pure (some [x, y, z])) (hs : swapsWithSole [.Tuple [.Name x px, .Name y py, .Name z pz] kt pt] (.Tuple [a, b, c] k2 pt2) pos.line X.env = pure false := by rfl) :
    PSD X (.Assign [.Tuple [.Name x px, .Name y py, .Name z pz] kt pt] (.Tuple [a, b, c] k2 pt2) pos) (zabr i j l T) :=
  PS.impI (ps_par3 hc hN hi hj hl hij hil hjl hx hy hz ha hw hs) fun _ _ σ H E _ ⟨η, G, F, hs, hr, t, k⟩ => ⟨η, G, _, hs, hr, t, fun ds G1 vs H1 p1 x1 r1 q1 => by
    match ds, p1, q1 with
    | [d, e, f], p1, q1 =>
      obtain ⟨v, r, rfl, a1, q2⟩ := q1.uncons
      obtain ⟨w, r', rfl, a2, q3⟩ := q2.uncons
      obtain ⟨u, r'', rfl, a3, q4⟩ := q3.uncons
      rw [q4.nil_of]
      exact ⟨v, w, u, rfl, k.nx _ G1 _ H1 p1 x1 ((((hs.ext hr x1).set i a1).set j a2).set l a3) r1⟩
    | [], p1, _ => exact p1.elim
    | [_], p1, _ => exact p1.elim
    | [_, _], p1, _ => exact p1.elim
    | _ :: _ :: _ :: _ :: _, p1, _ => exact p1.elim⟩
end
end DL
namespace DL
open PySem PySem.Spec PyProof.Rows L2
section
variable {β : Type}
abbrev kI (i : Int) : Key := Sum.inl i
theorem zw5 {a b : Int} : kI a = kI b ↔ a = b := ⟨fun h => by injection h, fun h => by rw [h]⟩
abbrev oK (f : β → D) (kvs : List (Int × β)) : DO := .dK (enc kI f kvs)
def eK (f : β → D) (kvs : List (Int × β)) : D := .nd (.dK ((enc kI f kvs).map (·.1))) ((enc kI f kvs).map (·.2))
theorem zxb (f : β → D) (kvs : List (Int × β)) : DO.tree (oK f kvs) = eK f kvs := rfl
theorem zme (f : β → D) (kvs : List (Int × β)) (G : DHp) : dicK (eK f kvs) G = some (enc kI f kvs) := by
  show some (((enc kI f kvs).map (·.1)).zip ((enc kI f kvs).map (·.2))) = _
  rw [zqw]
theorem zth {f : β → D} {kvs : List (Int × β)} {G : DHp} {p : Addr} (e : G p = some (oK f kvs)) : dicK (.ref p) G = some (enc kI f kvs) := by
  show (match G p with | some (.dK kvs) => some kvs | _ => none) = _
  rw [e]
theorem znp {x : D} {G : DHp} {kvs : List (Key × D)} (h : dicK x G = some kvs) : dicN x G = none ∧ der x G = x := by
  cases x with
  | ref p =>
    have h' : (match G p with | some (.dK kvs) => some kvs | _ => none) = some kvs := h
    show (match G p with | some (.dN kvs) => some kvs | _ => none) = none ∧ _
    rw [zq5]
    cases g : G p with
    | none => rw [g] at h'; cases h'
    | some o =>
      rw [g] at h'
      cases o with
      | dK kk => exact ⟨rfl, rfl⟩
      | _ => cases h'
  | nd kd es =>
    cases kd with
    | dK _ => exact ⟨rfl, rfl⟩
    | _ => cases h
  | _ => cases h
theorem z38 {x : D} {G : DHp} {kvs : List (Key × D)} (h : dicK x G = some kvs) : ∀ ds, x ≠ .nd .lst ds ∧ x ≠ .nd .tup ds ∧ x ≠ .nd .scr ds := by
  intro ds
  cases x with
  | nd kd es =>
    cases kd with
    | dK _ => exact ⟨(nomatch ·), (nomatch ·), (nomatch ·)⟩
    | _ => cases h
  | ref p => exact ⟨(nomatch ·), (nomatch ·), (nomatch ·)⟩
  | _ => cases h
variable {f : β → D} {kvs : List (Int × β)} {G : DHp} {Q : DVK} {a : Int}
theorem zyl {neg : Bool} {y : D} (h : dicK y G = some (enc kI f kvs)) (q : Q (.bl (neg != (aget kvs a).isSome)) G) : dIn neg (.int a) y G Q := by
  obtain ⟨h1, h2⟩ := znp h
  have h3 := z38 h
  unfold dIn
  rw [h2, h1, h]
  split
  · exact absurd rfl (h3 _).1
  · exact absurd rfl (h3 _).2.1
  · show Q (.bl (neg != (dval (enc kI f kvs) (kI a)).isSome)) G
    rw [zoe zw5, Option.isSome_map]
    exact q
theorem z6l {x : D} (h : dicK x G = some (enc kI f kvs)) (q : Q (((aget kvs a).map f).getD .non) G) : zac7 [x, .int a] G Q := by
  obtain ⟨h1, h2⟩ := znp h
  show (match dicN x G with | some kvs => _ | none => _)
  rw [h1]
  show (match dicK x G with | some kvs => _ | none => _)
  rw [h]
  show Q ((dval (enc kI f kvs) (kI a)).getD .non) G
  rw [zoe zw5]
  exact q
theorem z3a {x : D} {b : β} (h : dicK x G = some (enc kI f kvs)) (hb : aget kvs a = some b) (q : Q (f b) G) : dIx x (.int a) G Q := by
  obtain ⟨h1, h2⟩ := znp h
  have h3 := z38 h
  unfold dIx
  rw [h2, h1, h]
  split
  · exact absurd rfl (h3 _).1
  · exact absurd rfl (h3 _).2.2
  · exact absurd rfl (h3 _).2.1
  · show (match dval (enc kI f kvs) (kI a) with | some d => Q d G | none => False)
    rw [zoe zw5, hb]
    exact q
theorem zmc {p : Addr} {b : β} {R : DHp → Prop} (h : G p = some (oK f kvs)) (hl : kvs.length < sizeLine) (q : R (up G p (oK f (aput kvs a b)))) : dSet (.ref p) (.int a) (f b) G R := by
  show (match G p with | some (.lst ds) => _ | some (.dN kvs) => _ | some (.dK kvs) => _ | _ => False)
  rw [h]
  show (match (D.int a).kK with | some k => _ | none => False)
  show (enc kI f kvs).length < sizeLine ∧ R (up G p (.dK (dput (enc kI f kvs) (kI a) (f b))))
  refine ⟨by unfold enc; rw [List.length_map]; exact hl, ?_⟩
  rw [z3r zw5]
  exact q
theorem z8m {x : D} (h : dicK x G = some (enc kI f kvs)) (q : ∀ p, G p = none → Q (.ref p) (up G p (oK f kvs))) : z6b [x] G Q := by
  show (match dicK x G with | some kvs => _ | none => False)
  rw [h]
  exact q
theorem zafe : tyD "dict" (eK f kvs) G := rfl
/-- the items of a dict that is changed no more -/
theorem z2g (f : β → D) (kvs : List (Int × β)) : dicP (eK f kvs) = some (kvs.map fun p => (.int p.1, f p.2)) := by
  show some ((((enc kI f kvs).map (·.1)).map kD).zip ((enc kI f kvs).map (·.2))) = _
  unfold enc
  rw [List.map_map, List.map_map, List.map_map, List.zip_map']
  rfl
theorem z7z {p : Addr} (e : G p = some (oK f kvs)) : znl (.ref p) G = some ((kvs.map (·.1)).map .int) := by
  obtain ⟨h1, _⟩ := znp (zth e)
  unfold znl
  rw [h1, zth e]
  show some ((enc kI f kvs).map fun p => kD p.1) = _
  unfold enc
  rw [List.map_map, List.map_map]
  rfl
theorem z9n : znl (eK f kvs) G = some ((kvs.map (·.1)).map .int) := by
  obtain ⟨h1, _⟩ := znp (zme f kvs G)
  unfold znl
  rw [h1, zme]
  show some ((enc kI f kvs).map fun p => kD p.1) = _
  unfold enc
  rw [List.map_map, List.map_map]
  rfl
end
end DL
namespace DL
open PySem PySem.Spec PyProof.Rows L2
/-- the lists that stand in a list, each changed no more -/
def frL : List D → DHp → Option (List D × DHp)
  | [], G => some ([], G)
  | d :: ds, G => match d with
    | .ref p => (match G p with
      | some (.lst es) => (match frL ds (dl G p) with
        | some (x, G') => some (.nd .lst es :: x, G')
        | none => none)
      | _ => none)
    | _ => none
theorem zaa9 {K : Ml} {H : Hp} : ∀ {ds : List D} {G : DHp} {x : List D} {G' : DHp} {vs : List V}, frL ds G = some (x, G') → HR K H G → VRs K H G ds vs → VRs K H G' x vs ∧ Ext H G H G' ∧ HR K H G'
  | [], G, x, G', vs, e, hr, q => by
    cases e
    exact ⟨by rw [q.nil_of]; exact .nil, .refl _ _, hr⟩
  | d :: ds, G, x, G', vs, e, hr, q => by
    obtain ⟨v, r, rfl, q1, q2⟩ := q.uncons
    cases d with
    | ref p =>
      rw [VR] at q1
      subst q1
      have e : (match G p with
        | some (.lst es) => (match frL ds (dl G p) with
          | some (x, G') => some (D.nd .lst es :: x, G')
          | none => none)
        | _ => none) = some (x, G') := e
      cases hG : G p with
      | none => rw [hG] at e; cases e
      | some o =>
        rw [hG] at e
        cases o with
        | lst es =>
          simp only at e
          cases hf : frL ds (dl G p) with
          | none => rw [hf] at e; cases e
          | some y =>
            obtain ⟨y, G2⟩ := y
            rw [hf] at e
            cases e
            obtain ⟨t1, t2, t3⟩ := hr.tree (H' := H) hG rfl
            obtain ⟨a1, a2, a3⟩ := zaa9 hf t3 (q2.ext hr t2)
            exact ⟨.cons (t1.ext t3 a2) a1, t2.trans a2, a3⟩
        | _ => cases e
    | _ => cases e
def z9w (i : Nat) (t : DTS) : DTS := fun F η G => match η[i]? with
  | some (some (.ref a)) => (match G a with
    | some (.lst ds) => (match frL ds (dl G a) with
      | some (x, G') => t F (η.set i (some (.nd .lst x))) G'
      | none => False)
    | _ => False)
  | _ => False
theorem z8r [Bs] {X : Cx} {sts : List Stmt} {t : DTS} (i : Nat) (h : PSsD X sts t) : PSsD X sts (z9w i t) := ⟨fun pins s σ H E I ⟨η, G, F, hs, hr, t, k⟩ => by
    unfold z9w at t
    split at t
    · rename_i a e
      split at t
      · rename_i ds ho
        split at t
        · rename_i x G' hf
          obtain ⟨v, q, r⟩ := hs.2 i _ e
          rw [VR] at r
          subst r
          obtain ⟨t1, t2, t3⟩ := hr.tree (H' := H) ho rfl
          have t1 : VR X.ml H (dl G a) (.nd .lst ds) (.ref a) := t1
          rw [VR] at t1
          obtain ⟨b, vs, eb, hb, qs⟩ := t1
          cases eb
          obtain ⟨a1, a2, a3⟩ := zaa9 hf t3 qs
          have tv : VR X.ml H G' (.nd .lst x) (.ref a) := by
            rw [VR]
            exact ⟨a, vs, rfl, hb.ext t3 a2, a1⟩
          have s2 : SR X.ml H G' σ (η.set i (some (.nd .lst x))) := by
            have z := (hs.ext hr (t2.trans a2)).set i tv
            have e2 : σ.set i (some (V.ref a)) = σ := by
              refine List.ext_getElem? fun j => ?_
              by_cases hj : i = j
              · subst hj
                rw [List.getElem?_set_self (List.getElem?_eq_some_iff.mp q).1, q]
              · rw [List.getElem?_set_ne hj]
            rw [e2] at z; exact z
          exact h.run pins s σ H E I ⟨_, _, F, s2, a3, t, k.ext (t2.trans a2)⟩
        · exact t.elim
      · exact t.elim
    · exact t.elim⟩
end DL
namespace DL
open PySem PySem.Spec PyProof.Rows L2
/-- what else is tracked, then the draws -/
abbrev Gw (G : DHp) (a : Addr) (ns : List Int) (c : Int) : DHp := up G a (drw ns c)
theorem zzt {G : DHp} {a p : Addr} {ns : List Int} {c : Int} {o : DO} (h : Gw G a ns c p = none) : up (Gw G a ns c) p o = Gw (up G p o) a ns c ∧ a ≠ p := by
  have hn : a ≠ p := fun e => by
    subst e
    rw [show Gw G a ns c a = some (drw ns c) from zi] at h
    cases h
  exact ⟨(zg7 hn), hn⟩
theorem zu5 {G : DHp} {a p : Addr} {ns : List Int} {c : Int} (hn : a ≠ p) (h : Gw G a ns c p = none) : G p = none := by
  rw [show Gw G a ns c p = G p from zej (Ne.symm hn)] at h
  exact h
theorem zacw {G : DHp} {a p : Addr} {ns : List Int} {c : Int} {o : DO} (hn : a ≠ p) (h : G p = none) : dl (Gw (up G p o) a ns c) p = Gw G a ns c := by
  show dl (up (up G p o) a _) p = _
  rw [zyj hn, za3 h]
theorem z5p {G : DHp} {a p : Addr} {ns : List Int} {c : Int} {o o' : DO} (hn : a ≠ p) : up (Gw (up G p o) a ns c) p o' = Gw (up G p o') a ns c := by
  show up (up (up G p o) a _) p o' = _
  rw [zg7 (a := a) (b := p) hn, zc1]
theorem zu2 {G : DHp} {a p : Addr} {ns : List Int} {c : Int} {o : DO} (hn : a ≠ p) : Gw (up G p o) a ns c p = some o := by
  show up (up G p o) a _ p = _
  rw [zej (Ne.symm hn), zi]
theorem zfa {G : DHp} {a : Addr} {ns : List Int} {c n : Int} {Q : DVK} (hn : 0 < n) (hl : ns.length ≤ 63) (q : ∀ r : Int, 0 ≤ r → r < n → Q (.int r) (Gw G a ns (c + 1))) : zr [.ref a, .int n] (Gw G a ns c) Q :=
  z83 hn hl zi fun r h0 h1 => by rw [zc1]; exact q r h0 h1
theorem zl5 {x y : D} {xs ys : List D} {G : DHp} {Q : DVK} (h1 : der x G = .nd .lst xs) (h2 : der y G = .nd .lst ys) (hl : xs.length + ys.length ≤ sizeLine) (q : Q (.nd .lst (xs ++ ys)) G) : dAdd x y G Q := by
  unfold dAdd
  rw [h1, h2]
  exact ⟨hl, q⟩
theorem ztc {p : Addr} {y : D} {xs ys : List D} {G : DHp} {Q : DVK} (h1 : G p = some (.lst xs)) (h2 : der y G = .nd .lst ys) (hl : xs.length + ys.length ≤ sizeLine) (q : Q (.ref p) (up G p (.lst (xs ++ ys)))) : zzm (.ref p) y G Q := by
  show onL (.ref p) G fun a ds => (match der y G with | .nd .lst es => ds.length + es.length ≤ sizeLine ∧ Q (.ref a) (up G a (.lst (ds ++ es))) | _ => False)
  refine zabd h1 ?_
  rw [h2]
  exact ⟨hl, q⟩
theorem zlf {n : Nat} (h : n ≤ 1000000) : n ≤ sizeLine := Nat.le_of_lt (zv h)
theorem zeq {α : Type} [DecidableEq α] : ∀ {ys xs : List α}, ys.Nodup → (∀ y ∈ ys, y ∈ xs) → ys.length ≤ xs.length
  | [], _, _, _ => Nat.zero_le _
  | y :: ys, xs, hn, h => by
    rw [List.nodup_cons] at hn
    have hy := h y (by simp)
    have := zeq (ys := ys) (xs := xs.erase y) hn.2 fun z hz => (List.mem_erase_of_ne (show z ≠ y from fun e => hn.1 (e ▸ hz))).mpr (h z (by simp [hz]))
    rw [List.length_erase_of_mem hy] at this
    have := List.length_pos_of_mem hy
    rw [List.length_cons]
    omega
theorem zni {d : D} {ds : List D} {G : DHp} {Q : DVK} (h : sqD d G = some ds) : zkn [d] G Q = Q (.nd .tup ds) G := by
  unfold zkn d1
  simp only [h]
theorem zlx {α : Type} {f : α → D} {xs : List α} {G : DHp} {Q : DVK} : dLen [eL f xs] G Q = Q (.int xs.length) G := by
  rw [zps (ds := xs.map f) rfl, List.length_map]
theorem zjp {ds : List D} {i : Int} {d : D} {G : DHp} {Q : DVK} (h0 : 0 ≤ i) (e : ds[i.toNat]? = some d) (q : Q d G) : dIx (.nd .tup ds) (.int i) G Q := by
  show atD ds (.int i) fun d => Q d G
  exact zrf h0 e q
theorem z4r {α β : Type} [DecidableEq α] (kvs : List (α × β)) (a c : α) (b : β) : c ∈ (aput kvs a b).map (·.1) ↔ c ∈ kvs.map (·.1) ∨ c = a := by
  rw [zvi]
  split
  · rename_i h
    rw [zdt] at h
    constructor
    · exact .inl
    · rintro (h' | rfl)
      · exact h'
      · exact h
  · rw [List.mem_append, List.mem_singleton]
theorem znk {G : DHp} {p : Addr} {kvs : List (Key × D)} (h : G p = some (.dK kvs)) (xs : List D) : G p ≠ some (.lst xs) := by rw [h]; exact (nomatch ·)
theorem zba {α : Type} {l : List α} {i : Nat} {x : α} (h : l[i]? = some x) : l.take (i + 1) = l.take i ++ [x] := by
  rw [List.take_add_one, h]; rfl
theorem z7y {G : DHp} {Q : DVK} : dIsN true .non .non G Q = Q (.bl false) G := rfl
theorem zaci {a : Int} {G : DHp} {Q : DVK} : dIsN true (.int a) .non G Q = Q (.bl true) G := rfl
theorem zaev {G : DHp} {Q : DVK} : dIsN false .non .non G Q = Q (.bl true) G := rfl
theorem zaec {k : Kd} {ds : List D} {G : DHp} {Q : DVK} : dIsN false (.nd k ds) .non G Q = Q (.bl false) G := rfl
theorem zhk {α : Type} {f : α → D} {xs : List α} {G : DHp} {Q : DVK} : dLen [eT f xs] G Q = Q (.int xs.length) G := by
  rw [zps (ds := xs.map f) rfl, List.length_map]
/-- an item of a list or a tuple that stays -/
theorem zhw {α : Type} {f : α → D} {xs : List α} {i : Int} {x : α} {G : DHp} {Q : DVK} (h0 : 0 ≤ i) (e : xs[i.toNat]? = some x) (q : Q (f x) G) : dIx (eL f xs) (.int i) G Q := by
  show atD (xs.map f) (.int i) fun d => Q d G
  exact zrf h0 (by rw [List.getElem?_map, e]; rfl) q
/-- an item of a tracked list -/
theorem zadf {p : Addr} {ds : List D} {i : Int} {d : D} {G : DHp} {Q : DVK} (hp : G p = some (.lst ds)) (h0 : 0 ≤ i) (e : ds[i.toNat]? = some d) (q : Q d G) : dIx (.ref p) (.int i) G Q := by
  unfold dIx
  rw [zux hp]
  exact zrf h0 e q
/-- a list is not empty: of plain things with short depth -/
theorem z6u {x : D} {xs : List D} {G : DHp} {Q : DVK} (h : der x G = .nd .lst xs) (hc : cleans xs = true) (hd : ∀ d ∈ xs, (py d).depth ≤ 60) (q : Q (.bl (!xs.isEmpty)) G) : dNe x (.nd .lst []) G Q := by
  refine ztt (by rw [h]; rw [zbl]; exact hc) rfl (by rw [h]; exact Nat.le_trans (z0k hd) (by decide)) (by show (py (.nd .lst [])).depth ≤ 64; rw [py, pys]; decide) _ ?_ q
  rw [h]
  cases xs with
  | nil => simp [der]
  | cons d ds => simp [der]
theorem z71 {p : Addr} {xs : List Int} {G : DHp} {Q : DVK} (h : G p = some (.lst (xs.map .int))) (q : Q (.bl (!xs.isEmpty)) G) : dNe (.ref p) (.nd .lst []) G Q := by
  refine z6u (zux h) (zdk (fun _ => rfl) xs) (fun d hd => ?_) ?_
  · obtain ⟨i, _, rfl⟩ := List.mem_map.mp hd
    rw [zdo]; decide
  · rw [List.isEmpty_map]; exact q
theorem z9p {p : Addr} {d : D} {ds : List D} {G : DHp} {Q : DVK} (h : G p = some (.lst (d :: ds))) (q : Q d (up G p (.lst ds))) : tyD "list" (.ref p) G ∧ z4u [.ref p, .int 0] G Q := by
  refine ⟨by simp only [tyD, h], ?_⟩
  have e : ixN (d :: ds).length 0 = some 0 := by simp [ixN]
  simp only [z4u, d2, onL, h, e, List.getElem?_cons_zero, List.eraseIdx_cons_zero]
  exact q
theorem z39 {p : Addr} {d : D} {ds : List D} {G : DHp} {Q : DVK} (h : G p = some (.lst (ds ++ [d]))) (q : Q d (up G p (.lst ds))) : tyD "list" (.ref p) G ∧ dPop [.ref p] G Q := by
  refine ⟨by simp only [tyD, h], ?_⟩
  have e : (ds ++ [d])[(ds ++ [d]).length - 1]? = some d := by simp
  simp only [dPop, d1, onL, h, e, List.dropLast_concat]
  exact q
end DL
namespace DL
open PySem PySem.Spec PyProof.Rows L2
section
variable {α β : Type} [DecidableEq α] {k : α → NestedKey} {e : α → D} {f : β → D} {kvs : List (α × β)} {G : DHp} {Q : DVK} {a : α}
theorem zxn {α : Type} {motive : List α → Prop} (h0 : motive []) (h1 : ∀ l x, motive l → motive (l ++ [x])) (l : List α) : motive l := by
  have go : ∀ r : List α, motive r.reverse := fun r => by
    induction r with
    | nil => exact h0
    | cons x r ih => rw [List.reverse_cons]; exact h1 _ _ ih
  have := go l.reverse
  rwa [List.reverse_reverse] at this
end
end DL
namespace DL
open PySem PySem.Spec PyProof.Rows L2
/-- [y for x in xs if ..]: what is told of one x, pure, is told of all -/
theorem ztr {wi : DTI} {g : DTG} {tt : DTT} {te : DTE} {own : List Nat} {η : DSt} {G : DHp} {Q : DVK} {α : Type} {xs : List α} {f : α → D} (fb : α → Bool) (h : α → D) (hl : xs.length ≤ 1000000)
    (hw : ∀ R, R (xs.map f) zco G → wi η G R)
    (hb : ∀ x ∈ xs, ∀ (G1 : DHp) (A : DVK) (B : DHp → Prop), (fb x = true → A (h x) G1) → (fb x = false → B G1) → g (f x) (zid η own) G1 fun η2 G2 => tt η2 G2 fun b G3 => if b = true then te η2 G3 A else B G3)
    (q : ∀ p, G p = none → Q (.ref p) (up G p (.lst ((xs.filter fb).map h)))) : dLc wi g tt te own η G Q := by
  refine hw _ ?_
  intro p hp
  refine ⟨fun i acc G' => acc = ((xs.take i).filter fb).map h ∧ G' = up G p (.lst acc), ⟨rfl, rfl⟩, ?_, ?_, ?_⟩
  · rintro i acc G' ⟨rfl, rfl⟩
    exact ⟨trivial, zi⟩
  · rintro i d acc G' hd ⟨rfl, rfl⟩
    obtain ⟨x, hx, rfl⟩ := zaq hd
    refine hb x (List.mem_of_getElem? hx) _ _ _ (fun e => ⟨zv ?_, zi, ?_, by rw [zc1]⟩) fun e => ⟨?_, rfl⟩
    · rw [List.length_map]
      refine Nat.le_trans (List.length_filter_le _ _) ?_
      rw [List.length_take]
      omega
    · rw [zba hx, List.filter_append, List.map_append]
      simp [e]
    · rw [zba hx, List.filter_append, List.map_append]
      simp [e]
  · rintro acc G' ⟨rfl, rfl⟩
    rw [List.length_map, List.take_length]
    exact q p hp
/-- [y for x in xs] -/
theorem zky {wi : DTI} {g : DTG} {te : DTE} {own : List Nat} {η : DSt} {G : DHp} {Q : DVK} {α : Type} {xs : List α} {f : α → D} (h : α → D) (hl : xs.length ≤ 1000000)
    (hw : ∀ R, R (xs.map f) zco G → wi η G R)
    (hb : ∀ x ∈ xs, ∀ (G1 : DHp) (A : DVK), A (h x) G1 → g (f x) (zid η own) G1 fun η2 G2 => te η2 G2 A)
    (q : ∀ p, G p = none → Q (.ref p) (up G p (.lst (xs.map h)))) : dLc wi g dYes te own η G Q := by
  refine ztr (f := f) (fun _ => true) h hl hw (fun x hx G1 A B a _ => ?_) fun p hp => ?_
  · have := hb x hx G1 A (a rfl)
    simpa only [dYes, if_true] using this
  · have := q p hp
    rwa [List.filter_eq_self.mpr fun _ _ => rfl]
theorem z73 {α : Type} (f : α → D) (xs : List α) : zpq (xs.map f) = (xs.mapIdx fun i x => ((i : Int), x)).map fun z => .nd .tup [.int z.1, f z.2] := by
  unfold zpq
  refine List.ext_getElem? fun i => ?_
  rw [List.getElem?_mapIdx, List.getElem?_map, List.getElem?_map, List.getElem?_mapIdx]
  cases xs[i]? <;> rfl
theorem zt1 {α : Type} {xs : List α} {b : α → Bool} {G : DHp} {Q : DVK} (q : Q (.bl (xs.all b)) G) : dAll [.nd .lst (xs.map fun x => .bl (b x))] G Q := by
  refine ⟨xs.map b, ?_, ?_⟩
  · show some _ = some _
    rw [List.map_map]; rfl
  · rw [List.all_map]; exact q
theorem zadb {α : Type} {xs : List α} {b : α → Bool} {G : DHp} {Q : DVK} (q : Q (.bl (xs.any b)) G) : dAny [.nd .lst (xs.map fun x => .bl (b x))] G Q := by
  refine ⟨xs.map b, ?_, ?_⟩
  · show some _ = some _
    rw [List.map_map]; rfl
  · rw [List.any_map]; exact q
theorem zaao (ds : List D) (k : Nat) : cutD ds (some (k : Int)) none = ds.drop k := by
  unfold cutD
  rw [HT.sIx_nat, HT.sIx_none]
  by_cases h : k ≤ ds.length
  · rw [Nat.min_eq_left h, List.take_of_length_le (by rw [List.length_drop]; exact Nat.le_refl _)]
  · rw [Nat.min_eq_right (by omega), List.drop_eq_nil_of_le (Nat.le_refl _), List.drop_eq_nil_of_le (by omega), List.take_nil]
end DL
namespace DL
open PySem PySem.Spec PyProof.Rows L2
end DL
namespace DL
open PySem PySem.Spec PyProof.Rows L2
end DL
namespace DL
open PySem PySem.Spec PyProof.Rows L2
end DL
namespace DL
open PySem PySem.Spec PyProof.Rows L2
section
variable {prog : Program} {w : World} {A : Around} {E : Value → Shared → Prop} {s : Shared}
theorem zsp {sl : Addr} {vl vu vs : Value} {n : Nat} {Q : Int × Int × Nat → Shared → Prop} (hs : s.heap.IsSliceOf sl vl vu vs) (pl : IsPart vl none) (pu : IsPart vu none) (ps : IsPart vs (some (-1)))
    (h : Q ((n : Int) - 1, -1, n) s) : wpAny (model prog w) A (Builtin.Slice.sliceApplied (.ref sl) (pure (n : Int))) Q E s := by
  obtain ⟨os, hos, hcs, hds⟩ := id hs
  unfold Builtin.Slice.sliceApplied Builtin.Slice.sliceFields
  refine wpAny_bind (wpAny_bind (wpAny_field hos hds (x := vl) rfl (wpAny_bind (wpAny_field hos hds (x := vu) rfl (wpAny_bind (wpAny_field hos hds (x := vs) rfl (wpAny_pure ?_)))))))
  refine wpAny_bind (HT.slicePart_ ps ?_)
  show wpAny _ _ (if ((-1 : Int) == 0) = true then _ else _) _ _ s
  rw [if_neg (by decide)]
  refine wpAny_bind (HT.slicePart_ pl (wpAny_bind (HT.slicePart_ pu (wpAny_bind (wpAny_pure ?_)))))
  show wpAny _ _ (match Builtin.Slice.sliceAdjust none none (-1) (n : Int) with | (lo, hi) => pure (lo, (-1 : Int), Builtin.Slice.slicePlaces lo hi (-1))) _ _ s
  have e1 : Builtin.Slice.sliceAdjust none none (-1) (n : Int) = ((n : Int) - 1, -1) := by
    unfold Builtin.Slice.sliceAdjust
    simp
  rw [e1]
  show wpAny _ _ (pure ((n : Int) - 1, (-1 : Int), Builtin.Slice.slicePlaces ((n : Int) - 1) (-1) (-1))) _ _ s
  have e2 : Builtin.Slice.slicePlaces ((n : Int) - 1) (-1) (-1) = n := by
    unfold Builtin.Slice.slicePlaces
    simp
    omega
  rw [e2]
  exact wpAny_pure h
theorem z7x {α β : Type} {f : α → Option β} {g : α → β} : ∀ {l : List α}, (∀ m ∈ l, f m = some (g m)) → l.filterMap f = l.map g
  | [], _ => rfl
  | m :: l, h => by
    rw [List.filterMap_cons, h m (by simp), z7x fun k hk => h k (by simp [hk])]
    rfl
theorem z9c (xs : Array Value) : ((List.range xs.size).filterMap fun (m : Nat) => xs[(((xs.size : Int) - 1) + (m : Int) * (-1)).toNat]?).toArray = xs.toList.reverse.toArray := by
  congr 1
  refine List.ext_getElem? fun i => ?_
  have e : ((List.range xs.size).filterMap fun (m : Nat) => xs[(((xs.size : Int) - 1) + (m : Int) * (-1)).toNat]?) = (List.range xs.size).map fun m => xs.toList.getD (xs.size - 1 - m) .none := by
    refine z7x fun m hm => ?_
    have h := List.mem_range.mp hm
    have e1 : (((xs.size : Int) - 1) + (m : Int) * (-1)).toNat = xs.size - 1 - m := by omega
    rw [e1, ← Array.getElem?_toList, List.getD_eq_getElem?_getD, List.getElem?_eq_getElem (by rw [Array.length_toList]; omega)]
    rfl
  rw [e, List.getElem?_map]
  by_cases hi : i < xs.size
  · rw [List.getElem?_range hi, List.getElem?_reverse (by rw [Array.length_toList]; exact hi), Array.length_toList]
    show some (xs.toList.getD _ _) = _
    rw [List.getD_eq_getElem?_getD, List.getElem?_eq_getElem (by rw [Array.length_toList]; omega)]
    rfl
  · rw [List.getElem?_eq_none (by rw [List.length_range]; omega), List.getElem?_eq_none (by rw [List.length_reverse, Array.length_toList]; omega)]
    rfl
theorem zrh {t sl : Addr} {items : Array Value} {vl vu vs : Value} {Q : Value → Shared → Prop} (ht : IsTup s.heap t items) (hs : s.heap.IsSliceOf sl vl vu vs) (pl : IsPart vl none) (pu : IsPart vu none) (ps : IsPart vs (some (-1)))
    (h : Q (.ref s.heap.objs.size) { s with heap := s.heap.push { cls := .type "tuple", data := .seq items.toList.reverse.toArray } })
    (hsz : items.size ≤ sizeLine) : wpAny (model prog w) A (getItem (.ref t) (.ref sl)) Q E s := by
  have htake : sizeOk (.seq items.toList.reverse.toArray) := by
    show items.toList.reverse.toArray.size ≤ sizeLine
    rw [List.size_toArray, List.length_reverse, Array.length_toList]
    exact hsz
  obtain ⟨os, hos, hcs, hds⟩ := id hs
  have hTs : s.TypeIs (.ref sl) "slice" := ⟨os, hos, hcs⟩
  unfold getItem
  try with_reducible refine wpAny_holding ?_
  first | refine wpAny_bind (wpAny_pure ?_) | skip
  refine wpAny_bind (wpAny_sequenceKey ht.typeIs (by decide) ?_)
  refine wpAny_bind (wpAny_callSpecial?_slot (name := Str.ofString "__getitem__") ht.typeIs PyProof.Rows.slot_tuple_getitem
    (wpAny_call_entry PyProof.Rows.slot_tuple_getitem ht.typeIs entry_tuple_getitem ?_ (args_tuple_getitem _ _)))
  show wpAny _ _ (Builtin.Tuple.tupleItemsOf (.ref t) >>= _) _ _ s
  refine wpAny_bind (tupleItemsOf_ ht ?_)
  refine wpAny_bind (wpAny_typeOf hTs ?_)
  rw [if_pos (by decide)]
  refine wpAny_bind (zsp hs pl pu ps ?_)
  have hno : ¬ ((((items.size : Int) - 1) == 0 && (-1 : Int) == 1 && items.size == items.size) = true) := by
    rw [show ((-1 : Int) == 1) = false from rfl, Bool.and_false, Bool.false_and]
    exact Bool.false_ne_true
  show wpAny _ _ (if (((items.size : Int) - 1) == 0 && (-1 : Int) == 1 && items.size == items.size) = true then _ else _) _ _ s
  rw [if_neg hno, z9c]
  first
    | exact wpAny_bind (m := Builtin.Tuple.tupleExact _) (wpAny_newObj_type (wpAny_pure ⟨_, rfl, wpAny_pure h⟩) htake)
    | exact wpAny_bind (m := Builtin.Tuple.tupleExact _) (wpAny_newObj_type (wpAny_bind (wpAny_pure (wpAny_pure ⟨_, rfl, wpAny_pure h⟩))) htake)
    | exact wpAny_bind (wpAny_bind (m := Builtin.Tuple.tupleExact _) (wpAny_newObj_type (wpAny_pure (wpAny_pure ⟨_, rfl, wpAny_pure h⟩)) htake))
    | exact wpAny_bind (wpAny_bind (m := Builtin.Tuple.tupleExact _) (wpAny_newObj_type (wpAny_pure ⟨_, rfl, wpAny_pure h⟩) htake))
end
section
variable {X : Cx}
def zafs (K : PySem.W.Frag) (te : TE) : TE := fun σ H Q => te σ H fun x H1 => ∃ a xs, x = .ref a ∧ SqT K H1 a xs ∧ ∀ p, H1 p = none → Q (.ref p) (upd H1 p (.tup xs.reverse))
theorem zabt {e : Expr} {te : TE} {k : Nat} {p1 p2 p3 pos : Pos} (he : PE X e te) : PE X (.Subscript e (.Slice none none (some (.UnaryOp .USub (.Constant (.int 1) k p1) p2)) p3) pos) (zafs X.K te) := by
  refine ⟨fun pins s σ H Q I h => ?_⟩
  refine Subscript_ (thn (he.run pins s σ H _ I h) fun v s1 ⟨x, H1, I1, r1, q1⟩ => ?_)
  obtain ⟨a, xs, ex, hx, q⟩ := q1
  subst ex
  cases r1
  have hst : PO X (some (.UnaryOp .USub (.Constant (.int 1) k p1) p2)) (tPart (tUn (rU fun i => .int (-i)) (tC (.int 1)))) := po_some (pe_un un_neg pe_int)
  refine wpAny_Slice (thn (po_none.run pins s1 σ H1 (fun o H2 => o = none ∧ H2 = H1) I1 ⟨rfl, rfl⟩) fun vl s2 ⟨l, H2, I2, pl, el, e2⟩ => ?_)
  subst el e2
  refine thn (po_none.run pins s2 σ H2 (fun o H3 => o = none ∧ H3 = H2) I2 ⟨rfl, rfl⟩) fun vu s3 ⟨u, H3, I3, pu, eu, e3⟩ => ?_
  subst eu e3
  refine thn (hst.run pins s3 σ H3 (fun o H4 => o = some (-1) ∧ H4 = H3) I3 ⟨1, rfl, -1, rfl, rfl, rfl⟩) fun vs s4 ⟨o, H4, I4, ps, eo, e4⟩ => ?_
  subst eo e4
  have I5 : Inv X pins σ H4 { s4 with heap := s4.heap.push { cls := .type "slice", data := .fields #[vl, vu, vs] } } := I4.kept (t' := s4.toks) fun b ob q => Heap.get?_push_of_some _ q
  obtain ⟨its, r, ht, hz⟩ := I5.tuple hx
  have hlen := r.length
  show wpAny (model X.prog X.w) X.A (subscriptTail e (.Slice none none (some (.UnaryOp .USub (.Constant (.int 1) k p1) p2)) p3) (.ref a) (.ref s4.heap.objs.size)) (EP X pins σ Q) X.xe { s4 with heap := s4.heap.push { cls := .type "slice", data := .fields #[vl, vu, vs] } }
  refine tail_any (ops := [.ref a, .ref s4.heap.objs.size]) ht.typeIs (PyProof.Rows.slot_tuple_getitem.lookup) ?_ (by with_unfolding_all rfl)
  refine zrh ht (Heap.IsSliceOf.new _ vl vu vs) pl pu ps ?_ (by rw [List.size_toArray]; omega)
  refine ⟨.ref _, _, I5.laid (t' := s4.toks) (o := .tup xs.reverse) (fun b ob q => Heap.get?_push_of_some _ q) (Nat.le_refl _) ?_, rfl, q _ (I5.hok.fresh (Nat.le_refl _))⟩
  exact ⟨by rw [List.length_reverse]; exact hz, its.reverse, r.reverse, IsTup.new _ _⟩
/-- t[::-1] -/
def z5y (T : DTE) : DTE := fun η G Q => T η G fun x G1 => match x with
  | .nd .tup ds => Q (.nd .tup ds.reverse) G1
  | _ => False
theorem z7w {K : Ml} {H : Hp} {G : DHp} : ∀ {ds : List D} {vs : List V}, VRs K H G ds vs → VRs K H G ds.reverse vs.reverse
  | [], vs, h => by rw [h.nil_of]; exact .nil
  | d :: ds, vs, h => by
    obtain ⟨v, r, rfl, q, t⟩ := h.uncons
    rw [List.reverse_cons, List.reverse_cons]
    exact (z7w t).append (.cons q .nil)
theorem zaau [Bs] {e : Expr} {T : DTE} {k : Nat} {p1 p2 p3 pos : Pos} (he : PED X e T) : PED X (.Subscript e (.Slice none none (some (.UnaryOp .USub (.Constant (.int 1) k p1) p2)) p3) pos) (z5y T) :=
  PE.impI (zabt he) fun _ _ σ H Q _ ⟨η, G, P, hs, hr, t, k⟩ => by
    refine ⟨η, G, _, hs, hr, t, fun d G1 v H1 p1 x1 r1 q1 => ?_⟩
    split at p1
    · rename_i ds
      rw [VR] at q1
      obtain ⟨a, vs, rfl, hh, q1⟩ := q1
      refine ⟨a, vs, rfl, hh, fun p hp => ?_⟩
      have x2 : Ext H1 G1 (upd H1 p (.tup vs.reverse)) G1 := .laid hp
      refine k _ G1 _ _ p1 (x1.trans x2) (r1.laid hp) ?_
      rw [VR]
      exact ⟨p, _, rfl, .of upd_same, (z7w q1).ext r1 x2⟩
    · exact p1.elim
end
end DL
namespace DL
open PySem PySem.Spec PyProof.Rows L2
section
variable {prog : Program} {w : World} {A : Around} {E : Value → Shared → Prop} {s : Shared}
theorem zvh {d : Addr} {xs : List (NestedKey × Addr × Value)} {Q : Value → Shared → Prop} (hu : A.units + 1 + 1 + 8 < cLine) (hdS : (d == sysModules) = false) (hm : s.heap.DictOfH (nestedKind prog w) d xs) (hsz : xs.length ≤ sizeLine)
    (hty : ∀ x ∈ xs, ∃ ks, x.1 = .tup ks) (hap : (xs.map fun x => x.1.hash w).Nodup)
    (h : ∀ h', h'.DictOfH (nestedKind prog w) s.heap.objs.size xs → (∀ b o, s.heap.get? b = some o → h'.get? b = some o) → Q (.ref s.heap.objs.size) { s with heap := h' }) :
    wpAny (model prog w) A (call (.type "dict") [.ref d]) Q E s := by
  refine callType_codes (Q₁ := fun obj s₁ => obj = .ref s.heap.objs.size ∧ s₁ = { s with heap := s.heap.push { cls := .type "dict", data := .dict #[] } }) F.kt_called_dict (F.kt_typeCall_dict_1 _) F.entry_dict_init (kt_code_dict_new _ ⟨rfl, rfl⟩) ?_
  rintro obj s₁ ⟨rfl, rfl⟩
  have hT : Shared.TypeIs { s with heap := s.heap.push { cls := .type "dict", data := .dict #[] } } (.ref s.heap.objs.size) "dict" := ⟨_, Heap.get?_push_size _ rfl, rfl⟩
  refine ⟨hT, F.args_dict_init_2 _ _, ?_⟩
  unfold Builtin.«dict.__init__»
  refine wpAny_bind ?_
  unfold Builtin.Dict.selfAndRest
  refine wpAny_bind (wpAny_notOrdered_dict hT ?_)
  show wpAny _ _ (pure (s.heap.objs.size, [Value.ref d])) _ _ _
  refine wpAny_pure ?_
  obtain ⟨o, es, ep, ho, hc, hdat, he, his, hn⟩ := id hm
  have hne : s.heap.objs.size ≠ d := Nat.ne_of_gt (Heap.lt_size ho)
  have kk : ∀ b o, s.heap.get? b = some o → (s.heap.push { cls := .type "dict", data := .dict #[] }).get? b = some o := fun b o e => Heap.get?_push_of_some _ e
  have st : ∀ h', (∀ b o, s.heap.get? b = some o → h'.get? b = some o) → ∀ x ∈ xs, (nestedKind prog w).is h' x.1 x.2.1 := fun h' hk x hx =>
    nestedKind_stays.stays (fun b o vs n e _ => hk b o e) (his x hx)
  have hm' : (s.heap.push { cls := .type "dict", data := .dict #[] }).DictOfH (nestedKind prog w) d xs := ⟨o, es, ep, kk _ _ ho, hc, hdat, he, st _ kk, hn⟩
  refine updateFrom_dictH (A := A.in1) (knd := nestedKind prog w) (kvs := []) (more := xs) .none hu hne hdS (Heap.DictOfH.new s.heap) hm' (.inr ⟨fun x hx => ?_, hap⟩) (by simpa using hsz) fun h' hd' _ hs => ?_
  · obtain ⟨ks, e⟩ := hty x hx
    have := (st _ kk x hx).1
    rw [e] at this
    generalize hv : Value.ref x.2.1 = v at this
    cases this with
    | tup e1 e2 => cases hv; exact ⟨_, e1, e2⟩
  · rw [storedAllH_nil_of_nodup xs hn] at hd'
    exact ⟨rfl, h h' hd' fun b o e => (hs.2 b (Nat.ne_of_lt (Heap.lt_size e))).trans (kk b o e)⟩
end
def z66 : DRn := d1 fun x G Q => match dicN x G with
  | some kvs => (∀ p ∈ kvs, ∃ ks, p.1 = .tup ks) ∧ (∀ w, (kvs.map fun p => p.1.hash w).Nodup) ∧ ∀ q, G q = none → Q (.ref q) (up G q (.dN kvs))
  | none => False
section
variable {X : Cx}
theorem z89 (hu : X.A.units + 64 < cLine) : zkr X (.type "dict") z66 := zjq fun pins s σ H G x v d P I rx hr q1 t => by
  split at t
  · rename_i kvs e
    obtain ⟨t1, t2, t⟩ := t
    obtain ⟨a, ws, rfl, dn, vr⟩ := zpr hr q1 e
    cases rx
    obtain ⟨xs, es, ep, h1, h2, h3, h4, h5, h6, h7, h9, h10⟩ := DnAt.of I dn
    have hl : xs.length = kvs.length := by have := congrArg List.length h6; rwa [List.length_map, List.length_map] at this
    have hk : ∀ x ∈ xs, ∃ p ∈ kvs, p.1 = x.1 := fun x hx => by
      have : x.1 ∈ kvs.map (·.1) := by rw [← h6]; exact List.mem_map.mpr ⟨x, hx, rfl⟩
      obtain ⟨p, hp, e⟩ := List.mem_map.mp this
      exact ⟨p, hp, e⟩
    refine zvh (by omega) h5 h4 (by rw [hl]; rw [List.length_map] at h7; exact h7) (fun x hx => ?_) ?_ fun h' hd' hs => ?_
    · obtain ⟨p, hp, e⟩ := hk x hx
      rw [← e]
      exact t1 p hp
    · have : (xs.map fun x => x.1.hash X.w) = kvs.map fun p => p.1.hash X.w := by
        have := congrArg (List.map fun k : NestedKey => k.hash X.w) h6
        rwa [List.map_map, List.map_map] at this
      rw [this]
      exact t2 X.w
    · obtain ⟨o', es', ep', ho', hx', hdat', he', _, hn'⟩ := hd'
      have raw : h'.DictRaw s.heap.objs.size es' ep' := ⟨o', ho', hx', hdat'⟩
      have hp : H s.heap.objs.size = none := I.hok.fresh (Nat.le_refl _)
      have I' : Inv X pins σ (upd H s.heap.objs.size (rawO s.heap.objs.size es' ep')) { s with heap := h', toks := s.toks } :=
        I.laid (t' := s.toks) (fun b o e => hs b o e) (Nat.le_refl _) ⟨raw, ⟨o', ho'⟩, fun h1 h2 φ k => φ.at k⟩
      have x2 : Ext H G (upd H s.heap.objs.size (rawO s.heap.objs.size es' ep')) (up G s.heap.objs.size (.dN kvs)) := .new hp
      refine ⟨.ref _, .ref _, _, _, I', rfl, t _ (hr.free hp), x2, hr.new hp ⟨ws, ?_, vr.ext hr x2⟩, by rw [VR]⟩
      exact ⟨xs, es', ep', upd_same, z35 I, he', h6, by rw [← h6]; exact hn', h7, fun y hy => ⟨(h9 y hy).1.ext hr x2, (h9 y hy).2⟩, h10⟩
  · exact t.elim
end
end DL
namespace DL
open PySem PySem.Spec PyProof.Rows L2
/-- {k: v}: tracked; it stands empty while the pair is made -/
def z7o (Tk Tv : DTE) : DTE := fun η G Q => ∀ p, G p = none → Tk η (up G p (.dN [])) fun y G1 => Tv η G1 fun z G2 => G2 p = some (.dN []) ∧ ∃ k, D.key y = some k ∧ (∃ ks, y = .nd .tup ks) ∧ k.depth ≤ 8 ∧ Q (.ref p) (up G2 p (.dN [(k, z)]))
section
variable {X : Cx}
theorem z8d [Bs] {ke ve : Expr} {pos : Pos} {Tk Tv : DTE} (hu : X.A.units + 64 < cLine) (hk : PED X ke Tk) (hv : PED X ve Tv) : PED X (.Dict [some ke] [ve] pos) (z7o Tk Tv) := ⟨fun pins s σ H Q I ⟨η, G, P, hs, hr, t, k⟩ => by
  have hp : H s.heap.objs.size = none := I.hok.fresh (Nat.le_refl _)
  have I1 := zt3 I
  have x1 : Ext H G (upd H s.heap.objs.size (rawO s.heap.objs.size #[] 0)) (up G s.heap.objs.size (.dN [])) := .new hp
  have r1 : HR X.ml (upd H s.heap.objs.size (rawO s.heap.objs.size #[] 0)) (up G s.heap.objs.size (.dN [])) := hr.new hp ⟨[], zro upd_same (z35 I), .nil⟩
  show wpAny (model X.prog X.w) X.A (eval (.Dict [some ke] [ve] pos) X.env) (EP X pins σ Q) X.xe s
  rw [arm_eval_Dict, show (evalEachOpt [some ke] X.env).zip ((evalEach [ve] X.env).map fun v => do let x ← v; standAt pos; pure x) = ([(eval ke X.env, do let x ← eval ve X.env; standAt pos; pure x)] : List (Sem Value × Sem Value)).map (fun p => (some p.1, p.2)) from rfl,
    dictDisplay_pairs _ (by simp) (by simp)]
  refine wpAny_bind (wpAny_standAt (wpAny_bind (wpAny_subDictH (knd := nestedKind X.prog X.w) (Q := fun d s' => wpAny (model X.prog X.w) X.A (pure (Value.ref d)) (EP X pins σ Q) X.xe s') (by show X.A.units + 8 < cLine; omega) (by simp) ?_)))
  refine evalPairs_cons (thn (hk.run pins _ σ _ (fun v H1 => ∃ y G1, (Tv η G1 fun z G2 => G2 s.heap.objs.size = some (.dN []) ∧ ∃ k, D.key y = some k ∧ (∃ ks, y = .nd .tup ks) ∧ k.depth ≤ 8 ∧ P (.ref s.heap.objs.size) (up G2 s.heap.objs.size (.dN [(k, z)]))) ∧
      Ext (upd H s.heap.objs.size (rawO s.heap.objs.size #[] 0)) (up G s.heap.objs.size (.dN [])) H1 G1 ∧ HR X.ml H1 G1 ∧ VR X.ml H1 G1 y v) I1 ⟨η, _, _, hs.ext hr x1, r1, t _ (hr.free hp), fun y G1 v H1 p x r q => ⟨y, G1, p, x, r, q⟩⟩) fun kv s1 ⟨y', H1, I2, ry, y, G1, t1, x2, r2, q1⟩ => ?_)
  refine wpAny_bind (thn (hv.run pins s1 σ H1 (fun v H2 => ∃ z G2, (G2 s.heap.objs.size = some (.dN []) ∧ ∃ k, D.key y = some k ∧ (∃ ks, y = .nd .tup ks) ∧ k.depth ≤ 8 ∧ P (.ref s.heap.objs.size) (up G2 s.heap.objs.size (.dN [(k, z)]))) ∧
      Ext H1 G1 H2 G2 ∧ HR X.ml H2 G2 ∧ VR X.ml H2 G2 z v) I2 ⟨η, _, _, (hs.ext hr x1).ext r1 x2, r2, t1, fun z G2 v H2 p x r q => ⟨z, G2, p, x, r, q⟩⟩) fun vv s2 ⟨z', H2, I3, rz, z, G2, ⟨hG, kk, ek, ⟨ks, ey⟩, h8, t2⟩, x3, r3, q2⟩ => ?_)
  refine wpAny_bind (wpAny_standAt (wpAny_pure (evalPairs_nil ?_)))
  subst ey
  have q1' := q1.ext r2 x3
  have ka := zqy q1' ek
  rw [VR] at q1'
  obtain ⟨b, ws, rfl, hb, rb⟩ := q1'
  cases (show kv = Value.ref b from ry)
  obtain ⟨vs, dn, vr⟩ := r3 _ _ hG
  obtain ⟨xs, es, ep, g1, g2, g3, g4, g5, g6, g7, g9, g10⟩ := DnAt.of I3 dn
  have hxs : xs = [] := by
    have := congrArg List.length g6
    rw [List.length_map] at this
    exact List.length_eq_zero_iff.mp this
  subst hxs
  refine ⟨[(kk, b, vv)], ⟨rfl, rfl, ⟨zgs I3 ka rfl, h8⟩, trivial⟩, g4, fun h' tk hm' hs' => ?_⟩
  obtain ⟨H4, I4, x4, r4⟩ := z53 (t' := tk) I3 r3 hG g1 g5 g4 (by simp) (fun _ h => nomatch h) g10 vr ka h8 q2 rz (by rw [sizeLine_eq]; decide) hm' hs'
  exact wpAny_pure ⟨.ref _, _, I4, rfl, k _ _ _ _ t2 (((x1.trans x2).trans x3).trans x4) r4 (by rw [VR])⟩⟩
end
end DL
namespace DL
open PySem PySem.Spec PyProof.Rows L2
def zrm {κ : Type} [DecidableEq κ] (kvs : List (κ × D)) (k : κ) : List (κ × D) := kvs.filter fun p => decide (p.1 ≠ k)
def zafw : DRn := d2 fun x y G Q => match x with
  | .ref a => (match G a with
    | some (.dK kvs) => (match y.kK with
      | some k => (match dval kvs k with
        | some d => Q d (up G a (.dK (zrm kvs k)))
        | none => False)
      | none => False)
    | _ => False)
  | _ => False
end DL
namespace DL
open PySem PySem.Spec PyProof.Rows L2
section
variable {β : Type} {f : β → D} {kvs : List (Int × β)} {G : DHp} {Q : DVK} {a : Int}
def zvr {α β : Type} [DecidableEq α] (kvs : List (α × β)) (a : α) : List (α × β) := kvs.filter fun p => decide (p.1 ≠ a)
theorem z5r {α β : Type} [DecidableEq α] (kvs : List (α × β)) (a c : α) : aget (zvr kvs a) c = if c = a then none else aget kvs c := by
  unfold aget zvr
  induction kvs with
  | nil => simp
  | cons p kvs ih =>
    by_cases h : p.1 = a
    · rw [List.filter_cons_of_neg (by simpa using h), ih]
      by_cases hc : c = a
      · rw [if_pos hc, if_pos hc]
      · rw [if_neg hc, if_neg hc, List.find?_cons_of_neg (by rw [h]; simpa using fun z : a = c => hc z.symm)]
    · rw [List.filter_cons_of_pos (by simpa using h)]
      by_cases hp : p.1 = c
      · rw [List.find?_cons_of_pos (by simpa using hp), List.find?_cons_of_pos (by simpa using hp), if_neg (fun z => h (hp.trans z))]
      · rw [List.find?_cons_of_neg (by simpa using hp), List.find?_cons_of_neg (by simpa using hp), ih]
theorem z5f {α β : Type} [DecidableEq α] (kvs : List (α × β)) (a : α) : (zvr kvs a).map (·.1) = (kvs.map (·.1)).filter fun k => decide (k ≠ a) := by
  unfold zvr
  rw [List.filter_map]
  rfl
theorem z2y {α β : Type} [DecidableEq α] {kvs : List (α × β)} (a : α) (h : (kvs.map (·.1)).Nodup) : ((zvr kvs a).map (·.1)).Nodup := by
  rw [z5f]; exact h.filter _
theorem z7d (kvs : List (Int × β)) (a : Int) : zrm (enc kI f kvs) (kI a) = enc kI f (zvr kvs a) := by
  unfold zrm enc zvr
  rw [List.filter_map]
  congr 1
  refine List.filter_congr fun p _ => ?_
  simp only [Function.comp, ne_eq, zw5]
theorem zyv {p : Addr} {b : β} (h : G p = some (oK f kvs)) (hb : aget kvs a = some b) (q : Q (f b) (up G p (oK f (zvr kvs a)))) : zafw [.ref p, .int a] G Q := by
  show (match G p with | some (.dK kvs) => _ | _ => False)
  rw [h]
  show (match dval (enc kI f kvs) (kI a) with | some d => _ | none => False)
  rw [zoe zw5, hb]
  show Q (f b) (up G p (.dK (zrm (enc kI f kvs) (kI a))))
  rw [z7d]
  exact q
end
end DL
namespace DL
open PySem PySem.Spec PyProof.Rows L2
def kL (xs : List Int) : NestedKey := .tup (xs.map .num)
theorem zad0 {a b : List Int} : kL a = kL b ↔ a = b := by
  constructor
  · intro h
    unfold kL at h
    injection h with h
    induction a generalizing b with
    | nil => cases b with
      | nil => rfl
      | cons _ _ => simp at h
    | cons x a ih => cases b with
      | nil => simp at h
      | cons y b =>
        simp only [List.map_cons, List.cons.injEq, NestedKey.num.injEq] at h
        rw [h.1, ih h.2]
  · intro h; rw [h]
theorem zzz : ∀ xs : List Int, D.keys (xs.map .int) = some (xs.map .num)
  | [] => rfl
  | x :: xs => by
    show (match D.key (.int x), D.keys (xs.map .int) with | some k, some ks => some (k :: ks) | _, _ => none) = _
    rw [zzz xs]
    rfl
theorem zacj (xs : List Int) : D.key (eT .int xs) = some (kL xs) := by
  show (D.keys (xs.map .int)).map NestedKey.tup = _
  rw [zzz]; rfl
theorem zr6 : ∀ xs : List Int, NestedKey.depthAll (xs.map .num) = 0
  | [] => rfl
  | x :: xs => by
    show max (NestedKey.depth (.num x)) (NestedKey.depthAll (xs.map .num)) = 0
    rw [zr6 xs]; rfl
theorem zaei (xs : List Int) : (kL xs).depth ≤ 8 := by
  show NestedKey.depthAll (xs.map .num) + 1 ≤ 8
  rw [zr6]; decide
theorem z34 : ∀ xs : List Int, nkDs (xs.map .num) = xs.map .int
  | [] => rfl
  | x :: xs => by
    show nkD (.num x) :: nkDs (xs.map .num) = _
    rw [z34 xs]; rfl
theorem z8k (xs : List Int) : nkD (kL xs) = eT .int xs := by
  show D.nd .tup (nkDs (xs.map .num)) = _
  rw [z34]; rfl
theorem tkL : TKey kL (eT .int) := ⟨zad0, fun _ => ⟨_, rfl⟩, zacj, zaei, z8k⟩
/-- the hash of such a key -/
def zab0 (xs : List Int) : Int := reduceHash (Builtin.Tuple.tupleHashOf (xs.map hashInt))
theorem zwp (w : World) : ∀ xs : List Int, NestedKey.hashes w (xs.map .num) = xs.map hashInt
  | [] => rfl
  | x :: xs => by
    show NestedKey.hash w (.num x) :: NestedKey.hashes w (xs.map .num) = _
    rw [zwp w xs]; rfl
theorem zadg (w : World) (xs : List Int) : (kL xs).hash w = zab0 xs := by
  show reduceHash (Builtin.Tuple.tupleHashOf (NestedKey.hashes w (xs.map .num))) = _
  rw [zwp]; rfl
/-- the parts of a list, in its order -/
def zzu : List Int → List (List Int)
  | [] => [[]]
  | x :: xs => zzu xs ++ (zzu xs).map (x :: ·)
theorem znv : ∀ {l s : List Int}, s.Sublist l → s ∈ zzu l
  | _, _, .slnil => by simp [zzu]
  | x :: l, s, .cons _ h => by
    unfold zzu
    exact List.mem_append.mpr (.inl (znv h))
  | x :: l, _, .cons₂ _ h => by
    unfold zzu
    exact List.mem_append.mpr (.inr (List.mem_map.mpr ⟨_, znv h, rfl⟩))
theorem zh4 {α β : Type} (f : α → β) : ∀ {l : List α}, (l.map f).Nodup → ∀ a ∈ l, ∀ b ∈ l, f a = f b → a = b
  | [], _, _, h, _, _, _ => by cases h
  | x :: l, nd, a, ha, b, hb, e => by
    rw [List.map_cons, List.nodup_cons] at nd
    rcases List.mem_cons.mp ha with ea | ha2
    · rcases List.mem_cons.mp hb with eb | hb2
      · rw [ea, eb]
      · exact (nd.1 (List.mem_map.mpr ⟨b, hb2, by rw [← e, ea]⟩)).elim
    · rcases List.mem_cons.mp hb with eb | hb2
      · exact (nd.1 (List.mem_map.mpr ⟨a, ha2, by rw [e, eb]⟩)).elim
      · exact zh4 f nd.2 a ha2 b hb2 e
theorem zw3 {α β : Type} (f : α → β) : ∀ {l : List α}, l.Nodup → (∀ a ∈ l, ∀ b ∈ l, f a = f b → a = b) → (l.map f).Nodup
  | [], _, _ => List.nodup_nil
  | x :: l, nd, h => by
    rw [List.nodup_cons] at nd
    rw [List.map_cons, List.nodup_cons]
    refine ⟨fun m => ?_, zw3 f nd.2 fun a ha b hb => h a (by simp [ha]) b (by simp [hb])⟩
    obtain ⟨y, hy, e⟩ := List.mem_map.mp m
    have := h y (by simp [hy]) x (by simp) e
    exact nd.1 (this ▸ hy)
end DL
namespace DL
open PySem PySem.Spec PyProof.Rows L2
section
variable {X : Cx}
def zxq : DRn := d1 fun d G Q => match d with
  | .nd .tup ds => (plainDs ds = true ∧ PySem.W.AllAlike (ds.map py) ∧ PySem.W.Sortable (ds.map py) ∧ ∀ d ∈ ds, (py d).depth ≤ 60) ∧ ∀ p, G p = none → Q (.ref p) (up G p (.lst (srt ds)))
  | _ => False
theorem z5n (hu : X.A.units + 64 < cLine) : zkr X (.builtin "sorted") zxq := zjq fun pins s σ H G x v d P I rx hr q1 t => by
  split at t
  · rename_i ds
    obtain ⟨⟨p1, p2, p3, p4⟩, t⟩ := t
    rw [VR] at q1
    obtain ⟨a, vs, rfl, hq, r⟩ := q1
    cases (show v = Value.ref a from rx)
    obtain ⟨its, rv, pl, hz⟩ := I.tuple hq
    obtain ⟨⟨cls, dd, data, sl⟩, ho0, hc0, n, hd0⟩ := id pl
    simp only at hc0 hd0
    subst hc0 hd0
    have hlen : its.length ≤ sizeLine := by rw [← rv.length]; exact hz
    refine Calls.call_function_entry PyProof.Rows.kind_sorted PyProof.Rows.plain_sorted PyProof.Rows.entry_sorted (PyProof.Rows.args_sorted1 _) ?_
    unfold Builtin.«sorted»
    refine wpAny_bind (m := checkCount "sorted" 1 1 _) (wpAny_pure ?_)
    refine wpAny_bind (wpAny_collect_seq (A := X.A.in1) a (.inr rfl) ho0 rfl rfl (fun h' hk => ?_) (by rw [List.size_toArray]; exact hlen))
    have I1 : Inv X pins σ H { s with heap := h' } := I.kept (t' := s.toks) hk
    refine wpAny_bind (wpAny_newList ?_ (by simpa using hlen))
    have hoL : (h'.push (seqObj "list" its.toArray 0)).get? h'.objs.size = some (seqObj "list" its.toArray 0) := Heap.get?_push_size _ rfl
    show wpAny _ _ _ _ _ { s with heap := h'.push (seqObj "list" its.toArray 0) }
    have er : PySem.W.EachIs (fun v b => ∃ rs, Reads (h'.push (seqObj "list" its.toArray 0)) v (py b) rs ∧ h'.objs.size ∉ rs) its ds := (zof I1 r rv p1).mono fun u b ⟨l, rd⟩ => ⟨l, PyProof.Rows.Reads.keeps (fun b o q => Heap.get?_push_of_some _ q) rd, fun hm => by
      obtain ⟨o, ho⟩ := PyProof.On.reads_mem_get rd _ hm
      exact absurd (Heap.lt_size ho) (Nat.lt_irrefl _)⟩
    have hlen2 : ds.length ≤ sizeLine := by rw [← r.length]; exact hz
    refine wpAny_bind (wpAny_holding (PySem.W.list_sort_data (s := { s with heap := h'.push (seqObj "list" its.toArray 0) }) (R := fun u d => ∃ v, RelV v u ∧ VR X.ml H G d v) (enc := py) (bs := ds) hoL (zus r rv) er p2 p3 hlen2 (fun b hb => by have := p4 b hb; show X.A.units + 1 + 1 + _ < _; omega) fun out ho eo => ?_))
    obtain ⟨ws, rw', qs'⟩ := znz eo
    obtain ⟨e', he'⟩ := PyProof.Rows.sortedHeap_at (vs := its) (out := List.toArray out) hoL
    have hp : H h'.objs.size = none := I1.hok.fresh (Nat.le_refl _)
    have x3 : Ext H G (upd H h'.objs.size (.lst ws)) (up G h'.objs.size (.lst (srt ds))) := .new hp
    refine wpAny_pure ⟨_, rfl, .ref h'.objs.size, .ref h'.objs.size, upd H h'.objs.size (.lst ws), _, I1.laid (t' := s.toks) (fun b u e => ?_) (Nat.le_refl _)
      (show ObjOk X.prog X.w _ _ _ (.lst ws) from ⟨by rw [rw'.length, ho]; exact hlen2, out, e', rw', he'⟩), rfl, t _ (hr.free hp), x3, hr.new hp ⟨ws, upd_same, qs'.ext hr x3⟩, by rw [VR]⟩
    have hb : b < h'.objs.size := Heap.lt_size e
    rw [PyProof.Rows.sortedHeap_old (Nat.ne_of_lt hb) (by rw [size_push']; exact Nat.lt_succ_of_lt hb)]
    exact Heap.get?_push_of_some _ e
  · exact t.elim
end
end DL
namespace DL
open PySem PySem.Spec PyProof.Rows L2
theorem zafl {wi : DTI} {g : DTG} {tt : DTT} {te : DTE} {own : List Nat} {η : DSt} {Q : DVK} {α : Type} {xs : List α} {f : α → D} {G0 : DHp} {a : Addr} {ns : List Int} {c : Int} (h : α → D) (hl : xs.length ≤ 1000000)
    (hw : ∀ R, R (xs.map f) zco (Gw G0 a ns c) → wi η (Gw G0 a ns c) R)
    (hb : ∀ x ∈ xs, ∀ (G1 : DHp) (c1 : Int) (A : DVK) (B : DHp → Prop), (∀ c2, A (h x) (Gw G1 a ns c2)) → (∀ c2, B (Gw G1 a ns c2)) → g (f x) (zid η own) (Gw G1 a ns c1) fun η2 G2 => tt η2 G2 fun b G3 => if b = true then te η2 G3 A else B G3)
    (q : ∀ ys : List α, ys.Sublist xs → ∀ c' p, Gw G0 a ns c' p = none → Q (.ref p) (up (Gw G0 a ns c') p (.lst (ys.map h)))) : dLc wi g tt te own η (Gw G0 a ns c) Q := by
  refine hw _ ?_
  intro p hp
  obtain ⟨e, hap⟩ := zzt (o := .lst []) hp
  refine ⟨fun i acc G' => ∃ (ys : List α) (c' : Int), ys.Sublist (xs.take i) ∧ acc = ys.map h ∧ G' = Gw (up G0 p (.lst acc)) a ns c', ⟨[], c, List.nil_sublist _, rfl, e⟩, ?_, ?_, ?_⟩
  · rintro i acc G' ⟨ys, c', hs, rfl, rfl⟩
    exact ⟨trivial, zu2 hap⟩
  · rintro i d acc G' hd ⟨ys, c', hs, rfl, rfl⟩
    obtain ⟨x, hx, rfl⟩ := zaq hd
    refine hb x (List.mem_of_getElem? hx) _ _ _ _ (fun c2 => ⟨zv ?_, zu2 hap, ys ++ [x], c2, ?_, by rw [List.map_append]; rfl, z5p hap⟩) fun c2 => ⟨ys, c2, ?_, rfl, rfl⟩
    · rw [List.length_map]
      have := hs.length_le
      rw [List.length_take] at this
      omega
    · rw [zba hx]
      exact hs.append (List.Sublist.refl _)
    · rw [zba hx]
      exact hs.trans (List.sublist_append_left _ _)
  · rintro acc G' ⟨ys, c', hs, rfl, rfl⟩
    rw [List.length_map, List.take_length] at hs
    have hn : Gw G0 a ns c' p = none := by
      have := zu5 hap hp
      show up G0 a _ p = none
      rw [zej (Ne.symm hap)]
      exact this
    have e2 : Gw (up G0 p (.lst (ys.map h))) a ns c' = up (Gw G0 a ns c') p (.lst (ys.map h)) := by
      show up (up G0 p _) a _ = up (up G0 a _) p _
      exact zg7 (Ne.symm hap)
    rw [e2]
    exact q ys hs c' p hn
end DL
namespace DL
open PySem PySem.Spec PyProof.Rows L2
end DL
namespace DL
open PySem PySem.Spec PyProof.Rows L2
end DL
namespace DL
open PySem PySem.Spec PyProof.Rows L2
end DL
namespace DL
open PySem PySem.Spec PyProof.Rows L2
end DL
namespace DL
open PySem PySem.Spec PyProof.Rows L2
end DL
namespace DL
open PySem PySem.Spec PyProof.Rows L2
end DL
namespace DL
open PySem PySem.Spec PyProof.Rows L2
end DL
namespace DL
open PySem PySem.Spec PyProof.Rows L2
end DL
namespace DL
open PySem PySem.Spec PyProof.Rows L2
end DL
namespace DL
open PySem PySem.Spec PyProof.Rows L2
end DL
namespace DL
open PySem PySem.Spec PyProof.Rows L2
end DL
namespace DL
open PySem PySem.Spec PyProof.Rows L2
end DL
namespace DL
open PySem PySem.Spec PyProof.Rows L2
end DL
namespace DL
open PySem PySem.Spec PyProof.Rows L2
end DL
namespace DL
open PySem PySem.Spec PyProof.Rows L2
end DL
namespace DL
open PySem PySem.Spec PyProof.Rows L2
end DL
namespace DL
open PySem PySem.Spec PyProof.Rows L2
def dLc2 (wi : DTI) (g : DTG) (tt : DTT) (wi1 : DTI) (g1 : DTG) (tt1 : DTT) (te : DTE) (own own1 : List Nat) : DTE := fun η G Q => wi η G fun ds ok G1 => ∀ p, G1 p = none → ∃ W : Nat → List D → DHp → Prop, W 0 [] (up G1 p (.lst [])) ∧ (∀ i acc G, W i acc G → ok G ∧ G p = some (.lst acc)) ∧
  (∀ i d acc G, ds[i]? = some d → W i acc G → g d (zid η own) G fun η2 G2 => tt η2 G2 fun b G3 => if b = true then wi1 η2 G3 fun ds1 ok1 G4 => ∃ W1 : Nat → List D → DHp → Prop, W1 0 acc G4 ∧ (∀ j acc G, W1 j acc G → ok1 G ∧ G p = some (.lst acc)) ∧
      (∀ j d acc G, ds1[j]? = some d → W1 j acc G → g1 d (zid η2 own1) G fun η3 G5 => tt1 η3 G5 fun b G6 => if b = true then te η3 G6 fun y G7 => acc.length < sizeLine ∧ G7 p = some (.lst acc) ∧ W1 (j + 1) (acc ++ [y]) (up G7 p (.lst (acc ++ [y]))) else W1 (j + 1) acc G6) ∧
      (∀ acc G, W1 ds1.length acc G → W (i + 1) acc G)
    else W (i + 1) acc G3) ∧
  ∀ acc G, W ds.length acc G → Q (.ref p) G
section
variable {X : Cx}
theorem zaai [Bs] {K : Ml} {wi wi1 : DTI} {g g1 : DTG} {tt tt1 : DTT} {te : DTE} {own own1 is is1 : List Nat} {σ : L2.St} {H : Hp} {Q : VK} (hsub : ∀ i ∈ is, i ∈ own) (hsub1 : ∀ i ∈ is1, i ∈ own1)
    (h : znj K (dLc2 wi g tt wi1 g1 tt1 te own own1) σ H Q) : tLc2 (z6n K wi) (z6w K is g) (z06 K tt) (z6n K wi1) (z6w K is1 g1) (z06 K tt1) (znj K te) own own1 σ H Q := by
  obtain ⟨η, G, P, hs, hr, t, k⟩ := h
  refine ⟨η, G, _, hs, hr, t, fun ds ok G1 J H1 pp x r it => ?_⟩
  intro D hD
  have gD : G1 D = none := r.free hD
  obtain ⟨W, w0, wok, step, fin⟩ := pp D gD
  have xD : Ext H1 G1 (upd H1 D (.lst [])) (up G1 D (.lst [])) := .new hD
  have rD : HR K (upd H1 D (.lst [])) (up G1 D (.lst [])) := r.new hD ⟨[], upd_same, .nil⟩
  refine ⟨fun i m H' => m = ds.length - i ∧ i ≤ ds.length ∧ ∃ acc G', W i acc G' ∧ Ext H1 G1 H' G' ∧ HR K H' G',
    ⟨ds.length, by simp, Nat.zero_le _, [], _, w0, xD, rD⟩, ?_⟩
  rintro i m H2 ⟨rfl, hle, acc, G2, w1, x1, r1⟩
  obtain ⟨a1, a2⟩ := it i H2 G2 x1 r1 (wok _ _ _ w1).1
  by_cases hlt : i < ds.length
  · have e : ds[i]? = some ds[i] := by simp [hlt]
    obtain ⟨go, yl⟩ := a1 _ e
    refine .inr ⟨go, fun H' => ∃ acc G', W (i + 1) acc G' ∧ Ext H1 G1 H' G' ∧ HR K H' G', fun H' ⟨acc', G', z⟩ => ⟨_, by omega, rfl, hlt, acc', G', z⟩, fun y H3 hy => ?_⟩
    obtain ⟨x3, r3, v3⟩ := yl y H3 hy
    have s3 : SR K H3 G2 (wipe σ own) (zid η own) := ((hs.ext hr x).ext r (x1.trans x3)).wipe own
    refine ⟨_, zid η own, G2, _, v3, s3, r3, step i _ acc G2 e w1, fun η4 G4 σ4 H4 p4 x4 s4 r4 wp => ⟨?_, η4, G4, _, s4, r4, p4, fun b G5 H5 p5 x5 r5 => ?_⟩⟩
    · have hlen : (wipe σ own).length = σ4.length := by
        have := congrArg List.length wp
        rw [wipe_length, wipe_length] at this
        exact this.symm
      rw [ztg (vs := own) wp hsub hlen]
      exact zqm _ _
    · by_cases hb : b = true
      · subst hb
        rw [if_pos rfl] at p5 ⊢
        have x15 : Ext H1 G1 H5 G5 := x1.trans ((x3.trans x4).trans x5)
        have s5 : SR K H5 G5 σ4 η4 := s4.ext r4 x5
        refine ⟨η4, G5, _, s5, r5, p5, fun ds1 ok1 G6 J1 H6 p6 x6 r6 it1 => ?_⟩
        obtain ⟨W1, w10, w1ok, step1, fin1⟩ := p6
        refine ⟨fun j m H' => m = ds1.length - j ∧ j ≤ ds1.length ∧ ∃ acc G', W1 j acc G' ∧ Ext H6 G6 H' G' ∧ HR K H' G', ⟨ds1.length, by simp, Nat.zero_le _, _, _, w10, .refl _ _, r6⟩, ?_⟩
        rintro j m H7 ⟨rfl, hle1, acc7, G7, w17, x7, r7⟩
        obtain ⟨b1, b2⟩ := it1 j H7 G7 x7 r7 (w1ok _ _ _ w17).1
        by_cases hlt1 : j < ds1.length
        · have e1 : ds1[j]? = some ds1[j] := by simp [hlt1]
          obtain ⟨go1, yl1⟩ := b1 _ e1
          refine .inr ⟨go1, fun H' => ∃ acc G', W1 (j + 1) acc G' ∧ Ext H6 G6 H' G' ∧ HR K H' G', fun H' ⟨acc', G', z⟩ => ⟨_, by omega, rfl, hlt1, acc', G', z⟩, fun y1 H8 hy1 => ?_⟩
          obtain ⟨x8, r8, v8⟩ := yl1 y1 H8 hy1
          have s8 : SR K H8 G7 (wipe σ4 own1) (zid η4 own1) := ((s5.ext r5 x6).ext r6 (x7.trans x8)).wipe own1
          refine ⟨_, zid η4 own1, G7, _, v8, s8, r8, step1 j _ acc7 G7 e1 w17, fun η9 G9 σ9 H9 p9 x9 s9 r9 wp9 => ⟨?_, η9, G9, _, s9, r9, p9, fun bb G10 H10 p10 x10 r10 => ?_⟩⟩
          · have hlen : (wipe σ4 own1).length = σ9.length := by
              have := congrArg List.length wp9
              rw [wipe_length, wipe_length] at this
              exact this.symm
            rw [ztg (vs := own1) wp9 hsub1 hlen]
            exact zqm _ _
          · by_cases hbb : bb = true
            · subst hbb
              rw [if_pos rfl] at p10 ⊢
              refine ⟨η9, G10, _, s9.ext r9 x10, r10, p10, fun dy G11 vy H11 ⟨hz, hp11, w11⟩ x11 r11 q11 => ?_⟩
              obtain ⟨vs, hv11, ha⟩ := r11 D _ hp11
              have xx : Ext H7 G7 H11 G11 := ((x8.trans x9).trans x10).trans x11
              have xw : Ext H11 G11 (upd H11 D (.lst (vs ++ [vy]))) (up G11 D (.lst (acc7 ++ [dy]))) := .write hp11
              refine ⟨vs, hv11, by rw [ha.length]; exact hz, acc7 ++ [dy], _, w11, (x7.trans xx).trans xw, r11.write hp11 ⟨_, upd_same, ?_⟩⟩
              exact (ha.ext r11 xw).append (.cons (q11.ext r11 xw) .nil)
            · rw [if_neg hbb] at p10 ⊢
              exact ⟨acc7, G10, p10, x7.trans ((x8.trans x9).trans x10), r10⟩
        · have e1 : j = ds1.length := by omega
          subst e1
          exact .inl ⟨b2 (Nat.le_refl _), acc7, G7, fin1 _ _ w17, (x15.trans x6).trans x7, r7⟩
      · rw [if_neg hb] at p5 ⊢
        exact ⟨acc, G5, p5, x1.trans ((x3.trans x4).trans x5), r5⟩
  · have e : i = ds.length := by omega
    subst e
    exact .inl ⟨a2 (Nat.le_refl _), k (.ref D) G2 (.ref D) H2 (fin _ _ w1) (x.trans x1) r1 (by rw [VR])⟩
theorem zac6 [Bs] {elt tg iter tg1 iter1 : Expr} {ifs ifs1 : List Expr} {scope : Scope} {own : List (Str × Nat)} {own1 is is1 : List Nat} {pos : Pos} {wi wi1 : DTI} {g g1 : DTG} {tt tt1 : DTT} {te : DTE} (hc : X.calm = true) (hN : X.N.Nodup) (hi : PID X tg iter wi) (ok : BlkOk X.N X.env.scope scope own)
    (hg : ∀ (s : Shared) (H : Hp) (C : Addr) (cl : List (Str × Addr)) (fp : List Addr), PGD (X.blk s H scope (compEnvC scope cl C X.env) fp) tg is g) (ht : ∀ (s : Shared) (H : Hp) (C : Addr) (cl : List (Str × Addr)) (fp : List Addr), PTsD (X.blk s H scope (compEnvC scope cl C X.env) fp) ifs tt)
    (hi1 : ∀ (s : Shared) (H : Hp) (C : Addr) (cl : List (Str × Addr)) (fp : List Addr), PID (X.blk s H scope (compEnvC scope cl C X.env) fp) tg1 iter1 wi1)
    (hg1 : ∀ (s : Shared) (H : Hp) (C : Addr) (cl : List (Str × Addr)) (fp : List Addr), PGD (X.blk s H scope (compEnvC scope cl C X.env) fp) tg1 is1 g1) (ht1 : ∀ (s : Shared) (H : Hp) (C : Addr) (cl : List (Str × Addr)) (fp : List Addr), PTsD (X.blk s H scope (compEnvC scope cl C X.env) fp) ifs1 tt1)
    (he : ∀ (s : Shared) (H : Hp) (C : Addr) (cl : List (Str × Addr)) (fp : List Addr), PED (X.blk s H scope (compEnvC scope cl C X.env) fp) elt te) (hv : ∀ i ∈ own1, i ∈ own.map (·.2) := by decide) (hsub : ∀ i ∈ is, i ∈ own.map (·.2) := by decide) (hsub1 : ∀ i ∈ is1, i ∈ own1 := by decide) (hs : ∀ x, foldedSetIterable iter X.env x = pure x := by intro _; rfl) (hs1 : ∀ env x, foldedSetIterable iter1 env x = pure x := by intro _ _; rfl) :
    PED X (.ListComp elt [⟨tg, iter, ifs, 0⟩, ⟨tg1, iter1, ifs1, 0⟩] scope pos) (dLc2 wi g tt wi1 g1 tt1 te (own.map (·.2)) own1) :=
  PE.impI (pe_lc2 hc hN hi ok hv hg ht hi1 hg1 ht1 he hs hs1) fun _ _ _ _ _ _ h => zaai hsub hsub1 h
end
end DL
namespace DL
open PySem PySem.Spec PyProof.Rows L2
section
variable {K : Type} [DecidableEq K] {prog : Program} {w : World} {knd : HeapKind prog w K}
theorem z7j {d b : Addr} {k : K} (hd : (d == sysModules) = false) :
    MeetsIn prog w (Builtin.«dict.pop» ⟨[.ref d, .ref b], []⟩) (fun A R s => ∃ xs p, knd.room A.in1 ∧ knd.is s.heap k b ∧ s.heap.DictOfH knd d xs ∧ xs.length ≤ sizeLine ∧ atKey xs k = some p ∧
      ∀ h' tk, h'.DictOfH knd d (DT.dropH xs k) → Heap.SameBut d s.heap h' → R (.ok (.ret p.2)) { s with heap := h', toks := tk }) :=
  .of_wp fun A R s ⟨xs, p0, hu, hkey, hm, hsz, hp0, hsome⟩ => by
    obtain ⟨o, es, ep, ho, hc, hdat, he, his, hn⟩ := id hm
    have hes : es.size = xs.length := size_of_entries he
    have hpart : (keyPart (Value.ref b)).isSome = false := rfl
    unfold Builtin.«dict.pop»
    refine wpAny_bind ?_
    unfold Builtin.Dict.keyAndDefault
    refine wpAny_bind (wpAny_notOrdered_dict hm.typeIs ?_)
    show wpAny _ _ (pure (d, Value.ref b, none)) _ _ s
    refine wpAny_pure ?_
    simp only [hpart, Bool.false_eq_true, if_false]
    refine wpAny_bind (wpAny_dictEntries ho hdat (wpAny_bind (wpAny_pure ?_)))
    cases hem : es.isEmpty with
    | true =>
      exfalso
      have h0 : xs = [] := by
        have z : es.size = 0 := by simpa using hem
        exact List.length_eq_zero_iff.mp (by omega)
      rw [h0] at hp0
      cases hp0
    | false =>
      simp only [Bool.false_eq_true, if_false]
      refine wpAny_bind (DT.takeH hu hkey hm hsz (fun hno => ?_) fun p e hp hev h' hm' hs' => ?_)
      · rw [hno] at hp0
        cases hp0
      · rw [hp0] at hp
        cases hp
        simp only [Option.isNone_some, Bool.false_eq_true, if_false]
        exact wpAny_bind (wpAny_letGo (wpAny_pure ⟨e.val, rfl, by rw [hev]; exact hsome h' _ hm' hs'⟩))
end
theorem zuz {α β : Type} {k : NestedKey} : ∀ {xs : List (NestedKey × α)} {kvs : List (NestedKey × β)}, xs.map (·.1) = kvs.map (·.1) → (xs.filter fun x => decide (x.1 ≠ k)).map (·.1) = (kvs.filter fun x => decide (x.1 ≠ k)).map (·.1)
  | [], [], _ => rfl
  | [], _ :: _, h => by simp at h
  | _ :: _, [], h => by simp at h
  | x :: xs, y :: kvs, h => by
    simp only [List.map_cons, List.cons.injEq] at h
    by_cases e : y.1 = k
    · rw [List.filter_cons_of_neg (by simp [h.1, e]), List.filter_cons_of_neg (by simp [e])]
      exact zuz h.2
    · rw [List.filter_cons_of_pos (by simp [h.1, e]), List.filter_cons_of_pos (by simp [e]), List.map_cons, List.map_cons, h.1, zuz h.2]
theorem z0e {K : Ml} {H : Hp} {G : DHp} {k : NestedKey} : ∀ {xs : List (NestedKey × Addr × Value)} {kvs : List (NestedKey × D)} {ws : List V}, xs.map (·.1) = kvs.map (·.1) → Vals ws (xs.map (·.2.2)) → VRs K H G (kvs.map (·.2)) ws →
    ∃ ws', Vals ws' ((xs.filter fun x => decide (x.1 ≠ k)).map (·.2.2)) ∧ VRs K H G ((kvs.filter fun x => decide (x.1 ≠ k)).map (·.2)) ws'
  | [], [], _, _, _, _ => ⟨[], .nil, .nil⟩
  | [], _ :: _, _, h, _, _ => by simp at h
  | _ :: _, [], _, h, _, _ => by simp at h
  | x :: xs, y :: kvs, ws, h, h2, h3 => by
    simp only [List.map_cons, List.cons.injEq] at h
    obtain ⟨v0, w0, rfl, q0, t0⟩ := VRs.uncons h3
    cases h2 with
    | cons r1 r2 =>
      obtain ⟨ws', a1, a2⟩ := z0e (k := k) h.2 r2 t0
      by_cases e : y.1 = k
      · rw [List.filter_cons_of_neg (by simp [h.1, e]), List.filter_cons_of_neg (by simp [e])]
        exact ⟨ws', a1, a2⟩
      · rw [List.filter_cons_of_pos (by simp [h.1, e]), List.filter_cons_of_pos (by simp [e])]
        exact ⟨v0 :: ws', .cons r1 a1, .cons q0 a2⟩
section
variable {X : Cx}
theorem zac1 {pins : List (Addr × Obj)} {σ : L2.St} {H : Hp} {G : DHp} {s : Shared} {a : Addr} {kvs : List (NestedKey × D)} {k : NestedKey} {h' : Heap} {t' : Nat} {es : Array DictEntry} {ep : Nat} {ws : List V} {xs : List (NestedKey × Addr × Value)}
    (I : Inv X pins σ H s) (hr : HR X.ml H G) (hG : G a = some (.dN kvs)) (hH : H a = some (rawO a es ep)) (hsm : (a == sysModules) = false) (hks : xs.map (·.1) = kvs.map (·.1)) (hat : ∀ x ∈ xs, ze7 X.ml H x.1 (.ref x.2.1) ∧ x.1.depth ≤ 8)
    (hvs : Vals ws (xs.map (·.2.2))) (vr : VRs X.ml H G (kvs.map (·.2)) ws) (hlen : kvs.length ≤ sizeLine) (hm' : h'.DictOfH (nestedKind X.prog X.w) a (DT.dropH xs k)) (hs : Heap.SameBut a s.heap h') :
    ∃ H', Inv X pins σ H' { s with heap := h', toks := t' } ∧ Ext H G H' (up G a (.dN (zrm kvs k))) ∧ HR X.ml H' (up G a (.dN (zrm kvs k))) := by
  obtain ⟨o', es', ep', ho', hc', hd', he', _, hn'⟩ := hm'
  have raw : h'.DictRaw a es' ep' := ⟨o', ho', hc', hd'⟩
  have x : Ext H G (upd H a (rawO a es' ep')) (up G a (.dN (zrm kvs k))) := .write hG
  refine ⟨_, z3h (t' := t') I hH hs raw, x, hr.write hG ?_⟩
  have keys : (DT.dropH xs k).map (·.1) = (zrm kvs k).map (·.1) := zuz hks
  obtain ⟨ws', v1, v2⟩ := z0e (k := k) hks hvs vr
  refine ⟨ws', ⟨DT.dropH xs k, es', ep', upd_same, hsm, he', keys, by rw [← keys]; exact hn', by rw [List.length_map]; exact Nat.le_trans (List.length_filter_le _ _) hlen, fun y hy => ?_, v1⟩, v2.ext hr x⟩
  have hy2 := (List.mem_filter.mp hy).1
  exact ⟨(hat y hy2).1.ext hr x, (hat y hy2).2⟩
def zzw : DRn := d2 fun x y G Q => match x with
  | .ref a => (match G a with
    | some (.dN kvs) => (match y with
      | .nd .tup ks => (match D.key (.nd .tup ks) with
        | some k => (k.depth ≤ 8 ∧ kvs.length ≤ sizeLine) ∧ (match dval kvs k with
          | some d => Q d (up G a (.dN (zrm kvs k)))
          | none => False)
        | none => False)
      | _ => False)
    | _ => False)
  | _ => False
theorem z4m (hu : X.A.units + 64 < cLine) : MtD X "dict.pop" zzw := zw4 fun pins s σ H G x y v u dx dy P I rx ry hr q1 q2 t => by
  cases dx with
  | ref a =>
    cases hG : G a with
    | none => have : False := by simpa [hG] using t
              exact this.elim
    | some o =>
      cases o with
      | dN kvs =>
        cases dy with
        | nd kd ks =>
          cases kd with
          | tup =>
            cases ek : D.key (.nd .tup ks) with
            | none => have : False := by simpa [hG, ek] using t
                      exact this.elim
            | some k =>
              cases ed : dval kvs k with
              | none => have : False := by simpa [hG, ek, ed] using t
                        exact this.elim
              | some d =>
                have t : (k.depth ≤ 8 ∧ kvs.length ≤ sizeLine) ∧ P d (up G a (.dN (zrm kvs k))) := by simpa [hG, ek, ed] using t
                obtain ⟨⟨h8, hl⟩, t⟩ := t
                have ka := zqy q2 ek
                rw [VR] at q1; subst q1
                rw [VR] at q2
                obtain ⟨b, vs, rfl, hb, rb⟩ := q2
                cases (show v = Value.ref a from rx)
                cases (show u = Value.ref b from ry)
                obtain ⟨ws, dn, vr⟩ := hr a _ hG
                obtain ⟨xs, es, ep, h1, h2, h3, h4, h5, h6, h7, h9, h10⟩ := DnAt.of I dn
                rcases zlt (K := Unit) (k := k) h10 kvs H G X.ml h6 vr with ⟨e1, _⟩ | ⟨d2, w2, p2, e1, e2, rw', qw⟩
                · rw [ed] at e1; cases e1
                · rw [ed] at e1; cases e1
                  refine call_meetsIn PySem.F.slot_dict_pop h4.typeIs PySem.F.entry_dict_pop (PySem.F.args_dict_pop_2 _ _) (z7j (knd := nestedKind X.prog X.w) (k := k) h5) ⟨xs, p2, zry hu, ⟨zgs I ka rfl, h8⟩, h4, by have := congrArg List.length h6; rw [List.length_map] at this; rw [this]; exact h7, e2, fun h' tk hm' hs => ?_⟩
                  obtain ⟨H', I', x, r'⟩ := zac1 (t' := tk) (k := k) I hr hG h1 h5 h6 h9 h10 vr hl hm' hs
                  exact ⟨w2, d, _, _, I', rw', t, x, r', qw.ext hr x⟩
          | _ => have : False := by simpa [hG] using t
                 exact this.elim
        | _ => have : False := by simpa [hG] using t
               exact this.elim
      | _ => have : False := by simpa [hG] using t
             exact this.elim
  | _ => exact t.elim
end
end DL
namespace HB
open PySem PySem.Spec PyProof.Rows L2
theorem zab1 {l : PySem.W.OpenLaw} {k : Nat} {q : Program} {loose : List Str} {XP : (Str → Option Value) → Heap → Prop} {YP : World → Heap → Prop} {d : DefRec} {x : Str}
    (hn : l.most = some 63) (hdf : d.params.defaults = []) (hr : Room k callerA)
    (F : ∀ (w : World) (mg : Str → Option Value) (fa : Addr) (h : Heap), YP w h → h.Ns mainGlobals mg → mg d.name = some (.ref fa) →
      ∃ (K : PySem.W.Frag) (fd : FuncData), K.In h ∧ (∀ (s : Shared) (u : Value), BindsTo s fd ⟨[u], []⟩ [(x, u)]) ∧
        ∀ base : Heap, K.In base → base.Ns mainGlobals mg → DL.FnD l.prog w K mg base k fa fd [x] DL.z6s) :
    PySem.W.WalkO q loose XP YP l.row.toRowW d [] (fun f vs => PySem.call f vs) :=
  L2.walk_ofE (CX := CX0) hn (by decide) hdf hr (fun w mg fa h Y G hm => by
    obtain ⟨K, fd, KX, hb, hF⟩ := F w mg fa h Y G hm
    refine ⟨K, fd, fun vs H Q _ => DL.z20 ⟨K, w⟩ DL.z6s vs H Q, KX, hb, fun H a ns h1 h2 h3 => ?_, hF⟩
    have hs : DL.VR ⟨K, w⟩ H (fun _ => none) (.nd .scr (ns.map .int)) (.ref a) := by
      rw [DL.VR]
      refine ⟨a, _, rfl, ?_, .of_ints ns⟩
      rcases h3 with (h3 | ⟨o, h3⟩) | h3
      · rcases h2 a with z | ⟨ob, xs, z⟩
        · rw [h3] at z; cases z
        · rw [h3] at z; cases z
      · exact .inl ⟨o, h3⟩
      · exact .inr h3
    exact ⟨[.nd .scr (ns.map .int)], fun _ => none, fun v _ => v = .bl true, .cons hs .nil, (fun a o e => by cases e), ⟨ns, rfl, h1, fun _ => rfl, fun _ => rfl⟩, fun d G' v H' p _ _ q => by
      subst p
      rw [DL.VR] at q
      exact q⟩) fun _ _ _ _ z => z
end HB
namespace DX
open PySem PySem.W PySem.Calls PyProof.Rows PySem.HandSPX
open Builtin Builtin.ObjectAttr
section
variable {prog : Program} {w : World} {A : Around} {E : Value → Shared → Prop} {R : Result → Shared → Prop} {hp : Heap} {g : Array GenState} {d : Drawn} {t : Nat} {os : OsState} {K : W.Frag} {x C : Addr}
/-- the first field of a new exception -/
theorem zafa {name : Str} {tk : Tok} {v : Value} {fv : Array Value} (X : K.In hp) (hx : hp.get? x = some { cls := .ref C, data := .fields fv }) (ov : excOver K C ESX.exTail = true) (ht : takerIn K C name = some none) (hd : hasDictIn K C = true)
    (hq : ∀ h' tk' dx, (∀ b o, b ≠ x → hp.get? b = some o → h'.get? b = some o) → hp.objs.size ≤ dx → dx ≠ x → h'.get? x = some { cls := .ref C, dict := some dx, data := .fields fv } → h'.Ns1 dx (fun y => if y = name then some v else none) →
      R (.ok (.ret .none)) ⟨h', g, d, tk', os⟩) :
    codeAny (model prog w) A (.call (.builtin "object.__setattr__") ⟨[.ref x, .str name tk, v], []⟩) R ⟨hp, g, d, t, os⟩ := by
  have I : InstAt hp x { cls := .ref C, data := .fields fv } C none := ⟨hx, rfl, rfl, trivial⟩
  have ne : x ≠ hp.objs.size := Nat.ne_of_lt (Heap.lt_size hx)
  obtain ⟨cd, hc, hdd⟩ := any_some hd
  have lc : Looks (model prog w) hp (classData C) cd := looks_clsIn X hc
  refine osa_openX (s := ⟨hp, g, d, t, os⟩) PySem.F.store_Exception X I ov ht fun b => ?_
  obtain ⟨nm, bs, mro, ns, qn, hD, sn, sb, ab, col, del⟩ := cd
  dsimp only at hdd
  subst hdd
  dsimp only
  unfold storeInOwnDict ownDictForStores
  repeat (first | with_reducible refine store_in_new ?_ ?_ | with_reducible refine wpAny_loadPart_at hx ?_ | with_reducible refine lc.at ?_ | wp_step)
  · exact ⟨_, #[], _, (Heap.get?_update_ne _ _ _ _ ne.symm).trans (Heap.get?_push_at rfl rfl), rfl, fun e he => (by simp at he), fun _ => rfl⟩
  · intro h' tk' hn same
    have h1 : (hp.push { cls := .type "dict", data := .dict #[] }).get? x = some { cls := .ref C, data := .fields fv } := Heap.get?_push_of_some _ hx
    exact hq h' tk' hp.objs.size
      (fun b o hb ho => by
        rw [same.2 b (Nat.ne_of_lt (Heap.lt_size ho)), Heap.get?_update_ne _ _ _ _ hb]
        exact Heap.get?_push_of_some _ ho)
      (Nat.le_refl _) ne.symm (by rw [same.2 x ne]; exact Heap.get?_update_self _ h1 rfl) hn
end
/-- what the written part says of the class at C (of the program P) with its __init__ at fI: the field f, the parameter's name y -/
structure XTxt (P : Program) (K : Frag) (mg : Str → Option Value) (C fI : Addr) (y f : Str) : Prop where
  ini : excInitIn K C ESX.exTail "Exception.__new__" = true
  ov : excOver K C ESX.exTail = true
  nof : takerIn K C f = some none
  hd : hasDictIn K C = true
  sa : findIn K (.ref C) "__setattr__" = some (some (.builtin "object.__setattr__"))
  iC : findIn K (.ref C) "__init__" = some (some (.ref fI))
  isf : isFn K (.ref fI) = true
  kC : keepIn K (.ref C) = true
  exB : subIn K (.ref C) (.type "BaseException") = some true
  exE : subIn K (.ref C) (.type "Exception") = some true
  tyC : typeIn K (.ref C) = some (.type "type")
  self : mroIn K C (.ref C) = some true
  sup : ks_superIn K C C "__init__" = some (some (.builtin "Exception.__init__"))
  third : nsIn K cStatics "thirdparty.any" = some none
  nsup : mg "super" = none
  top : (P.main.scope.names.lookup ("super" : Str)).isSome = false
  fn : ∃ (oc : Value) (od : Option Addr) (qual : Str) (doc pm kV : Value) (an : Option Addr) (cda cc : Addr) (ct : Value) (osl : Array (Option Value)) (pa : Arguments) (body : List Stmt) (sco : Scope) (msg : Str) (j : Nat) (q1 q2 q3 q4 q5 q6 q7 q8 q9 q10 : Pos),
    K.lookup fI = some ⟨oc, od, .func (ksFn "__init__" qual pa body sco .none kV doc pm an (.ref cda) ct cc), osl⟩ ∧ codeIn K (.ref cda) qual = true ∧
    body = [.Expr (.Call (.Attribute (.Call (.Name "super" q1) [] [] q2) "__init__" q3) [.Constant (.str msg) j q4] [] q5) q6, .Assign [.Attribute (.Name "self" q7) f q8] (.Name y q9) q10] ∧
    sco.kind = .function ∧ sco.isCoroutine = false ∧ sco.isGenerator = false ∧ sco.names.lookup ("super" : Str) = some .globalImplicit ∧ sco.names.lookup ("__class__" : Str) = some .free ∧ sco.names.lookup ("self" : Str) = some .local ∧ sco.names.lookup y = some .local ∧ (∀ x ∈ sco.names, x.2 ≠ .cell) ∧
    (∃ ar : Arg, (pa.posonlyargs ++ pa.args).head? = some ar ∧ ar.arg = "self") ∧ (y == ("__debug__" : Str)) = false ∧ y ≠ "self" ∧
    (∃ (ccl : Value) (cdd : Option Addr) (vs : Array Value) (ccs : Array (Option Value)) (file : Str) (tf : Tok), K.lookup cda = some ⟨ccl, cdd, .fields vs, ccs⟩ ∧ vs[2]? = some (.str file tf) ∧ ((P.main.file : Str) == file) = true) ∧
    (∃ (cl : Value) (cld : Option Addr) (csl : Array (Option Value)), K.lookup cc = some ⟨cl, cld, .cell (some (.ref C)), csl⟩) ∧
    (∃ pl : Sem Bool, ∀ L : Addr, eval (.Call (.Attribute (.Call (.Name "super" q1) [] [] q2) "__init__" q3) [.Constant (.str msg) j q4] [] q5) (ksEnv qual sco L fI (.ref cda) cc) = (do
      let ov ← attributeBase (.Call (.Name "super" q1) [] [] q2) "__init__" (ksEnv qual sco L fI (.ref cda) cc) (eval (.Call (.Name "super" q1) [] [] q2) (ksEnv qual sco L fI (.ref cda) cc))
      standAt q3.atName
      let (fx, first) ← holding [ov] (getMethod ov "__init__" pl)
      callWith q5 fx first (backTo q5 (starEach [.Constant (.str msg) j q4] (ksEnv qual sco L fI (.ref cda) cc))) [])) ∧
    (∀ L : Addr, interactive (ksEnv qual sco L fI (.ref cda) cc) = false ∧ swapsWith (.Call (.Attribute (.Call (.Name "super" q1) [] [] q2) "__init__" q3) [.Constant (.str msg) j q4] [] q5) none q6.line (ksEnv qual sco L fI (.ref cda) cc) = pure false ∧
      swapsWith (.Name y q9) (some (.Attribute (.Name "self" q7) f q8)) q10.line (ksEnv qual sco L fI (.ref cda) cc) = pure false ∧
      starEach [.Constant (.str msg) j q4] (ksEnv qual sco L fI (.ref cda) cc) = [(false, eval (.Constant (.str msg) j q4) (ksEnv qual sco L fI (.ref cda) cc))] ∧
      ∀ (M : Model) (A : Around) (Q : Value → Shared → Prop) (E : Value → Shared → Prop) (s : Shared), (∀ s' tk, s'.heap = s.heap → s'.gens = s.gens → s'.drawn = s.drawn → s'.os = s.os → Q (.str msg tk) s') → wpAny M A (eval (.Constant (.str msg) j q4) (ksEnv qual sco L fI (.ref cda) cc)) Q E s) ∧
    (∀ (s : Shared) (u v : Value), BindsTo s (ksFn "__init__" qual pa body sco .none kV doc pm an (.ref cda) ct cc) ⟨[u, v], []⟩ [("self", u), (y, v)])
end DX
namespace DX
open PySem PySem.W PySem.Calls PyProof.Rows PySem.HandSPX
/-- what __init__ leaves -/
structure IEnd (h h' : Heap) (x C dx t1 : Addr) (f : Str) (v : Value) : Prop where
  keep : ∀ b o, b ≠ x → h.get? b = some o → h'.get? b = some o
  obj : h'.get? x = some { cls := .ref C, dict := some dx, data := .fields #[.ref t1, .none, .none, .none, .bool false, .none] }
  dbig : h.objs.size ≤ dx
  dne : dx ≠ x
  ns : h'.Ns1 dx (fun z => if z = f then some v else none)
section
variable {prog : Program} {w : World} {A : Around} {E : Value → Shared → Prop} {R : Result → Shared → Prop} {K : Frag} {mg : Str → Option Value} {x C fI : Addr} {y f : Str}
theorem zae5 {h : Heap} {D : Addr} {cd : ClassData} (X : K.In h) (hD : clsIn K D = some cd) : ∃ o, h.get? D = some o ∧ o.data = .cls cd := by
  unfold clsIn at hD
  split at hD
  · rename_i ho
    cases hD
    exact ⟨_, X _ _ ho, rfl⟩
  · cases hD
theorem zaal (T : XTxt prog K mg C fI y f) {t0 : Addr} {v : Value} {h : Heap} {g : Array GenState} {d : Drawn} {t : Nat} {os : OsState} (X : K.In h) (hlim : h.NoLimit) (hg : h.Ns mainGlobals mg) (hb : ∃ mb, h.Ns builtinsNs mb ∧ ∀ x : Str, x ≠ "__name__" → mb x = bootBuiltins x) (hx : h.get? x = some (excO C t0)) (nX : K.lookup x = none) (hroom : A.depth < recursionLimit)
    (hq : ∀ h' tk dx t1, IEnd h h' x C dx t1 f v → R (.ok (.ret .none)) ⟨h', g, d, tk, os⟩) :
    codeAny (model prog w) A (.call (.ref fI) ⟨[.ref x, v], []⟩) R ⟨h, g, d, t, os⟩ := by
  obtain ⟨oc, od, qual, doc, pm, kV, an, cda, cc, ct, osl, pa, body, sco, msg, j, q1, q2, q3, q4, q5, q6, q7, q8, q9, q10, ho, hcd, rfl, hk, hco, hgen, hs1, hs2, hs3, hs4, hcell, ⟨ar, har, ean⟩, hyd, hys, ⟨ccl, cdd, vs, ccs, file, tf, hcode, hvs, hfile⟩, ⟨cl, cld, csl, hcc⟩, ⟨pl, hev⟩, hsm, hbind⟩ := T.fn
  obtain ⟨mb, hbn, hbb⟩ := hb
  obtain ⟨cd, hC, hdd⟩ := any_some T.hd
  refine ks_codeAny_call_defAt (fd := ksFn "__init__" qual pa _ sco .none kV doc pm an (.ref cda) ct cc) (binds := [("self", .ref x), (y, v)]) hroom (X _ _ ho) rfl hlim (codeRec_of X hcd) rfl (hbind _ _ _) hcell ?_ (fun h₁ hn k => ?_) hco hgen hk
  · intro z hz
    simp only [List.mem_cons, List.not_mem_nil, or_false] at hz
    rcases hz with rfl | rfl
    · exact hs3
    · exact hs4
  have X₁ : K.In h₁ := X.keeps k
  have hx₁ := k _ _ hx
  obtain ⟨oD, hD1, hD2⟩ := zae5 X₁ hC
  show _root_.PySem.wpAt (model prog w) (A.deeper (ksEnv qual sco h.objs.size fI (.ref cda) cc)) (.func _ (ksEnv qual sco h.objs.size fI (.ref cda) cc)) (execs _ (ksEnv qual sco h.objs.size fI (.ref cda) cc)) _ _ ⟨h₁, g, d, t + 2, os⟩
  obtain ⟨hin, hsw1, hsw2, hst, hcon⟩ := hsm h.objs.size
  refine ks_wpAt_execs_cons (ks_wpAt_Expr_any (ks_wpAt_MethodCall (pl := pl) ?_ (hev _)) hin hsw1)
  · refine ks_wpAt_super_base (env := ksEnv qual sco h.objs.size fI (.ref cda) cc) hs1 hs2 rfl rfl (X₁ _ _ ho) rfl har rfl (X₁ _ _ hcode) rfl hvs hfile T.top ?_
    refine ks_loadName_global hk hs1 (loadGlobal_builtin (env := ksEnv qual sco h.objs.size fI (.ref cda) cc) (hg.keeps k) T.nsup (hbn.keeps k) ((hbb _ (by decide +kernel)).trans (by first | rfl | decide +kernel)) ⟨rfl, ?_⟩)
    refine wpAny_loadName_free hk hs2 rfl ⟨_, X₁ _ _ hcc, rfl⟩ ?_
    rw [ean]
    refine wpAny_loadName_local hk hs3 hn (v := .ref x) (by show List.lookup ("self" : Str) [(y, v), ("self", Value.ref x)] = _; rw [List.lookup, show (("self" : Str) == y) = false from beq_eq_false_iff_ne.mpr (Ne.symm hys)]; rfl) ?_
    refine ks_wpAny_isType_cls hD1 hD2 ⟨rfl, ?_⟩
    refine ks_wpAny_call_super hD1 hD2 hx₁ rfl (fun c e => (by cases e)) (looks_mroIn X₁ T.self) (fun h₂ hso k₂ => ?_)
    have X₂ : K.In h₂ := X₁.keeps k₂
    have I₂ : InstAt h₂ x (excO C t0) C none := ⟨k₂ _ _ hx₁, rfl, rfl, trivial⟩
    have hxC : x ≠ C := ks_ne X₂ I₂ hC
    have hf : alongIn K "__init__" ((cd.mro.dropWhile (· != .ref C)).drop 1) = some (some (.builtin "Exception.__init__")) := by
      have := T.sup
      unfold ks_superIn at this
      rw [hC] at this
      exact this
    refine ESX.getMethod_super hso (looks_opaque X₂ T.third) (l₀ := cd.mro) ?_ rfl X₂ hf hxC rfl ?_ ?_
    · exact fun A Q E s kk q => wpAny_bind ((looks_clsIn X₂ hC) A _ E s kk (wpAny_pure q))
    · exact I₂.type.andThen (looks_subIn X₂ T.exE)
    · have hx₂ := k₂ _ _ hx₁
      have kp : ∀ b o, h₂.get? b = some o → (h₂.push (ESX.bw x)).get? b = some o := fun b o e => Heap.get?_push_of_some _ e
      have hu : (h₂.push (ESX.bw x)).get? h₂.objs.size = some (ESX.bw x) := Heap.get?_push_at rfl rfl
      obtain ⟨nm, N, qn, bs, bm, hdct, sn, sub, ab, col, dd, k0, k1, k3, k5, k6, hCo, _⟩ := excInit_of X₂ T.ini
      refine ESX.callWith_bound (x := x) ?_ (hst.trans rfl) rfl
      rw [hst]
      refine Calls.spliced_cons ?_
      show wpAny (model prog w) _ (eval (.Constant (.str msg) j q4) _) _ _ _
      refine hcon _ _ _ _ _ fun s₃ tk₃ e1 e2 e3 e4 => ?_
      obtain ⟨h₃, g₃, d₃, t₃, os₃⟩ := s₃
      dsimp only at e1 e2 e3 e4
      subst e1 e2 e3 e4
      refine Calls.spliced_nil ⟨hu, ?_⟩
      refine ESX.call_bw (kp _ _ hCo) (kp _ _ hx₂) hu (by rw [sizeLine_eq]; exact (by decide : 1 ≤ 16777216)) fun h₄ t1 k₄ hx₄ => ?_
      have old₁ : ∀ b o, b ≠ x → h₁.get? b = some o → h₄.get? b = some o := fun b o hb e => k₄ b o hb (kp b o (k₂ b o e))
      have old : ∀ b o, b ≠ x → h.get? b = some o → h₄.get? b = some o := fun b o hb e => old₁ b o hb (k b o e)
      have hxL : h.objs.size ≠ x := Nat.ne_of_gt (Heap.lt_size hx)
      have X₄ : K.In h₄ := fun a o e => old a o (fun z => by rw [z, nX] at e; cases e) (X a o e)
      dsimp only
      have hn₄ : h₄.Ns h.objs.size (fun z => List.lookup z ([(("self" : Str), Value.ref x), (y, v)].reverse)) := by
        obtain ⟨oL, es, ep, hL, r⟩ := hn
        exact ⟨oL, es, ep, old₁ _ _ hxL hL, r⟩
      refine ks_wpAt_execs_cons (wpAt_of_wpAny (plainObj_wpAny_Assign_Attribute ?_ hsw2))
      refine ESX.ldL (v := v) hn₄ (by show List.lookup y [(y, v), ("self", Value.ref x)] = _; rw [List.lookup, show (y == y) = true from beq_self_eq_true y]) ?_ hk hs4 hyd
      refine ESX.ldL (v := .ref x) hn₄ (by show List.lookup ("self" : Str) [(y, v), ("self", Value.ref x)] = _; rw [List.lookup, show (("self" : Str) == y) = false from beq_eq_false_iff_ne.mpr (Ne.symm hys)]; rfl) ?_ hk hs3 (by decide)
      refine set_plain X₄ (ox := excO C t1) (od := none) ⟨hx₄, rfl, rfl, trivial⟩ T.sa ?_
      refine zafa X₄ hx₄ T.ov T.nof T.hd fun h₅ tk₅ dx k₅ dn dne hx₅ hn₅ => ?_
      dsimp only
      refine wpAt_of_wpAny (wpAny_execs_nil ?_)
      refine hq h₅ tk₅ dx t1 ⟨fun b o hb e => k₅ b o hb (old b o hb e), hx₅, Nat.le_of_lt (Nat.lt_of_lt_of_le hn₄.lt dn), dne, hn₅⟩
/-- a made one -/
structure Made (h h' : Heap) (e C dx : Addr) (f : Str) (v : Value) : Prop where
  keep : ∀ b o, h.get? b = some o → h'.get? b = some o
  new : h.objs.size ≤ e
  obj : ∃ oe vs, h'.get? e = some oe ∧ oe.cls = .ref C ∧ oe.dict = some dx ∧ oe.data = .fields vs ∧ vs[1]? = some .none
  dbig : h.objs.size ≤ dx
  dne : dx ≠ e
  ns : h'.Ns1 dx (fun z => if z = f then some v else none)
theorem z88 (v : Value) : [v].length ≤ sizeLine := by
  rw [sizeLine_eq]
  exact (by decide : 1 ≤ 16777216)
theorem zaae (T : XTxt prog K mg C fI y f) {v : Value} {h : Heap} {g : Array GenState} {d : Drawn} {t : Nat} {os : OsState} (X : K.In h) (hlim : h.NoLimit) (hg : h.Ns mainGlobals mg) (hb : ∃ mb, h.Ns builtinsNs mb ∧ ∀ x : Str, x ≠ "__name__" → mb x = bootBuiltins x) (hroom : A.depth + 1 < recursionLimit)
    (hq : ∀ h' tk e dx, Made h h' e C dx f v → R (.ok (.ret (.ref e))) ⟨h', g, d, tk, os⟩) :
    codeAny (model prog w) A (.call (.ref C) ⟨[v], []⟩) R ⟨h, g, d, t, os⟩ := by
  obtain ⟨nm, N, qn, bs, bm, hdct, sn, sub, ab, col, dd, k0, k1, k3, k5, k6, hCo, hbm⟩ := excInit_of X T.ini
  have k : ∀ b o, h.get? b = some o → ((h.push (kdv_tup [v])).push (excO C h.objs.size)).get? b = some o := fun b o e => Heap.get?_push_of_some _ (Heap.get?_push_of_some _ e)
  have hget : ((h.push (kdv_tup [v])).push (excO C h.objs.size)).get? (h.objs.size + 1) = some (excO C h.objs.size) := by heap_get
  have nX : K.lookup (h.objs.size + 1) = none := by
    cases e : K.lookup (h.objs.size + 1) with
    | none => rfl
    | some o =>
      have z := Heap.lt_size (X _ _ e)
      exact absurd (Nat.lt_of_succ_lt z) (Nat.lt_irrefl _)
  have hft : typeIn K (.ref fI) = some (.type "function") := by
    have := T.isf
    unfold isFn at this
    exact beq_iff_eq.mp this
  obtain ⟨mb, hbn, hbb⟩ := hb
  refine HandSPX.call_own PySem.F.excBase_Exception hbm hCo (looks_findIn X T.iC) (fun self => bind_fn X self hft) (z88 v) ?_
  refine zaal T (X.keeps k) (hlim.keeps k) (hg.keeps k) ⟨mb, hbn.keeps k, hbb⟩ hget nX hroom fun h' tk' dx t1 M => ?_
  have old : ∀ b o, h.get? b = some o → h'.get? b = some o := fun b o e => M.keep b o (Nat.ne_of_lt (Nat.lt_succ_of_lt (Heap.lt_size e))) (k b o e)
  have z : h.objs.size + 1 + 1 ≤ dx := by
    have := M.dbig
    first
      | (simpa only [Heap.size_push] using this)
      | exact this
  exact ⟨rfl, hq h' tk' (h.objs.size + 1) dx ⟨old, Nat.le_succ _, ⟨_, _, M.obj, rfl, rfl, rfl, rfl⟩, Nat.le_trans (Nat.le_trans (Nat.le_succ _) (Nat.le_succ _)) z, M.dne, M.ns⟩⟩
end
end DX
namespace DL
open PySem PySem.Spec PyProof.Rows L2
theorem zaaq {v : V} {v' : Value} (r : RelV v v') (f z : Str) : RelO (List.lookup z [(f, v)]) (if z = f then some v' else none) := by
  by_cases h : z = f
  · subst h
    rw [if_pos rfl]
    have q : List.lookup z [(z, v)] = some v := by simp [List.lookup]
    rw [q]
    exact r
  · rw [if_neg h]
    have q1 : (z == f) = false := by simpa using h
    have q2 : List.lookup z [(f, v)] = none := by simp [List.lookup, q1]
    rw [q2]
    trivial
section
variable {X : Cx} {C fI : Addr} {y f : Str}
/-- C(e), an exception -/
def tMkX (C : Addr) (f : Str) (ta : TA) : L2.St → Hp → XK → Prop := fun σ H Q => ta σ H fun vs H1 => ∃ v, vs = [v] ∧ ∀ d, H1 d = none → Q (.ref C) (some d) (upd H1 d (.xd [(f, v)]))
theorem zafk {x : Str} {a : Expr} {ta : TA} {p pos : Pos} {k : Nat} (T : DX.XTxt X.prog X.K X.mg C fI y f) (hm : X.mg x = some (.ref C)) (hr : Room k X.A) (ha : PA X [a] ta) (hg : Gl X x := by rfl)
    (he : starEach (a :: []) X.env = (false, eval a X.env) :: starEach [] X.env := by rfl) (hpl : (backTo pos (starEach [] X.env)).any (·.1) = false := by rfl) (hdb : (x == ("__debug__" : Str)) = false := by decide) :
    PMk X (.Call (.Name x p) [a] [] pos) (tMkX C f ta) := by
  intro pins s σ H Q I h
  refine wpAny_Call_Name_kw (ld_glob I hg hm ?_ hdb)
  refine PySem.W.callWith_K (h₀ := X.base) I.ok.mod.kin T.kC (thn (ha.run pos pins s σ H _ I h) fun us s1 hh => ?_) he hpl
  obtain ⟨vs, H1, I1, r1, v, ev, q1⟩ := hh
  subst ev
  refine ⟨I1.kIn, ?_⟩
  cases r1 with
  | cons rv rn =>
    rename_i v' us'
    cases rn
    show wpAny _ _ (call (.ref C) [v']) _ _ _
    have hlim := I1.nolimit
    have hbk := I1.bk
    obtain ⟨mb, hb1, hb2⟩ := I1.mod.blt
    obtain ⟨hp, g, dr, tk, os⟩ := s1
    refine wpAny_call (DX.zaae T I1.kIn hlim (I1.mod.glob.keeps hbk) ⟨mb, hb1.keeps hbk, hb2⟩ (by have := hr.dp; omega) fun h' tk' e d M => ?_)
    show MkP X pins σ Q (.ref e) ⟨h', g, dr, tk', os⟩
    obtain ⟨oe, fv, hoe, hc, hd, hdat, h1⟩ := M.obj
    have hns := M.ns
    obtain ⟨G', g1, g2⟩ := restrict h' fun b => decide (b ≠ e)
    have gk : ∀ b, b ≠ e → G'.get? b = h'.get? b := fun b hb => g1 b (decide_eq_true hb)
    have ge : G'.get? e = none := g2 e (by simp)
    have old : ∀ b o, hp.get? b = some o → G'.get? b = some o := fun b o q => (gk b (Nat.ne_of_lt (Nat.lt_of_lt_of_le (Heap.lt_size q) M.new))).trans (M.keep b o q)
    have ob : ObjOk X.prog X.w (upd H1 d (.xd [(f, v)])) G' d (.xd [(f, v)]) :=
      ⟨_, hns.at (fun o q => (gk d M.dne).trans q), fun z => zaaq rv f z⟩
    have J : Inv X pins σ (upd H1 d (.xd [(f, v)])) ⟨G', g, dr, tk', os⟩ := I1.laid (t' := tk') old M.dbig ob
    refine ⟨e, oe, fv, ⟨G', g, dr, tk', os⟩, _, .ref C, some d, rfl, J, fun b o q => ?_, ge, hoe, ⟨hc, hd⟩, hdat, h1, ?_, rfl, I1.bare, raises_own T.exB T.tyC, q1 d (I1.hok.fresh M.dbig)⟩
    · by_cases hb : b = e
      · have q' : G'.get? b = some o := q
        rw [hb, ge] at q'; cases q'
      · exact (gk b hb).symm.trans q
    · rw [upd_ne (Ne.symm M.dne)]
      exact I1.hok.fresh M.new
end
end DL
namespace DL
open PySem PySem.Spec PyProof.Rows L2
/-- an exception: its class, its fields -/
structure XV where
  C : Addr
  fs : List (Str × D)
/-- what is wished of an exception, at the slots -/
abbrev DXK := XV → DSt → DHp → Prop
/-- .. by a caller -/
abbrev DXP := XV → DHp → Prop
structure XR (K : Ml) (H : Hp) (G : DHp) (x : XV) (cls : Value) (d : Option Addr) : Prop where
  cls : cls = .ref x.C
  fs : ∃ (dd : Addr) (ws : List (Str × V)), d = some dd ∧ G dd = none ∧ H dd = some (.xd ws) ∧ ws.map (·.1) = x.fs.map (·.1) ∧ VRs K H G (x.fs.map (·.2)) (ws.map (·.2))
theorem XR.ext {K : Ml} {H H' : Hp} {G G' : DHp} {x : XV} {cls : Value} {d : Option Addr} (hr : HR K H G) (e : Ext H G H' G') (h : XR K H G x cls d) : XR K H' G' x cls d := by
  obtain ⟨dd, ws, h1, h2, h3, h4, h5⟩ := h.fs
  obtain ⟨e1, e2⟩ := e.ex dd _ h3 h2
  exact ⟨h.cls, dd, ws, h1, e2, e1, h4, h5.ext hr e⟩
def ztw [Bs] (K : Ml) (E : DXK) : WX := fun cls d σ H => ∃ x η G, SR K H G σ η ∧ HR K H G ∧ XR K H G x cls d ∧ E x η G
/-- a promise of a def that may raise -/
abbrev DRnX := List D → DHp → DVK → DXP → Prop
def zad2 (K : Ml) (r : DRnX) : Sp := fun vs H Q E => ∃ ds G P PX, VRs K H G ds vs ∧ HR K H G ∧ r ds G P PX ∧ (∀ d G' v H', P d G' → Ext H G H' G' → HR K H' G' → VR K H' G' d v → Q v H') ∧
  ∀ x G' cls d H', PX x G' → Ext H G H' G' → HR K H' G' → XR K H' G' x cls d → E cls d H'
abbrev FnX (P : Program) (w : World) (K : PySem.W.Frag) (mg : Str → Option Value) (base : Heap) (k : Nat) (f : Addr) (fd : FuncData) (ps : List Str) (sp : DRnX) : Prop := FnOk P w K mg base (L2.CX P w) k f fd ps (zad2 ⟨K, w⟩ sp)
section
variable {P : Program} {w : World} {K : PySem.W.Frag} {mg : Str → Option Value} {base : Heap}
/-- the rule for a def that may raise -/
theorem fn_x {x qual : Str} {st : Stmt} {f : Addr} {fd : FuncData} {N ps : List Str} {k : Nat} {sp : DRnX} (F : Fun K x qual st f fd) (S : FnScope N ps (defScope st)) (len : ∀ ds G Q E, sp ds G Q E → ds.length = ps.length) {T : DXK → DTS}
    (hp : ∀ [Bs] (U : DXK) (cdv : Value) (A : Around) (outer : List Env) (s : Shared) (H : Hp) (E : XK), Room k (A.deeper (envOfC qual (defScope st) s.heap.objs.size f cdv)) → Takes (cxOf (L2.CX P w) P w K mg base N qual (defScope st) f cdv A outer s H E) (ztw ⟨K, w⟩ U) →
      PassesOwn (model P w) (cxOf (L2.CX P w) P w K mg base N qual (defScope st) f cdv A outer s H E).A (cxOf (L2.CX P w) P w K mg base N qual (defScope st) f cdv A outer s H E).env (cxOf (L2.CX P w) P w K mg base N qual (defScope st) f cdv A outer s H E).xe →
      PSsD (cxOf (L2.CX P w) P w K mg base N qual (defScope st) f cdv A outer s H E) (defBody st) (T U))
    (hs : ∀ ds G Q E, sp ds G Q E → T (fun x _ G' => E x G') { nx := fun _ G' => Q .non G', rt := Q } (zao N ds) G) : FnX P w K mg base (k + 1) f fd ps sp := by
  refine F.okX S (fun vs H Q E h => ?_) (fun cdv A outer s H vs Q E hr h => ?_)
  · obtain ⟨ds, G, Q', X', q, _, t, _⟩ := h
    rw [q.length]
    exact len _ _ _ _ t
  · obtain ⟨ds, G, Q', X', q, hr', t, k', kx⟩ := h
    letI : Bs := ⟨H, G⟩
    refine ⟨z5l ⟨K, w⟩ (T fun x _ G' => X' x G'), hp _ cdv A outer s H E hr ?_ (passes_of rfl), zao N ds, G, _, .st q (.refl _ _), hr', hs ds G Q' X' t, ?_⟩
    · exact (takes_of rfl rfl rfl rfl).imp fun cls d σ H' ⟨x, η, G', sr, hr2, xr, e⟩ => kx x G' cls d H' e sr.base hr2 xr
    · exact ⟨fun η G' σ H' p x _ r => k' _ _ _ _ p x r (by rw [VR]), fun d G' v H' p x r q => k' _ _ _ _ p x r q, fun _ _ _ _ p => p.elim, fun _ _ _ _ p => p.elim⟩
end
section
variable {X : Cx}
/-- raise C(e) -/
def z00 (C : Addr) (f : Str) (U : DXK) (T : DTA) : DTS := fun _ η G => T η G fun ds G1 => match ds with
  | [y] => U ⟨C, [(f, y)]⟩ η G1
  | _ => False
theorem zt7 [Bs] {C fI : Addr} {y f x : Str} {U : DXK} {a : Expr} {T : DTA} {p pos pos2 : Pos} {k : Nat} (hc : X.calm = true) (t : DX.XTxt X.prog X.K X.mg C fI y f) (hm : X.mg x = some (.ref C)) (hr : Room k X.A) (tk : Takes X (ztw X.ml U)) (ha : PAD X [a] T) (hg : Gl X x := by rfl)
    (he : starEach (a :: []) X.env = (false, eval a X.env) :: starEach [] X.env := by rfl) (hpl : (backTo pos (starEach [] X.env)).any (·.1) = false := by rfl) (hdb : (x == ("__debug__" : Str)) = false := by decide) :
    PSD X (.Raise (some (.Call (.Name x p) [a] [] pos)) none pos2) (z00 C f U T) :=
  PS.impI (ps_raise hc tk (zafk t hm hr ha hg he hpl hdb)) fun _ _ σ H E _ ⟨η, G, F, sr, hr, tt, er⟩ => ⟨η, G, _, sr, hr, tt, fun ds G1 vs H1 p x1 r1 q1 => by
    split at p
    · rename_i y'
      obtain ⟨v, r, rfl, q2, q3⟩ := q1.uncons
      rw [q3.nil_of]
      refine ⟨v, rfl, fun d hd => ?_⟩
      have x2 : Ext H1 G1 (upd H1 d (.xd [(f, v)])) G1 := .laid hd
      refine ⟨⟨C, [(f, y')]⟩, η, G1, (sr.ext hr x1).ext r1 x2, r1.laid hd, ⟨rfl, d, [(f, v)], rfl, r1.free hd, upd_same, rfl, .cons (q2.ext r1 x2) .nil⟩, p⟩
    · exact p.elim⟩
/-- a call of a def that may raise -/
def dCX (sp : DRnX) (U : DXK) (T : DTA) : DTE := fun η G Q => T η G fun ds G1 => sp ds G1 Q fun x G2 => U x η G2
theorem z02 [Bs] {k : Nat} {f : Addr} {fd : FuncData} {ps : List Str} {sp : DRnX} {U : DXK} {x : Str} {p pos : Pos} {e : Expr} {es : List Expr} {T : DTA} (F : FnX X.prog X.w X.K X.mg X.base k f fd ps sp) (hr : Room k X.A) (hm : X.mg x = some (.ref f)) (hk : PySem.W.keepIn X.K (.ref f) = true) (hb : Binds X.K fd ps [])
    (tk : Takes X (ztw X.ml U)) (ha : PAD X (e :: es) T) (hg : Gl X x := by rfl) (hdb : (x == ("__debug__" : Str)) = false := by decide) (he : starEach (e :: es) X.env = (false, eval e X.env) :: starEach es X.env := by rfl) (hpl : (backTo pos (starEach es X.env)).any (·.1) = false := by rfl) :
    PED X (.Call (.Name x p) (e :: es) [] pos) (dCX sp U T) :=
  PE.impI (pe_callS F hr hg hm hk hb (fun σ => passAt tk σ) ha hdb he hpl) fun _ _ σ H Q _ ⟨η, G, P, sr, hr, t, k⟩ => ⟨η, G, _, sr, hr, t, fun ds G1 vs H1 p x1 r1 q1 =>
    ⟨ds, G1, P, _, q1, r1, p, fun d G2 v H2 pd x2 r2 q2 => k d G2 v H2 pd (x1.trans x2) r2 q2, fun xv G2 cls d H2 pe x2 r2 xr => ⟨xv, η, G2, (sr.ext hr x1).ext r1 x2, r2, xr, pe⟩⟩⟩
end
section
variable {X : Cx}
/-- a base put in the place of another -/
theorem SR.rebase {b b' : Bs} {K : Ml} {H : Hp} {G : DHp} {σ : L2.St} {η : DSt} (h : @SR b K H G σ η) (x : Ext b'.H0 b'.G0 H G) : @SR b' K H G σ η := @SR.mk b' K H G σ η (@SR.len b _ _ _ _ _ h) (@SR.get b _ _ _ _ _ h) x
/-- the exceptions' ends: slot i is given up -/
def zady (i : Nat) (F : zla) : zla := { nx := fun η G => F.nx (η.set i none) G, rt := F.rt, bk := fun η G => F.bk (η.set i none) G, ct := fun η G => F.ct (η.set i none) G }
/-- ends, from another base -/
theorem zkp.rebase {b b' : Bs} {K : Ml} {H H' : Hp} {G G' : DHp} {F : zla} {E : Ends} (e : @zkp b K H G F E) (x0 : Ext b.H0 b.G0 H G) (x : Ext H G H' G') : @zkp b' K H' G' F E :=
  @zkp.mk b' K H' G' F E (fun η2 G2 σ2 H2 p x2 sr2 hr2 => @zkp.nx b _ _ _ _ _ e η2 G2 σ2 H2 p (x.trans x2) (SR.rebase (b := b') (b' := b) sr2 ((x0.trans x).trans x2)) hr2)
    (fun d2 G2 v2 H2 p x2 hr2 q => @zkp.rt b _ _ _ _ _ e d2 G2 v2 H2 p (x.trans x2) hr2 q)
    (fun η2 G2 σ2 H2 p x2 sr2 hr2 => @zkp.bk b _ _ _ _ _ e η2 G2 σ2 H2 p (x.trans x2) (SR.rebase (b := b') (b' := b) sr2 ((x0.trans x).trans x2)) hr2)
    (fun η2 G2 σ2 H2 p x2 sr2 hr2 => @zkp.ct b _ _ _ _ _ e η2 G2 σ2 H2 p (x.trans x2) (SR.rebase (b := b') (b' := b) sr2 ((x0.trans x).trans x2)) hr2)
/-- .. with slot i given up -/
theorem zkp.gone {b : Bs} {K : Ml} {H : Hp} {G : DHp} {F : zla} {E : Ends} (i : Nat) (e : @zkp b K H G F E) : @zkp b K H G (zady i F) ({ nx := fun σ' H' => E.nx (σ'.set i none) H', rt := E.rt, bk := fun σ' H' => E.bk (σ'.set i none) H', ct := fun σ' H' => E.ct (σ'.set i none) H' }) :=
  @zkp.mk b K H G _ _ (fun η2 G2 σ2 H2 p x2 sr2 hr2 => @zkp.nx b _ _ _ _ _ e _ G2 _ H2 p x2 (sr2.none i _) hr2)
    (fun d2 G2 v2 H2 p x2 hr2 q => @zkp.rt b _ _ _ _ _ e d2 G2 v2 H2 p x2 hr2 q)
    (fun η2 G2 σ2 H2 p x2 sr2 hr2 => @zkp.bk b _ _ _ _ _ e _ G2 _ H2 p x2 (sr2.none i _) hr2)
    (fun η2 G2 σ2 H2 p x2 sr2 hr2 => @zkp.ct b _ _ _ _ _ e _ G2 _ H2 p x2 (sr2.none i _) hr2)
/-- try: tb / except C as n: ts; oth: classes that pass by it, to U -/
def zabn (C : Addr) (oth : List Addr) (i : Nat) (U : DXK) (tb : DXK → DTS) (ts : Addr → XV → DTS) : DTS := fun F η G => tb (fun x η' G' => (x.C = C ∧ ∀ a, ts a x (zady i F) (η'.set i (some (.ref a))) G') ∨ (x.C ∈ oth ∧ U x η' G')) F η G
/-- the suite's reading at the hand layer -/
def suT (K : Ml) (ts : XV → DTS) : Value → Option Addr → TS := fun cls d E σ H => ∃ x G, XR K H G x cls d ∧ HR K H G ∧ @z5l ⟨H, G⟩ K (ts x) E σ H
theorem zae9 {a : Addr} {oe : Obj} {pn : List (Addr × Obj)} {cls : Value} {d : Option Addr} {sts : List Stmt} {ts : XV → DTS}
    (h : ∀ [Bs] (x : XV), XR X.ml Bs.H0 Bs.G0 x cls d → HR X.ml Bs.H0 Bs.G0 → PSsD (X.suite a ((a, oe) :: pn)) sts (ts x)) : PSs (X.suite a ((a, oe) :: pn)) sts (suT X.ml ts cls d) :=
  ⟨fun pins s σ H E I ⟨x, G, xr, hr, l⟩ => by
    letI : Bs := ⟨H, G⟩
    exact (h x xr hr).run pins s σ H E I l⟩
/-- the body's reading at the hand layer -/
def boT (K : Ml) (tb : DXK → DTS) : WX → TS := fun W E σ H => ∃ (b : Bs) (U : DXK), (∀ cls d σ H, @ztw b K U cls d σ H → W cls d σ H) ∧ @z5l b K (tb U) E σ H
theorem zafb {Y : Cx} {sts : List Stmt} {tb : DXK → DTS} {W : WX} (tk : Takes Y W) (h : ∀ [Bs] (U : DXK), Takes Y (ztw Y.ml U) → PSsD Y sts (tb U)) : PSs Y sts (boT Y.ml tb W) :=
  ⟨fun pins s σ H E I ⟨b, U, i, l⟩ => (@h b U (tk.imp i)).run pins s σ H E I l⟩
theorem z9k [Bs] {C : Addr} {oth : List Addr} {i : Nat} {x n : Str} {U : DXK} {body suite : List Stmt} {b₀ : Stmt} {np pos pos' : Pos} {tb : DXK → DTS} {ts : Addr → XV → DTS} (hs : X.stack = X.env :: X.outer) (hf : X.env.frame = some X.env.locals) (hN : X.N.Nodup) (hi : X.N[i]? = some n) (hln : X.env.kindOf n = some .local)
    (hm : X.mg x = some (.ref C)) (te : PySem.W.exmOne X.K (.ref C) (.ref C) = some true) (to : ∀ C' ∈ oth, PySem.W.exmOne X.K (.ref C') (.ref C) = some false) (tk : Takes X (ztw X.ml U))
    (hb : ∀ [Bs] (U : DXK) (pn : List (Addr × Obj)) (xe : Value → Shared → Prop), Takes (X.tr pn xe) (ztw X.ml U) → PassesOwn (model X.prog X.w) X.A X.env xe → PSsD (X.tr pn xe) body (tb U))
    (hsu : ∀ [Bs] (a : Addr) (oe : Obj) (cls : Value) (d : Option Addr) (pn : List (Addr × Obj)) (x : XV), Zc cls d oe → (∃ vs, oe.data = .fields vs) → XR X.ml Bs.H0 Bs.G0 x cls d → HR X.ml Bs.H0 Bs.G0 → PSsD (X.suite a ((a, oe) :: pn)) (b₀ :: suite) (ts a x))
    (hg : Gl X x := by rfl) (hdb : (x == ("__debug__" : Str)) = false := by decide) :
    PSD X (.Try body [.ExceptHandler (some (.Name x np)) (some n) (b₀ :: suite) pos'] [] [] pos) (zabn C oth i U tb ts) := by
  refine PS.impI (ps_try_as (i := i) (c := .ref C) (Wout := ztw X.ml U) (tb := boT X.ml tb) (ts := fun a cls d => suT X.ml (ts a) cls d) hs hf hN hi hln ⟨hg, hdb, .inl hm⟩ tk (fun W pn xe t po => zafb (Y := X.tr pn xe) t fun U t' => hb U pn xe t' po) fun a oe cls d pn hz hv => zae9 fun x xr hr => hsu a oe cls d pn x hz hv xr hr) ?_
  rintro _ _ σ H E _ ⟨η, G, F, sr, hr, t, er⟩
  refine ⟨⟨H, G⟩, _, ?w, η, G, F, sr.rebase (.refl _ _), hr, t, ?e⟩
  case w =>
    rintro cls d σ' H' ⟨x, η', G', sr', hr', xr, e⟩
    have xb : Ext H G H' G' := @SR.base ⟨H, G⟩ _ _ _ _ _ sr'
    have ec := xr.cls
    rcases e with ⟨e1, e2⟩ | ⟨e1, e2⟩
    · refine ⟨true, by rw [ec, e1]; exact te, fun _ a ha => ⟨x, G', xr, hr', η'.set i (some (.ref a)), G', _, ?_, hr', e2 a, ?_⟩, fun q => (nomatch q)⟩
      · exact @SR.set X.ml H' G' _ _ ⟨H', G'⟩ (SR.rebase (b := ⟨H, G⟩) (b' := ⟨H', G'⟩) sr' (.refl _ _)) _ _ i (by rw [VR])
      · exact zkp.gone (b := ⟨H', G'⟩) i (zkp.rebase (b' := ⟨H', G'⟩) er sr.base xb)
    · exact ⟨false, by rw [ec]; exact to _ e1, fun q => (nomatch q), fun _ => ⟨x, η', G', SR.rebase (b := ⟨H, G⟩) sr' (sr.base.trans xb), hr', xr, e2⟩⟩
  case e => exact zkp.rebase er sr.base (.refl _ _)
/-- n.f, n the exception that the suite holds -/
def dXF (a C : Addr) (x : XV) (f : Str) (T : DTE) : DTE := fun η G Q => T η G fun d G1 => d = .ref a ∧ x.C = C ∧ ∃ y, x.fs.lookup f = some y ∧ Q y G1
theorem zaez [Bs] {a C : Addr} {oe : Obj} {cls : Value} {d : Option Addr} {pn : List (Addr × Obj)} {x : XV} {e : Expr} {T : DTE} {pos : Pos} {n : Str} (t : XfC X.K C) (hno : PySem.W.findIn X.K (.ref C) n = some none)
    (hz : Zc cls d oe) (hv : ∃ vs, oe.data = .fields vs) (xr : XR X.ml Bs.H0 Bs.G0 x cls d) (hb : HR X.ml Bs.H0 Bs.G0) (he : PED (X.suite a ((a, oe) :: pn)) e T) (hbs : attributeBase e n X.env (eval e X.env) = eval e X.env := by rfl) :
    PED (X.suite a ((a, oe) :: pn)) (.Attribute e n pos) (dXF a C x n T) :=
  PE.impI (pe_xf t hno hz hv he hbs) fun _ _ σ H Q _ ⟨η, G, P, sr, hr, t, k⟩ => ⟨η, G, _, sr, hr, t, fun y G1 v H1 ⟨p1, p2, y', p3, p4⟩ x1 r1 q1 => by
    have xr1 : XR X.ml H1 G1 x cls d := xr.ext hb (sr.base.trans x1)
    obtain ⟨dd, ws, h1, h2, h3, h4, h5⟩ := xr1.fs
    obtain ⟨u, hu, q⟩ := zyf h4 h5 p3
    subst p1
    rw [VR] at q1
    exact ⟨q1, by rw [xr.cls, p2], dd, ws, u, h1, h3, hu, k _ _ _ _ p4 x1 r1 q⟩⟩
end
end DL
namespace DL
open PySem PySem.Spec PyProof.Rows L2
/-- no exception is wished -/
theorem z9q [Bs] {X : Cx} : Takes X (ztw X.ml fun _ _ _ => False) := fun _ _ x => by
  obtain ⟨a, B, sI, pins, σ, H, cls, d, e, I, nb, up, sky, na, os, ag, w⟩ := x
  obtain ⟨_, _, _, _, _, _, w⟩ := w
  exact w.elim
end DL
namespace DL
open PySem PySem.Spec PyProof.Rows L2
end DL
namespace DL
open PySem PySem.Spec PyProof.Rows L2
end DL
namespace M
open DL
section
variable {α β : Type} [DecidableEq α]
theorem zjs {a : α} {m : β} : ∀ {l : List (α × β)}, (l.map (·.1)).Nodup → (a, m) ∈ l → aget l a = some m
  | [], _, h => by cases h
  | z :: l, hn, h => by
    rw [List.map_cons, List.nodup_cons] at hn
    unfold aget
    rcases List.mem_cons.mp h with e | h
    · rw [← e]; simp
    · have : z.1 ≠ a := fun e => hn.1 (e ▸ List.mem_map.mpr ⟨_, h, rfl⟩)
      simp only [List.find?_cons, this, decide_false]
      exact zjs hn.2 h
theorem z5d {a : α} {m : β} {l : List (α × β)} (h : aget l a = some m) : (a, m) ∈ l := by
  unfold aget at h
  cases hf : l.find? (fun p => decide (p.1 = a)) with
  | none => rw [hf] at h; cases h
  | some z =>
    rw [hf] at h
    have h1 := List.mem_of_find?_eq_some hf
    have h2 := List.find?_some hf
    have h3 : z.1 = a := by simpa using h2
    have h4 : z.2 = m := by simpa using h
    obtain ⟨z1, z2⟩ := z
    simp only at h3 h4
    subst h3 h4
    exact h1
theorem zae7 {a : α} {l : List (α × β)} (h : aget l a = none) : a ∉ l.map (·.1) := fun q => by
  have := (zdt l a).mpr q
  rw [h] at this; cases this
end
def nxt (N : List (List Int)) (s : Int) : List Int := (N[s.toNat]?).getD []
def InR (N : List (List Int)) (s : Int) : Prop := 0 ≤ s ∧ s < N.length
structure Mt (N : List (List Int)) (P : List (Int × Int)) : Prop where
  nd : (P.map (·.1)).Nodup
  inj : ∀ a b m, aget P a = some m → aget P b = some m → a = b
  ok : ∀ a m, aget P a = some m → InR N m ∧ a ∈ nxt N m
/-- m is matched -/
def Has (P : List (Int × Int)) (m : Int) : Prop := ∃ a, aget P a = some m
/-- whoever is in S has all its next ones matched within S -/
def zqs (N : List (List Int)) (P : List (Int × Int)) (S : Int → Prop) : Prop := ∀ s, S s → InR N s ∧ ∀ a ∈ nxt N s, ∃ m, aget P a = some m ∧ S m
theorem Mt.nil (N : List (List Int)) : Mt N [] := ⟨List.nodup_nil, fun _ _ _ h => (by cases h), fun _ _ h => (by cases h)⟩
/-- how the search came to its craters -/
def Tree (N : List (List Int)) (P : List (Int × Int)) (one : Int) (C : List (Int × Int)) : Prop := ∀ l1 a s l2, C = l1 ++ (a, s) :: l2 → a ∉ l1.map (·.1) ∧ a ∈ nxt N s ∧ InR N s ∧ (s = one ∨ ∃ b, b ∈ l1.map (·.1) ∧ aget P b = some s)
theorem Tree.nil {N : List (List Int)} {P : List (Int × Int)} {one : Int} : Tree N P one [] := fun l1 a s l2 h => by simp at h
theorem z7i {α : Type} {C : List α} {x y : α} {l1 l2 : List α} (h : C ++ [x] = l1 ++ y :: l2) : (l2 = [] ∧ l1 = C ∧ y = x) ∨ ∃ l3, C = l1 ++ y :: l3 ∧ l2 = l3 ++ [x] := by
  rcases List.eq_nil_or_concat l2 with rfl | ⟨l3, z, rfl⟩
  · have h2 := List.append_inj' h rfl
    simp only [List.cons.injEq, and_true] at h2
    exact .inl ⟨rfl, h2.1.symm, h2.2.symm⟩
  · have h' : C ++ [x] = (l1 ++ y :: l3) ++ [z] := by rw [h]; simp
    have h2 := List.append_inj' h' rfl
    simp only [List.cons.injEq, and_true] at h2
    exact .inr ⟨l3, h2.1, by rw [h2.2]; simp⟩
theorem Tree.snoc {N : List (List Int)} {P : List (Int × Int)} {one : Int} {C : List (Int × Int)} (t : Tree N P one C) {a s : Int} (h1 : a ∉ C.map (·.1)) (h2 : a ∈ nxt N s) (h3 : InR N s) (h4 : s = one ∨ ∃ b, b ∈ C.map (·.1) ∧ aget P b = some s) : Tree N P one (C ++ [(a, s)]) := fun l1 b u l2 h => by
  rcases z7i h with ⟨_, rfl, e⟩ | ⟨l3, e, _⟩
  · cases e
    exact ⟨h1, h2, h3, h4⟩
  · exact t l1 b u l3 e
theorem Tree.nd {N : List (List Int)} {P : List (Int × Int)} {one : Int} {C : List (Int × Int)} (t : Tree N P one C) : (C.map (·.1)).Nodup := by
  have go : ∀ (l2 l1 : List (Int × Int)), C = l1 ++ l2 → (l1.map (·.1)).Nodup → (C.map (·.1)).Nodup := by
    intro l2
    induction l2 with
    | nil => intro l1 e h; rw [e, List.append_nil]; exact h
    | cons x l2 ih =>
      intro l1 e h
      obtain ⟨a, s⟩ := x
      have q := (t l1 a s l2 e).1
      refine ih (l1 ++ [(a, s)]) (by rw [e]; simp) ?_
      rw [List.map_append, List.nodup_append]
      exact ⟨h, by simp, fun x hx y hy => by simp at hy; subst hy; exact fun z => q (z ▸ hx)⟩
  exact go C [] rfl List.nodup_nil
theorem Tree.get {N : List (List Int)} {P : List (Int × Int)} {one : Int} {C l1 l2 : List (Int × Int)} {a s : Int} (t : Tree N P one C) (e : C = l1 ++ (a, s) :: l2) : aget C a = some s :=
  zjs t.nd (by rw [e]; simp)
/-- what one more matched is -/
structure Aug (N : List (List Int)) (P : List (Int × Int)) (one : Int) (F : List (Int × Int)) : Prop where
  mt : Mt N F
  has : ∀ m, Has F m ↔ m = one ∨ Has P m
  keep : ∀ S, zqs N P S → ¬ S one → ∀ a m, aget P a = some m → S m → aget F a = some m
/-- the way back stands at a; l1: what is behind it in the tree -/
structure Bk (N : List (List Int)) (P : List (Int × Int)) (one : Int) (C l1 : List (Int × Int)) (F : List (Int × Int)) (a : Int) : Prop where
  nd : (F.map (·.1)).Nodup
  ok : ∀ b m, b ≠ a → aget F b = some m → InR N m ∧ b ∈ nxt N m
  inj : ∀ b c m, b ≠ a → c ≠ a → aget F b = some m → aget F c = some m → b = c
  has : ∀ m, (∃ b, b ≠ a ∧ aget F b = some m) ↔ Has P m
  same : ∀ b, b = a ∨ b ∈ l1.map (·.1) → aget F b = aget P b
  out : ∀ S, zqs N P S → ¬ S one → (∀ m, aget P a = some m → ¬ S m) ∧ ∀ b m, aget P b = some m → S m → aget F b = some m
  len : F.length + l1.length ≤ P.length + C.length
theorem Bk.start {N : List (List Int)} {P : List (Int × Int)} {one : Int} {C l1 l2 : List (Int × Int)} {a s : Int} (h : Mt N P) (e : C = l1 ++ (a, s) :: l2) (free : aget P a = none) : Bk N P one C l1 P a where
  nd := h.nd
  ok := fun b m _ q => h.ok b m q
  inj := fun b c m _ _ q r => h.inj b c m q r
  has := fun m => ⟨fun ⟨b, _, q⟩ => ⟨b, q⟩, fun ⟨b, q⟩ => ⟨b, (fun z => by rw [z, free] at q; cases q), q⟩⟩
  same := fun _ _ => rfl
  out := fun S _ _ => ⟨fun m q => (by rw [free] at q; cases q), fun _ _ q _ => q⟩
  len := by rw [e, List.length_append]; omega
section
variable {N : List (List Int)} {P : List (Int × Int)} {one : Int} {C l1 l2 F : List (Int × Int)} {a s : Int}
/-- the way's end -/
theorem Bk.fin (h : Mt N P) (t : Tree N P one C) (e : C = l1 ++ (a, s) :: l2) (b : Bk N P one C l1 F a) (free : ¬ Has P one) (end_ : ¬ Has P s) : Aug N P one (aput F a s) := by
  obtain ⟨t1, t2, t3, t4⟩ := t l1 a s l2 e
  have es : s = one := by
    rcases t4 with q | ⟨c, _, q⟩
    · exact q
    · exact absurd ⟨c, q⟩ end_
  subst es
  refine ⟨⟨zer _ _ _ b.nd, fun x y m hx hy => ?_, fun x m hx => ?_⟩, fun m => ?_, fun S cl ns x m hx hm => ?_⟩
  · rw [zbp] at hx hy
    by_cases ex : x = a
    · by_cases ey : y = a
      · rw [ex, ey]
      · rw [if_pos ex] at hx
        rw [if_neg ey] at hy
        cases hx
        exact absurd ((b.has s).mp ⟨y, ey, hy⟩) free
    · rw [if_neg ex] at hx
      by_cases ey : y = a
      · rw [if_pos ey] at hy
        cases hy
        exact absurd ((b.has s).mp ⟨x, ex, hx⟩) free
      · rw [if_neg ey] at hy
        exact b.inj x y m ex ey hx hy
  · rw [zbp] at hx
    by_cases ex : x = a
    · rw [if_pos ex] at hx
      cases hx
      rw [ex]
      exact ⟨t3, t2⟩
    · rw [if_neg ex] at hx
      exact b.ok x m ex hx
  · constructor
    · rintro ⟨x, hx⟩
      rw [zbp] at hx
      by_cases ex : x = a
      · rw [if_pos ex] at hx
        cases hx
        exact .inl rfl
      · rw [if_neg ex] at hx
        exact .inr ((b.has m).mp ⟨x, ex, hx⟩)
    · rintro (rfl | hm)
      · exact ⟨a, by rw [zbp, if_pos rfl]⟩
      · obtain ⟨x, ex, hx⟩ := (b.has m).mpr hm
        exact ⟨x, by rw [zbp, if_neg ex]; exact hx⟩
  · obtain ⟨o1, o2⟩ := b.out S cl ns
    have ex : x ≠ a := fun z => by subst z; exact o1 m hx hm
    rw [zbp, if_neg ex]
    exact o2 x m hx hm
/-- one step back -/
theorem Bk.step (h : Mt N P) (t : Tree N P one C) (e : C = l1 ++ (a, s) :: l2) (b : Bk N P one C l1 F a) (free : ¬ Has P one) {c : Int} (hc : aget P c = some s) : ∃ l3 u l4, C = l3 ++ (c, u) :: l4 ∧ l3.length < l1.length ∧ Bk N P one C l3 (aput F a s) c := by
  obtain ⟨t1, t2, t3, t4⟩ := t l1 a s l2 e
  have hs : s ≠ one := fun z => free ⟨c, z ▸ hc⟩
  have hcl : c ∈ l1.map (·.1) := by
    rcases t4 with q | ⟨d, hd, q⟩
    · exact absurd q hs
    · rw [h.inj c d s hc q]; exact hd
  obtain ⟨⟨c', u⟩, hm, e1⟩ := List.mem_map.mp hcl
  simp only at e1
  subst e1
  obtain ⟨l3, l4, e2⟩ := List.append_of_mem hm
  have ca : c' ≠ a := fun z => t1 (z ▸ hcl)
  have hF : aget F c' = some s := by rw [b.same c' (.inr hcl)]; exact hc
  refine ⟨l3, u, l4 ++ (a, s) :: l2, by rw [e, e2]; simp, by rw [e2, List.length_append, List.length_cons]; omega, zer _ _ _ b.nd, fun x m ex hx => ?_, fun x y m ex ey hx hy => ?_, fun m => ?_, fun x hx => ?_, fun S cl ns => ?_, ?_⟩
  · rw [zbp] at hx
    by_cases z : x = a
    · rw [if_pos z] at hx
      cases hx
      rw [z]
      exact ⟨t3, t2⟩
    · rw [if_neg z] at hx
      exact b.ok x m z hx
  · rw [zbp] at hx hy
    by_cases zx : x = a
    · by_cases zy : y = a
      · rw [zx, zy]
      · rw [if_pos zx] at hx
        rw [if_neg zy] at hy
        cases hx
        exact absurd (b.inj y c' s zy ca hy hF) ey
    · rw [if_neg zx] at hx
      by_cases zy : y = a
      · rw [if_pos zy] at hy
        cases hy
        exact absurd (b.inj x c' s zx ca hx hF) ex
      · rw [if_neg zy] at hy
        exact b.inj x y m zx zy hx hy
  · rw [← b.has m]
    constructor
    · rintro ⟨x, ex, hx⟩
      rw [zbp] at hx
      by_cases zx : x = a
      · rw [if_pos zx] at hx
        cases hx
        exact ⟨c', ca, hF⟩
      · rw [if_neg zx] at hx
        exact ⟨x, zx, hx⟩
    · rintro ⟨x, ex, hx⟩
      by_cases zx : x = c'
      · subst zx
        rw [hF] at hx
        cases hx
        exact ⟨a, Ne.symm ca, by rw [zbp, if_pos rfl]⟩
      · exact ⟨x, zx, by rw [zbp, if_neg ex]; exact hx⟩
  · have xa : x ≠ a := by
      rcases hx with rfl | hx
      · exact ca
      · exact fun z => t1 (by rw [e2, List.map_append]; exact List.mem_append.mpr (.inl (z ▸ hx)))
    rw [zbp, if_neg xa]
    refine b.same x (.inr ?_)
    rcases hx with rfl | hx
    · exact hcl
    · rw [e2, List.map_append]; exact List.mem_append.mpr (.inl hx)
  · obtain ⟨o1, o2⟩ := b.out S cl ns
    have hsS : ¬ S s := fun z => by
      obtain ⟨m, hm, hS⟩ := (cl s z).2 a t2
      exact o1 m hm hS
    refine ⟨fun m hm => ?_, fun x m hx hm => ?_⟩
    · rw [hc] at hm; cases hm; exact hsS
    · have xa : x ≠ a := fun z => by subst z; exact o1 m hx hm
      rw [zbp, if_neg xa]
      exact o2 x m hx hm
  · have := zsw F a s
    have := b.len
    have : l3.length < l1.length := by rw [e2, List.length_append, List.length_cons]; omega
    omega
end
end M
namespace M
open DL
theorem zp9 {α β : Type} [DecidableEq α] {l : List (α × β)} {a : α} {b : β} (h : a ∉ l.map (·.1)) : aput l a b = l ++ [(a, b)] := by
  unfold aput
  rw [if_neg]
  intro q
  rw [List.any_eq_true] at q
  obtain ⟨p, hp, e⟩ := q
  exact h (List.mem_map.mpr ⟨p, hp, of_decide_eq_true e⟩)
theorem zra {α β : Type} [DecidableEq β] {R : α → β → Prop} : ∀ {L' : List α} {L : List β}, L'.Nodup → (∀ x ∈ L', ∃ y ∈ L, R x y) → (∀ x ∈ L', ∀ x' ∈ L', ∀ y, R x y → R x' y → x = x') → L'.length ≤ L.length
  | [], _, _, _, _ => Nat.zero_le _
  | x :: L', L, nd, h1, h2 => by
    rw [List.nodup_cons] at nd
    obtain ⟨y, hy, r⟩ := h1 x (List.mem_cons_self ..)
    have := zra (L' := L') (L := L.erase y) (R := R) nd.2 (fun z hz => by
      obtain ⟨y', hy', r'⟩ := h1 z (List.mem_cons_of_mem _ hz)
      have ne : y' ≠ y := fun e => by
        subst e
        have := h2 x (List.mem_cons_self ..) z (List.mem_cons_of_mem _ hz) y' r r'
        subst this
        exact nd.1 hz
      exact ⟨y', (List.mem_erase_of_ne ne).mpr hy', r'⟩) fun z hz z' hz' => h2 z (List.mem_cons_of_mem _ hz) z' (List.mem_cons_of_mem _ hz')
    rw [List.length_erase_of_mem hy] at this
    have : 0 < L.length := List.length_pos_of_mem hy
    rw [List.length_cons]; omega
theorem zzj {α β : Type} {f : α → β} : ∀ {l : List α}, (l.map f).Nodup → l.Nodup
  | [], _ => List.nodup_nil
  | x :: l, h => by
    rw [List.map_cons, List.nodup_cons] at h
    exact List.nodup_cons.mpr ⟨fun q => h.1 (List.mem_map.mpr ⟨x, q, rfl⟩), zzj h.2⟩
/-- a number that the search has come to -/
def Rch (P : List (Int × Int)) (one : Int) (C : List (Int × Int)) (s : Int) : Prop := s = one ∨ ∃ b, b ∈ C.map (·.1) ∧ aget P b = some s
/-- now: the number whose next ones are being looked at, the first i of them are done -/
structure Bf (N : List (List Int)) (P : List (Int × Int)) (one : Int) (C : List (Int × Int)) (L : List Int) (now : Int) (i : Nat) : Prop where
  tree : Tree N P one C
  mat : ∀ a ∈ C.map (·.1), ∃ m, aget P a = some m
  lst : ∀ s ∈ L, Rch P one C s
  cur : Rch P one C now
  done : ∀ s, Rch P one C s → s ∈ L ∨ (∀ a ∈ nxt N s, a ∈ C.map (·.1)) ∨ (s = now ∧ ∀ a ∈ (nxt N now).take i, a ∈ C.map (·.1))
section
variable {N : List (List Int)} {P : List (Int × Int)} {one : Int} {C : List (Int × Int)} {L : List Int} {now : Int} {i : Nat}
theorem Bf.le (h : Mt N P) (b : Bf N P one C L now i) : C.length ≤ P.length := by
  have := zra (L' := C.map (·.1)) (L := P.map (·.1)) (R := fun x y => x = y) b.tree.nd (fun x hx => by
    obtain ⟨m, hm⟩ := b.mat x hx
    exact ⟨x, (zdt P x).mp (by rw [hm]; rfl), rfl⟩) fun x _ x' _ y e e' => e.trans e'.symm
  rwa [List.length_map, List.length_map] at this
theorem Rch.inR (h : Mt N P) (ho : InR N one) {s : Int} (r : Rch P one C s) : InR N s := by
  rcases r with rfl | ⟨b, _, q⟩
  · exact ho
  · exact (h.ok b s q).1
/-- between two rounds: nothing is half done -/
structure Bw (N : List (List Int)) (P : List (Int × Int)) (one : Int) (C : List (Int × Int)) (L : List Int) : Prop where
  tree : Tree N P one C
  mat : ∀ a ∈ C.map (·.1), ∃ m, aget P a = some m
  lst : ∀ s ∈ L, Rch P one C s
  done : ∀ s, Rch P one C s → s ∈ L ∨ ∀ a ∈ nxt N s, a ∈ C.map (·.1)
theorem Bw.le (h : Mt N P) (b : Bw N P one C L) : C.length ≤ P.length := by
  have := zra (L' := C.map (·.1)) (L := P.map (·.1)) (R := fun x y => x = y) b.tree.nd (fun x hx => by
    obtain ⟨m, hm⟩ := b.mat x hx
    exact ⟨x, (zdt P x).mp (by rw [hm]; rfl), rfl⟩) fun x _ x' _ y e e' => e.trans e'.symm
  rwa [List.length_map, List.length_map] at this
theorem Bw.start : Bw N P one [] [one] where
  tree := .nil
  mat := fun a h => by simp at h
  lst := fun s h => .inl (by simpa using h)
  done := fun s r => by
    rcases r with rfl | ⟨b, hb, _⟩
    · exact .inl (by simp)
    · simp at hb
theorem Bw.pop (b : Bw N P one C (now :: L)) : Bf N P one C L now 0 where
  tree := b.tree
  mat := b.mat
  lst := fun s h => b.lst s (List.mem_cons_of_mem _ h)
  cur := b.lst now (List.mem_cons_self ..)
  done := fun s r => by
    rcases b.done s r with h | h
    · rcases List.mem_cons.mp h with rfl | h
      · exact .inr (.inr ⟨rfl, fun a ha => by simp at ha⟩)
      · exact .inl h
    · exact .inr (.inl h)
theorem Bf.end_ (b : Bf N P one C L now (nxt N now).length) : Bw N P one C L where
  tree := b.tree
  mat := b.mat
  lst := b.lst
  done := fun s r => by
    rcases b.done s r with h | h | ⟨rfl, h⟩
    · exact .inl h
    · exact .inr h
    · exact .inr fun a ha => h a (by rw [List.take_length]; exact ha)
theorem zs5 {l : List Int} {i : Nat} {a b : Int} (e : l[i]? = some a) (h : b ∈ l.take (i + 1)) : b ∈ l.take i ∨ b = a := by
  rw [List.take_add_one, e] at h
  simpa using h
theorem Bf.skip (b : Bf N P one C L now i) {a : Int} (e : (nxt N now)[i]? = some a) (h : a ∈ C.map (·.1)) : Bf N P one C L now (i + 1) where
  tree := b.tree
  mat := b.mat
  lst := b.lst
  cur := b.cur
  done := fun s r => by
    rcases b.done s r with q | q | ⟨q, z⟩
    · exact .inl q
    · exact .inr (.inl q)
    · refine .inr (.inr ⟨q, fun c hc => ?_⟩)
      rcases zs5 e hc with hc | rfl
      · exact z c hc
      · exact h
theorem Bf.tree' (h : Mt N P) (ho : InR N one) (b : Bf N P one C L now i) {a : Int} (e : (nxt N now)[i]? = some a) (hn : a ∉ C.map (·.1)) : Tree N P one (C ++ [(a, now)]) :=
  b.tree.snoc hn (List.mem_of_getElem? e) (b.cur.inR h ho) b.cur
theorem Rch.mono {s : Int} {x : Int × Int} (r : Rch P one C s) : Rch P one (C ++ [x]) s := by
  rcases r with q | ⟨b, hb, q⟩
  · exact .inl q
  · exact .inr ⟨b, by rw [List.map_append]; exact List.mem_append.mpr (.inl hb), q⟩
theorem Bf.push (h : Mt N P) (ho : InR N one) (b : Bf N P one C L now i) {a m : Int} (e : (nxt N now)[i]? = some a) (hn : a ∉ C.map (·.1)) (hm : aget P a = some m) : Bf N P one (C ++ [(a, now)]) (L ++ [m]) now (i + 1) where
  tree := b.tree' h ho e hn
  mat := fun c hc => by
    rw [List.map_append, List.mem_append] at hc
    rcases hc with hc | hc
    · exact b.mat c hc
    · have : c = a := by simpa using hc
      subst this
      exact ⟨m, hm⟩
  lst := fun s hs => by
    rw [List.mem_append] at hs
    rcases hs with hs | hs
    · exact (b.lst s hs).mono
    · have : s = m := by simpa using hs
      subst this
      exact .inr ⟨a, by simp, hm⟩
  cur := b.cur.mono
  done := fun s r => by
    have sub : ∀ c, c ∈ C.map (·.1) → c ∈ (C ++ [(a, now)]).map (·.1) := fun c hc => by rw [List.map_append]; exact List.mem_append.mpr (.inl hc)
    have old : Rch P one C s → s ∈ L ++ [m] ∨ (∀ c ∈ nxt N s, c ∈ (C ++ [(a, now)]).map (·.1)) ∨ (s = now ∧ ∀ c ∈ (nxt N now).take (i + 1), c ∈ (C ++ [(a, now)]).map (·.1)) := fun r => by
      rcases b.done s r with q | q | ⟨q, z⟩
      · exact .inl (List.mem_append.mpr (.inl q))
      · exact .inr (.inl fun c hc => sub c (q c hc))
      · refine .inr (.inr ⟨q, fun c hc => ?_⟩)
        rcases zs5 e hc with hc | rfl
        · exact sub c (z c hc)
        · simp
    rcases r with q | ⟨c, hc, q⟩
    · exact old (.inl q)
    · rw [List.map_append, List.mem_append] at hc
      rcases hc with hc | hc
      · exact old (.inr ⟨c, hc, q⟩)
      · have : c = a := by simpa using hc
        subst this
        rw [hm] at q
        cases q
        exact .inl (by simp)
/-- nothing is left: no way leads on -/
theorem Bw.close (h : Mt N P) (ho : InR N one) (b : Bw N P one C []) : ∃ S, zqs N P S ∧ S one :=
  ⟨Rch P one C, fun s r => ⟨r.inR h ho, fun a ha => by
    rcases b.done s r with q | q
    · cases q
    · have hk := q a ha
      obtain ⟨m, hm⟩ := b.mat a hk
      exact ⟨m, hm, .inr ⟨a, hk, hm⟩⟩⟩, .inl rfl⟩
end
structure Gr (N : List (List Int)) (P : List (Int × Int)) (i : Int) : Prop where
  mt : Mt N P
  lt : ∀ m, Has P m → m < i
  cert : ∀ u, 0 ≤ u → u < i → ¬ Has P u → ∃ S, zqs N P S ∧ S u
theorem Gr.start (N : List (List Int)) : Gr N [] 0 := ⟨.nil N, fun m ⟨a, h⟩ => by (cases h), fun u h1 h2 => by omega⟩
theorem Gr.free {N : List (List Int)} {P : List (Int × Int)} {i : Int} (g : Gr N P i) : ¬ Has P i := fun h => by have := g.lt i h; omega
theorem Gr.none {N : List (List Int)} {P : List (Int × Int)} {i : Int} (g : Gr N P i) (h : ∃ S, zqs N P S ∧ S i) : Gr N P (i + 1) :=
  ⟨g.mt, fun m hm => by have := g.lt m hm; omega, fun u h1 h2 h3 => by
    by_cases e : u = i
    · subst e; exact h
    · exact g.cert u h1 (by omega) h3⟩
theorem Gr.some {N : List (List Int)} {P F : List (Int × Int)} {i : Int} (g : Gr N P i) (a : Aug N P i F) : Gr N F (i + 1) :=
  ⟨a.mt, fun m hm => by
    rcases (a.has m).mp hm with rfl | hm
    · omega
    · have := g.lt m hm; omega, fun u h1 h2 h3 => by
    have e : u ≠ i := fun z => h3 ((a.has u).mpr (.inl z))
    have hp : ¬ Has P u := fun z => h3 ((a.has u).mpr (.inr z))
    obtain ⟨S, cl, hu⟩ := g.cert u h1 (by omega) hp
    have cl' : zqs N P fun s => S s ∧ s ≠ i := fun s hs => ⟨(cl s hs.1).1, fun x hx => by
      obtain ⟨m, hm, hS⟩ := (cl s hs.1).2 x hx
      exact ⟨m, hm, hS, fun z => g.free ⟨x, z ▸ hm⟩⟩⟩
    refine ⟨fun s => S s ∧ s ≠ i, fun s hs => ⟨(cl' s hs).1, fun x hx => ?_⟩, hu, e⟩
    obtain ⟨m, hm, hS⟩ := (cl' s hs).2 x hx
    exact ⟨m, a.keep _ cl' (fun z => z.2 rfl) x m hm hS, hS⟩⟩
/-- all that the unmatched ones lead to -/
def Un (N : List (List Int)) (P : List (Int × Int)) (s : Int) : Prop := ∃ u S, InR N u ∧ ¬ Has P u ∧ zqs N P S ∧ S u ∧ S s
theorem ztq (N : List (List Int)) (P : List (Int × Int)) : zqs N P (Un N P) := fun s ⟨u, S, h1, h2, h3, h4, h5⟩ =>
  ⟨(h3 s h5).1, fun a ha => let ⟨m, hm, hS⟩ := (h3 s h5).2 a ha; ⟨m, hm, u, S, h1, h2, h3, h4, hS⟩⟩
theorem Gr.un {N : List (List Int)} {P : List (Int × Int)} (g : Gr N P N.length) {u : Int} (hu : InR N u) (h : ¬ Has P u) : Un N P u := by
  obtain ⟨S, cl, q⟩ := g.cert u hu.1 hu.2 h
  exact ⟨u, S, hu, h, cl, q, q⟩
/-- no matching is greater -/
theorem Gr.max {N : List (List Int)} {P : List (Int × Int)} (g : Gr N P N.length) {P' : List (Int × Int)} (h : Mt N P') : P'.length ≤ P.length := by
  have nd : P'.Nodup := zzj h.nd
  refine zra (R := fun x y => (Un N P x.2 ∧ y.1 = x.1 ∧ Un N P y.2) ∨ (¬ Un N P x.2 ∧ y.2 = x.2)) nd (fun x hx => ?_) fun x hx x' hx' y r r' => ?_
  · have hg := zjs h.nd (show (x.1, x.2) ∈ P' from hx)
    obtain ⟨hr, hn⟩ := h.ok x.1 x.2 hg
    by_cases hu : Un N P x.2
    · obtain ⟨m, hm, hU⟩ := (ztq N P x.2 hu).2 x.1 hn
      exact ⟨(x.1, m), z5d hm, .inl ⟨hu, rfl, hU⟩⟩
    · by_cases hh : Has P x.2
      · obtain ⟨a, ha⟩ := hh
        exact ⟨(a, x.2), z5d ha, .inr ⟨hu, rfl⟩⟩
      · exact absurd (g.un hr hh) hu
  · have g1 := zjs h.nd (show (x.1, x.2) ∈ P' from hx)
    have g2 := zjs h.nd (show (x'.1, x'.2) ∈ P' from hx')
    have key : x.1 = x'.1 → x = x' := fun e => by
      rw [e, g2] at g1
      exact Prod.ext e (Option.some.inj g1).symm
    rcases r with ⟨r1, r2, r3⟩ | ⟨r1, r2⟩
    · rcases r' with ⟨q1, q2, q3⟩ | ⟨q1, q2⟩
      · exact key (r2.symm.trans q2)
      · rw [q2] at r3
        exact absurd r3 q1
    · rcases r' with ⟨q1, q2, q3⟩ | ⟨q1, q2⟩
      · rw [r2] at q3
        exact absurd q3 r1
      · refine key (h.inj x.1 x'.1 x.2 g1 ?_)
        rw [r2.symm.trans q2]
        exact g2
end M
section
open PySem PySem.Spec PyProof.Rows L2 DL
local macro_rules | `(tactic| simp_arith only [$xs,*]) => `(tactic| simp only [$xs,*, dSeq, dIfS, zag, dOp, ze, dC, dRet, zjv, zf, dNil, dTup, zc7, dAsg, zi7, zl, zh0, dM, dM0, dIf, dAnd, dOr, dNot, zna, dOrV, zul, zie, dFz, zrc, zxj, zpz, zyh, dCB, ze2, z4, zfc, zpt, dNeg, dAug, zuj, dFrz, dPar, zhs, zp1, zk7, dYes, zid, i2, d1, d2, d3, zao, List.map_cons, List.map_nil, List.length_cons, List.length_nil, List.cons_append, List.nil_append, List.append_nil, List.getElem?_cons_zero, List.getElem?_cons_succ, List.getElem?_nil, List.replicate, List.set_cons_succ, List.set_cons_zero, Nat.reduceAdd, Nat.reduceSub, Nat.reduceLeDiff, zl6, zl9, zq1, zqn, zpv, zp0, zju, zhz, true_and, and_true, Bool.not_eq_true, Bool.not_true, Bool.not_false, if_true, if_false, Bool.false_eq_true, ite_true, ite_false, reduceIte, reduceCtorEq, decide_eq_true_eq, decide_eq_false_iff_not, Option.isSome_some, Option.isSome_none, Bool.true_bne, Bool.false_bne])
namespace M
open PySem PySem.Spec PyProof.Rows L2 DL
theorem Mt.len {N : List (List Int)} {P : List (Int × Int)} (h : Mt N P) : P.length ≤ N.length := by
  have := zra (L' := P) (L := List.map (fun k : Nat => (k : Int)) (List.range N.length)) (R := fun x y => x.2 = y) (zzj h.nd) (fun x hx => by
    obtain ⟨⟨h0, h1⟩, _⟩ := h.ok x.1 x.2 (zjs h.nd hx)
    exact ⟨x.2, List.mem_map.mpr ⟨x.2.toNat, by rw [List.mem_range]; omega, by omega⟩, rfl⟩) fun x hx x' hx' y e e' => by
      have g1 := zjs h.nd (show (x.1, x.2) ∈ P from hx)
      have g2 := zjs h.nd (show (x'.1, x'.2) ∈ P from hx')
      have e3 : x.2 = x'.2 := e.trans e'.symm
      rw [e3] at g1
      exact Prod.ext (h.inj _ _ _ g1 g2) e3
  simpa using this
/-- others and ones changed about -/
def sw (P : List (Int × Int)) : List (Int × Int) := P.map fun p => (p.2, p.1)
theorem z5x {N : List (List Int)} {P : List (Int × Int)} (h : Mt N P) (m a : Int) : aget (sw P) m = some a ↔ aget P a = some m := by
  have nd : ((sw P).map (·.1)).Nodup := by
    have go : ∀ l : List (Int × Int), l.Nodup → (∀ x ∈ l, ∀ y ∈ l, x.2 = y.2 → x = y) → ((sw l).map (·.1)).Nodup := by
      intro l
      induction l with
      | nil => intro _ _; exact List.nodup_nil
      | cons x l ih =>
        intro h1 h2
        rw [List.nodup_cons] at h1
        show (x.2 :: (sw l).map (·.1)).Nodup
        refine List.nodup_cons.mpr ⟨fun q => ?_, ih h1.2 fun y hy z hz => h2 y (List.mem_cons_of_mem _ hy) z (List.mem_cons_of_mem _ hz)⟩
        unfold sw at q
        rw [List.map_map, List.mem_map] at q
        obtain ⟨y, hy, e⟩ := q
        have := h2 y (List.mem_cons_of_mem _ hy) x (List.mem_cons_self ..) e
        subst this
        exact h1.1 hy
    refine go P (zzj h.nd) fun x hx y hy e => ?_
    have g1 := zjs h.nd (show (x.1, x.2) ∈ P from hx)
    have g2 := zjs h.nd (show (y.1, y.2) ∈ P from hy)
    rw [e] at g1
    exact Prod.ext (h.inj _ _ _ g1 g2) e
  constructor
  · intro q
    have := z5d q
    unfold sw at this
    obtain ⟨x, hx, e⟩ := List.mem_map.mp this
    cases e
    exact zjs h.nd hx
  · intro q
    exact zjs nd (List.mem_map.mpr ⟨(a, m), z5d q, rfl⟩)
theorem z8s {N : List (List Int)} {P : List (Int × Int)} (h : Mt N P) {m : Int} : aget (sw P) m = none ↔ ¬ Has P m := by
  constructor
  · rintro q ⟨a, ha⟩
    rw [(z5x h m a).mpr ha] at q
    cases q
  · intro q
    cases e : aget (sw P) m with
    | none => rfl
    | some a => exact absurd ⟨a, (z5x h m a).mp e⟩ q
theorem z4t {N : List (List Int)} {P : List (Int × Int)} (h : Mt N P) {i : Nat} {x : Int × Int} (e : P[i]? = some x) : x.2 ∉ (sw (P.take i)).map (·.1) := by
  intro q
  unfold sw at q
  rw [List.map_map, List.mem_map] at q
  obtain ⟨y, hy, e2⟩ := q
  have g1 := zjs h.nd (show (x.1, x.2) ∈ P from List.mem_of_getElem? e)
  have g2 := zjs h.nd (show (y.1, y.2) ∈ P from List.mem_of_mem_take hy)
  have e3 : y.2 = x.2 := e2
  rw [e3] at g2
  have e4 : y = x := Prod.ext (h.inj _ _ _ g2 g1) e3
  subst e4
  have nd := zzj h.nd
  obtain ⟨j, hj, e5⟩ := List.getElem_of_mem hy
  rw [List.getElem_take] at e5
  obtain ⟨hi, e6⟩ := List.getElem?_eq_some_iff.mp e
  rw [List.length_take] at hj
  have := (List.pairwise_iff_getElem.mp nd) j i (by omega) hi (by omega)
  exact this (e5.trans e6.symm)
def zml : DRn := d3 fun c l p G Q => ∃ (N : List (List Int)) (P C : List (Int × Int)) (one last : Int), c = eK .int C ∧ l = .int last ∧ p = eK .int P ∧ N.length ≤ 1000 ∧ C.length ≤ 1001 ∧ Mt N P ∧ Tree N P one C ∧ ¬ Has P one ∧ aget P last = none ∧ last ∈ C.map (·.1) ∧
  ∀ F, Aug N P one F → Q (eK .int F) G
abbrev zts : List Str := ["comers", "last", "pairs", "found", "other", "mine", "now", "before", "second"]
def z2h : DTS :=
    (dSeq (dPar 3 4 (zf (dCB z6b (zf (ze 2) dNil)) (zf (ze 1) dNil)))
    (dSeq (dAsg (dDc (.dK []) (zuw (ze 2)) (ze2 (z4 (zl 8) (z4 (zl 6) zfc)) 2) dYes (ze 6) (ze 8) [8, 6]) (zl 5))
    (dFrz 5 (dSeq (z0i (zag (dOp (dIsN true) (ze 4) (dC .non)))
    (dSeq (dAsg (dOp dIx (ze 0) (ze 4)) (zl 6))
    (dSeq (dAsg (dM "dict" zac7 (ze 5) (zf (ze 6) dNil)) (zl 7))
    (dSeq (dAsg (ze 6) (zpt (ze 3) (ze 4) dSet))
    (dAsg (ze 7) (zl 4))))))
    (zrc (ze 3))))))
theorem z7p : ∀ ds G Q, zml ds G Q → ds.length = 3 := fun ds G Q h => by
  match ds, h with
  | [_, _, _], _ => rfl
theorem z67 : ∀ ds G Q, zml ds G Q → z2h { nx := fun _ G' => Q .non G', rt := Q } (zao zts ds) G := fun ds G Q h => by
  match ds, h with
  | [_, _, _], ⟨N, P, C, one, last, rfl, rfl, rfl, hN, hC, mt, tr, fr, hf, hf2, q⟩ =>
    simp_arith only [z2h, zts]
    refine z8m (f := D.int) (kvs := P) (zme _ _ _) fun p hp => ?_
    simp_arith only [dDc, zuw, z2g]
    intro b hb
    have pb : p ≠ b := fun e => by subst e; rw [zi] at hb; cases hb
    have hP := mt.len
    refine ⟨fun i G' => G' = up (up G p (oK .int P)) b (oK .int (sw (P.take i))), rfl, ?_, ?_, ?_⟩
    · rintro i G' rfl
      exact ⟨trivial, znk zi⟩
    · rintro i d G' hd rfl
      rw [List.map_map] at hd
      obtain ⟨x, hx, rfl⟩ := zaq hd
      dsimp only [Function.comp]
      simp_arith only [true_and]
      refine ⟨znk zi, zmc (kvs := sw (P.take i)) (f := D.int) zi (zv (by unfold sw; rw [List.length_map, List.length_take]; omega)) ?_⟩
      rw [zc1, zp9 (z4t mt hx), zba hx]
      unfold sw
      rw [List.map_append]
      rfl
    · rintro G' rfl
      rw [List.length_map, List.length_map, List.take_length]
      simp_arith only [zi, zxb, za3 hb]
      obtain ⟨⟨a0, s0⟩, hm0, e0⟩ := List.mem_map.mp hf2
      simp only at e0
      subst e0
      obtain ⟨k1, k2, ek⟩ := List.append_of_mem hm0
      refine ⟨fun m η G' => ∃ F o nw bf, η = [some (eK D.int C), some (D.int a0), some (eK D.int P), some (D.ref p), some o, some (eK D.int (sw P)), nw, bf, none] ∧ G' = up G p (oK .int F) ∧
        ((m = 0 ∧ o = .non ∧ Aug N P one F) ∨ ∃ l1 a s l2, o = .int a ∧ m = l1.length + 1 ∧ C = l1 ++ (a, s) :: l2 ∧ Bk N P one C l1 F a), ⟨_, P, _, _, _, rfl, rfl, .inr ⟨k1, a0, s0, k2, rfl, rfl, ek, .start mt ek hf⟩⟩, ?_⟩
      rintro m η G' ⟨F, o, nw, bf, rfl, rfl, st⟩
      rcases st with ⟨rfl, rfl, au⟩ | ⟨l1, a, s, l2, rfl, rfl, e, bk⟩
      · simp_arith only [z7y, zi, zxb, za3 hp]
        exact q F au
      · simp_arith only [zaci]
        refine z3a (f := D.int) (zme _ _ _) (tr.get e) ?_
        refine ⟨zafe, z6l (f := D.int) (zme _ _ _) ?_⟩
        refine zmc (f := D.int) (kvs := F) zi (zv (by have := bk.len; omega)) ?_
        rw [zc1]
        cases hb2 : aget (sw P) s with
        | none =>
          exact ⟨0, by omega, _, (by repeat (first | exact Le.nil | apply Le.keep | apply Le.drop)), aput F a s, .non, _, _, rfl, rfl, .inl ⟨rfl, rfl, bk.fin mt tr e fr ((z8s mt).mp hb2)⟩⟩
        | some c =>
          obtain ⟨l3, u, l4, e2, hl3, bk2⟩ := bk.step mt tr e fr ((z5x mt s c).mp hb2)
          exact ⟨l3.length + 1, by omega, _, (by repeat (first | exact Le.nil | apply Le.keep | apply Le.drop)), aput F a s, .int c, _, _, rfl, rfl, .inr ⟨l3, c, u, l4, rfl, rfl, e2, bk2⟩⟩
end M
namespace M
open PySem PySem.Spec PyProof.Rows L2 DL
/-- lists of ints, one behind the other -/
abbrev eN (N : List (List Int)) : D := eL (eL .int) N
def zga : DRn := d3 fun n o p G Q => ∃ (N : List (List Int)) (P : List (Int × Int)) (one : Int), n = eN N ∧ o = .int one ∧ p = eK .int P ∧ N.length ≤ 1000 ∧ Mt N P ∧ InR N one ∧ ¬ Has P one ∧
  ((∃ S, zqs N P S ∧ S one) → Q .non G) ∧ ∀ F, Aug N P one F → Q (eK .int F) G
abbrev zmi : List Str := ["nexts", "one", "pairs", "comers", "waiting", "now", "other"]
def zo8 : DTS :=
    (dSeq (dPar 3 4 (zf z7u (zf (zi7 (zf (ze 1) dNil)) dNil)))
    (dSeq (z0i (zag (dOp dNe (ze 4) (zjv dNil)))
    (dSeq (dAsg (dM "list" z4u (ze 4) (zf (dC (.int 0)) dNil)) (zl 5))
    (dFor (za1 (dOp dIx (ze 0) (ze 5))) (zl 6)
    (dIfS (zag (dOp (dIn true) (ze 6) (ze 3)))
    (dSeq (dAsg (ze 5) (zpt (ze 3) (ze 6) dSet))
    (dSeq (dIfS (zag (dOp (dIn true) (ze 6) (ze 2)))
    (dFrz 4 (dFrz 3 (dRet (dCB zml (zf (ze 3) (zf (ze 6) (zf (ze 2) dNil)))))))
    zc7)
    (zh0 (dM "list" zgp (ze 4) (zf (dOp dIx (ze 2) (ze 6)) dNil)))))
    zc7))))
    (dFrz 4 (dFrz 3 (dRet (dC .non))))))
theorem zxu : ∀ ds G Q, zga ds G Q → ds.length = 3 := fun ds G Q h => by
  match ds, h with
  | [_, _, _], _ => rfl
theorem z58 {N : List (List Int)} {s : Int} (h : InR N s) : N[s.toNat]? = some (nxt N s) := by
  unfold nxt
  have : s.toNat < N.length := by have := h.1; have := h.2; omega
  rw [List.getElem?_eq_getElem this]
  rfl
theorem zael {G : DHp} {c w : Addr} {x : DO} (hw : up G c x w = none) : c ≠ w := fun e => by subst e; rw [zi] at hw; cases hw
theorem up3c {G : DHp} {c w : Addr} {x x' y : DO} (h : c ≠ w) : up (up (up G c x) w y) c x' = up (up G c x') w y := up3 h
theorem zy5 : ∀ ds G Q, zga ds G Q → zo8 { nx := fun _ G' => Q .non G', rt := Q } (zao zmi ds) G := fun ds G Q h => by
  match ds, h with
  | [_, _, _], ⟨N, P, one, rfl, rfl, rfl, hN, mt, ho, fr, q1, q2⟩ =>
    simp_arith only [zo8, zmi, z7u]
    intro c hc
    intro w hw
    have cw := zael hw
    have hP := mt.len
    refine ⟨fun m η G' => ∃ C L nw ot, η = [some (eN N), some (.int one), some (eK .int P), some (.ref c), some (.ref w), nw, ot] ∧ G' = up (up G c (oK .int C)) w (.lst (L.map .int)) ∧ Bw N P one C L ∧ m + 2 * C.length = L.length + 2 * P.length ∧ m ≤ 1 + 2 * P.length, ⟨1 + 2 * P.length, [], [one], none, none, rfl, rfl, .start, by simp, Nat.le_refl _⟩, ?_⟩
    rintro m η G' ⟨C, L, nw, ot, rfl, rfl, bw, hm, hmb⟩
    have hw' : up G c (oK .int C) w = none := by rw [zej (Ne.symm cw)]; rw [zej (Ne.symm cw)] at hw; exact hw
    have hC := bw.le mt
    simp_arith only [true_and]
    refine z71 zi ?_
    cases L with
    | nil =>
      simp_arith only [List.isEmpty_nil, zi, za3 hw', za3 hc]
      exact q1 (bw.close mt ho)
    | cons now L =>
      simp_arith only [List.isEmpty_cons, za1]
      refine z9p zi ?_
      have hn : InR N now := (bw.lst now (by simp)).inR mt ho
      simp_arith only [dFor, za1]
      refine zhw (f := eL .int) hn.1 (z58 hn) ?_
      unfold eL
      dsimp only
      rw [zc1]
      refine ⟨fun i η G' => ∃ C L ot, η = [some (eN N), some (.int one), some (eK .int P), some (.ref c), some (.ref w), some (.int now), ot] ∧ G' = up (up G c (oK .int C)) w (.lst (L.map .int)) ∧ Bf N P one C L now i ∧ L.length + 2 * P.length + 1 ≤ m + 2 * C.length, ⟨C, L, ot, rfl, rfl, bw.pop, by rw [List.length_cons] at hm; omega⟩, fun _ _ _ _ => trivial, ?_, ?_⟩
      · rintro i d η G' hd ⟨C, L, ot, rfl, rfl, bf, hm2⟩
        obtain ⟨a, ha, rfl⟩ := zaq hd
        have hw' : up G c (oK .int C) w = none := by rw [zej (Ne.symm cw)]; rw [zej (Ne.symm cw)] at hw; exact hw
        have hcc : up (up G c (oK .int C)) w (.lst (L.map .int)) c = some (oK .int C) := by rw [zej cw, zi]
        have hC2 := bf.le mt
        simp_arith only [true_and]
        refine zyl (f := D.int) (zth hcc) ?_
        cases hg : aget C a with
        | some z =>
          simp_arith only [true_and]
          have hk : a ∈ C.map (·.1) := (zdt C a).mp (by rw [hg]; rfl)
          exact ⟨_, (by repeat (first | exact Le.nil | apply Le.keep | apply Le.drop)), C, L, _, rfl, rfl, bf.skip ha hk, hm2⟩
        | none =>
          simp_arith only [true_and]
          have hk := zae7 hg
          refine zmc (f := D.int) (kvs := C) hcc (zv (by omega)) ?_
          rw [zp9 hk, up3c cw]
          have hcc2 : up (up G c (oK .int (C ++ [(a, now)]))) w (.lst (L.map .int)) c = some (oK .int (C ++ [(a, now)])) := by rw [zej cw, zi]
          have hw2 : up G c (oK .int (C ++ [(a, now)])) w = none := by rw [zej (Ne.symm cw)]; rw [zej (Ne.symm cw)] at hw; exact hw
          refine zyl (f := D.int) (zme _ _ _) ?_
          cases hp : aget P a with
          | none =>
            simp_arith only [zi, hcc2, za3 hw2, za3 hc]
            exact ⟨N, P, C ++ [(a, now)], one, a, rfl, rfl, rfl, hN, by rw [List.length_append, List.length_singleton]; omega, mt, bf.tree' mt ho ha hk, fr, hp, by simp, fun F au => q2 F au⟩
          | some z =>
            simp_arith only [true_and]
            have hLl : L.length < 1000000 := by omega
            refine ⟨by simp only [tyD, zi], z3a (f := D.int) (zme _ _ _) hp ?_⟩
            refine (zh5 (xs := L.map .int) zi (zv (by rw [List.length_map]; exact Nat.le_of_lt hLl)) ?_).2
            rw [zc1]
            refine ⟨_, (by repeat (first | exact Le.nil | apply Le.keep | apply Le.drop)), C ++ [(a, now)], L ++ [z], _, rfl, by rw [List.map_append]; rfl, bf.push mt ho ha hk hp, by simp only [List.length_append, List.length_singleton]; omega⟩
      · rintro η G' ⟨C, L, ot, rfl, rfl, bf, hm2⟩
        have hC2 := bf.le mt
        rw [List.length_map] at bf
        exact ⟨L.length + 2 * P.length - 2 * C.length, by omega, _, (by repeat (first | exact Le.nil | apply Le.keep | apply Le.drop)), C, L, _, _, rfl, rfl, bf.end_, by omega, by omega⟩
end M
namespace M
open PySem PySem.Spec PyProof.Rows L2 DL
theorem zab3 {α β : Type} [DecidableEq α] {P P' : List (α × β)} (p : P'.Perm P) (nd : (P.map (·.1)).Nodup) (a : α) : aget P' a = aget P a := by
  have nd' : (P'.map (·.1)).Nodup := (p.map (·.1)).nodup_iff.mpr nd
  cases h : aget P a with
  | some m => exact zjs nd' (p.mem_iff.mpr (z5d h))
  | none =>
    cases h' : aget P' a with
    | none => rfl
    | some m => rw [zjs nd (p.mem_iff.mp (z5d h'))] at h; cases h
theorem Gr.perm {N : List (List Int)} {P P' : List (Int × Int)} {i : Int} (g : Gr N P i) (p : P'.Perm P) : Gr N P' i := by
  have e : ∀ a, aget P' a = aget P a := zab3 p g.mt.nd
  have hs : ∀ m, Has P' m ↔ Has P m := fun m => by unfold Has; simp only [e]
  refine ⟨⟨(p.map (·.1)).nodup_iff.mpr g.mt.nd, fun a b m h1 h2 => g.mt.inj a b m (by rw [← e]; exact h1) (by rw [← e]; exact h2), fun a m h => g.mt.ok a m (by rw [← e]; exact h)⟩, fun m h => g.lt m ((hs m).mp h), fun u h1 h2 h3 => ?_⟩
  obtain ⟨S, cl, q⟩ := g.cert u h1 h2 fun z => h3 ((hs u).mpr z)
  refine ⟨S, fun s z => ?_, q⟩
  obtain ⟨h4, h5⟩ := cl s z
  exact ⟨h4, fun a ha => by rw [e]; exact h5 a ha⟩
theorem zaee {β : Type} {f : β → D} {kvs : List (Int × β)} {G : DHp} {Q : DVK} : dIsN true (eK f kvs) .non G Q = Q (.bl true) G := rfl
def zf1 : DRn := d1 fun n G Q => ∃ N : List (List Int), n = eN N ∧ N.length ≤ 1000 ∧ ∀ P, Gr N P N.length → Q (eK .int (sw P)) G
abbrev zl2 : List Str := ["nexts", "pairs", "one", "late", "other"]
def zrk : DTS :=
    (dSeq (dAsg (dFz z7u) (zl 1))
    (dSeq (dFor (zcx (zf (dCB dLen (zf (ze 0) dNil)) dNil)) (zl 2)
    (dSeq (dAsg (dCB zga (zf (ze 0) (zf (ze 2) (zf (ze 1) dNil)))) (zl 3))
    (dIfS (zag (dOp (dIsN true) (ze 3) (dC .non)))
    (dAsg (ze 3) (zl 1))
    zc7)))
    (dRet (dFz (dDc (.dK []) (za1 (dFz (zya (ze 1)))) (ze2 (z4 (zl 4) (z4 (zl 2) zfc)) 2) dYes (ze 2) (ze 4) [4, 2])))))
theorem zzp : ∀ ds G Q, zf1 ds G Q → ds.length = 1 := fun ds G Q h => by
  match ds, h with
  | [_], _ => rfl
theorem zadz (p : Int × Int) : (py (e2 p)).depth ≤ 60 := Nat.le_trans (zqe (B := 0) fun d hd => by
  simp only [List.mem_cons, List.not_mem_nil, or_false] at hd
  rcases hd with rfl | rfl <;> exact Nat.le_of_eq (zdo _)) (by decide)
theorem z8p {P : List (Int × Int)} {T : DTE} {η : DSt} {G : DHp} {Q : DVK} (hT : ∀ R : DVK, R (eK .int P) G → T η G R) (q : ∀ p, G p = none → Q (.ref p) (up G p (.lst ((srtT e2 P).map e2)))) : zya T η G Q := by
  refine hT _ ?_
  rw [z2g]
  have e : prD (P.map fun p => (D.int p.1, D.int p.2)) = P.map e2 := by
    unfold prD
    rw [List.map_map]
    rfl
  show Srts (prD (P.map fun p => (D.int p.1, D.int p.2))) ∧ ∀ p, G p = none → Q (.ref p) (up G p (.lst (srt (prD (P.map fun p => (D.int p.1, D.int p.2))))))
  rw [e]
  refine ⟨⟨cleans_plain (zdk (fun _ => rfl) P), ?_, st2 P, fun d hd => ?_⟩, fun p hp => by rw [zuv]; exact q p hp⟩
  · rw [List.map_map]; exact PySem.W.AllAlike.of al2
  · obtain ⟨a, _, rfl⟩ := List.mem_map.mp hd; exact zadz a
theorem z0d : ∀ ds G Q, zf1 ds G Q → zrk { nx := fun _ G' => Q .non G', rt := Q } (zao zl2 ds) G := fun ds G Q h => by
  match ds, h with
  | [_], ⟨N, rfl, hN, q⟩ =>
    simp_arith only [zrk, zl2, z7u]
    intro p hp
    simp_arith only [zi, za3 hp, dFor, zcx, zlx]
    refine ⟨⟨by omega, by omega⟩, fun i η G' => ∃ P on lt, η = [some (eN N), some (eK .int P), on, lt, none] ∧ G' = G ∧ Gr N P i, ⟨[], none, none, rfl, rfl, .start N⟩, fun _ _ _ _ => trivial, ?_, ?_⟩
    · rintro i d η G' hd ⟨P, on, lt, rfl, rfl, g⟩
      obtain ⟨a, ha, rfl⟩ := zaq hd
      have ea : a = (i : Int) ∧ i < N.length := by
        have hi := (List.getElem?_eq_some_iff.mp ha).1
        rw [zcq] at hi
        refine ⟨?_, by omega⟩
        simp only [zb4, List.getElem?_map, List.getElem?_range hi, Option.map_some, Option.some.injEq] at ha
        omega
      obtain ⟨rfl, hi⟩ := ea
      simp_arith only [true_and]
      refine ⟨N, P, _, rfl, rfl, rfl, hN, g.mt, ⟨by omega, by omega⟩, g.free, fun h => ?_, fun F au => ?_⟩
      · simp_arith only [z7y]
        exact ⟨_, (by repeat (first | exact Le.nil | apply Le.keep | apply Le.drop)), P, _, _, rfl, rfl, g.none h⟩
      · simp_arith only [zaee]
        exact ⟨_, (by repeat (first | exact Le.nil | apply Le.keep | apply Le.drop)), F, _, _, rfl, rfl, g.some au⟩
    · rintro η G' ⟨P, on, lt, rfl, rfl, g⟩
      have g : Gr N P N.length := by
        rw [List.length_map, zcq] at g
        rw [show (((N.length : Int) - 0).toNat : Int) = N.length by omega] at g
        exact g
      have gp := g.perm (zam e2 P)
      have hP := gp.mt.len
      simp_arith only [dDc, za1]
      refine z8p (fun R r => r) fun w hw => ?_
      simp_arith only [zi, za3 hw]
      show ∀ b, _ → _
      intro b hb
      refine ⟨fun i G2 => G2 = up G' b (oK .int (sw ((srtT e2 P).take i))), rfl, ?_, ?_, ?_⟩
      · rintro i G' rfl
        exact ⟨trivial, znk zi⟩
      · rintro i d G' hd rfl
        obtain ⟨x, hx, rfl⟩ := zaq hd
        simp_arith only [e2]
        refine ⟨znk zi, zmc (kvs := sw ((srtT e2 P).take i)) (f := D.int) zi (zv (by unfold sw; rw [List.length_map, List.length_take]; omega)) ?_⟩
        rw [zc1, zp9 (z4t gp.mt hx), zba hx]
        unfold sw
        rw [List.map_append]
        rfl
      · rintro G' rfl
        rw [List.length_map, List.take_length]
        simp_arith only [zi, zxb, za3 hb]
        exact q _ gp
end M
namespace M
open PySem PySem.Spec PyProof.Rows L2 DL
structure Sw (N : List (List Int)) (P : List (Int × Int)) (K L : List Int) : Prop where
  nd : K.Nodup
  un : ∀ s ∈ K, Un N P s
  all : ∀ u, InR N u → ¬ Has P u → u ∈ K
  sub : ∀ s ∈ L, s ∈ K
  done : ∀ s ∈ K, s ∈ L ∨ ∀ a ∈ nxt N s, ∃ m, m ∈ K ∧ aget P a = some m
structure Sf (N : List (List Int)) (P : List (Int × Int)) (K L : List Int) (now : Int) (i : Nat) : Prop where
  nd : K.Nodup
  un : ∀ s ∈ K, Un N P s
  all : ∀ u, InR N u → ¬ Has P u → u ∈ K
  sub : ∀ s ∈ L, s ∈ K
  cur : now ∈ K
  done : ∀ s ∈ K, s ∈ L ∨ (∀ a ∈ nxt N s, ∃ m, m ∈ K ∧ aget P a = some m) ∨ (s = now ∧ ∀ a ∈ (nxt N now).take i, ∃ m, m ∈ K ∧ aget P a = some m)
section
variable {N : List (List Int)} {P : List (Int × Int)} {K L : List Int} {now : Int} {i : Nat}
theorem z62 {s : Int} (h : Un N P s) : InR N s := (ztq N P s h).1
theorem z0n (nd : K.Nodup) (h : ∀ s ∈ K, Un N P s) : K.length ≤ N.length := by
  have := zra (L' := K) (L := List.map (fun k : Nat => (k : Int)) (List.range N.length)) (R := fun x y => x = y) nd (fun x hx => by
    obtain ⟨h0, h1⟩ := z62 (h x hx)
    exact ⟨x, List.mem_map.mpr ⟨x.toNat, by rw [List.mem_range]; omega, by omega⟩, rfl⟩) fun x _ x' _ y e e' => e.trans e'.symm
  simpa using this
theorem Sw.pop (b : Sw N P K (L ++ [now])) : Sf N P K L now 0 where
  nd := b.nd
  un := b.un
  all := b.all
  sub := fun s h => b.sub s (List.mem_append.mpr (.inl h))
  cur := b.sub now (by simp)
  done := fun s r => by
    rcases b.done s r with h | h
    · rcases List.mem_append.mp h with h | h
      · exact .inl h
      · have : s = now := by simpa using h
        exact .inr (.inr ⟨this, fun a ha => by simp at ha⟩)
    · exact .inr (.inl h)
theorem Sf.end_ (b : Sf N P K L now (nxt N now).length) : Sw N P K L where
  nd := b.nd
  un := b.un
  all := b.all
  sub := b.sub
  done := fun s r => by
    rcases b.done s r with h | h | ⟨rfl, h⟩
    · exact .inl h
    · exact .inr h
    · exact .inr fun a ha => h a (by rw [List.take_length]; exact ha)
theorem Sf.next (b : Sf N P K L now i) {a : Int} (e : (nxt N now)[i]? = some a) : ∃ m, aget P a = some m ∧ Un N P m :=
  (ztq N P now (b.un now b.cur)).2 a (List.mem_of_getElem? e)
theorem Sf.skip (b : Sf N P K L now i) {a m : Int} (e : (nxt N now)[i]? = some a) (hm : aget P a = some m) (hk : m ∈ K) : Sf N P K L now (i + 1) where
  nd := b.nd
  un := b.un
  all := b.all
  sub := b.sub
  cur := b.cur
  done := fun s r => by
    rcases b.done s r with q | q | ⟨q, z⟩
    · exact .inl q
    · exact .inr (.inl q)
    · refine .inr (.inr ⟨q, fun c hc => ?_⟩)
      rcases zs5 e hc with hc | rfl
      · exact z c hc
      · exact ⟨m, hk, hm⟩
theorem Sf.push (b : Sf N P K L now i) {a m : Int} (e : (nxt N now)[i]? = some a) (hm : aget P a = some m) (hk : m ∉ K) : Sf N P (K ++ [m]) (L ++ [m]) now (i + 1) where
  nd := by
    rw [List.nodup_append]
    exact ⟨b.nd, by simp, fun x hx y hy => by simp at hy; subst hy; exact fun z => hk (z ▸ hx)⟩
  un := fun s hs => by
    rcases List.mem_append.mp hs with hs | hs
    · exact b.un s hs
    · obtain ⟨m', h1, h2⟩ := b.next e
      rw [hm] at h1
      cases h1
      have : s = m := by simpa using hs
      rw [this]; exact h2
  all := fun u h1 h2 => List.mem_append.mpr (.inl (b.all u h1 h2))
  sub := fun s hs => by
    rcases List.mem_append.mp hs with hs | hs
    · exact List.mem_append.mpr (.inl (b.sub s hs))
    · exact List.mem_append.mpr (.inr hs)
  cur := List.mem_append.mpr (.inl b.cur)
  done := fun s hs => by
    have wk : ∀ c, (∃ m', m' ∈ K ∧ aget P c = some m') → ∃ m', m' ∈ K ++ [m] ∧ aget P c = some m' := fun c ⟨m', h1, h2⟩ => ⟨m', List.mem_append.mpr (.inl h1), h2⟩
    rcases List.mem_append.mp hs with hs | hs
    · rcases b.done s hs with q | q | ⟨q, z⟩
      · exact .inl (List.mem_append.mpr (.inl q))
      · exact .inr (.inl fun c hc => wk c (q c hc))
      · refine .inr (.inr ⟨q, fun c hc => ?_⟩)
        rcases zs5 e hc with hc | rfl
        · exact wk c (z c hc)
        · exact ⟨m, by simp, hm⟩
    · exact .inl (List.mem_append.mpr (.inr hs))
end
/-- keys that say true -/
def fz (K : List Int) : List (Int × Bool) := K.map fun s => (s, true)
theorem zxl (K : List Int) : (fz K).map (·.1) = K := by
  unfold fz
  rw [List.map_map]
  exact List.map_id _
theorem zaba {K : List Int} {s : Int} (h : s ∉ K) : aput (fz K) s true = fz (K ++ [s]) := by
  rw [zp9 (by rw [zxl]; exact h)]
  unfold fz
  rw [List.map_append]
  rfl
theorem zaeb (K : List Int) (s : Int) : (aget (fz K) s).isSome = decide (s ∈ K) := by
  rw [Bool.eq_iff_iff, zdt, zxl, decide_eq_true_eq]
def ze0 : DRn := d2 fun n m G Q => ∃ (N : List (List Int)) (P : List (Int × Int)), n = eN N ∧ m = eK .int (sw P) ∧ N.length ≤ 1000 ∧ Gr N P N.length ∧
  ∀ K : List Int, Sw N P K [] → Q (eL .int (srtT .int K)) G
abbrev zij : List Str := ["nexts", "matching", "back", "found", "waiting", "other", "one"]
def zpb : DTS :=
    (dSeq (dAsg (dDc (.dK []) (zuw (ze 1)) (ze2 (z4 (zl 6) (z4 (zl 5) zfc)) 2) dYes (ze 5) (ze 6) [6, 5]) (zl 2))
    (dFrz 2 (dSeq (dAsg (dDc (.dK []) (zcx (zf (dCB dLen (zf (ze 0) dNil)) dNil)) (zl 6) (zag (dOp (dIn true) (ze 6) (ze 1))) (ze 6) (dC (.bl true)) [6]) (zl 3))
    (dSeq (dAsg (dCB z4o (zf (ze 3) dNil)) (zl 4))
    (dSeq (z0i (zag (dOp dNe (ze 4) (zjv dNil)))
    (dFor (za1 (dOp dIx (ze 0) (dM0 "list" dPop (ze 4)))) (zl 5)
    (dSeq (dAsg (dOp dIx (ze 2) (ze 5)) (zl 6))
    (dIfS (zag (dOp (dIn true) (ze 6) (ze 3)))
    (dSeq (dAsg (dC (.bl true)) (zpt (ze 3) (ze 6) dSet))
    (zh0 (dM "list" zgp (ze 4) (zf (ze 6) dNil))))
    zc7))))
    (dFrz 4 (dFrz 3 (dRet (dFz (dCB zqq (zf (ze 3) dNil)))))))))))
theorem zxy : ∀ ds G Q, ze0 ds G Q → ds.length = 2 := fun ds G Q h => by
  match ds, h with
  | [_, _], _ => rfl
theorem z60 (P : List (Int × Int)) : (sw P).length = P.length := List.length_map ..
theorem z6c {P : List (Int × Int)} (nd : (P.map (·.1)).Nodup) {i : Nat} {x : Int × Int} (e : P[i]? = some x) : x.1 ∉ (P.take i).map (·.1) := by
  intro q
  obtain ⟨y, hy, e2⟩ := List.mem_map.mp q
  obtain ⟨j, hj, e5⟩ := List.getElem_of_mem hy
  rw [List.getElem_take] at e5
  obtain ⟨hi, e6⟩ := List.getElem?_eq_some_iff.mp e
  rw [List.length_take] at hj
  have := (List.pairwise_iff_getElem.mp nd) j i (by rw [List.length_map]; omega) (by rw [List.length_map]; exact hi) (by omega)
  rw [List.getElem_map, List.getElem_map, e5, e6] at this
  exact this e2
theorem z4y {d : D} {K : List Int} {G : DHp} {Q : DVK} (h : znl d G = some (K.map .int)) (q : ∀ p, G p = none → Q (.ref p) (up G p (.lst ((srtT .int K).map .int)))) : zqq [d] G Q := by
  show (match znl d G with | some ks => _ | none => False)
  rw [h]
  refine ⟨⟨?_, ?_, fun d hd => ?_⟩, fun p hp => by rw [zuv]; exact q p hp⟩
  · rw [List.map_map]; exact PySem.W.AllAlike.of fun a b => by simp [py, PySem.W.alike]
  · rw [List.map_map]; exact PySem.W.Sortable.others fun b => ⟨by simp [py], by simp [py]⟩
  · obtain ⟨a, _, rfl⟩ := List.mem_map.mp hd; rw [zdo]; decide
theorem z1b {d : D} {ks : List D} {G : DHp} {Q : DVK} (h : znl d G = some ks) (q : ∀ p, G p = none → Q (.ref p) (up G p (.lst ks))) : z4o [d] G Q := by
  show (match znl d G with | some ks => _ | none => False)
  rw [h]
  exact q
theorem zabo {α : Type} {l : List α} (nd : l.Nodup) {i : Nat} {x : α} (e : l[i]? = some x) : x ∉ l.take i := by
  intro hy
  obtain ⟨j, hj, e5⟩ := List.getElem_of_mem hy
  rw [List.getElem_take] at e5
  obtain ⟨hi, e6⟩ := List.getElem?_eq_some_iff.mp e
  rw [List.length_take] at hj
  have := (List.pairwise_iff_getElem.mp nd) j i (by omega) hi (by omega)
  exact this (e5.trans e6.symm)
theorem zyo : ∀ ds G Q, ze0 ds G Q → zpb { nx := fun _ G' => Q .non G', rt := Q } (zao zij ds) G := fun ds G Q h => by
  match ds, h with
  | [_, _], ⟨N, P, rfl, rfl, hN, g, q⟩ =>
    have hP := g.mt.len
    simp_arith only [zpb, zij, dDc, zuw, z2g]
    intro b hb
    refine ⟨fun i G' => G' = up G b (oK .int (P.take i)), rfl, ?_, ?_, ?_⟩
    · rintro i G' rfl
      exact ⟨trivial, znk zi⟩
    · rintro i d G' hd rfl
      unfold sw at hd
      rw [List.map_map, List.map_map] at hd
      obtain ⟨x, hx, rfl⟩ := zaq hd
      dsimp only [Function.comp]
      simp_arith only [true_and]
      refine ⟨znk zi, zmc (kvs := P.take i) (f := D.int) zi (zv (by rw [List.length_take]; omega)) ?_⟩
      rw [zc1, zp9 (z6c g.mt.nd hx), zba hx]
    · rintro G' rfl
      rw [List.length_map, List.length_map, z60, List.take_length]
      simp_arith only [zi, zxb, za3 hb, zcx, zlx]
      refine ⟨⟨by omega, by omega⟩, fun f hf => ?_⟩
      refine ⟨fun i G' => G' = up G f (oK .bl (fz (((zb4 0 N.length).take i).filter fun s => (aget (sw P) s).isNone))), rfl, ?_, ?_, ?_⟩
      · rintro i G' rfl
        exact ⟨trivial, znk zi⟩
      · rintro i d G' hd rfl
        obtain ⟨s, hs, rfl⟩ := zaq hd
        simp_arith only [true_and]
        refine zyl (f := D.int) (zme _ _ _) ?_
        cases hg : aget (sw P) s with
        | some z =>
          simp_arith only [true_and]
          rw [zba hs, List.filter_append, List.filter_cons_of_neg (by rw [hg]; simp), List.filter_nil, List.append_nil]
        | none =>
          simp_arith only [true_and]
          have hn : s ∉ ((zb4 0 N.length).take i).filter fun s => (aget (sw P) s).isNone := fun z => zabo (zud _ _) hs (List.mem_filter.mp z).1
          refine ⟨znk zi, zmc (kvs := fz (((zb4 0 N.length).take i).filter fun s => (aget (sw P) s).isNone)) (f := D.bl) (b := true) zi (zv ?_) ?_⟩
          · unfold fz
            rw [List.length_map]
            refine Nat.le_trans (List.length_filter_le _ _) ?_
            rw [List.length_take, zcq]
            omega
          · rw [zc1, zaba hn, zba hs, List.filter_append, List.filter_cons_of_pos (by rw [hg]; rfl), List.filter_nil]
      · rintro G' rfl
        rw [List.length_map, List.take_length]
        generalize hK0 : (zb4 0 N.length).filter (fun s => (aget (sw P) s).isNone) = K0
        have m0 : ∀ s, s ∈ K0 ↔ InR N s ∧ ¬ Has P s := fun s => by
          rw [← hK0, List.mem_filter, mem_range, Option.isNone_iff_eq_none, z8s g.mt]
          rfl
        have sw0 : Sw N P K0 K0 := ⟨by rw [← hK0]; exact (zud _ _).filter _, fun s hs => g.un ((m0 s).mp hs).1 ((m0 s).mp hs).2, fun u h1 h2 => (m0 u).mpr ⟨h1, h2⟩, fun s h => h, fun s h => .inl h⟩
        refine z1b (z7z (f := D.bl) zi) fun w hw => ?_
        have fw := zael hw
        rw [zxl]
        have hl0 := z0n sw0.nd sw0.un
        refine ⟨fun m η G' => ∃ K L s5 s6, η = [some (eN N), some (eK .int (sw P)), some (eK .int P), some (.ref f), some (.ref w), s5, s6] ∧ G' = up (up G f (oK .bl (fz K))) w (.lst (L.map .int)) ∧ Sw N P K L ∧ m + 2 * K.length = L.length + 2 * N.length ∧ m ≤ 2 * N.length,
          ⟨2 * N.length - K0.length, K0, K0, none, none, rfl, rfl, sw0, by omega, by omega⟩, ?_⟩
        rintro m η G' ⟨K, L, s5, s6, rfl, rfl, sl, hm, hmb⟩
        have hKn := z0n sl.nd sl.un
        have hw' : up G f (oK .bl (fz K)) w = none := by rw [zej (Ne.symm fw)]; rw [zej (Ne.symm fw)] at hw; exact hw
        simp_arith only [true_and]
        refine z71 zi ?_
        rcases List.eq_nil_or_concat L with rfl | ⟨L1, now, eL1⟩
        · simp_arith only [List.isEmpty_nil, zi, za3 hw', za3 hf]
          refine z4y (K := K) (by rw [show DO.tree (oK D.bl (fz K)) = eK .bl (fz K) from rfl, z9n, zxl]) fun p hp => ?_
          simp_arith only [zi, za3 hp]
          exact q K sl
        · rw [List.concat_eq_append] at eL1
          subst eL1
          have hne : (L1 ++ [now]).isEmpty = false := by cases L1 <;> rfl
          have hpp : up (up G f (oK .bl (fz K))) w (.lst ((L1 ++ [now]).map .int)) w = some (.lst (L1.map .int ++ [.int now])) := by rw [zi, List.map_append]; rfl
          simp_arith only [hne, dFor, za1]
          refine z39 hpp ?_
          have hn : InR N now := z62 (sl.un now (sl.sub now (by simp)))
          refine zhw (f := eL .int) hn.1 (z58 hn) ?_
          unfold eL
          dsimp only
          rw [zc1]
          refine ⟨fun i η G' => ∃ K L s5 s6, η = [some (eN N), some (eK .int (sw P)), some (eK .int P), some (.ref f), some (.ref w), s5, s6] ∧ G' = up (up G f (oK .bl (fz K))) w (.lst (L.map .int)) ∧ Sf N P K L now i ∧ L.length + 2 * N.length + 1 ≤ m + 2 * K.length,
            ⟨K, L1, _, _, rfl, rfl, sl.pop, by rw [List.length_append, List.length_singleton] at hm; omega⟩, fun _ _ _ _ => trivial, ?_, ?_⟩
          · rintro i d η G' hd ⟨K, L, s5, s6, rfl, rfl, sf, hm2⟩
            obtain ⟨a, ha, rfl⟩ := zaq hd
            have hKn2 := z0n sf.nd sf.un
            have hff : up (up G f (oK .bl (fz K))) w (.lst (L.map .int)) f = some (oK .bl (fz K)) := by rw [zej fw, zi]
            obtain ⟨z, hz, hU⟩ := sf.next ha
            simp_arith only [true_and]
            refine z3a (f := D.int) (zme _ _ _) hz ?_
            refine zyl (f := D.bl) (zth hff) ?_
            rw [zaeb]
            by_cases hk : z ∈ K
            · rw [decide_eq_true hk]
              simp_arith only [true_and]
              exact ⟨_, (by repeat (first | exact Le.nil | apply Le.keep | apply Le.drop)), K, L, _, _, rfl, rfl, sf.skip ha hz hk, hm2⟩
            · rw [decide_eq_false hk]
              simp_arith only [true_and]
              refine zmc (f := D.bl) (kvs := fz K) (b := true) hff (zv (by unfold fz; rw [List.length_map]; omega)) ?_
              rw [zaba hk, up3 fw]
              have hLl : L.length < 1000000 := by omega
              refine zh5 (xs := L.map .int) zi (zv (by rw [List.length_map]; exact Nat.le_of_lt hLl)) ?_
              rw [zc1]
              exact ⟨_, (by repeat (first | exact Le.nil | apply Le.keep | apply Le.drop)), K ++ [z], L ++ [z], _, _, rfl, by rw [List.map_append]; rfl, sf.push ha hz hk, by simp only [List.length_append, List.length_singleton]; omega⟩
          · rintro η G' ⟨K, L, s5, s6, rfl, rfl, sf, hm2⟩
            have hKn2 := z0n sf.nd sf.un
            rw [List.length_map] at sf
            exact ⟨L.length + 2 * N.length - 2 * K.length, by omega, _, (by repeat (first | exact Le.nil | apply Le.keep | apply Le.drop)), K, L, _, _, rfl, rfl, sf.end_, by omega, by omega⟩
end M
namespace M
open PySem PySem.Spec PyProof.Rows L2 DL
class CA where
  (MoonError BadGround BadCamera BadSky BadPicture BadStanding Ground Camera Sky TooMany Search BadDeed BadCraft BadBelief BadFlight BadCut BadText Values Looks Deed Craft Lander Flight Engines Crew Tree Survey Joint : Addr)
variable [CA]
abbrev isT : Value → Value → Option Bool := zsq [CA.Ground]
theorem zza {ds : List D} {G : DHp} {Q : DVK} : dLen [.nd .tup ds] G Q = Q (.int ds.length) G := rfl
theorem len3 {a b c : D} {G : DHp} {Q : DVK} : dLen [.nd .tup [a, b, c]] G Q = Q (.int 3) G := rfl
theorem len4 {a b c d : D} {G : DHp} {Q : DVK} : dLen [.nd .tup [a, b, c, d]] G Q = Q (.int 4) G := rfl
/-- what is no whole number -/
def zadv (t : D) : Prop := t = .non ∨ (∃ b, t = .bl b) ∨ (∃ x, t = .str x) ∨ (∃ ds, t = .nd .tup ds) ∨ ∃ ds, t = .nd .lst ds
def zah : DRn := d3 fun t l h G Q => (∃ i a b : Int, t = .int i ∧ l = .int a ∧ h = .int b ∧ Q (.bl (decide (a ≤ i ∧ i ≤ b))) G) ∨ (zadv t ∧ Q (.bl false) G)
theorem z2z {cs : List Addr} {G : DHp} {Q : DVK} : (dIsi (zsq cs)) [.non, .ty "int"] G Q ↔ Q (.bl false) G := Iff.rfl
theorem z5j {cs : List Addr} {b : Bool} {G : DHp} {Q : DVK} : (dIsi (zsq cs)) [.bl b, .ty "int"] G Q ↔ Q (.bl true) G := Iff.rfl
theorem z2q {cs : List Addr} {b : Bool} {G : DHp} {Q : DVK} : (dIsi (zsq cs)) [.bl b, .ty "bool"] G Q ↔ Q (.bl true) G := Iff.rfl
theorem z2k {cs : List Addr} {x : Str} {G : DHp} {Q : DVK} : (dIsi (zsq cs)) [.str x, .ty "int"] G Q ↔ Q (.bl false) G := Iff.rfl
theorem z2t {cs : List Addr} {ds : List D} {G : DHp} {Q : DVK} : (dIsi (zsq cs)) [.nd .tup ds, .ty "int"] G Q ↔ Q (.bl false) G := Iff.rfl
theorem z2w {cs : List Addr} {ds : List D} {G : DHp} {Q : DVK} : (dIsi (zsq cs)) [.nd .lst ds, .ty "int"] G Q ↔ Q (.bl false) G := Iff.rfl
abbrev zgl : List Str := ["thing", "low", "high"]
def zhi : DTS :=
    (dRet (zna (dCB (dIsi isT) (zf (ze 0) (zf (dC (.ty "int")) dNil))) (zna (zul (dCB (dIsi isT) (zf (ze 0) (zf (dC (.ty "bool")) dNil)))) (zie dLe dLe (ze 1) (ze 0) (ze 2)))))
theorem z0o : ∀ ds G Q, zah ds G Q → ds.length = 3 := fun ds G Q h => by
  match ds, h with
  | [_, _, _], _ => rfl
theorem z0t : ∀ ds G Q, zah ds G Q → zhi { nx := fun _ G' => Q .non G', rt := Q } (zao zgl ds) G := fun ds G Q h => by
  match ds, h with
  | [_, _, _], .inr ⟨n, q⟩ =>
    rcases n with rfl | ⟨b, rfl⟩ | ⟨x, rfl⟩ | ⟨ds, rfl⟩ | ⟨ds, rfl⟩
    · simp_arith only [zhi, zgl, z2z]; exact q
    · simp_arith only [zhi, zgl, z5j, z2q]; exact q
    · simp_arith only [zhi, zgl, z2k]; exact q
    · simp_arith only [zhi, zgl, z2t]; exact q
    · simp_arith only [zhi, zgl, z2w]; exact q
  | [_, _, _], .inl ⟨i, a, b, rfl, rfl, rfl, q⟩ =>
    simp_arith only [zhi, zgl, z1t, z0q]
    by_cases h1 : a ≤ i
    · rw [if_pos h1]
      simpa [h1] using q
    · rw [if_neg h1]
      simpa [h1] using q
def okPt (a b : Int) (p : Int × Int × Int) : Prop := (a ≤ p.1 ∧ p.1 ≤ b) ∧ (a ≤ p.2.1 ∧ p.2.1 ≤ b) ∧ 1 ≤ p.2.2 ∧ p.2.2 ≤ 99
instance (a b : Int) (p : Int × Int × Int) : Decidable (okPt a b p) := by unfold okPt; infer_instance
/-- what is no row of three -/
def zafo (t : D) : Prop := (∃ ds, t = .nd .lst ds) ∨ ∃ ds : List D, t = .nd .tup ds ∧ ds.length ≠ 3
theorem z25 {cs : List Addr} {ds : List D} {G : DHp} {Q : DVK} : (dIsi (zsq cs)) [.nd .lst ds, .ty "tuple"] G Q ↔ Q (.bl false) G := Iff.rfl
def zhc : DRn := d3 fun t l h G Q => (∃ (p : Int × Int × Int) (a b : Int), t = e3 p ∧ l = .int a ∧ h = .int b ∧ Q (.bl (decide (okPt a b p))) G) ∨ (zafo t ∧ Q (.bl false) G)
abbrev zj1 : List Str := ["thing", "low", "high"]
def zlo : DTS :=
    (dSeq (dIfS (dOr (dNot (zag (dCB (dIsi isT) (zf (ze 0) (zf (dC (.ty "tuple")) dNil))))) (zag (dOp dNe (dCB dLen (zf (ze 0) dNil)) (dC (.int 3)))))
    (dRet (dC (.bl false)))
    zc7)
    (dRet (zna (dCB zah (zf (dOp dIx (ze 0) (dC (.int 0))) (zf (ze 1) (zf (ze 2) dNil)))) (zna (dCB zah (zf (dOp dIx (ze 0) (dC (.int 1))) (zf (ze 1) (zf (ze 2) dNil)))) (dCB zah (zf (dOp dIx (ze 0) (dC (.int 2))) (zf (dC (.int 1)) (zf (dC (.int 99)) dNil))))))))
theorem zzq : ∀ ds G Q, zhc ds G Q → ds.length = 3 := fun ds G Q h => by
  match ds, h with
  | [_, _, _], _ => rfl
theorem z0f : ∀ ds G Q, zhc ds G Q → zlo { nx := fun _ G' => Q .non G', rt := Q } (zao zj1 ds) G := fun ds G Q h => by
  match ds, h with
  | [_, _, _], .inr ⟨.inl ⟨ds, rfl⟩, q⟩ =>
    simp_arith only [zlo, zj1, z25]
    exact q
  | [_, _, _], .inr ⟨.inr ⟨ds, rfl, h⟩, q⟩ =>
    simp_arith only [zlo, zj1, zg8]
    rw [zza]
    simp_arith only [true_and]
    rw [if_pos (by simp; omega)]
    exact q
  | [_, _, _], .inl ⟨p, a, b, rfl, rfl, rfl, q⟩ =>
    simp_arith only [zlo, zj1, e3, zg8]
    rw [len3]
    simp_arith only [true_and]
    rw [if_neg (by decide)]
    refine zjp (by decide) rfl (.inl ⟨_, _, _, rfl, rfl, rfl, ?_⟩)
    dsimp only
    by_cases h1 : a ≤ p.1 ∧ p.1 ≤ b
    · rw [decide_eq_true h1, if_pos rfl]
      refine zjp (by decide) rfl (.inl ⟨_, _, _, rfl, rfl, rfl, ?_⟩)
      dsimp only
      by_cases h2 : a ≤ p.2.1 ∧ p.2.1 ≤ b
      · rw [decide_eq_true h2, if_pos rfl]
        refine zjp (by decide) rfl (.inl ⟨_, _, _, rfl, rfl, rfl, ?_⟩)
        have e : decide (okPt a b p) = decide (1 ≤ p.2.2 ∧ p.2.2 ≤ 99) := by rw [Bool.eq_iff_iff]; simp [okPt, h1, h2]
        rw [e] at q
        exact q
      · rw [decide_eq_false h2, if_neg Bool.false_ne_true]
        have e : decide (okPt a b p) = false := by rw [decide_eq_false_iff_not]; exact fun z => h2 z.2.1
        rw [e] at q
        exact q
    · rw [decide_eq_false h1, if_neg Bool.false_ne_true]
      have e : decide (okPt a b p) = false := by rw [decide_eq_false_iff_not]; exact fun z => h1 z.1
      rw [e] at q
      exact q
/-- a quarter turn, or more -/
def rot (x y t : Int) : Int × Int := if t = 0 then (x, y) else if t = 1 then (0 - y, x) else if t = 2 then (0 - x, 0 - y) else (y, 0 - x)
def zkl : DRn := d3 fun x y t G Q => ∃ i j k : Int, x = .int i ∧ y = .int j ∧ t = .int k ∧ Q (e2 (rot i j k)) G
abbrev zs2 : List Str := ["x", "y", "turn"]
def zy8 : DTS :=
    (dSeq (dIfS (zag (dOp dEq (ze 2) (dC (.int 0))))
    (dRet (dTup (zf (ze 0) (zf (ze 1) dNil))))
    zc7)
    (dSeq (dIfS (zag (dOp dEq (ze 2) (dC (.int 1))))
    (dRet (dTup (zf (dOp dSub (dC (.int 0)) (ze 1)) (zf (ze 0) dNil))))
    zc7)
    (dRet (dIf (zag (dOp dEq (ze 2) (dC (.int 2)))) (dTup (zf (dOp dSub (dC (.int 0)) (ze 0)) (zf (dOp dSub (dC (.int 0)) (ze 1)) dNil))) (dTup (zf (ze 1) (zf (dOp dSub (dC (.int 0)) (ze 0)) dNil)))))))
theorem z5o : ∀ ds G Q, zkl ds G Q → ds.length = 3 := fun ds G Q h => by
  match ds, h with
  | [_, _, _], _ => rfl
theorem z5v : ∀ ds G Q, zkl ds G Q → zy8 { nx := fun _ G' => Q .non G', rt := Q } (zao zs2 ds) G := fun ds G Q h => by
  match ds, h with
  | [_, _, _], ⟨i, j, k, rfl, rfl, rfl, q⟩ =>
    unfold rot at q
    simp_arith only [zy8, zs2]
    by_cases h0 : k = 0
    · rw [if_pos h0] at q ⊢
      exact q
    · rw [if_neg h0] at q ⊢
      by_cases h1 : k = 1
      · rw [if_pos h1] at q ⊢
        exact q
      · rw [if_neg h1] at q ⊢
        by_cases h2 : k = 2
        · rw [if_pos h2] at q ⊢
          exact q
        · rw [if_neg h2] at q ⊢
          exact q
structure Cam where
  w : Int
  h : Int
  er : Int
  fa : Int
  lo : Int
structure Sk where
  cs : List (Int × Int × Int)
  cam : Cam
  tu : List Int
  ar : Int × Int × Int × Int
def gD (cs : List (Int × Int × Int)) : D := .nd (.ins CA.Ground ["craters"]) [eT e3 cs]
def cD (c : Cam) : D := .nd (.ins CA.Camera ["width", "height", "error", "false", "lost"]) [.int c.w, .int c.h, .int c.er, .int c.fa, .int c.lo]
def e4 (a : Int × Int × Int × Int) : D := .nd .tup [.int a.1, .int a.2.1, .int a.2.2.1, .int a.2.2.2]
def sD (s : Sk) : D := .nd (.ins CA.Sky ["ground", "camera", "turns", "area"]) [gD s.cs, cD s.cam, eT .int s.tu, e4 s.ar]
def zacn (c : Cam) : Prop := (1 ≤ c.w ∧ c.w ≤ 1000) ∧ (1 ≤ c.h ∧ c.h ≤ 1000) ∧ (0 ≤ c.er ∧ c.er ≤ 100) ∧ (0 ≤ c.fa ∧ c.fa ≤ 100) ∧ (0 ≤ c.lo ∧ c.lo ≤ 100)
section
variable {T : DTE} {η : DSt} {G : DHp} {Q : DVK}
theorem zn7 {C : Addr} {n : Str} {ns : List Str} {ds : List D} : fldD C n (.nd (.ins C ns) ds) G = (ns.zip ds).lookup n := if_pos rfl
theorem zw7 {cs : List (Int × Int × Int)} : fldD CA.Ground "craters" (gD cs) G = some (eT e3 cs) := by unfold gD; rw [zn7]; rfl
theorem zpu {c : Cam} : fldD CA.Camera "width" (cD c) G = some (.int c.w) := by unfold cD; rw [zn7]; rfl
theorem zun {c : Cam} : fldD CA.Camera "height" (cD c) G = some (.int c.h) := by unfold cD; rw [zn7]; rfl
theorem zsz {c : Cam} : fldD CA.Camera "error" (cD c) G = some (.int c.er) := by unfold cD; rw [zn7]; rfl
theorem z3t {c : Cam} : fldD CA.Camera "false" (cD c) G = some (.int c.fa) := by unfold cD; rw [zn7]; rfl
theorem z8i {c : Cam} : fldD CA.Camera "lost" (cD c) G = some (.int c.lo) := by unfold cD; rw [zn7]; rfl
theorem z1l {s : Sk} : fldD CA.Sky "ground" (sD s) G = some (gD s.cs) := by unfold sD; rw [zn7]; rfl
theorem zln {s : Sk} : fldD CA.Sky "camera" (sD s) G = some (cD s.cam) := by unfold sD; rw [zn7]; rfl
end
end M
namespace M
open PySem PySem.Spec PyProof.Rows L2 DL
variable [CA]
def zaw : DRn := d2 fun s c G Q => ∃ (x : Addr) (cs : List (Int × Int × Int)), s = .ref x ∧ c = eL e3 cs ∧ G x = some (.ins CA.Ground []) ∧ cs.length ≤ 100 ∧ (∀ p ∈ cs, okPt (0 - 1000000) 1000000 p) ∧
  Q .non (up G x (.ins CA.Ground [("craters", eT e3 (srtT e3 cs))]))
abbrev zgh : List Str := ["self", "craters", "number", "crater"]
def ziu : DTS :=
    (dSeq (dFor (zgt (zf (ze 1) dNil)) (ze2 (z4 (zl 2) (z4 (zl 3) zfc)) 2)
    (dIfS (dOr (zag (dOp dGe (ze 2) (dC (.int 100)))) (dNot (zag (dCB zhc (zf (ze 3) (zf (dOp dSub (dC (.int 0)) (dC (.int 1000000))) (zf (dC (.int 1000000)) dNil)))))))
    zlp
    zc7))
    (zq3 CA.Ground "craters" (ze 0) (dCB zkn (zf (dFz (dCB zjm (zf (ze 1) dNil))) dNil))))
theorem zpe : ∀ ds G Q, zaw ds G Q → ds.length = 2 := fun ds G Q h => by
  match ds, h with
  | [_, _], _ => rfl
theorem zaey (p : Int × Int × Int) : (py (e3 p)).depth ≤ 60 := Nat.le_trans (zoa p) (by decide)
/-- a field set -/
theorem zaa1 {C : Addr} {n : Str} {To Tv : DTE} {F : zla} {η : DSt} {G : DHp} {x : Addr} {y : D} {fs : List (Str × D)} (ho : ∀ R : DVK, R (.ref x) G → To η G R) (hG : G x = some (.ins C fs)) (hl : fs.length < 1000)
    (k : F.nx η (up G x (.ins C (fput n y fs)))) (hv : ∀ R : DVK, R y G → Tv η G R) : zq3 C n To Tv F η G := by
  refine hv _ (ho _ ?_)
  show (match G x with | some (.ins B fs) => _ | _ => False)
  rw [hG]
  exact ⟨⟨rfl, hl⟩, k⟩
theorem zpa : ∀ ds G Q, zaw ds G Q → ziu { nx := fun _ G' => Q .non G', rt := Q } (zao zgh ds) G := fun ds G Q h => by
  match ds, h with
  | [_, _], ⟨x, cs, rfl, rfl, hG, hl, hok, q⟩ =>
    simp_arith only [ziu, zgh, dFor, zgt, eL]
    refine ⟨fun i η G' => ∃ nu cr, η = [some (.ref x), some (eL e3 cs), nu, cr] ∧ G' = G, ⟨none, none, rfl, rfl⟩, fun _ _ _ _ => trivial, ?_, ?_⟩
    · rintro i d η G' hd ⟨nu, cr, rfl, rfl⟩
      obtain ⟨z, hz, rfl⟩ := zgb hd
      obtain ⟨p, hp, rfl⟩ := zaq hz
      have hi : i < cs.length := (List.getElem?_eq_some_iff.mp hp).1
      simp_arith only [zlp]
      rw [if_neg (by omega)]
      refine .inl ⟨p, _, _, rfl, rfl, rfl, ?_⟩
      rw [decide_eq_true (hok p (List.mem_of_getElem? hp))]
      simp_arith only [true_and]
      exact ⟨_, (by repeat (first | exact Le.nil | apply Le.keep | apply Le.drop)), _, _, rfl, rfl⟩
    · rintro η G' ⟨nu, cr, rfl, rfl⟩
      refine zaa1 (fs := []) (y := eT e3 (srtT e3 cs)) (fun R r => r) hG (by decide) q fun R r => ?_
      simp_arith only [true_and]
      refine zgn (f := e3) (xs := cs) rfl (fun _ => rfl) al3 (st3 cs) zaey fun p hp => ?_
      simp_arith only [zi, za3 hp]
      rw [zni (ds := (srtT e3 cs).map e3) rfl]
      exact r
def zal : DRn := fun ds G Q => ∃ (x : Addr) (c : Cam), ds = [.ref x, .int c.w, .int c.h, .int c.er, .int c.fa, .int c.lo] ∧ G x = some (.ins CA.Camera []) ∧ zacn c ∧
  Q .non (up G x (.ins CA.Camera [("width", .int c.w), ("height", .int c.h), ("error", .int c.er), ("false", .int c.fa), ("lost", .int c.lo)]))
abbrev zep : List Str := ["self", "width", "height", "error", "false", "lost", "word", "number", "low", "high"]
def zg6 : DTS :=
    (dFor (za1 (dTup (zf (dTup (zf (dC (.str "width")) (zf (ze 1) (zf (dC (.int 1)) (zf (dC (.int 1000)) dNil))))) (zf (dTup (zf (dC (.str "height")) (zf (ze 2) (zf (dC (.int 1)) (zf (dC (.int 1000)) dNil))))) (zf (dTup (zf (dC (.str "error")) (zf (ze 3) (zf (dC (.int 0)) (zf (dC (.int 100)) dNil))))) (zf (dTup (zf (dC (.str "false")) (zf (ze 4) (zf (dC (.int 0)) (zf (dC (.int 100)) dNil))))) (zf (dTup (zf (dC (.str "lost")) (zf (ze 5) (zf (dC (.int 0)) (zf (dC (.int 100)) dNil))))) dNil))))))) (ze2 (z4 (zl 6) (z4 (zl 7) (z4 (zl 8) (z4 (zl 9) zfc)))) 4)
    (dIfS (dNot (zag (dCB zah (zf (ze 7) (zf (ze 8) (zf (ze 9) dNil))))))
    zlp
    zc7))
def zki : DTS :=
    (zq3 CA.Camera "width" (ze 0) (ze 1))
def zke : DTS :=
    (zq3 CA.Camera "height" (ze 0) (ze 2))
def zkq : DTS :=
    (zq3 CA.Camera "error" (ze 0) (ze 3))
def zj5 : DTS :=
    (zq3 CA.Camera "false" (ze 0) (ze 4))
def zka : DTS :=
    (zq3 CA.Camera "lost" (ze 0) (ze 5))
def zkm : DTS :=
    zka
def zkk : DTS :=
    (dSeq zj5 zkm)
def zkc : DTS :=
    (dSeq zkq zkk)
def zkf : DTS :=
    (dSeq zke zkc)
def zks : DTS :=
    (dSeq zki zkf)
def zlz : DTS :=
    (dSeq zg6 zks)
theorem zo2 : ∀ ds G Q, zal ds G Q → ds.length = 6 := fun ds G Q ⟨x, c, e, _⟩ => by rw [e]; rfl
theorem zae3 {F : zla} {x : Addr} {c : Cam} {G : DHp} (ok : zacn c) (k : ∀ a b d e, F.nx [some (.ref x), some (.int c.w), some (.int c.h), some (.int c.er), some (.int c.fa), some (.int c.lo), a, b, d, e] G) : zg6 F (zao zep [.ref x, .int c.w, .int c.h, .int c.er, .int c.fa, .int c.lo]) G := by
  simp_arith only [zg6, zep, dFor, za1]
  refine ⟨fun i η G' => ∃ a b d e, η = [some (.ref x), some (.int c.w), some (.int c.h), some (.int c.er), some (.int c.fa), some (.int c.lo), a, b, d, e] ∧ G' = G, ⟨none, none, none, none, rfl, rfl⟩, fun _ _ _ _ => trivial, ?_, ?_⟩
  · rintro i d η G' hd ⟨a, b, z, e, rfl, rfl⟩
    have hm := List.mem_of_getElem? hd
    have key : ∃ (w : Str) (n lo hi : Int), d = .nd .tup [.str w, .int n, .int lo, .int hi] ∧ lo ≤ n ∧ n ≤ hi := by
      simp only [List.mem_cons, List.not_mem_nil, or_false] at hm
      obtain ⟨o1, o2, o3, o4, o5⟩ := ok
      rcases hm with h | h | h | h | h
      · exact ⟨_, _, _, _, h, o1.1, o1.2⟩
      · exact ⟨_, _, _, _, h, o2.1, o2.2⟩
      · exact ⟨_, _, _, _, h, o3.1, o3.2⟩
      · exact ⟨_, _, _, _, h, o4.1, o4.2⟩
      · exact ⟨_, _, _, _, h, o5.1, o5.2⟩
    clear hd hm
    obtain ⟨w, n, lo, hi, rfl, h1, h2⟩ := key
    simp_arith only [true_and]
    refine .inl ⟨n, lo, hi, rfl, rfl, rfl, ?_⟩
    rw [decide_eq_true ⟨h1, h2⟩]
    simp_arith only [true_and]
    exact ⟨_, (by repeat (first | exact Le.nil | apply Le.keep | apply Le.drop)), _, _, _, _, rfl, rfl⟩
  · rintro η G' ⟨a, b, z, e, rfl, rfl⟩
    exact k _ _ _ _
/-- a field set, what stands then told -/
theorem zqp {C : Addr} {n : Str} {To Tv : DTE} {F : zla} {η : DSt} {G : DHp} {x : Addr} {y : D} {fs fs' : List (Str × D)} (ho : ∀ R : DVK, R (.ref x) G → To η G R) (hv : ∀ R : DVK, R y G → Tv η G R) (hG : G x = some (.ins C fs)) (hl : fs.length < 1000) (hf : fput n y fs = fs')
    (k : F.nx η (up G x (.ins C fs'))) : zq3 C n To Tv F η G := zaa1 ho hG hl (by rw [hf]; exact k) hv
theorem zpj : ∀ ds G Q, zal ds G Q → zlz { nx := fun _ G' => Q .non G', rt := Q } (zao zep ds) G := fun ds G Q h => by
  obtain ⟨x, c, rfl, hG, ok, q⟩ := h
  refine zae3 ok fun a b d e => ?_
  dsimp only [zks, zki, dSeq]
  refine zqp (fs' := [("width", .int c.w)]) (fun R r => r) (fun R r => r) hG (by decide) rfl ?_
  dsimp only [zkf, zke, dSeq]
  refine zqp (fs' := [("width", .int c.w), ("height", .int c.h)]) (fun R r => r) (fun R r => r) zi (by show _ < 1000; simp) rfl ?_
  rw [zc1]
  dsimp only [zkc, zkq, dSeq]
  refine zqp (fs' := [("width", .int c.w), ("height", .int c.h), ("error", .int c.er)]) (fun R r => r) (fun R r => r) zi (by show _ < 1000; simp) rfl ?_
  rw [zc1]
  dsimp only [zkk, zj5, dSeq]
  refine zqp (fs' := [("width", .int c.w), ("height", .int c.h), ("error", .int c.er), ("false", .int c.fa)]) (fun R r => r) (fun R r => r) zi (by show _ < 1000; simp) rfl ?_
  rw [zc1]
  dsimp only [zkm, zka, dSeq]
  refine zqp (fs' := [("width", .int c.w), ("height", .int c.h), ("error", .int c.er), ("false", .int c.fa), ("lost", .int c.lo)]) (fun R r => r) (fun R r => r) zi (by show _ < 1000; simp) rfl ?_
  rw [zc1]
  exact q
end M
namespace M
open PySem PySem.Spec PyProof.Rows L2 DL
variable [CA]
def inC (c : Cam) (x y m : Int) : Prop := (0 - m ≤ x ∧ x < c.w + m) ∧ 0 - m ≤ y ∧ y < c.h + m
instance (c : Cam) (x y m : Int) : Decidable (inC c x y m) := by unfold inC; infer_instance
def zbt : DRn := fun ds G Q => ∃ (c : Cam) (x y m : Int), ds = [cD c, .int x, .int y, .int m] ∧ Q (.bl (decide (inC c x y m))) G
abbrev zfx : List Str := ["self", "x", "y", "more"]
def zh3 : DTS :=
    (dRet (zna (zie dLe dLt (dOp dSub (dC (.int 0)) (ze 3)) (ze 1) (dOp dAdd (dFld CA.Camera "width" (ze 0)) (ze 3))) (zie dLe dLt (dOp dSub (dC (.int 0)) (ze 3)) (ze 2) (dOp dAdd (dFld CA.Camera "height" (ze 0)) (ze 3)))))
theorem zok : ∀ ds G Q, zbt ds G Q → ds.length = 4 := fun ds G Q ⟨c, x, y, m, e, _⟩ => by rw [e]; rfl
theorem zoj : ∀ ds G Q, zbt ds G Q → zh3 { nx := fun _ G' => Q .non G', rt := Q } (zao zfx ds) G := fun ds G Q h => by
  obtain ⟨c, x, y, m, rfl, q⟩ := h
  simp_arith only [zh3, zfx, dFld, zpu, zun]
  have key : ∀ b : Bool, (b = true ↔ inC c x y m) → Q (.bl b) G := fun b hb => by
    have e : decide (inC c x y m) = b := by rw [Bool.eq_iff_iff, decide_eq_true_eq]; exact hb.symm
    rw [← e]; exact q
  by_cases h1 : 0 - m ≤ x
  · rw [if_pos h1]
    by_cases h2 : x < c.w + m
    · rw [if_pos h2]
      by_cases h3 : 0 - m ≤ y
      · rw [if_pos h3]
        exact key _ (by rw [decide_eq_true_eq]; exact ⟨fun z => ⟨⟨h1, h2⟩, h3, z⟩, fun z => z.2.2⟩)
      · rw [if_neg h3]
        exact key _ ⟨fun z => (by cases z), fun z => absurd z.2.1 h3⟩
    · rw [if_neg h2]
      exact key _ ⟨fun z => (by cases z), fun z => absurd z.1.2 h2⟩
  · rw [if_neg h1]
    exact key _ ⟨fun z => (by cases z), fun z => absurd z.1.1 h1⟩
theorem z6h {c : Cam} {m : Str} {G : DHp} (h : (["width", "height", "error", "false", "lost"] : List Str).contains m = false) : insD CA.Camera m (cD c) G := ⟨rfl, h⟩
theorem ztj {s : Sk} {m : Str} {G : DHp} (h : (["ground", "camera", "turns", "area"] : List Str).contains m = false) : insD CA.Sky m (sD s) G := ⟨rfl, h⟩
def zcl : DRn := fun ds G Q => ∃ (c : Cam) (x y : Int), ds = [cD c, .int x, .int y] ∧ Q (.bl (decide (inC c x y (0 - c.er)))) G
abbrev zg5 : List Str := ["self", "x", "y"]
def zjn : DTS :=
    (dRet (zo5 CA.Camera "is_within" zbt (ze 0) (zf (ze 1) (zf (ze 2) (zf (dOp dSub (dC (.int 0)) (dFld CA.Camera "error" (ze 0))) dNil)))))
theorem zqh : ∀ ds G Q, zcl ds G Q → ds.length = 3 := fun ds G Q ⟨c, x, y, e, _⟩ => by rw [e]; rfl
theorem zqg : ∀ ds G Q, zcl ds G Q → zjn { nx := fun _ G' => Q .non G', rt := Q } (zao zg5 ds) G := fun ds G Q h => by
  obtain ⟨c, x, y, rfl, q⟩ := h
  simp_arith only [zjn, zg5, dFld, zo5, zsz]
  exact ⟨z6h (by decide), c, x, y, _, rfl, q⟩
def plc (p st : Int × Int × Int) : Int × Int × Int := ((rot p.1 p.2.1 st.1).1 + st.2.1, (rot p.1 p.2.1 st.1).2 + st.2.2, p.2.2)
def zgc : DRn := fun ds G Q => ∃ (s : Sk) (p st : Int × Int × Int), ds = [sD s, e3 p, e3 st] ∧ Q (e3 (plc p st)) G
abbrev zmj : List Str := ["self", "crater", "standing", "x", "y"]
def zo6 : DTS :=
    (dSeq (dAsg (dCB zkl (zf (dOp dIx (ze 1) (dC (.int 0))) (zf (dOp dIx (ze 1) (dC (.int 1))) (zf (dOp dIx (ze 2) (dC (.int 0))) dNil)))) (ze2 (z4 (zl 3) (z4 (zl 4) zfc)) 2))
    (dRet (dTup (zf (dOp dAdd (ze 3) (dOp dIx (ze 2) (dC (.int 1)))) (zf (dOp dAdd (ze 4) (dOp dIx (ze 2) (dC (.int 2)))) (zf (dOp dIx (ze 1) (dC (.int 2))) dNil))))))
theorem zxa : ∀ ds G Q, zgc ds G Q → ds.length = 3 := fun ds G Q ⟨c, x, y, e, _⟩ => by rw [e]; rfl
theorem zxd : ∀ ds G Q, zgc ds G Q → zo6 { nx := fun _ G' => Q .non G', rt := Q } (zao zmj ds) G := fun ds G Q h => by
  obtain ⟨s, p, st, rfl, q⟩ := h
  simp_arith only [zo6, zmj, e3]
  refine zjp (by decide) rfl (zjp (by decide) rfl (zjp (by decide) rfl ⟨_, _, _, rfl, rfl, rfl, ?_⟩))
  simp_arith only [e2]
  refine zjp (by decide) rfl ?_
  simp_arith only [true_and]
  refine zjp (by decide) rfl ?_
  simp_arith only [true_and]
  refine zjp (by decide) rfl ?_
  exact q
def zbe (s : Sk) (st : Int × Int × Int) : List (Int × Int × Int) := s.cs.map fun p => plc p st
def zbi : DRn := fun ds G Q => ∃ (s : Sk) (st : Int × Int × Int), ds = [sD s, e3 st] ∧ s.cs.length ≤ 100 ∧ Q (eL e3 (zbe s st)) G
abbrev zi1 : List Str := ["self", "standing", "crater"]
def znf : DTS :=
    (dRet (dFz (dLc (za1 (dFld CA.Ground "craters" (dFld CA.Sky "ground" (ze 0)))) (zl 2) dYes (zo5 CA.Sky "place" zgc (ze 0) (zf (ze 2) (zf (ze 1) dNil))) [2])))
theorem zv6 : ∀ ds G Q, zbi ds G Q → ds.length = 2 := fun ds G Q ⟨c, x, e, _⟩ => by rw [e]; rfl
theorem zwg : ∀ ds G Q, zbi ds G Q → znf { nx := fun _ G' => Q .non G', rt := Q } (zao zi1 ds) G := fun ds G Q h => by
  obtain ⟨s, st, rfl, hl, q⟩ := h
  simp_arith only [znf, zi1, dLc, za1, dFld, z1l, zw7, eT, zo5]
  intro p hp
  refine ⟨fun i acc G' => acc = ((s.cs.take i).map fun p => plc p st).map e3 ∧ G' = up G p (.lst acc), ⟨rfl, rfl⟩, ?_, ?_, ?_⟩
  · rintro i acc G' ⟨rfl, rfl⟩
    exact ⟨trivial, zi⟩
  · rintro i d acc G' hd ⟨rfl, rfl⟩
    obtain ⟨x, hx, rfl⟩ := zaq hd
    simp_arith only [true_and]
    refine ⟨ztj (by decide), s, x, st, rfl, zv ?_, zi, ?_, ?_⟩
    · rw [List.length_map, List.length_map, List.length_take]; omega
    · rw [zba hx, List.map_append, List.map_append]; rfl
    · rw [zc1]
  · rintro acc G' ⟨rfl, rfl⟩
    rw [List.length_map, List.take_length]
    simp_arith only [zi, za3 hp]
    exact q
end M
namespace M
open PySem PySem.Spec PyProof.Rows L2 DL
variable [CA]
def zc5 (s : Sk) (st : Int × Int × Int) : List Int := ((zbe s st).mapIdx fun i p => ((i : Int), p)).filterMap fun x => if inC s.cam x.2.1 x.2.2.1 (0 - s.cam.er) then some x.1 else none
def zbu : DRn := fun ds G Q => ∃ (s : Sk) (st : Int × Int × Int), ds = [sD s, e3 st] ∧ s.cs.length ≤ 100 ∧ Q (eL .int (zc5 s st)) G
abbrev zea : List Str := ["self", "standing", "places", "number", "x", "y", "size"]
def zhx : DTS :=
    (dSeq (dAsg (zo5 CA.Sky "places" zbi (ze 0) (zf (ze 1) dNil)) (zl 2))
    (dRet (dFz (dLc (zgt (zf (ze 2) dNil)) (ze2 (z4 (zl 3) (z4 (ze2 (z4 (zl 4) (z4 (zl 5) (z4 (zl 6) zfc))) 3) zfc)) 2) (zag (zo5 CA.Camera "is_sure" zcl (dFld CA.Sky "camera" (ze 0)) (zf (ze 4) (zf (ze 5) dNil)))) (ze 3) [3, 4, 5, 6]))))
theorem zoi : ∀ ds G Q, zbu ds G Q → ds.length = 2 := fun ds G Q ⟨c, x, e, _⟩ => by rw [e]; rfl
theorem zoh : ∀ ds G Q, zbu ds G Q → zhx { nx := fun _ G' => Q .non G', rt := Q } (zao zea ds) G := fun ds G Q h => by
  obtain ⟨s, st, rfl, hl, q⟩ := h
  simp_arith only [zhx, zea, zo5]
  refine ⟨ztj (by decide), s, st, rfl, hl, ?_⟩
  simp_arith only [dLc, zgt, eL]
  intro p hp
  refine ⟨fun i acc G' => acc = ((((zbe s st).mapIdx fun i p => ((i : Int), p)).take i).filterMap fun x => if inC s.cam x.2.1 x.2.2.1 (0 - s.cam.er) then some x.1 else none).map .int ∧ acc.length ≤ i ∧ G' = up G p (.lst acc), ⟨rfl, Nat.le_refl _, rfl⟩, ?_, ?_, ?_⟩
  · rintro i acc G' ⟨_, _, rfl⟩
    exact ⟨trivial, zi⟩
  · rintro i d acc G' hd ⟨ea, hla, rfl⟩
    obtain ⟨z, hz, rfl⟩ := zgb hd
    obtain ⟨x, hx, rfl⟩ := zaq hz
    have hi : i < 100 := by
      have := (List.getElem?_eq_some_iff.mp hx).1
      unfold zbe at this
      rw [List.length_map] at this
      omega
    have hx2 : ((zbe s st).mapIdx fun i p => ((i : Int), p))[i]? = some ((i : Int), x) := by rw [List.getElem?_mapIdx, hx]; rfl
    simp_arith only [e3, zo5, dFld, zln]
    refine ⟨z6h (by decide), s.cam, x.1, x.2.1, rfl, ?_⟩
    by_cases h1 : inC s.cam x.1 x.2.1 (0 - s.cam.er)
    · rw [decide_eq_true h1]
      simp_arith only [true_and]
      refine ⟨zv (by omega), zi, ?_, ?_, ?_⟩
      · rw [zba hx2, List.filterMap_append, List.map_append, ← ea]
        simp only [List.filterMap_cons, if_pos h1, List.filterMap_nil, List.map_cons, List.map_nil]
      · rw [List.length_append, List.length_singleton]; omega
      · rw [zc1]
    · rw [decide_eq_false h1]
      simp_arith only [true_and]
      refine ⟨?_, by omega⟩
      rw [zba hx2, List.filterMap_append, List.map_append, ← ea]
      simp only [List.filterMap_cons, if_neg h1, List.filterMap_nil, List.map_nil, List.append_nil]
  · rintro acc G' ⟨ea, hla, rfl⟩
    rw [zib, List.length_map, show (zbe s st).length = ((zbe s st).mapIdx fun i p => ((i : Int), p)).length by rw [List.length_mapIdx], List.take_length] at ea
    simp_arith only [zi, za3 hp]
    rw [ea]
    exact q
end M
namespace M
open PySem PySem.Spec PyProof.Rows L2 DL
variable [CA]
/-- a sky such as the laws draw -/
structure OkSk (s : Sk) : Prop where
  cs : s.cs.length ≤ 100
  cb : ∀ c ∈ s.cs, okPt (0 - 1000000) 1000000 c
  cam : zacn s.cam
  tl : s.tu.length ≤ 4
  b1 : -1000 ≤ s.ar.1 ∧ s.ar.1 ≤ s.ar.2.1 ∧ s.ar.2.1 ≤ s.ar.1 + 99
  b2 : -1000 ≤ s.ar.2.2.1 ∧ s.ar.2.2.1 ≤ s.ar.2.2.2 ∧ s.ar.2.2.2 ≤ s.ar.2.2.1 + 99
  u1 : s.ar.1 ≤ 1000
  u2 : s.ar.2.2.1 ≤ 1000
theorem zsa {s : Sk} {G : DHp} {Q : DVK} {i : Int} {z : Int} (h0 : 0 ≤ i) (h : [D.int s.ar.1, .int s.ar.2.1, .int s.ar.2.2.1, .int s.ar.2.2.2][i.toNat]? = some (.int z)) (q : Q (.int z) G) : dIx (e4 s.ar) (.int i) G Q := zjp h0 h q
end M
namespace M
open PySem PySem.Spec PyProof.Rows L2 DL
variable [CA]
def upsI (G : DHp) : List (Addr × List Int) → DHp
  | [] => G
  | x :: l => up (upsI G l) x.1 (.lst (x.2.map .int))
theorem zqr {G : DHp} {a : Addr} : ∀ {l : List (Addr × List Int)}, a ∉ l.map (·.1) → upsI G l a = G a
  | [], _ => rfl
  | x :: l, h => by
    rw [List.map_cons, List.mem_cons, not_or] at h
    show up (upsI G l) x.1 _ a = _
    rw [zej h.1, zqr h.2]
theorem zym {G : DHp} {a : Addr} {xs : List Int} : ∀ {l : List (Addr × List Int)} {k : Nat}, (l.map (·.1)).Nodup → l[k]? = some (a, xs) → upsI G l a = some (.lst (xs.map .int))
  | [], _, _, h => by simp at h
  | x :: l, 0, _, h => by
    simp at h
    subst h
    exact zi
  | x :: l, k + 1, nd, h => by
    rw [List.map_cons, List.nodup_cons] at nd
    rw [List.getElem?_cons_succ] at h
    show up (upsI G l) x.1 _ a = _
    rw [zej (fun e => nd.1 (by rw [← e]; exact List.mem_map.mpr ⟨_, List.mem_of_getElem? h, rfl⟩)), zym nd.2 h]
theorem z0b {G : DHp} {a : Addr} {xs : List Int} : ∀ {l : List (Addr × List Int)}, a ∉ l.map (·.1) → up (upsI G l) a (.lst (xs.map .int)) = upsI G (l ++ [(a, xs)])
  | [], _ => rfl
  | x :: l, h => by
    rw [List.map_cons, List.mem_cons, not_or] at h
    show up (up (upsI G l) x.1 _) a _ = up (upsI G (l ++ [(a, xs)])) x.1 _
    rw [zg7 (Ne.symm h.1), z0b h.2]
theorem z4a {G : DHp} {a : Addr} {xs ys : List Int} : ∀ {l : List (Addr × List Int)} {k : Nat}, (l.map (·.1)).Nodup → l[k]? = some (a, xs) → up (upsI G l) a (.lst (ys.map .int)) = upsI G (l.set k (a, ys))
  | [], _, _, h => by simp at h
  | x :: l, 0, _, h => by
    simp at h
    subst h
    exact zc1
  | x :: l, k + 1, nd, h => by
    rw [List.map_cons, List.nodup_cons] at nd
    rw [List.getElem?_cons_succ] at h
    have ne : x.1 ≠ a := fun e => nd.1 (by rw [e]; exact List.mem_map.mpr ⟨_, List.mem_of_getElem? h, rfl⟩)
    show up (up (upsI G l) x.1 _) a _ = up (upsI G (l.set k (a, ys))) x.1 _
    rw [zg7 ne, z4a nd.2 h]
theorem z4n {G : DHp} : ∀ {l : List (Addr × List Int)}, (l.map (·.1)).Nodup → (∀ a ∈ l.map (·.1), G a = none) → frL (l.map fun x => D.ref x.1) (upsI G l) = some (l.map fun x => eL .int x.2, G)
  | [], _, _ => rfl
  | x :: l, nd, h => by
    rw [List.map_cons, List.nodup_cons] at nd
    have h0 : upsI G l x.1 = none := by rw [zqr nd.1]; exact h _ (by simp)
    rw [List.map_cons, frL]
    show (match up (upsI G l) x.1 (.lst (x.2.map .int)) x.1 with | some (.lst es) => _ | _ => _) = _
    rw [zi]
    dsimp only
    rw [show dl (upsI G (x :: l)) x.1 = upsI G l from za3 h0, z4n nd.2 fun a ha => h a (by simp [ha])]
    rfl
/-- who of the pairs has a -/
def sel (P : List (Int × Int)) (a : Int) : List Int := (P.filter fun p => decide (p.2 = a)).map (·.1)
def prsL (N : List (List Int)) : List (Int × Int) := (N.mapIdx fun k r => r.map fun o => ((k : Int), o)).flatten
def bkN (N : List (List Int)) (M : Int) : List (List Int) := (zb4 0 M).map (sel (prsL N))
theorem z9y {N : List (List Int)} {i : Nat} {r : List Int} (h : N[i]? = some r) : prsL (N.take (i + 1)) = prsL (N.take i) ++ r.map fun o => ((i : Int), o) := by
  unfold prsL
  have hi := (List.getElem?_eq_some_iff.mp h).1
  rw [zba h, List.mapIdx_concat, List.flatten_concat, List.length_take, Nat.min_eq_left (Nat.le_of_lt hi)]
theorem zadk {N : List (List Int)} {i a : Int} : (i, a) ∈ prsL N ↔ InR N i ∧ a ∈ nxt N i := by
  unfold prsL
  rw [List.mem_flatten]
  constructor
  · rintro ⟨l, hl, h⟩
    rw [List.mem_mapIdx] at hl
    obtain ⟨k, hk, rfl⟩ := hl
    obtain ⟨o, ho, e⟩ := List.mem_map.mp h
    cases e
    refine ⟨⟨by omega, by omega⟩, ?_⟩
    unfold nxt
    rw [Int.toNat_natCast, List.getElem?_eq_getElem hk]
    exact ho
  · rintro ⟨⟨h0, h1⟩, h2⟩
    have hk : i.toNat < N.length := by omega
    unfold nxt at h2
    rw [List.getElem?_eq_getElem hk] at h2
    exact ⟨_, List.mem_mapIdx.mpr ⟨i.toNat, hk, rfl⟩, List.mem_map.mpr ⟨a, h2, by rw [Int.toNat_of_nonneg h0]⟩⟩
theorem zadi {P : List (Int × Int)} {a i : Int} : i ∈ sel P a ↔ (i, a) ∈ P := by
  unfold sel
  rw [List.mem_map]
  constructor
  · rintro ⟨p, hp, rfl⟩
    rw [List.mem_filter, decide_eq_true_eq] at hp
    rw [← hp.2]
    exact hp.1
  · intro h
    exact ⟨_, List.mem_filter.mpr ⟨h, by simp⟩, rfl⟩
theorem zadx (N : List (List Int)) (M : Int) : (bkN N M).length = M.toNat := by unfold bkN; rw [List.length_map, zcq]; simp
theorem zxf {lo hi : Int} {i : Nat} (h : (i : Int) < hi - lo) : (zb4 lo hi)[i]? = some (lo + i) := by
  unfold zb4
  rw [List.getElem?_map, List.getElem?_range (by omega)]
  rfl
theorem zaaz {N : List (List Int)} {M i a : Int} (h0 : 0 ≤ a) (h1 : a < M) : i ∈ nxt (bkN N M) a ↔ InR N i ∧ a ∈ nxt N i := by
  rw [← zadk, ← zadi]
  unfold nxt bkN
  rw [List.getElem?_map, zxf (by omega), show (0 : Int) + (a.toNat : Int) = a by omega]
  rfl
theorem z4i (P : List (Int × Int)) (i o a : Int) : sel (P ++ [(i, o)]) a = if o = a then sel P a ++ [i] else sel P a := by
  unfold sel
  rw [List.filter_append, List.map_append]
  by_cases h : o = a
  · rw [if_pos h]; simp [h]
  · rw [if_neg h]; simp [h]
theorem zaby (P : List (Int × Int)) (a : Int) : (sel P a).length ≤ P.length := by
  unfold sel; rw [List.length_map]; exact List.length_filter_le _ _
theorem zack {N : List (List Int)} {B : Nat} (h : ∀ r ∈ N, r.length ≤ B) : (prsL N).length ≤ N.length * B := by
  induction N using zxn with
  | h0 => simp [prsL]
  | h1 N r ih =>
    have e : prsL (N ++ [r]) = prsL N ++ r.map fun o => ((N.length : Int), o) := by
      unfold prsL
      rw [List.mapIdx_concat, List.flatten_concat]
    rw [e, List.length_append, List.length_map, List.length_append, List.length_singleton, Nat.succ_mul]
    have := ih fun r hr => h r (List.mem_append.mpr (.inl hr))
    have := h r (by simp)
    omega
def zdq : DRn := d2 fun n m G Q => ∃ (N : List (List Int)) (M : Int), n = eN N ∧ m = .int M ∧ (0 ≤ M ∧ M ≤ 1000) ∧ N.length ≤ 1000 ∧ (∀ r ∈ N, r.length ≤ 1000) ∧ (∀ r ∈ N, ∀ a ∈ r, 0 ≤ a ∧ a < M) ∧ Q (eN (bkN N M)) G
abbrev zgv : List Str := ["nexts", "many", "found", "one", "others", "other"]
def zlb : DTS :=
    (dSeq (dAsg (dLc (zcx (zf (ze 1) dNil)) (zl 5) dYes (zi7 dNil) [5]) (zl 2))
    (dSeq (dFor (zgt (zf (ze 0) dNil)) (ze2 (z4 (zl 3) (z4 (zl 4) zfc)) 2)
    (dFor (za1 (ze 4)) (zl 5)
    (zh0 (dM "list" zgp (dOp dIx (ze 2) (ze 5)) (zf (ze 3) dNil)))))
    (z9w 2 (zrc (ze 2)))))
theorem zsh : ∀ ds G Q, zdq ds G Q → ds.length = 2 := fun ds G Q h => by
  match ds, h with
  | [_, _], _ => rfl
/-- the lists, one for each number -/
structure Lsts (G : DHp) (f : Addr) (M : Int) (P : List (Int × Int)) (l : List (Addr × List Int)) : Prop where
  nd : (l.map (·.1)).Nodup
  nf : f ∉ l.map (·.1)
  fr : ∀ a ∈ l.map (·.1), G a = none
  cs : l.map (·.2) = (zb4 0 M).map (sel P)
theorem zte {l : List (Addr × List Int)} {k : Nat} {a : Addr} {xs ys : List Int} (h : l[k]? = some (a, xs)) : (l.set k (a, ys)).map (·.1) = l.map (·.1) := by
  rw [List.map_set]
  obtain ⟨hk, e⟩ := List.getElem?_eq_some_iff.mp h
  refine List.ext_getElem? fun j => ?_
  rw [List.getElem?_set]
  split
  · rename_i hj
    subst hj
    rw [List.length_map, if_pos hk, List.getElem?_map, h]
    rfl
  · rfl
theorem Lsts.at_ {G : DHp} {f : Addr} {M : Int} {P : List (Int × Int)} {l : List (Addr × List Int)} (h : Lsts G f M P l) {o : Int} (h0 : 0 ≤ o) (h1 : o < M) : ∃ a, l[o.toNat]? = some (a, sel P o) := by
  have e : (l.map (·.2))[o.toNat]? = some (sel P o) := by
    rw [h.cs, List.getElem?_map, zxf (by omega), show (0 : Int) + (o.toNat : Int) = o by omega]
    rfl
  rw [List.getElem?_map] at e
  cases e2 : l[o.toNat]? with
  | none => rw [e2] at e; cases e
  | some x =>
    rw [e2] at e
    simp at e
    exact ⟨x.1, by rw [← e]⟩
theorem Lsts.step {G : DHp} {f : Addr} {M : Int} {P : List (Int × Int)} {l : List (Addr × List Int)} (h : Lsts G f M P l) {o i : Int} {a : Addr} (h0 : 0 ≤ o) (h1 : o < M) (e : l[o.toNat]? = some (a, sel P o)) : Lsts G f M (P ++ [(i, o)]) (l.set o.toNat (a, sel P o ++ [i])) := by
  refine ⟨by rw [zte e]; exact h.nd, by rw [zte e]; exact h.nf, by rw [zte e]; exact h.fr, ?_⟩
  rw [List.map_set, h.cs]
  refine List.ext_getElem? fun j => ?_
  rw [List.getElem?_set, List.getElem?_map, List.getElem?_map]
  by_cases hj : j < (zb4 0 M).length
  · have hj2 : (j : Int) < M - 0 := by rw [zcq] at hj; omega
    rw [zxf hj2]
    split
    · rename_i e2
      rw [List.length_map, if_pos (by rw [e2]; exact hj)]
      rw [show (0 : Int) + (j : Int) = o by omega]
      show some _ = some (sel (P ++ [(i, o)]) o)
      rw [z4i, if_pos rfl]
    · rename_i e2
      show some _ = some (sel (P ++ [(i, o)]) _)
      rw [z4i, if_neg (by omega)]
  · rw [List.getElem?_eq_none (by omega)]
    split
    · rename_i e2
      rw [List.length_map, if_neg (by omega)]
      rfl
    · rfl
theorem zso : ∀ ds G Q, zdq ds G Q → zlb { nx := fun _ G' => Q .non G', rt := Q } (zao zgv ds) G := fun ds G Q h => by
  match ds, h with
  | [_, _], ⟨N, M, rfl, rfl, hM, hN, hr, hin, q⟩ =>
    simp_arith only [zlb, zgv, dLc, zcx]
    refine ⟨⟨by omega, by omega⟩, fun f hf => ?_⟩
    refine ⟨fun i acc G' => ∃ l : List (Addr × List Int), (l.map (·.1)).Nodup ∧ f ∉ l.map (·.1) ∧ (∀ a ∈ l.map (·.1), G a = none) ∧ l.map (·.2) = ((zb4 0 M).take i).map (sel []) ∧ acc = l.map (fun x => D.ref x.1) ∧ G' = up (upsI G l) f (.lst acc), ⟨[], by simp, by simp, by simp, by simp, rfl, rfl⟩, ?_, ?_, ?_⟩
    · rintro i acc G' ⟨l, _, _, _, _, rfl, rfl⟩
      exact ⟨trivial, zi⟩
    · rintro i d acc G' hd ⟨l, nd, nf, fr, cs, rfl, rfl⟩
      obtain ⟨a, ha, rfl⟩ := zaq hd
      have hlen : l.length ≤ 1000 := by
        have := congrArg List.length cs
        rw [List.length_map, List.length_map, List.length_take, zcq] at this
        omega
      simp_arith only [true_and]
      intro p hp
      have pf : p ≠ f := fun e => by rw [e, zi] at hp; cases hp
      rw [zej pf] at hp
      have pn : p ∉ l.map (·.1) := fun hm => by
        obtain ⟨x, hx, e⟩ := List.mem_map.mp hm
        obtain ⟨k, hk, e2⟩ := List.getElem_of_mem hx
        have : upsI G l p = some (.lst (x.2.map .int)) := zym (k := k) (xs := x.2) nd (by rw [List.getElem?_eq_getElem hk, e2, ← e])
        rw [this] at hp; cases hp
      have hGp : G p = none := by have := zqr (G := G) pn; rw [← this]; exact hp
      refine ⟨zv (by rw [List.length_map]; omega), by rw [zej (Ne.symm pf), zi], l ++ [(p, [])], ?_, ?_, ?_, ?_, ?_, ?_⟩
      · rw [List.map_append, List.nodup_append]
        exact ⟨nd, by simp, fun x hx y hy => by simp at hy; subst hy; exact fun z => pn (z ▸ hx)⟩
      · rw [List.map_append, List.mem_append, not_or]
        exact ⟨nf, by simp; exact Ne.symm pf⟩
      · intro a ha
        rw [List.map_append, List.mem_append] at ha
        rcases ha with ha | ha
        · exact fr a ha
        · simp at ha; subst ha; exact hGp
      · rw [List.map_append, cs, zba ha, List.map_append]
        rfl
      · rw [List.map_append]; rfl
      · rw [← z0b pn, zg7 pf.symm, zc1]
        rfl
    · rintro acc G' ⟨l, nd, nf, fr, cs, rfl, rfl⟩
      rw [List.length_map, List.take_length] at cs
      simp_arith only [dFor, zgt]
      refine ⟨fun i η G' => ∃ l on ots oth, η = [some (eN N), some (.int M), some (.ref f), on, ots, oth] ∧ G' = up (upsI G l) f (.lst (l.map fun x => D.ref x.1)) ∧ Lsts G f M (prsL (N.take i)) l, ⟨l, none, none, none, rfl, rfl, nd, nf, fr, by rw [cs]; rfl⟩, fun _ _ _ _ => trivial, ?_, ?_⟩
      · rintro i d η G' hd ⟨l, on, ots, oth, rfl, rfl, L⟩
        obtain ⟨z, hz, rfl⟩ := zgb hd
        obtain ⟨r, hr2, rfl⟩ := zaq hz
        have hrm := List.mem_of_getElem? hr2
        simp_arith only [za1, eL]
        refine ⟨fun j η G' => ∃ l oth, η = [some (eN N), some (.int M), some (.ref f), some (.int i), some (eL .int r), oth] ∧ G' = up (upsI G l) f (.lst (l.map fun x => D.ref x.1)) ∧ Lsts G f M (prsL (N.take i) ++ (r.take j).map fun o => ((i : Int), o)) l, ⟨l, oth, rfl, rfl, by simpa using L⟩, fun _ _ _ _ => trivial, ?_, ?_⟩
        · rintro j d η G' hd ⟨l, oth, rfl, rfl, L⟩
          obtain ⟨o, ho, rfl⟩ := zaq hd
          obtain ⟨h0, h1⟩ := hin r hrm o (List.mem_of_getElem? ho)
          obtain ⟨a, ea⟩ := L.at_ h0 h1
          have am : a ∈ l.map (·.1) := List.mem_map.mpr ⟨_, List.mem_of_getElem? ea, rfl⟩
          have af : a ≠ f := fun e => L.nf (e ▸ am)
          have hlen : (sel (prsL (N.take i) ++ (r.take j).map fun o => ((i : Int), o)) o).length ≤ 1000000 := by
            refine Nat.le_trans (zaby _ _) ?_
            have hi := (List.getElem?_eq_some_iff.mp hr2).1
            have h1 := zack (N := N.take i) (B := 1000) fun r hr3 => hr r (List.mem_of_mem_take hr3)
            have h2 : (r.take j).length ≤ 1000 := by rw [List.length_take]; have := hr r hrm; omega
            rw [List.length_append, List.length_map]
            rw [List.length_take] at h1
            have : min i N.length ≤ 999 := by omega
            have := Nat.mul_le_mul_right 1000 this
            omega
          simp_arith only [true_and]
          refine zadf (d := .ref a) zi h0 (by rw [List.getElem?_map, ea]; rfl) ?_
          refine zh5 (xs := (sel (prsL (N.take i) ++ (r.take j).map fun o => ((i : Int), o)) o).map .int) (by rw [zej af]; exact zym L.nd ea) (zv (by rw [List.length_map]; exact hlen)) ?_
          refine ⟨_, (by repeat (first | exact Le.nil | apply Le.keep | apply Le.drop)), l.set o.toNat (a, sel (prsL (N.take i) ++ (r.take j).map fun o => ((i : Int), o)) o ++ [(i : Int)]), _, rfl, ?_, ?_⟩
          · rw [zg7 (Ne.symm af)]
            have := z4a (G := G) (ys := sel (prsL (N.take i) ++ (r.take j).map fun o => ((i : Int), o)) o ++ [(i : Int)]) L.nd ea
            rw [List.map_append] at this
            rw [show (l.set o.toNat (a, sel (prsL (N.take i) ++ (r.take j).map fun o => ((i : Int), o)) o ++ [(i : Int)])).map (fun x => D.ref x.1) = l.map fun x => D.ref x.1 by
              have := congrArg (List.map D.ref) (zte (ys := sel (prsL (N.take i) ++ (r.take j).map fun o => ((i : Int), o)) o ++ [(i : Int)]) ea)
              rw [List.map_map, List.map_map] at this
              exact this]
            exact congrArg (fun x => up x f _) this
          · have := L.step (i := (i : Int)) h0 h1 ea
            rw [zba ho, List.map_append, ← List.append_assoc]
            exact this
        · rintro η G' ⟨l, oth, rfl, rfl, L⟩
          rw [List.length_map, List.take_length] at L
          exact ⟨_, (by repeat (first | exact Le.nil | apply Le.keep | apply Le.drop)), l, _, _, _, rfl, rfl, by rw [z9y hr2]; exact L⟩
      · rintro η G' ⟨l, on, ots, oth, rfl, rfl, L⟩
        rw [zib, List.length_map, List.take_length] at L
        have hf2 : upsI G l f = none := by rw [zqr L.nf]; exact hf
        simp_arith only [z9w, zi, za3 hf2, z4n L.nd L.fr]
        rw [show (l.map fun x => eL D.int x.2) = (bkN N M).map (eL .int) by
          unfold bkN
          rw [← L.cs, List.map_map]; rfl]
        exact q
end M
namespace M
open PySem PySem.Spec PyProof.Rows L2 DL
variable [CA]
def ab (i : Int) : Int := if i < 0 then -i else i
theorem zt8 {i : Int} {G : DHp} {Q : DVK} : dAbs [.int i] G Q = Q (.int (ab i)) G := rfl
abbrev Pt := Int × Int × Int
def zrd (p q : Pt) (er : Int) : Prop := p.2.2 = q.2.2 ∧ ab (p.1 - q.1) ≤ er ∧ ab (p.2.1 - q.2.1) ≤ er
instance (p q : Pt) (er : Int) : Decidable (zrd p q er) := by unfold zrd; infer_instance
def zg9 : DRn := fun ds G Q => ∃ (p q : Pt) (er : Int), ds = [e3 p, e3 q, .int er] ∧ Q (.bl (decide (zrd p q er))) G
abbrev zob : List Str := ["point", "place", "error"]
def zq2 : DTS :=
    (dRet (zna (dOp dEq (dOp dIx (ze 0) (dC (.int 2))) (dOp dIx (ze 1) (dC (.int 2)))) (zna (dOp dLe (dCB dAbs (zf (dOp dSub (dOp dIx (ze 0) (dC (.int 0))) (dOp dIx (ze 1) (dC (.int 0)))) dNil)) (ze 2)) (dOp dLe (dCB dAbs (zf (dOp dSub (dOp dIx (ze 0) (dC (.int 1))) (dOp dIx (ze 1) (dC (.int 1)))) dNil)) (ze 2)))))
theorem z0g : ∀ ds G Q, zg9 ds G Q → ds.length = 3 := fun ds G Q ⟨c, x, y, e, _⟩ => by rw [e]; rfl
theorem z6t {p : Pt} {G : DHp} {Q : DVK} (q : Q (.int p.1) G) : dIx (e3 p) (.int 0) G Q := zjp (by decide) rfl q
theorem z7t {p : Pt} {G : DHp} {Q : DVK} (q : Q (.int p.2.1) G) : dIx (e3 p) (.int 1) G Q := zjp (by decide) rfl q
theorem z8x {p : Pt} {G : DHp} {Q : DVK} (q : Q (.int p.2.2) G) : dIx (e3 p) (.int 2) G Q := zjp (by decide) rfl q
theorem zad4 {p : Prop} [Decidable p] {b : Bool} (h : b = true ↔ p) : decide p = b := by rw [Bool.eq_iff_iff, decide_eq_true_eq]; exact h.symm
theorem z0w : ∀ ds G Q, zg9 ds G Q → zq2 { nx := fun _ G' => Q .non G', rt := Q } (zao zob ds) G := fun ds G Q h => by
  obtain ⟨p, q, er, rfl, k⟩ := h
  simp_arith only [zq2, zob]
  refine z8x (z8x ?_)
  simp_arith only [zt8]
  by_cases h1 : p.2.2 = q.2.2
  · rw [if_pos h1]
    refine z6t (z6t ?_)
    simp_arith only [zt8]
    by_cases h2 : ab (p.1 - q.1) ≤ er
    · rw [if_pos h2]
      refine z7t (z7t ?_)
      simp_arith only [zt8]
      rw [zad4 (p := zrd p q er) (b := decide (ab (p.2.1 - q.2.1) ≤ er)) (by rw [decide_eq_true_eq]; exact ⟨fun z => ⟨h1, h2, z⟩, fun z => z.2.2⟩)] at k
      exact k
    · rw [if_neg h2]
      rw [decide_eq_false (fun z : zrd p q er => h2 z.2.1)] at k
      exact k
  · rw [if_neg h1]
    rw [decide_eq_false (fun z : zrd p q er => h1 z.1)] at k
    exact k
/-- the numbers of those with a property -/
def whr {α : Type} (f : α → Bool) (l : List α) : List Int := (l.mapIdx fun i p => ((i : Int), p)).filterMap fun x => if f x.2 then some x.1 else none
theorem z37 {α : Type} (f : α → Bool) (l : List α) (x : α) : whr f (l ++ [x]) = whr f l ++ if f x then [(l.length : Int)] else [] := by
  unfold whr
  rw [List.mapIdx_concat, List.filterMap_append]
  congr 1
  by_cases h : f x = true
  · simp [h]
  · simp [h]
theorem zsx {α : Type} (f : α → Bool) {l : List α} {i : Nat} {x : α} (h : l[i]? = some x) : whr f (l.take (i + 1)) = whr f (l.take i) ++ if f x then [(i : Int)] else [] := by
  rw [zba h, z37, List.length_take, Nat.min_eq_left (Nat.le_of_lt (List.getElem?_eq_some_iff.mp h).1)]
theorem zzb {α : Type} (f : α → Bool) (l : List α) : (whr f l).length ≤ l.length := by
  unfold whr
  refine Nat.le_trans (List.length_filterMap_le _ _) ?_
  rw [List.length_mapIdx]
  exact Nat.le_refl _
theorem zvj {α : Type} {f : α → Bool} {l : List α} {a : Int} : a ∈ whr f l ↔ ∃ (i : Nat) (x : α), a = i ∧ l[i]? = some x ∧ f x = true := by
  unfold whr
  rw [List.mem_filterMap]
  constructor
  · rintro ⟨y, hy, e⟩
    rw [List.mem_mapIdx] at hy
    obtain ⟨i, hi, rfl⟩ := hy
    dsimp only at e
    split at e
    · rename_i h
      cases e
      exact ⟨i, l[i], rfl, List.getElem?_eq_getElem hi, h⟩
    · cases e
  · rintro ⟨i, x, rfl, h, hf⟩
    obtain ⟨hi, e⟩ := List.getElem?_eq_some_iff.mp h
    exact ⟨((i : Int), x), List.mem_mapIdx.mpr ⟨i, hi, by rw [e]⟩, by simp [hf]⟩
theorem z49 {α : Type} (f : α → Bool) (l : List α) : (whr f l).Pairwise (· < ·) := by
  induction l using zxn with
  | h0 => simp [whr]
  | h1 l x ih =>
    rw [z37, List.pairwise_append]
    refine ⟨ih, by split <;> simp, fun a ha b hb => ?_⟩
    obtain ⟨i, y, rfl, hi, _⟩ := zvj.mp ha
    have := (List.getElem?_eq_some_iff.mp hi).1
    split at hb
    · simp at hb; omega
    · cases hb
theorem z8j {α : Type} (f : α → Bool) (l : List α) : (whr f l).Nodup := (z49 f l).imp fun h => by omega
def z2f (ps : List Pt) (er : Int) (p : Pt) : List Int := whr (fun q => decide (zrd p q er)) ps
def nxL (s : Sk) (pic : List Pt) (st : Pt) : List (List Int) := pic.map (z2f (zbe s st) s.cam.er)
def zee : DRn := fun ds G Q => ∃ (s : Sk) (pic : List Pt) (st : Pt), ds = [sD s, eT e3 pic, e3 st] ∧ s.cs.length ≤ 100 ∧ pic.length ≤ 1000 ∧ Q (eN (nxL s pic st)) G
abbrev zly : List Str := ["sky", "picture", "standing", "places", "error", "found", "point", "number", "place"]
def zrg : DTS :=
    (dSeq (dAsg (dTup (zf (zo5 CA.Sky "places" zbi (ze 0) (zf (ze 2) dNil)) (zf (dFld CA.Camera "error" (dFld CA.Sky "camera" (ze 0))) dNil))) (ze2 (z4 (zl 3) (z4 (zl 4) zfc)) 2))
    (dSeq (dAsg (zi7 dNil) (zl 5))
    (dSeq (dFor (za1 (ze 1)) (zl 6)
    (zh0 (dM "list" zgp (ze 5) (zf (dFz (dLc (zgt (zf (ze 3) dNil)) (ze2 (z4 (zl 7) (z4 (zl 8) zfc)) 2) (zag (dCB zg9 (zf (ze 6) (zf (ze 8) (zf (ze 4) dNil))))) (ze 7) [7, 8])) dNil))))
    (zrc (ze 5)))))
theorem z03 : ∀ ds G Q, zee ds G Q → ds.length = 3 := fun ds G Q ⟨c, x, y, e, _⟩ => by rw [e]; rfl
theorem z0z (s : Sk) (st : Pt) : (zbe s st).length = s.cs.length := List.length_map ..
theorem zzl : ∀ ds G Q, zee ds G Q → zrg { nx := fun _ G' => Q .non G', rt := Q } (zao zly ds) G := fun ds G Q h => by
  obtain ⟨s, pic, st, rfl, hl, hp, q⟩ := h
  simp_arith only [zrg, zly, zo5]
  refine ⟨ztj (by decide), s, st, rfl, hl, ?_⟩
  simp_arith only [dFld, zln, zsz]
  intro f hf
  simp_arith only [dFor, za1, eT]
  refine ⟨fun i η G' => ∃ a b c, η = [some (sD s), some (eT e3 pic), some (e3 st), some (eL e3 (zbe s st)), some (.int s.cam.er), some (.ref f), a, b, c] ∧ G' = up G f (.lst (((pic.take i).map (z2f (zbe s st) s.cam.er)).map (eL .int))), ⟨none, none, none, rfl, rfl⟩, fun _ _ _ _ => trivial, ?_, ?_⟩
  · rintro i d η G' hd ⟨a, b, c, rfl, rfl⟩
    obtain ⟨p, hpi, rfl⟩ := zaq hd
    have hi := (List.getElem?_eq_some_iff.mp hpi).1
    simp_arith only [dLc, zgt, eL]
    refine ⟨by simp only [tyD, zi], ?_⟩
    intro w hw
    have fw : f ≠ w := fun e => by subst e; rw [zi] at hw; cases hw
    have hGw : G w = none := by rw [zej fw.symm] at hw; exact hw
    refine ⟨fun j acc G' => acc = (whr (fun q => decide (zrd p q s.cam.er)) ((zbe s st).take j)).map .int ∧ G' = up (up G f (.lst (((pic.take i).map (z2f (zbe s st) s.cam.er)).map (eL .int)))) w (.lst acc), ⟨rfl, rfl⟩, ?_, ?_, ?_⟩
    · rintro j acc G' ⟨_, rfl⟩
      exact ⟨trivial, zi⟩
    · rintro j d acc G' hd ⟨rfl, rfl⟩
      obtain ⟨z, hz, rfl⟩ := zgb hd
      obtain ⟨x, hx, rfl⟩ := zaq hz
      have hj := (List.getElem?_eq_some_iff.mp hx).1
      rw [z0z] at hj
      simp_arith only [true_and]
      refine ⟨p, x, s.cam.er, rfl, ?_⟩
      by_cases h1 : zrd p x s.cam.er
      · rw [decide_eq_true h1]
        simp_arith only [true_and]
        refine ⟨zv ?_, zi, ?_, ?_⟩
        · rw [List.length_map]
          refine Nat.le_trans (zzb _ _) ?_
          rw [List.length_take]; omega
        · rw [zsx _ hx, decide_eq_true h1, List.map_append]; rfl
        · rw [zc1]
      · rw [decide_eq_false h1]
        simp_arith only [true_and]
        rw [zsx _ hx, decide_eq_false h1, if_neg Bool.false_ne_true, List.append_nil]
    · rintro acc G' ⟨rfl, rfl⟩
      rw [zib, List.length_map, List.take_length]
      simp_arith only [zi, za3 hw]
      refine (zh5 (xs := ((pic.take i).map (z2f (zbe s st) s.cam.er)).map (eL .int)) zi (zv ?_) ?_).2
      · rw [List.length_map, List.length_map, List.length_take]; omega
      · rw [zc1]
        refine ⟨_, (by repeat (first | exact Le.nil | apply Le.keep | apply Le.drop)), _, _, _, rfl, ?_⟩
        rw [zba hpi, List.map_append, List.map_append]
        rfl
  · rintro η G' ⟨a, b, c, rfl, rfl⟩
    rw [List.length_map, List.take_length]
    simp_arith only [zi, za3 hf]
    exact q
theorem znn (s : Sk) (st : Pt) : zc5 s st = whr (fun p => decide (inC s.cam p.1 p.2.1 (0 - s.cam.er))) (zbe s st) := by
  unfold zc5 whr
  congr 1
  funext x
  by_cases h : inC s.cam x.2.1 x.2.2.1 (0 - s.cam.er)
  · rw [if_pos h, if_pos (decide_eq_true h)]
  · rw [if_neg h, if_neg (fun z => h (of_decide_eq_true z))]
theorem z2r {s : Sk} {st : Pt} {n : Int} (h : n ∈ zc5 s st) : 0 ≤ n ∧ n < s.cs.length := by
  rw [znn] at h
  obtain ⟨i, x, rfl, hi, _⟩ := zvj.mp h
  have := (List.getElem?_eq_some_iff.mp hi).1
  rw [z0z] at this
  omega
theorem zyt (s : Sk) (st : Pt) : (zc5 s st).length ≤ s.cs.length := by
  rw [znn]
  refine Nat.le_trans (zzb _ _) (by rw [z0z]; exact Nat.le_refl _)
theorem zacg {ps : List Pt} {er : Int} {p : Pt} {a : Int} (h : a ∈ z2f ps er p) : 0 ≤ a ∧ a < ps.length := by
  obtain ⟨i, x, rfl, hi, _⟩ := zvj.mp h
  have := (List.getElem?_eq_some_iff.mp hi).1
  omega
def bkS (s : Sk) (pic : List Pt) (st : Pt) : List (List Int) := (zc5 s st).map (nxt (bkN (nxL s pic st) s.cs.length))
def ze9 : DRn := fun ds G Q => ∃ (s : Sk) (pic : List Pt) (st : Pt), ds = [sD s, eT e3 pic, e3 st] ∧ s.cs.length ≤ 100 ∧ pic.length ≤ 1000 ∧ Q (.nd .tup [eL .int (zc5 s st), eN (bkS s pic st)]) G
abbrev zi9 : List Str := ["sky", "picture", "standing", "back", "sure", "number"]
def zno : DTS :=
    (dSeq (dAsg (dCB zdq (zf (dCB zee (zf (ze 0) (zf (ze 1) (zf (ze 2) dNil)))) (zf (dCB dLen (zf (dFld CA.Ground "craters" (dFld CA.Sky "ground" (ze 0))) dNil)) dNil))) (zl 3))
    (dSeq (dAsg (zo5 CA.Sky "sure_craters" zbu (ze 0) (zf (ze 2) dNil)) (zl 4))
    (dRet (dTup (zf (ze 4) (zf (dFz (dLc (za1 (ze 4)) (zl 5) dYes (dOp dIx (ze 3) (ze 5)) [5])) dNil))))))
theorem zv0 : ∀ ds G Q, ze9 ds G Q → ds.length = 3 := fun ds G Q ⟨c, x, y, e, _⟩ => by rw [e]; rfl
theorem zvt : ∀ ds G Q, ze9 ds G Q → zno { nx := fun _ G' => Q .non G', rt := Q } (zao zi9 ds) G := fun ds G Q h => by
  obtain ⟨s, pic, st, rfl, hl, hp, q⟩ := h
  simp_arith only [zno, zi9, zo5, dFld, z1l, zw7]
  refine ⟨s, pic, st, rfl, hl, hp, ?_⟩
  simp_arith only [zhk]
  refine ⟨nxL s pic st, s.cs.length, rfl, rfl, ⟨by omega, by omega⟩, by unfold nxL; rw [List.length_map]; exact hp, ?_, ?_, ?_⟩
  · intro r hr
    obtain ⟨p, _, rfl⟩ := List.mem_map.mp hr
    exact Nat.le_trans (zzb _ _) (by rw [z0z]; omega)
  · intro r hr a ha
    obtain ⟨p, _, rfl⟩ := List.mem_map.mp hr
    have := zacg ha
    rw [z0z] at this
    exact this
  · refine ⟨ztj (by decide), s, st, rfl, hl, ?_⟩
    simp_arith only [dLc, za1, eL]
    intro p hpn
    refine ⟨fun i acc G' => acc = (((zc5 s st).take i).map (nxt (bkN (nxL s pic st) s.cs.length))).map (eL .int) ∧ G' = up G p (.lst acc), ⟨rfl, rfl⟩, ?_, ?_, ?_⟩
    · rintro i acc G' ⟨rfl, rfl⟩
      exact ⟨trivial, zi⟩
    · rintro i d acc G' hd ⟨rfl, rfl⟩
      obtain ⟨n, hn, rfl⟩ := zaq hd
      obtain ⟨n0, n1⟩ := z2r (List.mem_of_getElem? hn)
      simp_arith only [true_and]
      refine zhw (f := eL .int) n0 (z58 ⟨n0, by rw [zadx]; omega⟩) ?_
      refine ⟨zv ?_, zi, ?_, by rw [zc1]⟩
      · rw [List.length_map, List.length_map, List.length_take]
        have := zyt s st
        omega
      · rw [zba hn, List.map_append, List.map_append]; rfl
    · rintro acc G' ⟨rfl, rfl⟩
      rw [List.length_map, List.take_length]
      simp_arith only [zi, za3 hpn]
      exact q
end M
namespace M
open PySem PySem.Spec PyProof.Rows L2 DL
variable [CA]
def FitA (s : Sk) (pic : List Pt) (st : Pt) : Prop := ∃ P, Mt (nxL s pic st) P ∧ (pic.length : Int) - s.cam.fa ≤ P.length
def FitB (s : Sk) (pic : List Pt) (st : Pt) : Prop := ∃ P, Mt (bkS s pic st) P ∧ ((zc5 s st).length : Int) - s.cam.lo ≤ P.length
def FitP (s : Sk) (pic : List Pt) (st : Pt) : Prop := FitA s pic st ∧ FitB s pic st
noncomputable def fitb (s : Sk) (pic : List Pt) (st : Pt) : Bool := @decide (FitP s pic st) (Classical.propDecidable _)
theorem zjy {s : Sk} {pic : List Pt} {st : Pt} : fitb s pic st = true ↔ FitP s pic st := by
  unfold fitb; exact @decide_eq_true_iff _ (Classical.propDecidable _)
theorem zws (s : Sk) (pic : List Pt) (st : Pt) : (nxL s pic st).length = pic.length := List.length_map ..
theorem zrn (s : Sk) (pic : List Pt) (st : Pt) : (bkS s pic st).length = (zc5 s st).length := List.length_map ..
theorem zwq {β : Type} {f : β → D} {kvs : List (Int × β)} {G : DHp} {Q : DVK} : dLen [eK f kvs] G Q = Q (.int kvs.length) G := by
  have e : dLen [eK f kvs] G Q = Q (.int (((enc kI f kvs).map (·.1)).zip ((enc kI f kvs).map (·.2))).length) G := rfl
  rw [e, List.length_zip, List.length_map, List.length_map, Nat.min_self]
  unfold enc
  rw [List.length_map]
def pprP (K : List Int) : D := .nd .tup [.str "points", eT .int (srtT .int K)]
def pprC (su K : List Int) : D := .nd .tup [.str "craters", eT .int ((srtT .int K).map fun a => (su[a.toNat]?).getD 0)]
def zis : DRn := fun ds G Q => ∃ (s : Sk) (pic : List Pt) (st : Pt), ds = [sD s, eT e3 pic, e3 st] ∧ s.cs.length ≤ 100 ∧ pic.length ≤ 1000 ∧ (FitP s pic st → Q .non G) ∧
  (∀ P K, Gr (nxL s pic st) P (nxL s pic st).length → Sw (nxL s pic st) P K [] → (P.length : Int) < pic.length - s.cam.fa → Q (pprP K) G) ∧
  ∀ P K, FitA s pic st → Gr (bkS s pic st) P (bkS s pic st).length → Sw (bkS s pic st) P K [] → (P.length : Int) < (zc5 s st).length - s.cam.lo → Q (pprC (zc5 s st) K) G
abbrev znm : List Str := ["sky", "picture", "standing", "nexts", "points", "sure", "backs", "craters", "at"]
def zvd : DTS :=
    (dSeq (dAsg (dCB zee (zf (ze 0) (zf (ze 1) (zf (ze 2) dNil)))) (zl 3))
    (dSeq (dAsg (dCB zf1 (zf (ze 3) dNil)) (zl 4))
    (dSeq (dIfS (zag (dOp dLt (dCB dLen (zf (ze 4) dNil)) (dOp dSub (dCB dLen (zf (ze 1) dNil)) (dFld CA.Camera "false" (dFld CA.Sky "camera" (ze 0))))))
    (dRet (dTup (zf (dC (.str "points")) (zf (dCB zkn (zf (dCB ze0 (zf (ze 3) (zf (ze 4) dNil))) dNil)) dNil))))
    zc7)
    (dSeq (dAsg (dCB ze9 (zf (ze 0) (zf (ze 1) (zf (ze 2) dNil)))) (ze2 (z4 (zl 5) (z4 (zl 6) zfc)) 2))
    (dSeq (dAsg (dCB zf1 (zf (ze 6) dNil)) (zl 7))
    (dSeq (dIfS (zag (dOp dLt (dCB dLen (zf (ze 7) dNil)) (dOp dSub (dCB dLen (zf (ze 5) dNil)) (dFld CA.Camera "lost" (dFld CA.Sky "camera" (ze 0))))))
    (dRet (dTup (zf (dC (.str "craters")) (zf (dCB zkn (zf (dFz (dLc (za1 (dCB ze0 (zf (ze 6) (zf (ze 7) dNil)))) (zl 8) dYes (dOp dIx (ze 5) (ze 8)) [8])) dNil)) dNil))))
    zc7)
    (dRet (dC .non))))))))
theorem z12 : ∀ ds G Q, zis ds G Q → ds.length = 3 := fun ds G Q ⟨c, x, y, e, _⟩ => by rw [e]; rfl
theorem Sw.inS {N : List (List Int)} {P : List (Int × Int)} {K : List Int} (h : Sw N P K []) {a : Int} (ha : a ∈ srtT .int K) : InR N a :=
  z62 (h.un a ((zam .int K).mem_iff.mp ha))
theorem z85 (K : List Int) : (srtT .int K).length = K.length := (zam .int K).length_eq
theorem z99 {α : Type} {f : α → D} {xs : List α} {G : DHp} {Q : DVK} : zkn [eL f xs] G Q = Q (eT f xs) G := rfl
theorem z2b : ∀ ds G Q, zis ds G Q → zvd { nx := fun _ G' => Q .non G', rt := Q } (zao znm ds) G := fun ds G Q h => by
  obtain ⟨s, pic, st, rfl, hl, hp, q1, q2, q3⟩ := h
  simp_arith only [zvd, znm]
  refine ⟨s, pic, st, rfl, hl, hp, ?_⟩
  simp_arith only [true_and]
  refine ⟨nxL s pic st, rfl, by rw [zws]; exact hp, fun P gr => ?_⟩
  simp_arith only [zwq, zhk, dFld, zln, z3t, z60]
  by_cases h1 : (P.length : Int) < pic.length - s.cam.fa
  · rw [if_pos h1]
    refine ⟨nxL s pic st, P, rfl, rfl, by rw [zws]; exact hp, gr, fun K sw => ?_⟩
    simp_arith only [z99]
    exact q2 P K gr sw h1
  · rw [if_neg h1]
    have fa : FitA s pic st := ⟨P, gr.mt, by omega⟩
    refine ⟨s, pic, st, rfl, hl, hp, ?_⟩
    simp_arith only [true_and]
    have hsl := zyt s st
    refine ⟨bkS s pic st, rfl, by rw [zrn]; omega, fun P2 gr2 => ?_⟩
    simp_arith only [zwq, zlx, dFld, zln, z8i, z60]
    by_cases h2 : (P2.length : Int) < (zc5 s st).length - s.cam.lo
    · rw [if_pos h2]
      simp_arith only [dLc, za1]
      refine ⟨bkS s pic st, P2, rfl, rfl, by rw [zrn]; omega, gr2, fun K sw => ?_⟩
      unfold eL
      dsimp only
      intro p hpn
      refine ⟨fun i acc G' => acc = (((srtT .int K).take i).map fun a => ((zc5 s st)[a.toNat]?).getD 0).map .int ∧ G' = up G p (.lst acc), ⟨rfl, rfl⟩, ?_, ?_, ?_⟩
      · rintro i acc G' ⟨rfl, rfl⟩
        exact ⟨trivial, zi⟩
      · rintro i d acc G' hd ⟨rfl, rfl⟩
        obtain ⟨n, hn, rfl⟩ := zaq hd
        obtain ⟨n0, n1⟩ := sw.inS (List.mem_of_getElem? hn)
        rw [zrn] at n1
        simp_arith only [true_and]
        refine zhw (f := .int) n0 (x := ((zc5 s st)[n.toNat]?).getD 0) (by rw [List.getElem?_eq_getElem (by omega)]; rfl) ?_
        refine ⟨zv ?_, zi, ?_, by rw [zc1]⟩
        · rw [List.length_map, List.length_map, List.length_take]
          have := z0n sw.nd sw.un
          rw [zrn] at this
          rw [z85]
          omega
        · rw [zba hn, List.map_append, List.map_append]; rfl
      · rintro acc G' ⟨rfl, rfl⟩
        rw [List.length_map, List.take_length]
        simp_arith only [zi, za3 hpn]
        exact q3 P2 K fa gr2 sw h2
    · rw [if_neg h2]
      exact q1 ⟨fa, P2, gr2.mt, by omega⟩
def zj7 : DRn := fun ds G Q => ∃ (s : Sk) (pic : List Pt) (st : Pt), ds = [sD s, eT e3 pic, e3 st] ∧ s.cs.length ≤ 100 ∧ pic.length ≤ 1000 ∧ Q (.bl (fitb s pic st)) G
abbrev z30 : List Str := ["sky", "picture", "standing"]
def z7r : DTS :=
    (dRet (dOp (dIsN false) (dCB zis (zf (ze 0) (zf (ze 1) (zf (ze 2) dNil)))) (dC .non)))
theorem z9l : ∀ ds G Q, zj7 ds G Q → ds.length = 3 := fun ds G Q ⟨c, x, y, e, _⟩ => by rw [e]; rfl
theorem z9f {s : Sk} {pic : List Pt} {st : Pt} {P : List (Int × Int)} (g : Gr (nxL s pic st) P (nxL s pic st).length) (h : (P.length : Int) < pic.length - s.cam.fa) : ¬ FitA s pic st := by
  rintro ⟨P', m, h'⟩
  have := g.max m
  omega
theorem zaav {s : Sk} {pic : List Pt} {st : Pt} {P : List (Int × Int)} (g : Gr (bkS s pic st) P (bkS s pic st).length) (h : (P.length : Int) < (zc5 s st).length - s.cam.lo) : ¬ FitB s pic st := by
  rintro ⟨P', m, h'⟩
  have := g.max m
  omega
theorem z7g {s : Sk} {pic : List Pt} {st : Pt} (h : ¬ FitP s pic st) : fitb s pic st = false := by
  cases e : fitb s pic st with
  | false => rfl
  | true => exact absurd (zjy.mp e) h
theorem zaac : ∀ ds G Q, zj7 ds G Q → z7r { nx := fun _ G' => Q .non G', rt := Q } (zao z30 ds) G := fun ds G Q h => by
  obtain ⟨s, pic, st, rfl, hl, hp, q⟩ := h
  simp_arith only [z7r, z30]
  refine ⟨s, pic, st, rfl, hl, hp, fun f => ?_, fun P K g sw h => ?_, fun P K fa g sw h => ?_⟩
  · show dIsN false .non .non G Q
    rw [zaev, ← zjy.mpr f]
    exact q
  · show dIsN false (pprP K) .non G Q
    unfold pprP
    rw [zaec, ← z7g (fun z : FitP s pic st => z9f g h z.1)]
    exact q
  · show dIsN false (pprC (zc5 s st) K) .non G Q
    unfold pprC
    rw [zaec, ← z7g (fun z : FitP s pic st => zaav g h z.2)]
    exact q
end M
namespace M
open PySem PySem.Spec PyProof.Rows L2 DL
variable [CA]
def inA (s : Sk) (sh : Int × Int) : Prop := (s.ar.1 ≤ sh.1 ∧ sh.1 ≤ s.ar.2.1) ∧ s.ar.2.2.1 ≤ sh.2 ∧ sh.2 ≤ s.ar.2.2.2
def z5e (s : Sk) : List (Int × Int) := (zb4 s.ar.1 (s.ar.2.1 + 1)).flatMap fun x => (zb4 s.ar.2.2.1 (s.ar.2.2.2 + 1)).map fun y => (x, y)
theorem z3p {s : Sk} {sh : Int × Int} : sh ∈ z5e s ↔ inA s sh := by
  unfold z5e inA
  rw [List.mem_flatMap]
  constructor
  · rintro ⟨x, hx, h⟩
    obtain ⟨y, hy, rfl⟩ := List.mem_map.mp h
    rw [mem_range] at hx hy
    dsimp only
    omega
  · rintro ⟨h1, h2⟩
    exact ⟨sh.1, mem_range.mpr (by omega), List.mem_map.mpr ⟨sh.2, mem_range.mpr (by omega), rfl⟩⟩
theorem z3m {s : Sk} (h : OkSk s) : (z5e s).length ≤ 10000 := by
  unfold z5e
  refine Nat.le_trans (zms (B := 100) fun x _ => ?_) ?_
  · rw [List.length_map, zcq]; have := h.b2; omega
  · rw [zcq]; have := h.b1; omega
def mx (i j : Int) : Int := if j > i then j else i
def mn (i j : Int) : Int := if j < i then j else i
/-- the shifts that are looked at for one crater -/
def r1 (s : Sk) (pt c : Pt) (t : Int) : List Int := zb4 (mx s.ar.1 (pt.1 - (rot c.1 c.2.1 t).1 - s.cam.er)) (mn s.ar.2.1 (pt.1 - (rot c.1 c.2.1 t).1 + s.cam.er) + 1)
def r2 (s : Sk) (pt c : Pt) (t : Int) : List Int := zb4 (mx s.ar.2.2.1 (pt.2.1 - (rot c.1 c.2.1 t).2 - s.cam.er)) (mn s.ar.2.2.2 (pt.2.1 - (rot c.1 c.2.1 t).2 + s.cam.er) + 1)
/-- the dict so far -/
structure Vd (s : Sk) (V : List (Int × Int)) (kvs : List ((Int × Int) × Bool)) : Prop where
  nd : (kvs.map (·.1)).Nodup
  mem : ∀ sh, sh ∈ kvs.map (·.1) ↔ sh ∈ V
  inn : ∀ sh ∈ V, inA s sh
theorem Vd.len {s : Sk} {V : List (Int × Int)} {kvs : List ((Int × Int) × Bool)} (ok : OkSk s) (h : Vd s V kvs) : kvs.length ≤ 10000 := by
  have := zeq (xs := z5e s) h.nd fun y hy => z3p.mpr (h.inn y ((h.mem y).mp hy))
  rw [List.length_map] at this
  exact Nat.le_trans this (z3m ok)
theorem Vd.step {s : Sk} {V : List (Int × Int)} {kvs : List ((Int × Int) × Bool)} (h : Vd s V kvs) {sh : Int × Int} (hs : inA s sh) : Vd s (V ++ [sh]) (aput kvs sh true) := by
  refine ⟨zer _ _ _ h.nd, fun c => ?_, fun c hc => ?_⟩
  · rw [z4r, h.mem, List.mem_append, List.mem_singleton]
  · rcases List.mem_append.mp hc with hc | hc
    · exact h.inn c hc
    · rw [List.mem_singleton] at hc; rw [hc]; exact hs
end M
namespace M
open PySem PySem.Spec PyProof.Rows L2 DL
variable [CA]
def cntO (n : Nat) : Option Int := if n = 0 then none else some (n : Int)
/-- the votes for the shifts of the area, by a turn -/
structure Vot (s : Sk) (kvs : List ((Int × Int) × Int)) (f : Int × Int → Nat) : Prop where
  nd : (kvs.map (·.1)).Nodup
  at_ : ∀ sh, aget kvs sh = cntO (f sh)
  inn : ∀ sh, f sh ≠ 0 → inA s sh
theorem z8e {n : Nat} : (cntO n).isSome = true ↔ n ≠ 0 := by
  unfold cntO
  split
  · rename_i h; simp [h]
  · rename_i h; simp [h]
theorem Vot.mem {s : Sk} {kvs : List ((Int × Int) × Int)} {f : Int × Int → Nat} (h : Vot s kvs f) {sh : Int × Int} : sh ∈ kvs.map (·.1) ↔ f sh ≠ 0 := by
  rw [← zdt, h.at_, z8e]
theorem Vot.len {s : Sk} {kvs : List ((Int × Int) × Int)} {f : Int × Int → Nat} (ok : OkSk s) (h : Vot s kvs f) : kvs.length ≤ 10000 := by
  have := zeq (xs := z5e s) h.nd fun y hy => z3p.mpr (h.inn y (h.mem.mp hy))
  rw [List.length_map] at this
  exact Nat.le_trans this (z3m ok)
theorem Vot.step {s : Sk} {kvs : List ((Int × Int) × Int)} {f g : Int × Int → Nat} (h : Vot s kvs f) {sh : Int × Int} (hs : inA s sh) (hg : ∀ c, g c = if c = sh then f sh + 1 else f c) : Vot s (aput kvs sh ((aget kvs sh).getD 0 + 1)) g := by
  refine ⟨zer _ _ _ h.nd, fun c => ?_, fun c hc => ?_⟩
  · rw [zbp, hg]
    split
    · rw [h.at_]
      unfold cntO
      by_cases h0 : f sh = 0
      · simp [h0]
      · simp [h0]
    · exact h.at_ c
  · rw [hg] at hc
    split at hc
    · rename_i e; rw [e]; exact hs
    · exact h.inn c hc
end M
namespace M
open PySem PySem.Spec PyProof.Rows L2 DL
/-- the numbers of a list, each once -/
structure Onc (K xs : List Int) : Prop where
  nd : K.Nodup
  mem : ∀ y, y ∈ K ↔ y ∈ xs
theorem Onc.len {K xs : List Int} (h : Onc K xs) : K.length ≤ xs.length := zeq h.nd fun y hy => (h.mem y).mp hy
end M
namespace M
open PySem PySem.Spec PyProof.Rows L2 DL
structure Bij (P : List (Int × Int)) : Prop where
  nd : (P.map (·.1)).Nodup
  nd2 : (P.map (·.2)).Nodup
theorem zop {l : List (Int × Int)} {a b : Int} (h : aget l a = some b) : (a, b) ∈ l := by
  unfold aget at h
  cases e : l.find? fun p => decide (p.1 = a) with
  | none => rw [e] at h; cases h
  | some p =>
    rw [e] at h
    have h1 := List.find?_some e
    have h2 := List.mem_of_find?_eq_some e
    rw [decide_eq_true_eq] at h1
    cases h
    rw [← h1]
    exact h2
theorem Bij.ag {P : List (Int × Int)} (h : Bij P) {a b : Int} : aget P a = some b ↔ (a, b) ∈ P := ⟨zop, fun m => zjs h.nd m⟩
theorem zyp (P : List (Int × Int)) : (sw P).map (·.1) = P.map (·.2) := by unfold sw; rw [List.map_map]; rfl
theorem z8w {P : List (Int × Int)} {a b : Int} : (a, b) ∈ sw P ↔ (b, a) ∈ P := by
  unfold sw
  rw [List.mem_map]
  constructor
  · rintro ⟨x, hx, e⟩; cases e; exact hx
  · intro h; exact ⟨(b, a), h, rfl⟩
theorem Bij.agS {P : List (Int × Int)} (h : Bij P) {a b : Int} : aget (sw P) a = some b ↔ (b, a) ∈ P :=
  ⟨fun m => z8w.mp (zop m), fun m => zjs (by rw [zyp]; exact h.nd2) (z8w.mpr m)⟩
theorem Bij.inj1 {P : List (Int × Int)} (h : Bij P) {a b c : Int} (h1 : (a, b) ∈ P) (h2 : (a, c) ∈ P) : b = c := by
  have := (h.ag.mpr h1).symm.trans (h.ag.mpr h2)
  exact Option.some.inj this
/-- what the two tables say, so far; now: what has lost its place -/
structure Two (M1 M2 Fd Bk : List (Int × Int)) (done : Int → Prop) (now : Option Int) : Prop where
  ndF : (Fd.map (·.1)).Nodup
  ndB : (Bk.map (·.1)).Nodup
  inv : ∀ f s, aget Fd f = some s ↔ aget Bk s = some f
  src : ∀ f s, aget Fd f = some s → (f, s) ∈ M1 ∨ (f, s) ∈ M2
  dom : ∀ f, f ∈ M1.map (·.1) → (aget Fd f).isSome
  cov : ∀ s, done s → some s ≠ now → (aget Bk s).isSome
theorem Two.init {M1 M2 : List (Int × Int)} (h1 : Bij M1) : Two M1 M2 M1 (sw M1) (fun _ => False) none where
  ndF := h1.nd
  ndB := by rw [zyp]; exact h1.nd2
  inv := fun f s => by rw [h1.ag, h1.agS]
  src := fun f s h => .inl (h1.ag.mp h)
  dom := fun f h => (zdt _ _).mpr h
  cov := fun _ h => h.elim
/-- the pairs of the second that are not there yet -/
def z6o (M2 Fd : List (Int × Int)) : Nat := M2.countP fun p => decide (aget Fd p.1 ≠ some p.2)
def bkS' (Bk : List (Int × Int)) (now first : Int) (before : Option Int) : List (Int × Int) := match before with
  | none => aput Bk now first
  | some b => zvr (aput Bk now first) b
theorem zaa8 {Bk : List (Int × Int)} {now first s : Int} {before : Option Int} : aget (bkS' Bk now first before) s = if before = some s then none else if s = now then some first else aget Bk s := by
  cases before with
  | none =>
    show aget (aput Bk now first) s = _
    rw [zbp, if_neg (c := (none : Option Int) = some s) (by simp)]
  | some b =>
    show aget (zvr (aput Bk now first) b) s = _
    rw [z5r, zbp]
    by_cases h : s = b
    · rw [if_pos h, if_pos (by rw [h])]
    · rw [if_neg h, if_neg (fun z => h (Option.some.inj z).symm)]
theorem Two.step {M1 M2 Fd Bk : List (Int × Int)} {done : Int → Prop} {now first : Int} (h2 : Bij M2) (t : Two M1 M2 Fd Bk done (some now)) (hw : (first, now) ∈ M2) (hb : aget Bk now = none) :
    Two M1 M2 (aput Fd first now) (bkS' Bk now first (aget Fd first)) done (aget Fd first) ∧ z6o M2 (aput Fd first now) < z6o M2 Fd := by
  have hne : ∀ f, aget Fd f ≠ some now := fun f e => by rw [(t.inv f now).mp e] at hb; cases hb
  refine ⟨⟨zer _ _ _ t.ndF, ?_, fun f s => ?_, fun f s h => ?_, fun f h => ?_, fun s hs hn => ?_⟩, ?_⟩
  · cases e : aget Fd first with
    | none => exact zer _ _ _ t.ndB
    | some b => exact z2y _ (zer _ _ _ t.ndB)
  · rw [zbp, zaa8]
    by_cases hf : f = first
    · subst hf
      rw [if_pos rfl]
      by_cases hs : s = now
      · subst hs
        rw [if_neg (hne f), if_pos rfl]
        simp
      · constructor
        · intro z; exact absurd (Option.some.inj z).symm hs
        · intro z
          split at z
          · cases z
          · rename_i h
            exact absurd ((t.inv f s).mpr z) h
    · rw [if_neg hf]
      constructor
      · intro z
        have z' := (t.inv f s).mp z
        have h1 : ¬ aget Fd first = some s := fun y => by
          have := (t.inv first s).mp y
          rw [z'] at this
          exact hf (Option.some.inj this)
        have h3 : s ≠ now := fun y => by rw [y] at z; exact hne f z
        rw [if_neg h1, if_neg h3]
        exact z'
      · intro z
        split at z
        · cases z
        · split at z
          · exact absurd (Option.some.inj z).symm hf
          · exact (t.inv f s).mpr z
  · rw [zbp] at h
    split at h
    · rename_i e
      cases h
      rw [e]
      exact .inr hw
    · exact t.src f s h
  · rw [zbp]
    split
    · rfl
    · exact t.dom f h
  · rw [zaa8, if_neg (fun z => hn z.symm)]
    split
    · rfl
    · rename_i h
      exact t.cov s hs (fun z => h (Option.some.inj z))
  · unfold z6o
    have key : ∀ l : List (Int × Int), (∀ p ∈ l, p ∈ M2) → (l.countP fun p => decide (aget (aput Fd first now) p.1 ≠ some p.2)) ≤ (l.countP fun p => decide (aget Fd p.1 ≠ some p.2)) ∧
        ((first, now) ∈ l → (l.countP fun p => decide (aget (aput Fd first now) p.1 ≠ some p.2)) < l.countP fun p => decide (aget Fd p.1 ≠ some p.2)) := by
      intro l
      induction l with
      | nil => intro _; exact ⟨Nat.le_refl _, fun h => (by cases h)⟩
      | cons p l ih =>
        intro hl
        obtain ⟨i1, i2⟩ := ih fun q hq => hl q (by simp [hq])
        have hp := hl p (by simp)
        rw [List.countP_cons, List.countP_cons, zbp]
        by_cases hf : p.1 = first
        · have e : p.2 = now := h2.inj1 (a := first) (by rw [← hf]; exact hp) hw
          rw [if_pos hf, e, if_neg (by simp), if_pos (by rw [hf]; simpa using hne first)]
          exact ⟨by omega, fun _ => by omega⟩
        · rw [if_neg hf]
          refine ⟨by omega, fun hm => ?_⟩
          rcases List.mem_cons.mp hm with e | hm
          · exact absurd (congrArg Prod.fst e).symm hf
          · have := i2 hm; omega
    exact (key M2 fun _ h => h).2 hw
/-- what comes of it -/
structure zabj (M1 M2 Fd : List (Int × Int)) : Prop where
  bij : Bij Fd
  src : ∀ p ∈ Fd, p ∈ M1 ∨ p ∈ M2
  dom : ∀ p ∈ M1, ∃ s, (p.1, s) ∈ Fd
  img : ∀ p ∈ M2, ∃ f, (f, p.2) ∈ Fd
theorem zaa6 {Fd : List (Int × Int)} (nd : (Fd.map (·.1)).Nodup) (inj : ∀ a b c, aget Fd a = some c → aget Fd b = some c → a = b) : (Fd.map (·.2)).Nodup := by
  induction Fd with
  | nil => exact List.nodup_nil
  | cons p Fd ih =>
    rw [List.map_cons, List.nodup_cons] at nd ⊢
    have up : ∀ a c, aget Fd a = some c → aget (p :: Fd) a = some c := fun a c h => by
      have ha : a ≠ p.1 := fun e => nd.1 (by rw [← e]; exact (zdt _ _).mp (by rw [h]; rfl))
      unfold aget at h ⊢
      rw [List.find?_cons_of_neg (by simpa using fun z : p.1 = a => ha z.symm)]
      exact h
    refine ⟨fun h => ?_, ih nd.2 fun a b c h1 h2 => inj a b c (up a c h1) (up b c h2)⟩
    obtain ⟨q, hq, e⟩ := List.mem_map.mp h
    have h1 := up q.1 q.2 (zjs nd.2 hq)
    have h2 : aget (p :: Fd) p.1 = some p.2 := by unfold aget; rw [List.find?_cons_of_pos (by simp)]; rfl
    have := inj q.1 p.1 p.2 (by rw [← e]; exact h1) h2
    exact nd.1 (by rw [← this]; exact List.mem_map.mpr ⟨q, hq, rfl⟩)
theorem Two.end_ {M1 M2 Fd Bk : List (Int × Int)} {done : Int → Prop} (t : Two M1 M2 Fd Bk done none) (hd : ∀ p ∈ M2, done p.2) : zabj M1 M2 Fd := by
  have inj : ∀ a b c, aget Fd a = some c → aget Fd b = some c → a = b := fun a b c h1 h2 => by
    have := ((t.inv a c).mp h1).symm.trans ((t.inv b c).mp h2)
    exact Option.some.inj this
  refine ⟨⟨t.ndF, zaa6 t.ndF inj⟩, fun p hp => t.src p.1 p.2 (zjs t.ndF hp), fun p hp => ?_, fun p hp => ?_⟩
  · obtain ⟨s, e⟩ := Option.isSome_iff_exists.mp (t.dom p.1 (List.mem_map.mpr ⟨p, hp, rfl⟩))
    exact ⟨s, zop e⟩
  · obtain ⟨f, e⟩ := Option.isSome_iff_exists.mp (t.cov p.2 (hd p hp) (nomatch ·))
    exact ⟨f, zop ((t.inv f p.2).mpr e)⟩
theorem z79 {P : List (Int × Int)} (h : Bij P) {a : Int} (e : aget (sw P) a = none) : a ∉ P.map (·.2) := fun m => by
  rw [← zyp] at m
  have := (zdt _ _).mpr m
  rw [e] at this
  cases this
theorem zab2 {M1 M2 : List (Int × Int)} (b2 : Bij M2) {done : Int → Prop} (hd : ∀ s, done s → s ∈ M2.map (·.2)) : ∀ (m : Nat) (Fd Bk : List (Int × Int)) (now : Option Int), Two M1 M2 Fd Bk done now → z6o M2 Fd ≤ m → ∃ Fd' Bk', Two M1 M2 Fd' Bk' done none := by
  intro m
  induction m with
  | zero =>
    intro Fd Bk now t hm
    cases now with
    | none => exact ⟨Fd, Bk, t⟩
    | some n =>
      cases hw : aget (sw M2) n with
      | none => exact ⟨Fd, Bk, t.ndF, t.ndB, t.inv, t.src, t.dom, fun s h _ => t.cov s h fun e => by cases e; exact z79 b2 hw (hd _ h)⟩
      | some first =>
        cases hb : aget Bk n with
        | some y =>
          refine ⟨Fd, Bk, t.ndF, t.ndB, t.inv, t.src, t.dom, fun s h _ => ?_⟩
          by_cases e : s = n
          · rw [e, hb]; rfl
          · exact t.cov s h fun z => e (Option.some.inj z)
        | none =>
          have := (t.step b2 (b2.agS.mp hw) hb).2
          omega
  | succ m ih =>
    intro Fd Bk now t hm
    cases now with
    | none => exact ⟨Fd, Bk, t⟩
    | some n =>
      cases hw : aget (sw M2) n with
      | none => exact ⟨Fd, Bk, t.ndF, t.ndB, t.inv, t.src, t.dom, fun s h _ => t.cov s h fun e => by cases e; exact z79 b2 hw (hd _ h)⟩
      | some first =>
        cases hb : aget Bk n with
        | some y =>
          refine ⟨Fd, Bk, t.ndF, t.ndB, t.inv, t.src, t.dom, fun s h _ => ?_⟩
          by_cases e : s = n
          · rw [e, hb]; rfl
          · exact t.cov s h fun z => e (Option.some.inj z)
        | none =>
          obtain ⟨t', hlt⟩ := t.step b2 (b2.agS.mp hw) hb
          exact ih _ _ _ t' (by omega)
/-- two matchings come together in one that holds the firsts of the one and the seconds of the other -/
theorem zad6 {M1 M2 : List (Int × Int)} (b1 : Bij M1) (b2 : Bij M2) : ∃ Fd, zabj M1 M2 Fd := by
  have go : ∀ L : List Int, (∀ s ∈ L, s ∈ M2.map (·.2)) → ∃ Fd Bk, Two M1 M2 Fd Bk (fun s => s ∈ L) none := by
    intro L
    induction L with
    | nil =>
      intro _
      have t := Two.init (M2 := M2) b1
      exact ⟨M1, sw M1, t.ndF, t.ndB, t.inv, t.src, t.dom, fun s h => (by simp at h)⟩
    | cons x L ih =>
      intro hL
      obtain ⟨Fd, Bk, t⟩ := ih fun s hs => hL s (by simp [hs])
      refine zab2 b2 (fun s hs => hL s hs) (z6o M2 Fd) Fd Bk (some x) ⟨t.ndF, t.ndB, t.inv, t.src, t.dom, fun s h hn => ?_⟩ (Nat.le_refl _)
      rcases List.mem_cons.mp h with h | h
      · exact absurd (congrArg some h) hn
      · exact t.cov s h (nomatch ·)
  obtain ⟨Fd, Bk, t⟩ := go (M2.map (·.2)) fun _ h => h
  exact ⟨Fd, t.end_ fun p hp => List.mem_map.mpr ⟨p, hp, rfl⟩⟩
end M
namespace M
open PySem PySem.Spec PyProof.Rows L2 DL
/-- seven numbers: the hashes of their parts are apart -/
theorem zafd : ((zzu [0, 1, 2, 3, 4, 5, 6]).map zab0).Nodup := by decide +kernel
theorem z14 {ks : List (List Int)} (nd : ks.Nodup) (h : ∀ s ∈ ks, s.Sublist [0, 1, 2, 3, 4, 5, 6]) (w : World) : (ks.map fun s => (kL s).hash w).Nodup :=
  zw3 _ nd fun a ha b hb e => by
    simp only [zadg] at e
    exact zh4 zab0 zafd a (znv (h a ha)) b (znv (h b hb)) e
section
variable {α : Type}
theorem zacr (a b : Int) : PySem.W.dataLe false py (.int a) (.int b) = decide (a ≤ b) := by
  rw [PySem.W.dataLe_eq]
  show (!PySem.W.dataLt (py (.int b)) (py (.int a))) = _
  rw [py, py, PySem.W.dataLt_int, PySem.W.not_lt_int]
theorem z2a (xs : List Int) : (srtT D.int xs).Pairwise (· ≤ ·) := by
  have e : srtT D.int xs = xs.mergeSort fun a b => decide (a ≤ b) := by
    unfold srtT
    congr 1
    funext a b
    exact zacr a b
  rw [e]
  have := List.pairwise_mergeSort (le := fun a b : Int => decide (a ≤ b)) (fun a b c h1 h2 => by
    simp only [decide_eq_true_eq] at *; omega) (fun a b => by simp only [Bool.or_eq_true, decide_eq_true_eq]; omega) xs
  exact this.imp fun h => of_decide_eq_true h
theorem zyg {xs : List Int} {y : Int} : y ∈ srtT D.int xs ↔ y ∈ xs := (zam .int xs).mem_iff
theorem zwy {xs : List Int} : (srtT D.int xs).Nodup ↔ xs.Nodup := (zam .int xs).nodup_iff
theorem zacz {xs : List Int} (h : xs.Nodup) : (srtT D.int xs).Pairwise (· < ·) := by
  have h1 := z2a xs
  have h2 := zwy.mpr h
  refine (h1.and h2).imp fun {a b} h => ?_
  have := h.1
  have := h.2
  omega
def zae6 : Nat → Int → List Int
  | 0, _ => []
  | n + 1, s => s :: zae6 n (s + 1)
theorem zyi : ∀ (n : Nat) (s : Int) (lot : List Int), lot.Pairwise (· < ·) → (∀ x ∈ lot, s ≤ x ∧ x < s + n) → lot.Sublist (zae6 n s)
  | 0, s, lot, _, h => by
    cases lot with
    | nil => exact .slnil
    | cons x l => have := h x (by simp); omega
  | n + 1, s, lot, pw, h => by
    cases lot with
    | nil => exact List.nil_sublist _
    | cons x l =>
      rw [List.pairwise_cons] at pw
      have hx := h x (by simp)
      by_cases e : x = s
      · subst e
        refine .cons₂ _ (zyi n _ l pw.2 fun y hy => ?_)
        have h1 := pw.1 y hy
        have h2 := h y (by simp [hy])
        omega
      · refine .cons _ (zyi n _ (x :: l) (List.pairwise_cons.mpr pw) fun y hy => ?_)
        rcases List.mem_cons.mp hy with rfl | hy
        · omega
        · have h1 := pw.1 y hy
          have h2 := h y (by simp [hy])
          omega
/-- a lot of places that points have for their own, each point one at most -/
inductive Lot (near : α → Int → Prop) : List α → List Int → Prop
  | nil : Lot near [] []
  | skip {pts : List α} {p : α} {lot : List Int} : Lot near pts lot → Lot near (pts ++ [p]) lot
  | take {pts : List α} {p : α} {lot : List Int} {a : Int} : Lot near pts lot → near p a → a ∉ lot → Lot near (pts ++ [p]) (srtT D.int (lot ++ [a]))
theorem Lot.nd {near : α → Int → Prop} {pts : List α} {lot : List Int} (h : Lot near pts lot) : lot.Nodup := by
  induction h with
  | nil => exact List.nodup_nil
  | skip _ ih => exact ih
  | take _ _ hn ih => exact zwy.mpr (nd_snoc ih hn)
theorem Lot.lt {near : α → Int → Prop} {pts : List α} {lot : List Int} (h : Lot near pts lot) : lot.Pairwise (· < ·) := by
  induction h with
  | nil => exact .nil
  | skip _ ih => exact ih
  | take h _ hn ih => exact zacz (nd_snoc h.nd hn)
theorem Lot.inn {near : α → Int → Prop} {n : Nat} (hn : ∀ p a, near p a → 0 ≤ a ∧ a < n) {pts : List α} {lot : List Int} (h : Lot near pts lot) : ∀ a ∈ lot, 0 ≤ a ∧ a < n := by
  induction h with
  | nil => intro a h; cases h
  | skip _ ih => exact ih
  | take _ hr _ ih =>
    intro a ha
    rcases List.mem_append.mp (zyg.mp ha) with ha | ha
    · exact ih a ha
    · rw [List.mem_singleton] at ha; rw [ha]; exact hn _ _ hr
theorem Lot.len {near : α → Int → Prop} {pts : List α} {lot : List Int} (h : Lot near pts lot) : lot.length ≤ pts.length := by
  induction h with
  | nil => exact Nat.le_refl _
  | skip _ ih => rw [List.length_append]; omega
  | take _ _ _ ih =>
    rw [(zam .int _).length_eq, List.length_append, List.length_append, List.length_singleton, List.length_singleton]
    omega
theorem Lot.sub6 {near : α → Int → Prop} {n : Nat} (h6 : n ≤ 7) (hn : ∀ p a, near p a → 0 ≤ a ∧ a < n) {pts : List α} {lot : List Int} (h : Lot near pts lot) : lot.Sublist [0, 1, 2, 3, 4, 5, 6] :=
  zyi 7 0 lot h.lt fun x hx => by have := h.inn hn x hx; omega
/-- a lot is the places of a matching of points with places -/
theorem Lot.match_ {near : α → Int → Prop} {pts : List α} {lot : List Int} (h : Lot near pts lot) : ∃ P : List (Int × Nat), (P.map (·.1)).Nodup ∧ (P.map (·.2)).Nodup ∧ (∀ x ∈ P, ∃ p, pts[x.2]? = some p ∧ near p x.1) ∧ ∀ a, a ∈ P.map (·.1) ↔ a ∈ lot := by
  induction h with
  | nil => exact ⟨[], List.nodup_nil, List.nodup_nil, fun x h => (by cases h), by simp⟩
  | @skip pts p lot _ ih =>
    obtain ⟨P, h1, h2, h3, h4⟩ := ih
    refine ⟨P, h1, h2, fun x hx => ?_, h4⟩
    obtain ⟨q, e, n⟩ := h3 x hx
    exact ⟨q, by rw [List.getElem?_append_left (List.getElem?_eq_some_iff.mp e).1]; exact e, n⟩
  | @take pts p lot a _ hr hn ih =>
    obtain ⟨P, h1, h2, h3, h4⟩ := ih
    refine ⟨P ++ [(a, pts.length)], ?_, ?_, fun x hx => ?_, fun b => ?_⟩
    · rw [List.map_append]
      exact nd_snoc h1 fun z => hn ((h4 a).mp z)
    · rw [List.map_append]
      refine nd_snoc h2 fun z => ?_
      obtain ⟨x, hx, e⟩ := List.mem_map.mp z
      obtain ⟨q, e2, _⟩ := h3 x hx
      have := (List.getElem?_eq_some_iff.mp e2).1
      have e' : x.2 = pts.length := e
      omega
    · rcases List.mem_append.mp hx with hx | hx
      · obtain ⟨q, e, n⟩ := h3 x hx
        exact ⟨q, by rw [List.getElem?_append_left (List.getElem?_eq_some_iff.mp e).1]; exact e, n⟩
      · rw [List.mem_singleton] at hx
        subst hx
        exact ⟨p, by simp, hr⟩
    · rw [List.map_append, List.mem_append, h4, zyg, List.mem_append]
      simp
/-- .. and each matching's places are a lot -/
theorem zaa0 {near : α → Int → Prop} : ∀ {pts : List α} {P : List (Int × Nat)}, (P.map (·.1)).Nodup → (P.map (·.2)).Nodup → (∀ x ∈ P, ∃ p, pts[x.2]? = some p ∧ near p x.1) → ∃ lot, Lot near pts lot ∧ ∀ a, a ∈ lot ↔ a ∈ P.map (·.1) := by
  intro pts
  induction pts using zxn with
  | h0 =>
    intro P h1 h2 h3
    cases P with
    | nil => exact ⟨[], .nil, by simp⟩
    | cons x P => obtain ⟨p, e, _⟩ := h3 x (by simp); simp at e
  | h1 pts p ih =>
    intro P h1 h2 h3
    have old : ∀ x ∈ P, x.2 ≠ pts.length → ∃ q, pts[x.2]? = some q ∧ near q x.1 := fun x hx hne => by
      obtain ⟨q, e, n⟩ := h3 x hx
      have hl := (List.getElem?_eq_some_iff.mp e).1
      rw [List.length_append, List.length_singleton] at hl
      exact ⟨q, by rw [List.getElem?_append_left (by omega)] at e; exact e, n⟩
    by_cases hp : pts.length ∈ P.map (·.2)
    · obtain ⟨x, hx, ex⟩ := List.mem_map.mp hp
      obtain ⟨lot, hl, hm⟩ := ih (P := P.filter fun y => decide (y.2 ≠ pts.length)) (h1.sublist (List.filter_sublist.map _)) (h2.sublist (List.filter_sublist.map _)) fun y hy => by
        rw [List.mem_filter, decide_eq_true_eq] at hy
        exact old y hy.1 hy.2
      obtain ⟨q, e, n⟩ := h3 x hx
      rw [ex, List.getElem?_append_right (Nat.le_refl _), Nat.sub_self] at e
      cases e
      have hn : x.1 ∉ lot := fun z => by
        obtain ⟨y, hy, ey⟩ := List.mem_map.mp ((hm x.1).mp z)
        rw [List.mem_filter, decide_eq_true_eq] at hy
        have := zh4 (·.1) h1 y hy.1 x hx ey
        rw [this] at hy
        exact hy.2 ex
      refine ⟨_, .take hl n hn, fun a => ?_⟩
      rw [zyg, List.mem_append, hm, List.mem_singleton]
      constructor
      · rintro (h | rfl)
        · obtain ⟨y, hy, ey⟩ := List.mem_map.mp h
          exact List.mem_map.mpr ⟨y, (List.mem_filter.mp hy).1, ey⟩
        · exact List.mem_map.mpr ⟨x, hx, rfl⟩
      · intro h
        obtain ⟨y, hy, ey⟩ := List.mem_map.mp h
        by_cases e2 : y.2 = pts.length
        · have := zh4 (·.2) h2 y hy x hx (e2.trans ex.symm)
          exact .inr (by rw [← ey, this])
        · exact .inl (List.mem_map.mpr ⟨y, List.mem_filter.mpr ⟨hy, decide_eq_true e2⟩, ey⟩)
    · obtain ⟨lot, hl, hm⟩ := ih h1 h2 fun x hx => old x hx fun e => hp (List.mem_map.mpr ⟨x, hx, e⟩)
      exact ⟨lot, .skip hl, hm⟩
end
end M
namespace M
open PySem PySem.Spec PyProof.Rows L2 DL
variable [CA]
def zol (pl : List Pt) (er : Int) (p : Pt) (a : Int) : Prop := ∃ (i : Nat) (q : Pt), a = i ∧ pl[i]? = some q ∧ zrd p q er
theorem zyk {pl : List Pt} {er : Int} : ∀ p a, zol pl er p a → 0 ≤ a ∧ a < pl.length := fun p a ⟨i, q, e, h, _⟩ => by
  have := (List.getElem?_eq_some_iff.mp h).1
  omega
theorem z93 {α : Type} {near : α → Int → Prop} {pts : List α} {p : α} {lot : List Int} : Lot near (pts ++ [p]) lot ↔ Lot near pts lot ∨ ∃ a lot0, Lot near pts lot0 ∧ near p a ∧ a ∉ lot0 ∧ lot = srtT D.int (lot0 ++ [a]) := by
  constructor
  · intro h
    generalize e : pts ++ [p] = ys at h
    cases h with
    | nil => simp at e
    | skip h =>
      obtain ⟨e1, e2⟩ := List.append_inj' e rfl
      subst e1
      exact .inl h
    | take h n hn =>
      obtain ⟨e1, e2⟩ := List.append_inj' e rfl
      subst e1
      cases e2
      exact .inr ⟨_, _, h, n, hn, rfl⟩
  · rintro (h | ⟨a, l0, h, n, hn, rfl⟩)
    · exact .skip h
    · exact .take h n hn
/-- the keys so far -/
structure Shs (S : List Int → Prop) (kvs : List (List Int × Bool)) : Prop where
  nd : (kvs.map (·.1)).Nodup
  mem : ∀ lot, lot ∈ kvs.map (·.1) ↔ S lot
  sub : ∀ lot, S lot → lot.Sublist [0, 1, 2, 3, 4, 5, 6]
theorem Shs.len {S : List Int → Prop} {kvs : List (List Int × Bool)} (h : Shs S kvs) : kvs.length ≤ 128 := by
  have := zeq (xs := zzu [0, 1, 2, 3, 4, 5, 6]) h.nd fun y hy => znv (h.sub y ((h.mem y).mp hy))
  rw [List.length_map] at this
  exact this
theorem Shs.put {S : List Int → Prop} {kvs : List (List Int × Bool)} (h : Shs S kvs) {lot : List Int} (hs : lot.Sublist [0, 1, 2, 3, 4, 5, 6]) : Shs (fun l => S l ∨ l = lot) (aput kvs lot true) :=
  ⟨zer _ _ _ h.nd, fun l => by rw [z4r, h.mem], fun l hl => hl.elim (h.sub l) fun e => by rw [e]; exact hs⟩
theorem Shs.iff {S S' : List Int → Prop} {kvs : List (List Int × Bool)} (h : Shs S kvs) (e : ∀ l, S' l ↔ S l) : Shs S' kvs :=
  ⟨h.nd, fun l => by rw [h.mem, e], fun l hl => h.sub l ((e l).mp hl)⟩
theorem z8c {kvs : List (List Int × Bool)} {S : List Int → Prop} (h : Shs S kvs) {x : D} {G : DHp} {Q : DVK} (hx : dicN x G = some (enc kL D.bl kvs)) (q : ∀ p, G p = none → Q (.ref p) (up G p (.dN (enc kL D.bl kvs)))) : z66 [x] G Q := by
  show (match dicN x G with | some kvs => _ | none => False)
  rw [hx]
  refine ⟨fun p hp => ?_, fun w => ?_, q⟩
  · obtain ⟨y, _, rfl⟩ := List.mem_map.mp hp
    exact ⟨_, rfl⟩
  · have := z14 h.nd (fun s hs => h.sub s ((h.mem s).mp hs)) w
    unfold enc
    rw [List.map_map] at this ⊢
    exact this
theorem zzk {xs ys : List D} {G : DHp} {Q : DVK} (hl : xs.length + ys.length ≤ sizeLine) (q : Q (.nd .tup (xs ++ ys)) G) : dAdd (.nd .tup xs) (.nd .tup ys) G Q := ⟨hl, q⟩
def zed : DRn := fun ds G Q => ∃ (pts pl : List Pt) (er : Int), ds = [eT e3 pts, eL e3 pl, .int er] ∧ pl.length ≤ 7 ∧ ∀ lots : List (List Int), (∀ lot, lot ∈ lots ↔ Lot (zol pl er) pts lot) → Q (eL (eT .int) lots) G
abbrev zhv : List Str := ["points", "places", "error", "found", "point", "late", "at", "place", "lot", "one"]
def zmp : DTS :=
    (dSeq (dAsg (dFz (z7o (dTup dNil) (dC (.bl true)))) (zl 3))
    (dSeq (dFor (za1 (ze 0)) (zl 4)
    (dSeq (dAsg (dCB z66 (zf (ze 3) dNil)) (zl 5))
    (dSeq (dFor (zgt (zf (ze 1) dNil)) (ze2 (z4 (zl 6) (z4 (zl 7) zfc)) 2)
    (dIfS (dAnd (zag (dOp dLe (dCB dAbs (zf (dOp dSub (dOp dIx (ze 4) (dC (.int 0))) (dOp dIx (ze 7) (dC (.int 0)))) dNil)) (ze 2))) (dAnd (zag (dOp dLe (dCB dAbs (zf (dOp dSub (dOp dIx (ze 4) (dC (.int 1))) (dOp dIx (ze 7) (dC (.int 1)))) dNil)) (ze 2))) (zag (dOp dEq (dOp dIx (ze 4) (dC (.int 2))) (dOp dIx (ze 7) (dC (.int 2)))))))
    (dFor (za1 (dFz (dLc (z6m (ze 3)) (zl 9) (zag (dOp (dIn true) (ze 6) (ze 9))) (ze 9) [9]))) (zl 8)
    (dAsg (dC (.bl true)) (zpt (ze 5) (dCB zkn (zf (dFz (dCB zxq (zf (dOp dAdd (ze 8) (dTup (zf (ze 6) dNil))) dNil))) dNil)) dSet)))
    zc7))
    (dFrz 5 (dAsg (ze 5) (zl 3))))))
    (dRet (dFz (dCB z4o (zf (ze 3) dNil))))))
theorem zt0 : ∀ ds G Q, zed ds G Q → ds.length = 3 := fun ds G Q ⟨c, x, y, e, _⟩ => by rw [e]; rfl
/-- the lots behind some places of a point -/
def behind (pl : List Pt) (er : Int) (pts : List Pt) (p : Pt) (j : Nat) (lot : List Int) : Prop := Lot (zol pl er) pts lot ∨ ∃ a lot0, a < (j : Int) ∧ Lot (zol pl er) pts lot0 ∧ zol pl er p a ∧ a ∉ lot0 ∧ lot = srtT D.int (lot0 ++ [a])
theorem z9d (f : Bool → D) (kvs : List (List Int × Bool)) : dicP (eD kL f kvs) = some (kvs.map fun p => (eT .int p.1, f p.2)) := by
  unfold eD dicP enc
  simp only [List.map_map, Option.some.injEq]
  induction kvs with
  | nil => rfl
  | cons x l ih =>
    simp only [List.map_cons, List.zip_cons_cons, Function.comp]
    rw [z8k]
    exact congrArg _ ih
theorem z4x {xs : List Int} {G : DHp} {Q : DVK} (q : ∀ p, G p = none → Q (.ref p) (up G p (.lst ((srtT .int xs).map .int)))) : zxq [eT .int xs] G Q := by
  refine ⟨⟨?_, ?_, ?_, fun d hd => ?_⟩, fun p hp => by rw [zuv]; exact q p hp⟩
  · exact cleans_plain (zdk zp2 xs)
  · rw [List.map_map]; exact PySem.W.AllAlike.of fun a b => by simp [py, PySem.W.alike]
  · rw [List.map_map]; exact PySem.W.Sortable.others fun b => ⟨by simp [py], by simp [py]⟩
  · obtain ⟨a, _, rfl⟩ := List.mem_map.mp hd; rw [zdo]; decide
theorem z9a (f : Bool → D) (kvs : List (List Int × Bool)) (G : DHp) : znl (eD kL f kvs) G = some ((kvs.map (·.1)).map (eT .int)) := by
  unfold znl
  rw [z1p]
  show some _ = some _
  unfold enc
  simp only [List.map_map]
  congr 1
  refine List.map_congr_left fun p _ => ?_
  simp only [Function.comp]
  exact z8k p.1
theorem zac0 {α : Type} {near : α → Int → Prop} {lot : List Int} : Lot near [] lot ↔ lot = [] := by
  constructor
  · intro h
    generalize e : ([] : List α) = ys at h
    cases h with
    | nil => rfl
    | skip h => simp at e
    | take h => simp at e
  · rintro rfl; exact .nil
theorem zuq : ∀ ds G Q, zed ds G Q → zmp { nx := fun _ G' => Q .non G', rt := Q } (zao zhv ds) G := fun ds G Q h => by
  obtain ⟨pts, pl, er, rfl, h6, q⟩ := h
  have sub : ∀ {ps : List Pt} {lot : List Int}, Lot (zol pl er) ps lot → lot.Sublist [0, 1, 2, 3, 4, 5, 6] := fun h => h.sub6 h6 zyk
  have line : 1000000 ≤ sizeLine := by rw [sizeLine_eq]; decide
  simp_arith only [zmp, zhv, z7o]
  intro p hp
  refine ⟨zi, kL [], rfl, ⟨[], rfl⟩, by decide, ?_⟩
  rw [zc1]
  simp_arith only [zi, za3 hp]
  rw [show (DO.dN [(kL [], D.bl true)]).tree = eD kL D.bl [([], true)] from rfl]
  simp_arith only [dFor, za1, eT]
  refine ⟨fun n η G' => ∃ kvs o4 o5 o6 o7 o8 o9, η = [some (eT e3 pts), some (eL e3 pl), some (.int er), some (eD kL .bl kvs), o4, o5, o6, o7, o8, o9] ∧ G' = G ∧ Shs (Lot (zol pl er) (pts.take n)) kvs,
    ⟨[([], true)], none, none, none, none, none, none, rfl, rfl, ⟨by simp, fun l => by rw [List.take_zero, zac0]; simp, fun l h => sub h⟩⟩, fun _ _ _ _ => trivial, ?_, ?_⟩
  · rintro n d η G' hd ⟨kvs, o4, o5, o6, o7, o8, o9, rfl, rfl, sh⟩
    obtain ⟨pt, hpt, rfl⟩ := zaq hd
    simp_arith only [true_and]
    refine z8c sh (z1p kL D.bl kvs _) fun r hr => ?_
    simp_arith only [dFor, zgt, eL]
    refine ⟨fun j η G2 => ∃ kv2 o6 o7 o8 o9, η = [some (eT e3 pts), some (eL e3 pl), some (.int er), some (eD kL .bl kvs), some (e3 pt), some (.ref r), o6, o7, o8, o9] ∧ G2 = up G' r (.dN (enc kL .bl kv2)) ∧ Shs (behind pl er (pts.take n) pt j) kv2,
      ⟨kvs, o6, o7, o8, o9, rfl, rfl, sh.iff fun l => ⟨fun h => h.elim id fun ⟨a, l0, h1, h2, h3, _⟩ => by have := zyk _ _ h3; omega, .inl⟩⟩, fun _ _ _ _ => trivial, ?_, ?_⟩
    · rintro j d η G2 hd ⟨kv2, o6, o7, o8, o9, rfl, rfl, sh2⟩
      obtain ⟨z, hz, rfl⟩ := zgb hd
      obtain ⟨pq, hpq, rfl⟩ := zaq hz
      have step : ¬ zrd pt pq er → Shs (behind pl er (pts.take n) pt (j + 1)) kv2 := fun hn => sh2.iff fun l => or_congr Iff.rfl
        ⟨fun ⟨a, l0, h1, h2, h3, h4⟩ => ⟨a, l0, by
          rcases h3 with ⟨i, q', e1, e2, e3'⟩
          by_cases hi : i = j
          · subst hi; rw [hpq] at e2; cases e2; exact absurd e3' hn
          · omega, h2, h3, h4⟩, fun ⟨a, l0, h1, h2, h3, h4⟩ => ⟨a, l0, by omega, h2, h3, h4⟩⟩
      simp_arith only [true_and]
      refine z6t (z6t ?_)
      simp_arith only [zt8]
      by_cases c1 : ab (pt.1 - pq.1) ≤ er
      · rw [if_pos c1]
        refine z7t (z7t ?_)
        simp_arith only [zt8]
        by_cases c2 : ab (pt.2.1 - pq.2.1) ≤ er
        · rw [if_pos c2]
          refine z8x (z8x ?_)
          simp_arith only [true_and]
          by_cases c3 : pt.2.2 = pq.2.2
          · rw [if_pos c3]
            have near : zrd pt pq er := ⟨c3, c1, c2⟩
            refine ztr (xs := kvs.map (·.1)) (f := eT .int) (fun l => decide ((j : Int) ∉ l)) (eT .int) (by rw [List.length_map]; have := sh.len; omega) (fun R rr => ?_) (fun l hl G1 A B ka kb => ?_) fun w hw => ?_
            · simp_arith only [z6m]
              rw [z9d]
              dsimp only
              rw [List.map_map] at rr ⊢
              exact rr
            · simp_arith only [true_and]
              refine z1k (ds := l.map .int) (.inr rfl) rfl (zdk zp2 l) (by rw [zdo]; decide) (decide ((j : Int) ∈ l)) (by
                rw [decide_eq_true_eq, List.mem_map]
                exact ⟨fun h => ⟨_, h, rfl⟩, fun ⟨x, hx, e⟩ => by cases e; exact hx⟩) ?_
              by_cases hj : (j : Int) ∈ l
              · rw [decide_eq_true hj]
                simp_arith only [true_and]
                exact kb (decide_eq_false fun z => z hj)
              · rw [decide_eq_false hj]
                simp_arith only [true_and]
                exact ka (decide_eq_true hj)
            · simp_arith only [zi, za3 hw]
              generalize hLd : (kvs.map (·.1)).filter (fun l => decide ((j : Int) ∉ l)) = L
              have hLm : ∀ l, l ∈ L ↔ Lot (zol pl er) (pts.take n) l ∧ (j : Int) ∉ l := fun l => by
                rw [← hLd, List.mem_filter, decide_eq_true_eq, sh.mem]
              refine ⟨fun k η G3 => ∃ kv3 o8 o9, η = [some (eT e3 pts), some (eL e3 pl), some (.int er), some (eD kL .bl kvs), some (e3 pt), some (.ref r), some (.int (j : Int)), some (e3 pq), o8, o9] ∧ G3 = up G' r (.dN (enc kL .bl kv3)) ∧ Shs (fun l => behind pl er (pts.take n) pt j l ∨ ∃ l0 ∈ L.take k, l = srtT D.int (l0 ++ [(j : Int)])) kv3,
                ⟨kv2, o8, o9, rfl, rfl, sh2.iff fun l => ⟨fun h => h.elim id fun ⟨l0, h, _⟩ => by simp at h, .inl⟩⟩, fun _ _ _ _ => trivial, ?_, ?_⟩
              · rintro k d η G3 hd ⟨kv3, o8, o9, rfl, rfl, sh3⟩
                obtain ⟨l0, hl0, rfl⟩ := zaq hd
                obtain ⟨m1, m2⟩ := (hLm l0).mp (List.mem_of_getElem? hl0)
                have hl3 := sh3.len
                have hln := m1.nd
                have hlen : l0.length ≤ 7 := by
                  have := (sub m1).length_le
                  simpa using this
                have hsub : (srtT D.int (l0 ++ [(j : Int)])).Sublist [0, 1, 2, 3, 4, 5, 6] := sub (.take m1 ⟨j, pq, rfl, hpq, near⟩ m2)
                simp_arith only [eT]
                refine zzk (by rw [List.length_map, List.length_singleton]; omega) ?_
                rw [show D.nd Kd.tup (l0.map D.int ++ [D.int (j : Int)]) = eT .int (l0 ++ [(j : Int)]) by unfold eT; rw [List.map_append]; rfl]
                refine z4x fun w2 hw2 => ?_
                simp_arith only [zi, za3 hw2]
                rw [zni (ds := (srtT D.int (l0 ++ [(j : Int)])).map .int) rfl]
                refine z2p tkL (a := srtT D.int (l0 ++ [(j : Int)])) (b := true) (f := D.bl) zi (zv (by omega)) ?_
                rw [zc1]
                refine ⟨_, (by repeat (first | exact Le.nil | apply Le.keep | apply Le.drop)), _, _, _, rfl, rfl, (sh3.put hsub).iff fun l => ?_⟩
                rw [zba hl0]
                constructor
                · rintro (h | ⟨l1, h, e⟩)
                  · exact .inl (.inl h)
                  · rcases List.mem_append.mp h with h | h
                    · exact .inl (.inr ⟨l1, h, e⟩)
                    · rw [List.mem_singleton] at h; subst h; exact .inr e
                · rintro ((h | ⟨l1, h, e⟩) | e)
                  · exact .inl h
                  · exact .inr ⟨l1, List.mem_append.mpr (.inl h), e⟩
                  · exact .inr ⟨l0, by simp, e⟩
              · rintro η G3 ⟨kv3, o8, o9, rfl, rfl, sh3⟩
                rw [List.length_map, List.take_length] at sh3
                refine ⟨_, (by repeat (first | exact Le.nil | apply Le.keep | apply Le.drop)), kv3, _, _, _, _, rfl, rfl, sh3.iff fun l => ?_⟩
                constructor
                · rintro (h | ⟨a, l0, h1, h2, h3, h4, e⟩)
                  · exact .inl (.inl h)
                  · by_cases ha : a = (j : Int)
                    · subst ha; exact .inr ⟨l0, (hLm l0).mpr ⟨h2, h4⟩, e⟩
                    · exact .inl (.inr ⟨a, l0, by omega, h2, h3, h4, e⟩)
                · rintro ((h | ⟨a, l0, h1, h2, h3, h4, e⟩) | ⟨l0, h, e⟩)
                  · exact .inl h
                  · exact .inr ⟨a, l0, by omega, h2, h3, h4, e⟩
                  · obtain ⟨m1, m2⟩ := (hLm l0).mp h
                    exact .inr ⟨(j : Int), l0, by omega, m1, ⟨j, pq, rfl, hpq, near⟩, m2, e⟩
          · rw [if_neg c3]
            exact ⟨_, (by repeat (first | exact Le.nil | apply Le.keep | apply Le.drop)), kv2, _, _, _, _, rfl, rfl, step fun z => c3 z.1⟩
        · rw [if_neg c2]
          exact ⟨_, (by repeat (first | exact Le.nil | apply Le.keep | apply Le.drop)), kv2, _, _, _, _, rfl, rfl, step fun z => c2 z.2.2⟩
      · rw [if_neg c1]
        exact ⟨_, (by repeat (first | exact Le.nil | apply Le.keep | apply Le.drop)), kv2, _, _, _, _, rfl, rfl, step fun z => c1 z.2.1⟩
    · rintro η G2 ⟨kv2, o6, o7, o8, o9, rfl, rfl, sh2⟩
      rw [zib, List.length_map] at sh2
      simp_arith only [zi, za3 hr, zab7]
      refine ⟨_, (by repeat (first | exact Le.nil | apply Le.keep | apply Le.drop)), kv2, _, _, _, _, _, _, rfl, rfl, sh2.iff fun l => ?_⟩
      rw [zba hpt, z93]
      refine or_congr Iff.rfl ⟨fun ⟨a, l0, h1, h2, h3, e⟩ => ⟨a, l0, (zyk _ _ h2).2, h1, h2, h3, e⟩, fun ⟨a, l0, _, h1, h2, h3, e⟩ => ⟨a, l0, h1, h2, h3, e⟩⟩
  · rintro η G' ⟨kvs, o4, o5, o6, o7, o8, o9, rfl, rfl, sh⟩
    rw [List.length_map, List.take_length] at sh
    simp_arith only [true_and]
    refine z1b (z9a D.bl kvs _) fun w hw => ?_
    simp_arith only [zi, za3 hw]
    exact q (kvs.map (·.1)) sh.mem
end M
namespace M
open PySem PySem.Spec PyProof.Rows L2 DL
variable [CA]
theorem zabw {s : Sk} {pic : List Pt} {st : Pt} {m : Int} (h0 : 0 ≤ m) (h1 : m < pic.length) {a : Int} : a ∈ nxt (nxL s pic st) m ↔ ∃ p, pic[m.toNat]? = some p ∧ zol (zbe s st) s.cam.er p a := by
  have hl : m.toNat < pic.length := by omega
  unfold nxt nxL
  rw [List.getElem?_map, List.getElem?_eq_getElem hl]
  show a ∈ z2f _ _ _ ↔ _
  unfold z2f
  rw [zvj]
  constructor
  · rintro ⟨i, x, e, hx, hn⟩
    exact ⟨_, rfl, i, x, e, hx, of_decide_eq_true hn⟩
  · rintro ⟨p, e, i, x, e2, hx, hn⟩
    cases e
    exact ⟨i, x, e2, hx, decide_eq_true hn⟩
theorem zk3 {α β : Type} (f : α → β) {l : List α} (h : (l.map f).Nodup) : l.Nodup := by
  induction l with
  | nil => exact List.nodup_nil
  | cons x l ih =>
    rw [List.map_cons, List.nodup_cons] at h
    exact List.nodup_cons.mpr ⟨fun m => h.1 (List.mem_map.mpr ⟨x, m, rfl⟩), ih h.2⟩
theorem Mt.bij {N : List (List Int)} {P : List (Int × Int)} (m : Mt N P) : Bij P := ⟨m.nd, zaa6 m.nd m.inj⟩
theorem Bij.sw {P : List (Int × Int)} (h : Bij P) : Bij (sw P) := ⟨by rw [zyp]; exact h.nd2, by unfold M.sw; rw [List.map_map]; exact h.nd⟩
/-- the lost ones of a lot -/
def z28 (s : Sk) (st : Pt) (lot : List Int) : List Int := (zc5 s st).filter fun a => decide (a ∉ lot)
def z46 (s : Sk) (pic : List Pt) (st : Pt) (lot : List Int) : Prop := (pic.length : Int) - lot.length ≤ s.cam.fa ∧ ((z28 s st lot).length : Int) ≤ s.cam.lo
theorem zph (s : Sk) (st : Pt) : (zc5 s st).Nodup := by rw [znn]; exact z8j _ _
theorem z51 {s : Sk} {pic : List Pt} {st : Pt} (h : FitP s pic st) : ∃ lot, Lot (zol (zbe s st) s.cam.er) pic lot ∧ z46 s pic st lot := by
  obtain ⟨⟨PA, mA, lA⟩, PB, mB, lB⟩ := h
  have b1 : Bij (sw PA) := mA.bij.sw
  have okB : ∀ x ∈ PB, (0 ≤ x.2 ∧ x.2 < (zc5 s st).length) ∧ x.1 ∈ nxt (bkS s pic st) x.2 := fun x hx => by
    have := mB.ok x.1 x.2 (zjs mB.nd hx)
    unfold InR at this
    rw [zrn] at this
    exact this
  let g : Int × Int → Int := fun x => ((zc5 s st)[x.2.toNat]?).getD 0
  have hg : ∀ x ∈ PB, (zc5 s st)[x.2.toNat]? = some (g x) := fun x hx => by
    have := (okB x hx).1
    show _ = some (((zc5 s st)[x.2.toNat]?).getD 0)
    rw [List.getElem?_eq_getElem (by omega)]
    rfl
  have b2 : Bij (PB.map fun x => (x.1, g x)) := by
    refine ⟨by rw [List.map_map]; exact mB.nd, ?_⟩
    rw [List.map_map]
    refine zw3 _ (zk3 _ mB.nd) fun x hx y hy e => ?_
    have e1 := hg x hx
    have e2 := hg y hy
    have e3 : g x = g y := e
    rw [e3] at e1
    have r1 := (okB x hx).1
    have r2 := (okB y hy).1
    have := (List.getElem?_inj (i := x.2.toNat) (j := y.2.toNat) (by omega) (zph s st)).mp (e1.trans e2.symm)
    have e4 : x.2 = y.2 := by omega
    have := mB.inj x.1 y.1 x.2 (zjs mB.nd hx) (by rw [e4]; exact zjs mB.nd hy)
    exact Prod.ext this e4
  obtain ⟨Fd, T⟩ := zad6 b1 b2
  have near : ∀ x ∈ Fd, 0 ≤ x.1 ∧ ∃ p, pic[x.1.toNat]? = some p ∧ zol (zbe s st) s.cam.er p x.2 := fun x hx => by
    rcases T.src x hx with h | h
    · have := mA.ok x.2 x.1 (zjs mA.nd (z8w.mp h))
      obtain ⟨⟨r0, r1⟩, hn⟩ := this
      rw [zws] at r1
      exact ⟨r0, (zabw r0 r1).mp hn⟩
    · obtain ⟨y, hy, e⟩ := List.mem_map.mp h
      cases e
      obtain ⟨⟨r0, r1⟩, hn⟩ := okB y hy
      have hgy := hg y hy
      have hs : g y ∈ zc5 s st := List.mem_of_getElem? hgy
      have hin := z2r hs
      unfold nxt bkS at hn
      rw [List.getElem?_map, hgy] at hn
      have := (zaaz hin.1 hin.2).mp (show y.1 ∈ nxt (bkN (nxL s pic st) s.cs.length) (g y) from hn)
      obtain ⟨⟨q0, q1⟩, hn2⟩ := this
      rw [zws] at q1
      exact ⟨q0, (zabw q0 q1).mp hn2⟩
  obtain ⟨lot, hl, hm⟩ := zaa0 (near := zol (zbe s st) s.cam.er) (pts := pic) (P := Fd.map fun x => (x.2, x.1.toNat)) (by rw [List.map_map]; exact T.bij.nd2) (by
      rw [List.map_map]
      refine zw3 _ (zk3 _ T.bij.nd) fun x hx y hy e => ?_
      have e' : x.1.toNat = y.1.toNat := e
      have h1 := (near x hx).1
      have h2 := (near y hy).1
      exact zh4 (·.1) T.bij.nd x hx y hy (show x.1 = y.1 by omega))
    (fun x hx => by
      obtain ⟨y, hy, e⟩ := List.mem_map.mp hx
      cases e
      exact (near y hy).2)
  rw [List.map_map] at hm
  have hm' : ∀ a, a ∈ lot ↔ a ∈ Fd.map (·.2) := hm
  refine ⟨lot, hl, ?_, ?_⟩
  · have h1 : Fd.length ≤ lot.length := by
      have := zeq (xs := lot) T.bij.nd2 fun y hy => (hm' y).mpr hy
      rwa [List.length_map] at this
    have h2 : PA.length ≤ Fd.length := by
      have := zeq (xs := Fd.map (·.1)) b1.nd fun y hy => by
        obtain ⟨x, hx, rfl⟩ := List.mem_map.mp hy
        obtain ⟨t, ht⟩ := T.dom x hx
        exact List.mem_map.mpr ⟨_, ht, rfl⟩
      rw [List.length_map, List.length_map] at this
      unfold M.sw at this
      rwa [List.length_map] at this
    omega
  · have h1 : ∀ x ∈ PB, g x ∈ lot := fun x hx => by
      obtain ⟨f, hf⟩ := T.img _ (List.mem_map.mpr ⟨x, hx, rfl⟩)
      exact (hm' _).mpr (List.mem_map.mpr ⟨_, hf, rfl⟩)
    have h2 : PB.length ≤ ((zc5 s st).filter fun a => decide (a ∈ lot)).length := by
      have := zeq (xs := (zc5 s st).filter fun a => decide (a ∈ lot)) b2.nd2 fun y hy => by
        rw [List.map_map] at hy
        obtain ⟨x, hx, rfl⟩ := List.mem_map.mp hy
        exact List.mem_filter.mpr ⟨List.mem_of_getElem? (hg x hx), decide_eq_true (h1 x hx)⟩
      rw [List.length_map, List.length_map] at this
      exact this
    have h3 : ∀ l : List Int, (l.filter fun a => decide (a ∈ lot)).length + (l.filter fun a => decide (a ∉ lot)).length = l.length := fun l => by
      induction l with
      | nil => rfl
      | cons a l ih =>
        by_cases ha : a ∈ lot
        · rw [List.filter_cons_of_pos (by simpa using ha), List.filter_cons_of_neg (by simpa using ha), List.length_cons, List.length_cons]; omega
        · rw [List.filter_cons_of_neg (by simpa using ha), List.filter_cons_of_pos (by simpa using ha), List.length_cons, List.length_cons]; omega
    have := h3 (zc5 s st)
    unfold z28
    omega
theorem zaca {lot : List Int} (l : List Int) : (l.filter fun a => decide (a ∈ lot)).length + (l.filter fun a => decide (a ∉ lot)).length = l.length := by
  induction l with
  | nil => rfl
  | cons a l ih =>
    by_cases ha : a ∈ lot
    · rw [List.filter_cons_of_pos (by simpa using ha), List.filter_cons_of_neg (by simpa using ha), List.length_cons, List.length_cons]; omega
    · rw [List.filter_cons_of_neg (by simpa using ha), List.filter_cons_of_pos (by simpa using ha), List.length_cons, List.length_cons]; omega
theorem z63 {s : Sk} {pic : List Pt} {st : Pt} {lot : List Int} (hl : Lot (zol (zbe s st) s.cam.er) pic lot) (g : z46 s pic st lot) : FitP s pic st := by
  obtain ⟨P, h1, h2, h3, h4⟩ := hl.match_
  have len : lot.length ≤ P.length := by
    have := zeq (xs := P.map (·.1)) hl.nd fun y hy => (h4 y).mpr hy
    rwa [List.length_map] at this
  have nx : ∀ x ∈ P, (0 ≤ (x.2 : Int) ∧ (x.2 : Int) < pic.length) ∧ x.1 ∈ nxt (nxL s pic st) (x.2 : Int) := fun x hx => by
    obtain ⟨p, e, n⟩ := h3 x hx
    have hlt := (List.getElem?_eq_some_iff.mp e).1
    exact ⟨⟨by omega, by omega⟩, (zabw (by omega) (by omega)).mpr ⟨p, by rw [Int.toNat_natCast]; exact e, n⟩⟩
  refine ⟨⟨P.map fun x => (x.1, (x.2 : Int)), ⟨by rw [List.map_map]; exact h1, fun a b m ha hb => ?_, fun a m ha => ?_⟩, ?_⟩, ?_⟩
  · obtain ⟨x, hx, ex⟩ := List.mem_map.mp (zop ha)
    obtain ⟨y, hy, ey⟩ := List.mem_map.mp (zop hb)
    cases ex
    have e1 : y.1 = b := congrArg Prod.fst ey
    have e2 : (y.2 : Int) = x.2 := congrArg Prod.snd ey
    have := zh4 (·.2) h2 y hy x hx (by show y.2 = x.2; omega)
    rw [← e1, this]
  · obtain ⟨x, hx, ex⟩ := List.mem_map.mp (zop ha)
    cases ex
    obtain ⟨⟨r0, r1⟩, n⟩ := nx x hx
    exact ⟨⟨r0, by rw [zws]; exact r1⟩, n⟩
  · rw [List.length_map]
    have := g.1
    omega
  · let ix : Int → Nat := fun a => (zc5 s st).idxOf a
    have hix : ∀ a ∈ zc5 s st, (zc5 s st)[ix a]? = some a := fun a ha => by
      have hlt : (zc5 s st).idxOf a < (zc5 s st).length := List.idxOf_lt_length_iff.mpr ha
      rw [List.getElem?_eq_getElem hlt, List.getElem_idxOf hlt]
    have hf : ∀ x, x ∈ P.filter (fun x => decide (x.1 ∈ zc5 s st)) → x ∈ P ∧ x.1 ∈ zc5 s st := fun x hx => by
      rw [List.mem_filter, decide_eq_true_eq] at hx
      exact hx
    have keysnd : (((P.filter fun x => decide (x.1 ∈ zc5 s st)).map fun x => ((x.2 : Int), (ix x.1 : Int))).map (·.1)).Nodup := by
      rw [List.map_map]
      have nd := h2.sublist (List.filter_sublist (l := P) (p := fun x => decide (x.1 ∈ zc5 s st)) |>.map (·.2))
      refine zw3 _ (zk3 _ nd) fun x hx y hy e => zh4 (·.2) h2 x (hf x hx).1 y (hf y hy).1 ?_
      have e' : (x.2 : Int) = (y.2 : Int) := e
      show x.2 = y.2
      omega
    refine ⟨(P.filter fun x => decide (x.1 ∈ zc5 s st)).map fun x => ((x.2 : Int), (ix x.1 : Int)), ⟨keysnd, fun a b m ha hb => ?_, fun a m ha => ?_⟩, ?_⟩
    · obtain ⟨x, hx, ex⟩ := List.mem_map.mp (zop ha)
      obtain ⟨y, hy, ey⟩ := List.mem_map.mp (zop hb)
      cases ex
      have e1 : (y.2 : Int) = b := congrArg Prod.fst ey
      have e2 : (ix y.1 : Int) = ix x.1 := congrArg Prod.snd ey
      have i1 := hix x.1 (hf x hx).2
      have i2 := hix y.1 (hf y hy).2
      rw [show ix y.1 = ix x.1 by omega, i1] at i2
      have := zh4 (·.1) h1 y (hf y hy).1 x (hf x hx).1 (Option.some.inj i2).symm
      rw [← e1, this]
    · obtain ⟨x, hx, ex⟩ := List.mem_map.mp (zop ha)
      cases ex
      have i1 := hix x.1 (hf x hx).2
      have hlt := (List.getElem?_eq_some_iff.mp i1).1
      refine ⟨⟨by omega, by rw [zrn]; omega⟩, ?_⟩
      unfold nxt bkS
      rw [List.getElem?_map, Int.toNat_natCast, i1]
      have hin := z2r (hf x hx).2
      show (x.2 : Int) ∈ nxt (bkN (nxL s pic st) s.cs.length) x.1
      obtain ⟨⟨r0, r1⟩, n⟩ := nx x (hf x hx).1
      exact (zaaz hin.1 hin.2).mpr ⟨⟨r0, by rw [zws]; exact r1⟩, n⟩
    · rw [List.length_map]
      have e1 := zaca (lot := lot) (zc5 s st)
      have e2 : ((zc5 s st).filter fun a => decide (a ∈ lot)).length ≤ (P.filter fun x => decide (x.1 ∈ zc5 s st)).length := by
        have := zeq (xs := (P.filter fun x => decide (x.1 ∈ zc5 s st)).map (·.1)) ((zph s st).filter fun a => decide (a ∈ lot)) fun y hy => by
          rw [List.mem_filter, decide_eq_true_eq] at hy
          obtain ⟨x, hx, e⟩ := List.mem_map.mp ((h4 y).mpr hy.2)
          exact List.mem_map.mpr ⟨x, List.mem_filter.mpr ⟨hx, decide_eq_true (by rw [e]; exact hy.1)⟩, e⟩
        rwa [List.length_map] at this
      have := g.2
      unfold z28 at this
      omega
theorem zz3 {s : Sk} {pic : List Pt} {st : Pt} {lots : List (List Int)} (h : ∀ lot, lot ∈ lots ↔ Lot (zol (zbe s st) s.cam.er) pic lot) : fitb s pic st = true ↔ ∃ lot ∈ lots, z46 s pic st lot := by
  rw [zjy]
  constructor
  · intro f
    obtain ⟨lot, hl, g⟩ := z51 f
    exact ⟨lot, (h lot).mpr hl, g⟩
  · rintro ⟨lot, hl, g⟩
    exact z63 ((h lot).mp hl) g
end M
namespace M
open PySem PySem.Spec PyProof.Rows L2 DL
variable [CA]
/-- a picture fits by one matching of craters with numbers of points -/
structure FitM (s : Sk) (pic : List Pt) (st : Pt) (P : List (Int × Nat)) : Prop where
  nd : (P.map (·.1)).Nodup
  nd2 : (P.map (·.2)).Nodup
  near : ∀ x ∈ P, ∃ p, pic[x.2]? = some p ∧ zol (zbe s st) s.cam.er p x.1
  fa : (pic.length : Int) - P.length ≤ s.cam.fa
  lo : (((zc5 s st).filter fun a => decide (a ∉ P.map (·.1))).length : Int) ≤ s.cam.lo
theorem zaf2 {s : Sk} {pic : List Pt} {st : Pt} (h : FitP s pic st) : ∃ P, FitM s pic st P := by
  obtain ⟨lot, hl, g1, g2⟩ := z51 h
  obtain ⟨P, h1, h2, h3, h4⟩ := hl.match_
  refine ⟨P, h1, h2, h3, ?_, ?_⟩
  · have := zeq (xs := P.map (·.1)) hl.nd fun y hy => (h4 y).mpr hy
    rw [List.length_map] at this
    omega
  · unfold z28 at g2
    rw [show (fun a => decide (a ∉ P.map (·.1))) = fun a => decide (a ∉ lot) by funext a; rw [decide_eq_decide]; exact not_congr (h4 a)]
    exact g2
theorem zaew {s : Sk} {pic : List Pt} {st : Pt} {P : List (Int × Nat)} (h : FitM s pic st P) : FitP s pic st := by
  obtain ⟨lot, hl, hm⟩ := zaa0 h.nd h.nd2 h.near
  refine z63 hl ⟨?_, ?_⟩
  · have := zeq (xs := lot) h.nd fun y hy => (hm y).mpr hy
    rw [List.length_map] at this
    have := h.fa
    omega
  · unfold z28
    rw [show (fun a => decide (a ∉ lot)) = fun a => decide (a ∉ P.map (·.1)) by funext a; rw [decide_eq_decide]; exact not_congr (hm a)]
    exact h.lo
theorem zacm {α : Type} {l1 l2 : List α} (h : l1.Perm l2) : ∃ σ : Nat → Nat, (∀ i < l1.length, l2[σ i]? = l1[i]?) ∧ ∀ i j, i < l1.length → j < l1.length → σ i = σ j → i = j := by
  induction h with
  | nil => exact ⟨id, fun i h => (by simp at h), fun i j h => (by simp at h)⟩
  | @cons x l1 l2 _ ih =>
    obtain ⟨σ, h1, h2⟩ := ih
    refine ⟨fun i => if i = 0 then 0 else σ (i - 1) + 1, fun i hi => ?_, fun i j hi hj e => ?_⟩
    · cases i with
      | zero => rfl
      | succ i =>
        rw [List.length_cons] at hi
        simp only [Nat.add_one_ne_zero, if_false, Nat.add_sub_cancel, List.getElem?_cons_succ]
        exact h1 i (by omega)
    · rw [List.length_cons] at hi hj
      cases i with
      | zero => cases j with
        | zero => rfl
        | succ j => simp at e
      | succ i => cases j with
        | zero => simp at e
        | succ j =>
          simp only [Nat.add_one_ne_zero, if_false, Nat.add_sub_cancel, Nat.add_right_cancel_iff] at e
          have := h2 i j (by omega) (by omega) e
          omega
  | @swap x y l =>
    refine ⟨fun i => if i = 0 then 1 else if i = 1 then 0 else i, fun i hi => ?_, fun i j hi hj e => ?_⟩
    · match i with
      | 0 => rfl
      | 1 => rfl
      | i + 2 => simp
    · match i, j with
      | 0, 0 => rfl
      | 0, 1 => simp at e
      | 0, j + 2 => simp at e
      | 1, 0 => simp at e
      | 1, 1 => rfl
      | 1, j + 2 => simp at e
      | i + 2, 0 => simp at e
      | i + 2, 1 => simp at e
      | i + 2, j + 2 => simpa using e
  | @trans l1 l2 l3 p q ih1 ih2 =>
    obtain ⟨σ, h1, h2⟩ := ih1
    obtain ⟨τ, g1, g2⟩ := ih2
    have hs : ∀ i < l1.length, σ i < l2.length := fun i hi => by
      have := h1 i hi
      rw [List.getElem?_eq_getElem hi] at this
      exact (List.getElem?_eq_some_iff.mp this).1
    refine ⟨fun i => τ (σ i), fun i hi => ?_, fun i j hi hj e => ?_⟩
    · rw [g1 _ (hs i hi), h1 i hi]
    · exact h2 i j hi hj (g2 _ _ (hs i hi) (hs j hj) e)
theorem zyc {s : Sk} {pic pic' : List Pt} {st : Pt} (p : pic.Perm pic') (h : FitP s pic st) : FitP s pic' st := by
  obtain ⟨P, m⟩ := zaf2 h
  obtain ⟨σ, h1, h2⟩ := zacm p
  have hlt : ∀ x ∈ P, x.2 < pic.length := fun x hx => by
    obtain ⟨q, e, _⟩ := m.near x hx
    exact (List.getElem?_eq_some_iff.mp e).1
  refine zaew (P := P.map fun x => (x.1, σ x.2)) ⟨by rw [List.map_map]; exact m.nd, ?_, fun x hx => ?_, by rw [List.length_map, ← p.length_eq]; exact m.fa, by rw [List.map_map]; exact m.lo⟩
  · rw [List.map_map]
    refine zw3 _ (zk3 _ m.nd) fun x hx y hy e => ?_
    exact zh4 (·.2) m.nd2 x hx y hy (h2 x.2 y.2 (hlt x hx) (hlt y hy) e)
  · obtain ⟨y, hy, e⟩ := List.mem_map.mp hx
    cases e
    obtain ⟨q, e, n⟩ := m.near y hy
    exact ⟨q, by rw [h1 _ (hlt y hy)]; exact e, n⟩
end M
namespace M
open PySem PySem.Spec PyProof.Rows L2 DL
variable [CA]
def zf8 : DRn := fun ds G Q => ∃ (s : Sk) (pic : List Pt) (st : Pt), ds = [sD s, eT e3 pic, e3 st] ∧ s.cs.length ≤ 7 ∧ pic.length ≤ 1000 ∧ Q (.bl (fitb s pic st)) G
abbrev zkg : List Str := ["sky", "picture", "standing", "places", "camera", "sure", "at", "place", "lot", "lost"]
def zo1 : DTS :=
    (dSeq (dPar 3 4 (zf (zo5 CA.Sky "places" zbi (ze 0) (zf (ze 2) dNil)) (zf (dFld CA.Sky "camera" (ze 0)) dNil)))
    (dSeq (dAsg (zi7 dNil) (zl 5))
    (dSeq (dFor (zgt (zf (ze 3) dNil)) (ze2 (z4 (zl 6) (z4 (zl 7) zfc)) 2)
    (dIfS (dAnd (zag (zie dLe dLt (dFld CA.Camera "error" (ze 4)) (dOp dIx (ze 7) (dC (.int 0))) (dOp dSub (dFld CA.Camera "width" (ze 4)) (dFld CA.Camera "error" (ze 4))))) (zag (zie dLe dLt (dFld CA.Camera "error" (ze 4)) (dOp dIx (ze 7) (dC (.int 1))) (dOp dSub (dFld CA.Camera "height" (ze 4)) (dFld CA.Camera "error" (ze 4))))))
    (zh0 (dM "list" zgp (ze 5) (zf (ze 6) dNil)))
    zc7))
    (dFrz 5 (dSeq (dFor (za1 (dCB zed (zf (ze 1) (zf (ze 3) (zf (dFld CA.Camera "error" (ze 4)) dNil))))) (zl 8)
    (dSeq (dAsg (dLc (za1 (ze 5)) (zl 6) (zag (dOp (dIn true) (ze 6) (ze 8))) (ze 6) [6]) (zl 9))
    (dFrz 9 (dIfS (dAnd (zag (dOp dLe (dOp dSub (dCB dLen (zf (ze 1) dNil)) (dCB dLen (zf (ze 8) dNil))) (dFld CA.Camera "false" (ze 4)))) (zag (dOp dLe (dCB dLen (zf (ze 9) dNil)) (dFld CA.Camera "lost" (ze 4)))))
    (dRet (dC (.bl true)))
    zc7))))
    (dRet (dC (.bl false))))))))
theorem zxg : ∀ ds G Q, zf8 ds G Q → ds.length = 3 := fun ds G Q ⟨c, x, y, e, _⟩ => by rw [e]; rfl
theorem z8t (s : Sk) (st : Pt) : (zbe s st).length = s.cs.length := by unfold zbe; rw [List.length_map]
theorem z7c {xs : List Int} {G : DHp} {Q : DVK} : dLen [eT .int xs] G Q = Q (.int xs.length) G := by
  rw [zps (ds := xs.map .int) rfl, List.length_map]
theorem z52 {xs : List Int} {G : DHp} {Q : DVK} : dLen [eL .int xs] G Q = Q (.int xs.length) G := by
  rw [zps (ds := xs.map .int) rfl, List.length_map]
theorem zy0 : ∀ ds G Q, zf8 ds G Q → zo1 { nx := fun _ G' => Q .non G', rt := Q } (zao zkg ds) G := fun ds G Q h => by
  obtain ⟨s, pic, st, rfl, h6, hp1, q⟩ := h
  simp_arith only [zo1, zkg, zo5, dFld, zln]
  refine ⟨ztj (by decide), s, st, rfl, by omega, ?_⟩
  simp_arith only [true_and]
  intro p hp
  simp_arith only [dFor, zgt, eL]
  refine ⟨fun i η G' => ∃ o6 o7 o8 o9, η = [some (sD s), some (eT e3 pic), some (e3 st), some (eL e3 (zbe s st)), some (cD s.cam), some (.ref p), o6, o7, o8, o9] ∧ G' = up G p (.lst ((whr (fun q => decide (inC s.cam q.1 q.2.1 (0 - s.cam.er))) ((zbe s st).take i)).map .int)), ⟨none, none, none, none, rfl, rfl⟩, fun _ _ _ _ => trivial, ?_, ?_⟩
  · rintro i d η G' hd ⟨o6, o7, o8, o9, rfl, rfl⟩
    obtain ⟨z, hz, rfl⟩ := zgb hd
    obtain ⟨x, hx, rfl⟩ := zaq hz
    have hwl : (whr (fun q => decide (inC s.cam q.1 q.2.1 (0 - s.cam.er))) ((zbe s st).take i)).length ≤ 7 := by
      refine Nat.le_trans (zzb _ _) ?_
      rw [List.length_take, z8t]
      omega
    have no : ¬ inC s.cam x.1 x.2.1 (0 - s.cam.er) → whr (fun q => decide (inC s.cam q.1 q.2.1 (0 - s.cam.er))) ((zbe s st).take (i + 1)) = whr (fun q => decide (inC s.cam q.1 q.2.1 (0 - s.cam.er))) ((zbe s st).take i) := fun hn => by
      rw [zsx _ hx, decide_eq_false hn]
      simp
    simp_arith only [dFld, zsz, zpu, zun]
    refine z6t ?_
    simp_arith only [true_and]
    by_cases a1 : s.cam.er ≤ x.1
    · rw [if_pos a1]
      by_cases a2 : x.1 < s.cam.w - s.cam.er
      · rw [if_pos a2]
        refine z7t ?_
        simp_arith only [true_and]
        by_cases a3 : s.cam.er ≤ x.2.1
        · rw [if_pos a3]
          by_cases a4 : x.2.1 < s.cam.h - s.cam.er
          · rw [if_pos a4]
            have yes : inC s.cam x.1 x.2.1 (0 - s.cam.er) := by unfold inC; omega
            refine ⟨by simp only [tyD, zi], (zh5 (y := .int (i : Int)) zi (zv (by rw [List.length_map]; omega)) ?_).2⟩
            rw [zc1]
            refine ⟨_, (by repeat (first | exact Le.nil | apply Le.keep | apply Le.drop)), _, _, _, _, rfl, ?_⟩
            rw [zsx _ hx, decide_eq_true yes, List.map_append]
            rfl
          · rw [if_neg a4]
            exact ⟨_, (by repeat (first | exact Le.nil | apply Le.keep | apply Le.drop)), _, _, _, _, rfl, by rw [no (fun z => by unfold inC at z; omega)]⟩
        · rw [if_neg a3]
          exact ⟨_, (by repeat (first | exact Le.nil | apply Le.keep | apply Le.drop)), _, _, _, _, rfl, by rw [no (fun z => by unfold inC at z; omega)]⟩
      · rw [if_neg a2]
        exact ⟨_, (by repeat (first | exact Le.nil | apply Le.keep | apply Le.drop)), _, _, _, _, rfl, by rw [no (fun z => by unfold inC at z; omega)]⟩
    · rw [if_neg a1]
      exact ⟨_, (by repeat (first | exact Le.nil | apply Le.keep | apply Le.drop)), _, _, _, _, rfl, by rw [no (fun z => by unfold inC at z; omega)]⟩
  · rintro η G' ⟨o6, o7, o8, o9, rfl, rfl⟩
    rw [zib, List.length_map, List.take_length, ← znn]
    simp_arith only [zi, za3 hp, dFld, zsz, za1]
    rw [show (DO.lst ((zc5 s st).map D.int)).tree = eL .int (zc5 s st) from rfl]
    refine ⟨pic, zbe s st, s.cam.er, rfl, by rw [z8t]; exact h6, fun lots hm => ?_⟩
    rw [show eL (eT D.int) lots = D.nd Kd.lst (lots.map (eT .int)) from rfl]
    dsimp only
    refine ⟨fun i η G' => ∃ o6 o7 o8 o9, η = [some (sD s), some (eT e3 pic), some (e3 st), some (eL e3 (zbe s st)), some (cD s.cam), some (eL .int (zc5 s st)), o6, o7, o8, o9] ∧ G' = G ∧ ∀ lot ∈ lots.take i, ¬ z46 s pic st lot, ⟨o6, o7, o8, o9, rfl, rfl, by simp⟩, fun _ _ _ _ => trivial, ?_, ?_⟩
    · rintro i d η G' hd ⟨o6, o7, o8, o9, rfl, rfl, bad⟩
      obtain ⟨lot, hlot, rfl⟩ := zaq hd
      have hsl := zyt s st
      simp_arith only [true_and]
      refine ztr (xs := zc5 s st) (f := .int) (fun a => decide (a ∉ lot)) .int (by omega) (fun R rr => by simp_arith only [za1, eL]; exact rr) (fun a ha G1 A B ka kb => ?_) fun w hw => ?_
      · simp_arith only [true_and]
        refine z1k (ds := lot.map .int) (.inr rfl) rfl (zdk zp2 lot) (by rw [zdo]; decide) (decide (a ∈ lot)) (by
          rw [decide_eq_true_eq, List.mem_map]
          exact ⟨fun h => ⟨_, h, rfl⟩, fun ⟨x, hx, e⟩ => by cases e; exact hx⟩) ?_
        by_cases hj : a ∈ lot
        · rw [decide_eq_true hj]
          simp_arith only [true_and]
          exact kb (decide_eq_false fun z => z hj)
        · rw [decide_eq_false hj]
          simp_arith only [true_and]
          exact ka (decide_eq_true hj)
      · simp_arith only [zi, za3 hw, zhk, z7c, dFld, z3t, z8i]
        rw [show (DO.lst (((zc5 s st).filter fun a => decide (a ∉ lot)).map D.int)).tree = eL .int (z28 s st lot) from rfl]
        simp_arith only [z52]
        have snoc : ¬ z46 s pic st lot → ∀ l ∈ lots.take (i + 1), ¬ z46 s pic st l := fun hb l hl => by
          rw [zba hlot] at hl
          rcases List.mem_append.mp hl with hl | hl
          · exact bad l hl
          · rw [List.mem_singleton] at hl; rw [hl]; exact hb
        by_cases g1 : (pic.length : Int) - lot.length ≤ s.cam.fa
        · rw [if_pos g1]
          by_cases g2 : ((z28 s st lot).length : Int) ≤ s.cam.lo
          · rw [if_pos g2]
            rw [(zz3 hm).mpr ⟨lot, List.mem_of_getElem? hlot, g1, g2⟩] at q
            exact q
          · rw [if_neg g2]
            exact ⟨_, (by repeat (first | exact Le.nil | apply Le.keep | apply Le.drop)), _, _, _, _, rfl, rfl, snoc fun z => g2 z.2⟩
        · rw [if_neg g1]
          exact ⟨_, (by repeat (first | exact Le.nil | apply Le.keep | apply Le.drop)), _, _, _, _, rfl, rfl, snoc fun z => g1 z.1⟩
    · rintro η G' ⟨o6, o7, o8, o9, rfl, rfl, bad⟩
      rw [List.length_map, List.take_length] at bad
      have e : fitb s pic st = false := by
        cases e : fitb s pic st with
        | false => rfl
        | true =>
          obtain ⟨lot, hl, g⟩ := (zz3 hm).mp e
          exact absurd g (bad lot hl)
      rw [e] at q
      exact q
end M
namespace M
open PySem PySem.Spec PyProof.Rows L2 DL
variable [CA]
structure OkSI (tu : List Int) (ar : Int × Int × Int × Int) : Prop where
  ne : tu ≠ []
  t3 : ∀ t ∈ tu, 0 ≤ t ∧ t ≤ 3
  asc : tu.Pairwise (· < ·)
  tl : tu.length ≤ 4
  a1 : -1000000 ≤ ar.1 ∧ ar.1 ≤ ar.2.1 ∧ ar.2.1 ≤ 1000000
  a2 : -1000000 ≤ ar.2.2.1 ∧ ar.2.2.1 ≤ ar.2.2.2 ∧ ar.2.2.2 ≤ 1000000
  few : (tu.length : Int) * (ar.2.1 - ar.1 + 1) * (ar.2.2.2 - ar.2.2.1 + 1) ≤ 40000
def zbq : DRn := fun ds G Q => ∃ (x : Addr) (s : Sk), ds = [.ref x, gD s.cs, cD s.cam, eT .int s.tu, e4 s.ar] ∧ G x = some (.ins CA.Sky []) ∧ OkSI s.tu s.ar ∧
  Q .non (up G x (.ins CA.Sky [("ground", gD s.cs), ("camera", cD s.cam), ("turns", eT .int s.tu), ("area", e4 s.ar)]))
abbrev zfp : List Str := ["self", "ground", "camera", "turns", "area", "turn", "one", "other", "number"]
def zjo : DTS :=
    (dIfS (dOr (dNot (zag (dCB (dIsi isT) (zf (ze 3) (zf (dC (.ty "tuple")) dNil))))) (dOr (zag (dOp dEq (ze 3) (dTup dNil))) (dNot (zag (dCB dAll (zf (dFz (dLc (za1 (ze 3)) (zl 5) dYes (dCB zah (zf (ze 5) (zf (dC (.int 0)) (zf (dC (.int 3)) dNil)))) [5])) dNil))))))
    zlp
    zc7)
def zjl : DTS :=
    (dIfS (dNot (zag (dCB dAll (zf (dFz (dLc (zacx (zf (ze 3) (zf (zk7 dSl (ze 3) (zp1 (dC (.int 1))) zhs) dNil))) (ze2 (z4 (zl 6) (z4 (zl 7) zfc)) 2) dYes (dOp dLt (ze 6) (ze 7)) [6, 7])) dNil))))
    zlp
    zc7)
def zjj : DTS :=
    (dIfS (dOr (dNot (zag (dCB (dIsi isT) (zf (ze 4) (zf (dC (.ty "tuple")) dNil))))) (zag (dOp dNe (dCB dLen (zf (ze 4) dNil)) (dC (.int 4)))))
    zlp
    zc7)
def zjk : DTS :=
    (dIfS (dNot (zag (dCB dAll (zf (dFz (dLc (za1 (ze 4)) (zl 8) dYes (dCB zah (zf (ze 8) (zf (dOp dSub (dC (.int 0)) (dC (.int 1000000))) (zf (dC (.int 1000000)) dNil)))) [8])) dNil))))
    zlp
    zc7)
def zjh : DTS :=
    (dIfS (dOr (zag (dOp dGt (dOp dIx (ze 4) (dC (.int 0))) (dOp dIx (ze 4) (dC (.int 1))))) (zag (dOp dGt (dOp dIx (ze 4) (dC (.int 2))) (dOp dIx (ze 4) (dC (.int 3))))))
    zlp
    zc7)
def zjg : DTS :=
    (dIfS (zag (dOp dGt (dOp dMul (dOp dMul (dCB dLen (zf (ze 3) dNil)) (dOp dAdd (dOp dSub (dOp dIx (ze 4) (dC (.int 1))) (dOp dIx (ze 4) (dC (.int 0)))) (dC (.int 1)))) (dOp dAdd (dOp dSub (dOp dIx (ze 4) (dC (.int 3))) (dOp dIx (ze 4) (dC (.int 2)))) (dC (.int 1)))) (dC (.int 40000))))
    zlp
    zc7)
def zm2 : DTS :=
    (zq3 CA.Sky "ground" (ze 0) (ze 1))
def zmt : DTS :=
    (zq3 CA.Sky "camera" (ze 0) (ze 2))
def zmy : DTS :=
    (zq3 CA.Sky "turns" (ze 0) (ze 3))
def zmu : DTS :=
    (zq3 CA.Sky "area" (ze 0) (ze 4))
def zmv : DTS :=
    zmu
def zm7 : DTS :=
    (dSeq zmy zmv)
def zmw : DTS :=
    (dSeq zmt zm7)
def zmz : DTS :=
    (dSeq zm2 zmw)
def zm5 : DTS :=
    (dSeq zjg zmz)
def zmx : DTS :=
    (dSeq zjh zm5)
def zm0 : DTS :=
    (dSeq zjk zmx)
def zm3 : DTS :=
    (dSeq zjj zm0)
def zm4 : DTS :=
    (dSeq zjl zm3)
def zor : DTS :=
    (dSeq zjo zm4)
theorem zsu : ∀ ds G Q, zbq ds G Q → ds.length = 5 := fun ds G Q ⟨x, c, e, _⟩ => by rw [e]; rfl
def stSk (x : Addr) (s : Sk) : DSt := [some (.ref x), some (gD s.cs), some (cD s.cam), some (eT .int s.tu), some (e4 s.ar), none, none, none, none]
theorem zae1 {F : zla} {x : Addr} {s : Sk} {G : DHp} (ok : OkSI s.tu s.ar) (k : F.nx (stSk x s) G) : zjo F (stSk x s) G := by
  simp_arith only [zjo, stSk, eT, zg8]
  refine zabi (zs1 (f := .int) zp2 s.tu) rfl (Nat.le_trans (zs9 (B := 0) (f := .int) (fun a => Nat.le_of_eq (zdo a)) s.tu) (by decide)) (show PyData.depth (py (.nd .tup [])) ≤ 64 by decide) false ⟨fun z => (by cases z), fun z => ?_⟩ ?_
  · exfalso
    have z2 : D.nd .tup (s.tu.map .int) = .nd .tup [] := z
    have z3 : s.tu.map D.int = [] := by injection z2
    exact ok.ne (List.map_eq_nil_iff.mp z3)
  · simp_arith only [true_and]
    refine zky (xs := s.tu) (f := .int) (fun t : Int => .bl (decide (0 ≤ t ∧ t ≤ 3))) (by have := ok.tl; omega) (fun R r => by simp_arith only [za1]; exact r) (fun t ht G1 A a => ?_) fun p hp => ?_
    · simp_arith only [true_and]
      exact .inl ⟨_, _, _, rfl, rfl, rfl, a⟩
    · simp_arith only [zi, za3 hp, DO.tree]
      refine zt1 ?_
      rw [List.all_eq_true.mpr fun t ht => decide_eq_true (ok.t3 t ht)]
      simp_arith only [true_and]
      exact k
theorem zad9 {F : zla} {x : Addr} {s : Sk} {G : DHp} (ok : OkSI s.tu s.ar) (k : F.nx (stSk x s) G) : zjl F (stSk x s) G := by
  simp_arith only [zjl, stSk]
  refine zky (xs := s.tu.zip (s.tu.drop 1)) (f := e2) (fun t : Int × Int => .bl (decide (t.1 < t.2))) (by have := ok.tl; rw [List.length_zip]; omega) (fun R r => ?_) (fun t ht G1 A a => ?_) fun p hp => ?_
  · simp_arith only [zacx, eT]
    unfold dSl
    have e : cutD (s.tu.map D.int) (some 1) none = (s.tu.drop 1).map .int := by
      have := zaao (s.tu.map D.int) 1
      rw [List.map_drop]
      exact this
    dsimp only [der]
    rw [e]
    have e2' : zipL (s.tu.map D.int) ((s.tu.drop 1).map .int) = (s.tu.zip (s.tu.drop 1)).map e2 := by
      unfold zipL
      rw [List.zipWith_map, List.zip, List.map_zipWith]
      rfl
    rw [e2']
    exact r
  · simp_arith only [e2]
    exact a
  · simp_arith only [zi, za3 hp, DO.tree]
    refine zt1 ?_
    rw [List.all_eq_true.mpr fun t ht => decide_eq_true ?_]
    · simp_arith only [true_and]
      exact k
    · obtain ⟨i, hi, e⟩ := List.getElem_of_mem ht
      rw [List.length_zip, List.length_drop] at hi
      rw [List.getElem_zip, List.getElem_drop] at e
      rw [← e]
      exact (List.pairwise_iff_getElem.mp ok.asc) i (1 + i) (by omega) (by omega) (by omega)
theorem zaer {F : zla} {x : Addr} {s : Sk} {G : DHp} (k : F.nx (stSk x s) G) : zjj F (stSk x s) G := by
  simp_arith only [zjj, stSk, e4, zg8]
  rw [len4]
  simp_arith only [true_and]
  rw [if_neg (by decide)]
  exact k
theorem zadw {F : zla} {x : Addr} {s : Sk} {G : DHp} (ok : OkSI s.tu s.ar) (k : F.nx (stSk x s) G) : zjk F (stSk x s) G := by
  simp_arith only [zjk, stSk]
  have a1 := ok.a1
  have a2 := ok.a2
  refine zky (xs := [s.ar.1, s.ar.2.1, s.ar.2.2.1, s.ar.2.2.2]) (f := .int) (fun t : Int => .bl (decide (0 - 1000000 ≤ t ∧ t ≤ 1000000))) (show 4 ≤ 1000000 by omega) (fun R r => by simp_arith only [za1, e4]; exact r) (fun t ht G1 A a => ?_) fun p hp => ?_
  · simp_arith only [true_and]
    exact .inl ⟨_, _, _, rfl, rfl, rfl, a⟩
  · simp_arith only [zi, za3 hp, DO.tree]
    refine zt1 (xs := [s.ar.1, s.ar.2.1, s.ar.2.2.1, s.ar.2.2.2]) (b := fun t : Int => decide (0 - 1000000 ≤ t ∧ t ≤ 1000000)) ?_
    rw [List.all_eq_true.mpr fun t ht => decide_eq_true ?_]
    · simp_arith only [true_and]
      exact k
    · simp only [List.mem_cons, List.not_mem_nil, or_false] at ht
      rcases ht with rfl | rfl | rfl | rfl <;> omega
theorem zaek {F : zla} {x : Addr} {s : Sk} {G : DHp} (ok : OkSI s.tu s.ar) (k : F.nx (stSk x s) G) : zjh F (stSk x s) G := by
  simp_arith only [zjh, stSk]
  have a1 := ok.a1
  have a2 := ok.a2
  refine zsa (by decide) rfl (zsa (by decide) rfl ?_)
  simp_arith only [true_and]
  rw [if_neg (by omega)]
  refine zsa (by decide) rfl (zsa (by decide) rfl ?_)
  simp_arith only [true_and]
  rw [if_neg (by omega)]
  exact k
theorem zaem {F : zla} {x : Addr} {s : Sk} {G : DHp} (ok : OkSI s.tu s.ar) (k : F.nx (stSk x s) G) : zjg F (stSk x s) G := by
  simp_arith only [zjg, stSk, zhk]
  have a1 := ok.a1
  have a2 := ok.a2
  have tl := ok.tl
  refine zsa (by decide) rfl (zsa (by decide) rfl ?_)
  simp_arith only [true_and]
  refine ⟨zgu (by omega), ?_⟩
  refine zsa (by decide) rfl (zsa (by decide) rfl ?_)
  simp_arith only [true_and]
  refine ⟨?_, ?_⟩
  · exact .inr ⟨by omega, by omega⟩
  · have := ok.few
    rw [if_neg (by omega)]
    exact k
theorem zss : ∀ ds G Q, zbq ds G Q → zor { nx := fun _ G' => Q .non G', rt := Q } (zao zfp ds) G := fun ds G Q h => by
  obtain ⟨x, s, rfl, hG, ok, q⟩ := h
  refine zae1 ok ?_
  dsimp only [zm4, dSeq]
  refine zad9 ok ?_
  dsimp only [zm3, dSeq]
  refine zaer ?_
  dsimp only [zm0, dSeq]
  refine zadw ok ?_
  dsimp only [zmx, dSeq]
  refine zaek ok ?_
  dsimp only [zm5, dSeq]
  refine zaem ok ?_
  dsimp only [zmz, zm2, dSeq]
  refine zqp (fs' := [("ground", gD s.cs)]) (fun R r => r) (fun R r => r) hG (by decide) rfl ?_
  dsimp only [zmw, zmt, dSeq]
  refine zqp (fs' := [("ground", gD s.cs), ("camera", cD s.cam)]) (fun R r => r) (fun R r => r) zi (by show _ < 1000; simp) rfl ?_
  rw [zc1]
  dsimp only [zm7, zmy, dSeq]
  refine zqp (fs' := [("ground", gD s.cs), ("camera", cD s.cam), ("turns", eT .int s.tu)]) (fun R r => r) (fun R r => r) zi (by show _ < 1000; simp) rfl ?_
  rw [zc1]
  dsimp only [zmv, zmu, dSeq]
  refine zqp (fs' := [("ground", gD s.cs), ("camera", cD s.cam), ("turns", eT .int s.tu), ("area", e4 s.ar)]) (fun R r => r) (fun R r => r) zi (by show _ < 1000; simp) rfl ?_
  rw [zc1]
  exact q
end M
namespace M
open PySem PySem.Spec PyProof.Rows L2 DL
abbrev Ce := Int × Int
def tch (a b : Ce) : Prop := (-1 ≤ a.1 - b.1 ∧ a.1 - b.1 ≤ 1) ∧ -1 ≤ a.2 - b.2 ∧ a.2 - b.2 ≤ 1
instance (a b : Ce) : Decidable (tch a b) := by unfold tch; infer_instance
theorem zs8 (a : Ce) : tch a a := by unfold tch; omega
theorem zy1 {a b : Ce} (h : tch a b) : tch b a := by unfold tch at h ⊢; omega
/-- from x to y through cells of S -/
inductive Way2 (S : List Ce) (x : Ce) : Ce → Prop
  | here : x ∈ S → Way2 S x x
  | on {y z : Ce} : Way2 S x y → z ∈ S → tch y z → Way2 S x z
theorem Way2.mono {S T : List Ce} (h : ∀ x ∈ S, x ∈ T) {x y : Ce} (w : Way2 S x y) : Way2 T x y := by
  induction w with
  | here hx => exact .here (h _ hx)
  | on _ hz t ih => exact .on ih (h _ hz) t
theorem Way2.last {S : List Ce} {x y : Ce} (w : Way2 S x y) : y ∈ S := by
  cases w with
  | here h => exact h
  | on _ h _ => exact h
theorem Way2.trans {S : List Ce} {x y z : Ce} (w : Way2 S x y) (v : Way2 S y z) : Way2 S x z := by
  induction v with
  | here _ => exact w
  | on _ hz t ih => exact .on ih hz t
theorem Way2.symm {S : List Ce} {x y : Ce} (w : Way2 S x y) : Way2 S y x := by
  induction w with
  | here h => exact .here h
  | on w hz t ih => exact Way2.trans (.on (.here hz) w.last (zy1 t)) ih
/-- blocks of cells: each hangs together, no two touch -/
structure zek (cells : List Ce) (L : List (List Ce)) : Prop where
  cov : ∀ x, x ∈ cells ↔ ∃ b ∈ L, x ∈ b
  ne : ∀ b ∈ L, b ≠ []
  hang : ∀ b ∈ L, ∀ x ∈ b, ∀ y ∈ b, Way2 b x y
  apart : L.Pairwise fun b b' => ∀ x ∈ b, ∀ y ∈ b', ¬ tch x y
  nd : ∀ b ∈ L, b.Nodup
theorem z54 {α : Type} {R : α → α → Prop} (sy : ∀ a b, R a b → R b a) : ∀ {L : List α}, L.Pairwise R → ∀ a ∈ L, ∀ b ∈ L, a ≠ b → R a b
  | [], _, a, ha, _, _, _ => by cases ha
  | x :: L, h, a, ha, b, hb, n => by
    obtain ⟨h1, h2⟩ := List.pairwise_cons.mp h
    rcases List.mem_cons.mp ha with e1 | ha2
    · rcases List.mem_cons.mp hb with e2 | hb2
      · exact absurd (e1.trans e2.symm) n
      · rw [e1]; exact h1 b hb2
    · rcases List.mem_cons.mp hb with e2 | hb2
      · rw [e2]; exact sy _ _ (h1 a ha2)
      · exact z54 sy h2 a ha2 b hb2 n
theorem zek.far {cells : List Ce} {L : List (List Ce)} (P : zek cells L) {b b' : List Ce} (hb : b ∈ L) (hb' : b' ∈ L) (n : b ≠ b') : ∀ x ∈ b, ∀ y ∈ b', ¬ tch x y :=
  z54 (R := fun b b' => ∀ x ∈ b, ∀ y ∈ b', ¬ tch x y) (fun _ _ h x hx y hy t => h y hy x hx (zy1 t)) P.apart b hb b' hb' n
theorem zek.mem {cells : List Ce} {L : List (List Ce)} (P : zek cells L) {b : List Ce} (hb : b ∈ L) {x : Ce} (hx : x ∈ b) {y : Ce} : y ∈ b ↔ Way2 cells x y := by
  constructor
  · intro hy
    exact (P.hang b hb x hx y hy).mono fun z hz => (P.cov z).mpr ⟨b, hb, hz⟩
  · intro w
    induction w with
    | here _ => exact hx
    | @on u v _ hv t ih =>
      obtain ⟨b', hb', hvb⟩ := (P.cov v).mp hv
      by_cases e : b = b'
      · rw [e]; exact hvb
      · exact absurd t (P.far hb hb' e u ih v hvb)
theorem zek.nodup {cells : List Ce} {L : List (List Ce)} (P : zek cells L) : L.Nodup := by
  have h := P.apart
  have hn := P.ne
  clear P
  induction L with
  | nil => exact List.nodup_nil
  | cons b L ih =>
    obtain ⟨h1, h2⟩ := List.pairwise_cons.mp h
    refine List.nodup_cons.mpr ⟨fun hb => ?_, ih h2 fun b hb => hn b (List.mem_cons_of_mem _ hb)⟩
    cases e : b with
    | nil => exact hn b List.mem_cons_self e
    | cons x r =>
      have hx : x ∈ b := by rw [e]; exact List.mem_cons_self
      exact h1 b hb x hx x hx (zs8 x)
/-- the blocks are told by the cells alone -/
theorem zek.same {cells : List Ce} {L L' : List (List Ce)} (P : zek cells L) (P' : zek cells L') {b : List Ce} (hb : b ∈ L) : ∃ b' ∈ L', b.Perm b' := by
  obtain ⟨x, hx⟩ := List.exists_mem_of_ne_nil _ (P.ne b hb)
  obtain ⟨b', hb', hx'⟩ := (P'.cov x).mp ((P.cov x).mpr ⟨b, hb, hx⟩)
  exact ⟨b', hb', zrv (P.nd b hb) (P'.nd b' hb') fun y => (P.mem hb hx).trans (P'.mem hb' hx').symm⟩
end M
namespace M
open PySem PySem.Spec PyProof.Rows L2 DL
section
variable {α : Type} {f : α → D}
theorem zaat (cl : ∀ a, zbl (f a) = true) (al : ∀ a b, PySem.W.alike (py (f a)) (py (f b)) = true) (fi : ∀ a b, f a = f b → a = b) {a b : α} (h : PySem.W.keyToks (py (f a)) = PySem.W.keyToks (py (f b))) : a = b := by
  cases e : PyData.eqv (py (f a)) (py (f b)) with
  | true => exact fi _ _ ((zqd (cl a) (cl b)).mp e)
  | false =>
    have := (PySem.W.toks_eqv _ _ (al a b)).2 e [.inl 0] [.inl 1]
    rw [h, PySem.W.lex_pre, PySem.W.lex_one, PyProof.Rows.lex_irrefl] at this
    exact absurd this (by decide)
theorem z3k (a b : α) : PySem.W.dataLe false py (f a) (f b) = !PyProof.Rows.lexLt itemOrd (PySem.W.keyToks (py (f b))) (PySem.W.keyToks (py (f a))) := by
  rw [PySem.W.dataLe_eq]
  rfl
theorem zafc (a b c : α) (h1 : PySem.W.dataLe false py (f a) (f b) = true) (h2 : PySem.W.dataLe false py (f b) (f c) = true) : PySem.W.dataLe false py (f a) (f c) = true := by
  rw [z3k, Bool.not_eq_true'] at *
  cases e : PyProof.Rows.lexLt itemOrd (PySem.W.keyToks (py (f c))) (PySem.W.keyToks (py (f a))) with
  | false => rfl
  | true =>
    rcases PyProof.Rows.lex_negTrans _ (PySem.W.keyToks (py (f b))) _ e with h | h
    · rw [h] at h2; cases h2
    · rw [h] at h1; cases h1
theorem zadq (a b : α) : (PySem.W.dataLe false py (f a) (f b) || PySem.W.dataLe false py (f b) (f a)) = true := by
  rw [z3k, z3k]
  cases e : PyProof.Rows.lexLt itemOrd (PySem.W.keyToks (py (f b))) (PySem.W.keyToks (py (f a))) with
  | false => rfl
  | true =>
    cases e2 : PyProof.Rows.lexLt itemOrd (PySem.W.keyToks (py (f a))) (PySem.W.keyToks (py (f b))) with
    | false => rfl
    | true =>
      have := PyProof.Rows.lex_trans _ _ _ e e2
      rw [PyProof.Rows.lex_irrefl] at this
      cases this
theorem zacc (cl : ∀ a, zbl (f a) = true) (al : ∀ a b, PySem.W.alike (py (f a)) (py (f b)) = true) (fi : ∀ a b, f a = f b → a = b) (a b : α) (h1 : PySem.W.dataLe false py (f a) (f b) = true) (h2 : PySem.W.dataLe false py (f b) (f a) = true) : a = b := by
  rw [z3k, Bool.not_eq_true'] at h1 h2
  exact zaat cl al fi ((PyProof.Rows.listOrd itemOrd).total _ _ h2 h1)
theorem z4f (xs : List α) : (srtT f xs).Pairwise fun a b => PySem.W.dataLe false py (f a) (f b) = true :=
  List.pairwise_mergeSort (le := fun a b => PySem.W.dataLe false py (f a) (f b)) zafc zadq xs
theorem z33 (cl : ∀ a, zbl (f a) = true) (al : ∀ a b, PySem.W.alike (py (f a)) (py (f b)) = true) (fi : ∀ a b, f a = f b → a = b) {xs ys : List α} (p : xs.Perm ys) : srtT f xs = srtT f ys :=
  zqx (le := fun a b => PySem.W.dataLe false py (f a) (f b)) (zacc cl al fi) ((zam f xs).trans (p.trans (zam f ys).symm)) (z4f xs) (z4f ys)
end
theorem zwm {α : Type} {f : α → D} (al : ∀ a b, PySem.W.alike (py (f a)) (py (f b)) = true) : ∀ xs ys : List α, PySem.W.alikeAll (pys (xs.map f)) (pys (ys.map f)) = true
  | [], _ => by rw [List.map_nil, pys, PySem.W.alikeAll]
  | _ :: _, [] => by rw [List.map_nil, List.map_cons, pys, pys, PySem.W.alikeAll]
  | x :: xs, y :: ys => by
    rw [List.map_cons, List.map_cons, pys, pys, PySem.W.alikeAll, al x y, zwm al xs ys]
    rfl
theorem z9s {α : Type} {f : α → D} (al : ∀ a b, PySem.W.alike (py (f a)) (py (f b)) = true) (xs ys : List α) : PySem.W.alike (py (eT f xs)) (py (eT f ys)) = true := by
  show PySem.W.alike (py (.nd .tup (xs.map f))) (py (.nd .tup (ys.map f))) = true
  rw [py, py, PySem.W.alike]
  exact zwm al xs ys
theorem zy3 {α β : Type} {f : α → β} (h : ∀ {a b}, f a = f b → a = b) : ∀ {xs ys : List α}, xs.map f = ys.map f → xs = ys
  | [], [], _ => rfl
  | [], _ :: _, e => by cases e
  | _ :: _, [], e => by cases e
  | x :: xs, y :: ys, e => by
    simp only [List.map_cons, List.cons.injEq] at e
    rw [h e.1, zy3 h e.2]
theorem zabb {α : Type} {f : α → D} (h : ∀ {a b}, f a = f b → a = b) {xs ys : List α} (e : eT f xs = eT f ys) : xs = ys := by
  have e2 : D.nd .tup (xs.map f) = .nd .tup (ys.map f) := e
  injection e2 with _ e3
  exact zy3 h e3
abbrev Bl := List Ce
abbrev eC (b : Bl) : D := eT e2 b
theorem alC (a b : Bl) : PySem.W.alike (py (eC a)) (py (eC b)) = true := z9s DL.al2 a b
theorem zqi (b : Bl) : zbl (eC b) = true := zs1 (f := e2) zd0 b
theorem zsy (b : Bl) : (py (eC b)).depth ≤ 2 := zs9 (B := 1) (f := e2) ze3 b
theorem zaeg {a b : Bl} (h : eC a = eC b) : a = b := zabb (f := e2) (fun h => zwz.mp h) h
theorem stC {xs : List Bl} (h : ∀ v ∈ xs, v ≠ []) : PySem.W.Sortable ((xs.map eC).map py) := .inl fun d hd => by
  simp only [List.map_map, List.mem_map] at hd
  obtain ⟨v, hv, rfl⟩ := hd
  cases v with
  | nil => exact absurd rfl (h [] hv)
  | cons x r => exact ⟨_, _, rfl⟩
theorem zuc {a b : Bl} (p : a.Perm b) : srtT e2 a = srtT e2 b := z33 zd0 DL.al2 (fun _ _ h => zwz.mp h) p
/-- the blocks, each sorted, all sorted -/
def blkS (L : List Bl) : List Bl := srtT eC (L.map (srtT e2))
theorem zs7 {cells : Bl} {L L' : List Bl} (P : zek cells L) (P' : zek cells L') : blkS L = blkS L' := by
  refine z33 zqi alC (fun _ _ h => zaeg h) ?_
  have key : ∀ {A A' : List Bl}, zek cells A → zek cells A' → ∀ b, b ∈ A.map (srtT e2) → b ∈ A'.map (srtT e2) := fun {A A'} p p' b hb => by
    obtain ⟨c, hc, rfl⟩ := List.mem_map.mp hb
    obtain ⟨c', hc', q⟩ := p.same p' hc
    exact List.mem_map.mpr ⟨c', hc', (zuc q).symm⟩
  have nd : ∀ {A : List Bl}, zek cells A → (A.map (srtT e2)).Nodup := fun {A} p => by
    refine List.pairwise_map.mpr (p.nodup.imp_of_mem fun {a b} ha hb n e => n ?_)
    obtain ⟨x, hx⟩ := List.exists_mem_of_ne_nil _ (p.ne a ha)
    have hxb : x ∈ b := (zam e2 b).mem_iff.mp (by rw [← e]; exact (zam e2 a).mem_iff.mpr hx)
    apply Classical.byContradiction
    intro ne
    exact p.far ha hb ne x hx x hxb (zs8 x)
  exact zrv (nd P) (nd P') fun b => ⟨key P P' b, key P' P b⟩
end M
namespace M
open PySem PySem.Spec PyProof.Rows L2 DL
def rowN (c : Ce) (r : Int) : Bl := (([-1, 0, 1] : List Int).filter fun d => decide ((r, d) ≠ (0, 0))).map fun d => (c.1 + r, c.2 + d)
/-- the eight beside a cell -/
def nxtL (c : Ce) : Bl := ([-1, 0, 1] : List Int).flatMap (rowN c)
theorem z78 {c z : Ce} : z ∈ nxtL c ↔ tch c z ∧ z ≠ c := by
  obtain ⟨a, b⟩ := c
  obtain ⟨x, y⟩ := z
  have e : nxtL (a, b) = [(a + -1, b + -1), (a + -1, b + 0), (a + -1, b + 1), (a + 0, b + -1), (a + 0, b + 1), (a + 1, b + -1), (a + 1, b + 0), (a + 1, b + 1)] := rfl
  rw [e]
  unfold tch
  simp only [List.mem_cons, List.not_mem_nil, or_false, Prod.mk.injEq, ne_eq]
  constructor
  · intro h
    omega
  · intro h
    omega
/-- a block b grown from c, w still to be walked, Lf not taken; S: b and Lf -/
structure BlI (S : Bl) (c : Ce) (b w Lf : Bl) : Prop where
  nd : (b ++ Lf).Nodup
  mem : ∀ x, x ∈ S ↔ x ∈ b ∨ x ∈ Lf
  way : ∀ y ∈ b, Way2 b c y
  cb : c ∈ b
  wb : ∀ y ∈ w, y ∈ b
  far : ∀ y ∈ b, y ∉ w → ∀ z ∈ Lf, ¬ tch y z
/-- .. within the walk beside y, ns done -/
structure BlF (S : Bl) (c y : Ce) (ns b w Lf : Bl) : Prop where
  nd : (b ++ Lf).Nodup
  mem : ∀ x, x ∈ S ↔ x ∈ b ∨ x ∈ Lf
  way : ∀ y ∈ b, Way2 b c y
  cb : c ∈ b
  wb : ∀ y ∈ w, y ∈ b
  yb : y ∈ b
  far : ∀ u ∈ b, u ∉ w → u ≠ y → ∀ z ∈ Lf, ¬ tch u z
  dn : ∀ z ∈ ns, z ∉ Lf
section
variable {S b w Lf ns : Bl} {c y z : Ce}
theorem BlI.start (h : BlI S c b (w ++ [y]) Lf) : BlF S c y [] b w Lf where
  nd := h.nd
  mem := h.mem
  way := h.way
  cb := h.cb
  wb := fun u hu => h.wb u (List.mem_append.mpr (.inl hu))
  yb := h.wb y (List.mem_append.mpr (.inr (List.mem_singleton.mpr rfl)))
  far := fun u hu n1 n2 => h.far u hu fun hm => by
    rcases List.mem_append.mp hm with h | h
    · exact n1 h
    · exact n2 (List.mem_singleton.mp h)
  dn := fun z hz => by cases hz
theorem BlF.skip (h : BlF S c y ns b w Lf) (hz : z ∉ Lf) : BlF S c y (ns ++ [z]) b w Lf :=
  ⟨h.nd, h.mem, h.way, h.cb, h.wb, h.yb, h.far, fun u hu => by
    rcases List.mem_append.mp hu with hu | hu
    · exact h.dn u hu
    · rw [List.mem_singleton.mp hu]; exact hz⟩
theorem BlF.take (h : BlF S c y ns b w Lf) (hz : z ∈ Lf) (t : tch y z) : BlF S c y (ns ++ [z]) (b ++ [z]) (w ++ [z]) (Lf.filter fun u => decide (u ≠ z)) := by
  have hd := List.nodup_append.mp h.nd
  have mf : ∀ u, u ∈ Lf.filter (fun u => decide (u ≠ z)) ↔ u ∈ Lf ∧ u ≠ z := fun u => by rw [List.mem_filter, decide_eq_true_eq]
  have zb : z ∉ b := fun hb => hd.2.2 z hb z hz rfl
  refine ⟨?_, fun x => ?_, fun u hu => ?_, List.mem_append.mpr (.inl h.cb), fun u hu => ?_, List.mem_append.mpr (.inl h.yb), fun u hu n1 n2 v hv => ?_, fun u hu hl => ?_⟩
  · refine List.nodup_append.mpr ⟨List.nodup_append.mpr ⟨hd.1, List.nodup_cons.mpr ⟨List.not_mem_nil, List.nodup_nil⟩, fun u hu v hv e => ?_⟩, hd.2.1.sublist List.filter_sublist, fun u hu v hv e => ?_⟩
    · rw [List.mem_singleton.mp hv] at e
      rw [e] at hu
      exact zb hu
    · subst e
      obtain ⟨h1, h2⟩ := (mf u).mp hv
      rcases List.mem_append.mp hu with hu | hu
      · exact hd.2.2 u hu u h1 rfl
      · exact h2 (List.mem_singleton.mp hu)
  · rw [h.mem x, List.mem_append, List.mem_singleton, mf]
    constructor
    · rintro (g | g)
      · exact .inl (.inl g)
      · by_cases e : x = z
        · exact .inl (.inr e)
        · exact .inr ⟨g, e⟩
    · rintro ((g | g) | g)
      · exact .inl g
      · rw [g]; exact .inr hz
      · exact .inr g.1
  · have mono : ∀ {p q : Ce}, Way2 b p q → Way2 (b ++ [z]) p q := fun w => w.mono fun x hx => List.mem_append.mpr (.inl hx)
    rcases List.mem_append.mp hu with hu | hu
    · exact mono (h.way u hu)
    · rw [List.mem_singleton.mp hu]
      exact .on (mono (h.way y h.yb)) (List.mem_append.mpr (.inr (List.mem_singleton.mpr rfl))) t
  · rcases List.mem_append.mp hu with hu | hu
    · exact List.mem_append.mpr (.inl (h.wb u hu))
    · exact List.mem_append.mpr (.inr hu)
  · rcases List.mem_append.mp hu with hu | hu
    · exact h.far u hu (fun g => n1 (List.mem_append.mpr (.inl g))) n2 v ((mf v).mp hv).1
    · exact absurd (List.mem_append.mpr (.inr hu)) n1
  · obtain ⟨h1, h2⟩ := (mf u).mp hl
    rcases List.mem_append.mp hu with hu | hu
    · exact h.dn u hu h1
    · exact h2 (List.mem_singleton.mp hu)
theorem BlF.done (h : BlF S c y (nxtL y) b w Lf) : BlI S c b w Lf :=
  ⟨h.nd, h.mem, h.way, h.cb, h.wb, fun u hu n1 v hv t => by
    by_cases e : u = y
    · subst e
      have hd := List.nodup_append.mp h.nd
      have ne : v ≠ u := fun e => hd.2.2 u hu v hv e.symm
      exact h.dn v (z78.mpr ⟨t, ne⟩) hv
    · exact h.far u hu n1 e v hv t⟩
theorem zace (nd : Lf.Nodup) (hc : c ∈ Lf) : BlI Lf c [c] [c] (Lf.filter fun u => decide (u ≠ c)) := by
  have mf : ∀ u, u ∈ Lf.filter (fun u => decide (u ≠ c)) ↔ u ∈ Lf ∧ u ≠ c := fun u => by rw [List.mem_filter, decide_eq_true_eq]
  refine ⟨List.nodup_cons.mpr ⟨fun h => ((mf c).mp h).2 rfl, nd.sublist List.filter_sublist⟩, fun x => ?_, fun u hu => ?_, List.mem_singleton.mpr rfl, fun u hu => hu, fun u hu n => absurd hu n⟩
  · rw [List.mem_singleton, mf]
    constructor
    · intro h
      by_cases e : x = c
      · exact .inl e
      · exact .inr ⟨h, e⟩
    · rintro (e | h)
      · rw [e]; exact hc
      · exact h.1
  · rw [List.mem_singleton.mp hu]
    exact .here (List.mem_singleton.mpr rfl)
end
/-- blocks found, the rest left -/
structure OuI (cells : Bl) (F : List Bl) (Lf : Bl) : Prop where
  nd : Lf.Nodup
  sub : ∀ x ∈ Lf, x ∈ cells
  part : zek (cells.filter fun x => decide (x ∉ Lf)) F
  far : ∀ b ∈ F, ∀ x ∈ b, ∀ z ∈ Lf, ¬ tch x z
theorem OuI.step {cells : Bl} {F : List Bl} {Lf Lf' b : Bl} {c : Ce} (h : OuI cells F Lf) (hc : c ∈ Lf) (g : BlI Lf c b [] Lf') : OuI cells (F ++ [b]) Lf' := by
  have hd := List.nodup_append.mp g.nd
  have bl : ∀ x ∈ b, x ∈ Lf := fun x hx => (g.mem x).mpr (.inl hx)
  have ll : ∀ x ∈ Lf', x ∈ Lf := fun x hx => (g.mem x).mpr (.inr hx)
  have cb := g.cb
  refine ⟨hd.2.1, fun x hx => h.sub x (ll x hx), ⟨fun x => ?_, fun d hd2 => ?_, fun d hd2 => ?_, ?_, fun d hd2 => ?_⟩, fun d hd2 x hx z hz => ?_⟩
  · rw [List.mem_filter, decide_eq_true_eq]
    constructor
    · rintro ⟨h1, h2⟩
      by_cases hl : x ∈ Lf
      · rcases (g.mem x).mp hl with h3 | h3
        · exact ⟨b, List.mem_append.mpr (.inr (List.mem_singleton.mpr rfl)), h3⟩
        · exact absurd h3 h2
      · obtain ⟨d, hd3, hx⟩ := (h.part.cov x).mp (List.mem_filter.mpr ⟨h1, decide_eq_true hl⟩)
        exact ⟨d, List.mem_append.mpr (.inl hd3), hx⟩
    · rintro ⟨d, hd3, hx⟩
      rcases List.mem_append.mp hd3 with hd3 | hd3
      · have := List.mem_filter.mp ((h.part.cov x).mpr ⟨d, hd3, hx⟩)
        rw [decide_eq_true_eq] at this
        exact ⟨this.1, fun hl => this.2 (ll x hl)⟩
      · rw [List.mem_singleton.mp hd3] at hx
        exact ⟨h.sub x (bl x hx), fun hl => hd.2.2 x hx x hl rfl⟩
  · rcases List.mem_append.mp hd2 with hd2 | hd2
    · exact h.part.ne d hd2
    · rw [List.mem_singleton.mp hd2]
      intro e
      rw [e] at cb
      cases cb
  · rcases List.mem_append.mp hd2 with hd2 | hd2
    · exact h.part.hang d hd2
    · rw [List.mem_singleton.mp hd2]
      exact fun x hx y hy => (g.way x hx).symm.trans (g.way y hy)
  · refine List.pairwise_append.mpr ⟨h.part.apart, List.pairwise_singleton _ _, fun d hd2 e he x hx y hy => ?_⟩
    rw [List.mem_singleton.mp he] at hy
    exact h.far d hd2 x hx y (bl y hy)
  · rcases List.mem_append.mp hd2 with hd2 | hd2
    · exact h.part.nd d hd2
    · rw [List.mem_singleton.mp hd2]
      exact hd.1
  · rcases List.mem_append.mp hd2 with hd2 | hd2
    · exact h.far d hd2 x hx z (ll z hz)
    · rw [List.mem_singleton.mp hd2] at hx
      exact g.far x hx List.not_mem_nil z hz
end M
namespace M
open PySem PySem.Spec PyProof.Rows L2 DL
def touB (r o : Bl) : Bool := r.any fun x => o.any fun y => decide (tch x y)
theorem z8n {r o : Bl} : touB r o = true ↔ ∃ x ∈ r, ∃ y ∈ o, tch x y := by
  unfold touB
  rw [List.any_eq_true]
  constructor
  · rintro ⟨x, hx, h⟩
    obtain ⟨y, hy, t⟩ := List.any_eq_true.mp h
    exact ⟨x, hx, y, hy, of_decide_eq_true t⟩
  · rintro ⟨x, hx, y, hy, t⟩
    exact ⟨x, hx, List.any_eq_true.mpr ⟨y, hy, decide_eq_true t⟩⟩
structure RowP (r : Bl) : Prop where
  ne : r ≠ []
  hang : ∀ x ∈ r, ∀ y ∈ r, Way2 r x y
  nd : r.Nodup
theorem zq8 {cells : Bl} {L : List Bl} (P : zek cells L) (f : Bl → Bool) : (L.filter f).flatten.Nodup := by
  refine List.pairwise_flatten.mpr ⟨fun b hb => P.nd b (List.mem_filter.mp hb).1, (P.apart.sublist List.filter_sublist).imp fun {b b'} h x hx y hy e => ?_⟩
  exact h x hx y hy (by rw [e]; exact zs8 y)
theorem z8u {S r : Bl} {late : List Bl} (P : zek S late) (hr : RowP r) (dis : ∀ x ∈ r, x ∉ S) :
    zek (S ++ r) (late.filter (fun o => !touB r o) ++ [r ++ (late.filter (touB r)).flatten]) := by
  have mj : ∀ x, x ∈ r ++ (late.filter (touB r)).flatten ↔ x ∈ r ∨ ∃ o ∈ late, touB r o = true ∧ x ∈ o := fun x => by
    rw [List.mem_append, List.mem_flatten]
    constructor
    · rintro (h | ⟨o, ho, hx⟩)
      · exact .inl h
      · obtain ⟨h1, h2⟩ := List.mem_filter.mp ho
        exact .inr ⟨o, h1, h2, hx⟩
    · rintro (h | ⟨o, h1, h2, hx⟩)
      · exact .inl h
      · exact .inr ⟨o, List.mem_filter.mpr ⟨h1, h2⟩, hx⟩
  obtain ⟨r0, hr0⟩ := List.exists_mem_of_ne_nil _ hr.ne
  have mono : ∀ {T : Bl} {p q : Ce}, (∀ x ∈ T, x ∈ r ++ (late.filter (touB r)).flatten) → Way2 T p q → Way2 (r ++ (late.filter (touB r)).flatten) p q := fun h w => w.mono h
  have root : ∀ x ∈ r ++ (late.filter (touB r)).flatten, Way2 (r ++ (late.filter (touB r)).flatten) r0 x := fun x hx => by
    rcases (mj x).mp hx with h | ⟨o, h1, h2, h3⟩
    · exact mono (fun y hy => (mj y).mpr (.inl hy)) (hr.hang r0 hr0 x h)
    · obtain ⟨u, hu, v, hv, t⟩ := z8n.mp h2
      have a : Way2 (r ++ (late.filter (touB r)).flatten) r0 u := mono (fun y hy => (mj y).mpr (.inl hy)) (hr.hang r0 hr0 u hu)
      have b : Way2 (r ++ (late.filter (touB r)).flatten) r0 v := .on a ((mj v).mpr (.inr ⟨o, h1, h2, hv⟩)) t
      exact b.trans (mono (fun y hy => (mj y).mpr (.inr ⟨o, h1, h2, hy⟩)) (P.hang o h1 v hv x h3))
  have oth : ∀ o, o ∈ late.filter (fun o => !touB r o) ↔ o ∈ late ∧ touB r o = false := fun o => by
    rw [List.mem_filter, Bool.not_eq_true']
  refine ⟨fun x => ?_, fun b hb => ?_, fun b hb => ?_, ?_, fun b hb => ?_⟩
  · rw [List.mem_append]
    constructor
    · rintro (h | h)
      · obtain ⟨o, ho, hx⟩ := (P.cov x).mp h
        cases e : touB r o with
        | true => exact ⟨_, List.mem_append.mpr (.inr (List.mem_singleton.mpr rfl)), (mj x).mpr (.inr ⟨o, ho, e, hx⟩)⟩
        | false => exact ⟨o, List.mem_append.mpr (.inl ((oth o).mpr ⟨ho, e⟩)), hx⟩
      · exact ⟨_, List.mem_append.mpr (.inr (List.mem_singleton.mpr rfl)), (mj x).mpr (.inl h)⟩
    · rintro ⟨b, hb, hx⟩
      rcases List.mem_append.mp hb with hb | hb
      · exact .inl ((P.cov x).mpr ⟨b, ((oth b).mp hb).1, hx⟩)
      · rw [List.mem_singleton.mp hb] at hx
        rcases (mj x).mp hx with h | ⟨o, h1, _, h3⟩
        · exact .inr h
        · exact .inl ((P.cov x).mpr ⟨o, h1, h3⟩)
  · rcases List.mem_append.mp hb with hb | hb
    · exact P.ne b ((oth b).mp hb).1
    · rw [List.mem_singleton.mp hb]
      intro e
      have : r0 ∈ r ++ (late.filter (touB r)).flatten := (mj r0).mpr (.inl hr0)
      rw [e] at this
      cases this
  · rcases List.mem_append.mp hb with hb | hb
    · exact P.hang b ((oth b).mp hb).1
    · rw [List.mem_singleton.mp hb]
      exact fun x hx y hy => (root x hx).symm.trans (root y hy)
  · refine List.pairwise_append.mpr ⟨P.apart.sublist List.filter_sublist, List.pairwise_singleton _ _, fun o ho e he x hx y hy t => ?_⟩
    obtain ⟨h1, h2⟩ := (oth o).mp ho
    rw [List.mem_singleton.mp he] at hy
    rcases (mj y).mp hy with h | ⟨o', g1, g2, g3⟩
    · have := z8n.mpr ⟨y, h, x, hx, zy1 t⟩
      rw [h2] at this
      cases this
    · refine P.far h1 g1 (fun e => ?_) x hx y g3 t
      rw [e, g2] at h2
      cases h2
  · rcases List.mem_append.mp hb with hb | hb
    · exact P.nd b ((oth b).mp hb).1
    · rw [List.mem_singleton.mp hb]
      refine List.nodup_append.mpr ⟨hr.nd, zq8 P _, fun x hx y hy e => ?_⟩
      · obtain ⟨o, ho, hy2⟩ := List.mem_flatten.mp hy
        exact dis x hx ((P.cov x).mpr ⟨o, (List.mem_filter.mp ho).1, by rw [e]; exact hy2⟩)
/-- one turn: rows, walked so far -/
theorem zx8 : zek [] [] := ⟨fun x => ⟨fun h => (by cases h), fun ⟨_, h, _⟩ => (by cases h)⟩, fun b h => (by cases h), fun b h => (by cases h), List.Pairwise.nil, fun b h => (by cases h)⟩
theorem zls {S T : Bl} {L : List Bl} (h : ∀ x, x ∈ S ↔ x ∈ T) (P : zek S L) : zek T L := ⟨fun x => (h x).symm.trans (P.cov x), P.ne, P.hang, P.apart, P.nd⟩
theorem zva (c : Ce) : RowP [c] := ⟨fun h => (by cases h), fun x hx y hy => by rw [List.mem_singleton.mp hx, List.mem_singleton.mp hy]; exact .here (List.mem_singleton.mpr rfl), List.nodup_cons.mpr ⟨List.not_mem_nil, List.nodup_nil⟩⟩
end M
namespace M
open PySem PySem.Spec PyProof.Rows L2 DL
abbrev rs3 : List Int := [-1, 0, 1]
theorem zafg {a b : Ce} {G : DHp} {Q : DVK} (q : Q (.bl (decide (a ≠ b))) G) : dNe (e2 a) (e2 b) G Q :=
  ztt (zd0 a) (zd0 b) (Nat.le_trans (ze3 a) (by decide)) (Nat.le_trans (ze3 b) (by decide)) (decide (a ≠ b)) (by
    rw [decide_eq_true_eq]
    exact ⟨fun h e => h (zwz.mp e), fun h e => h (zwz.mpr e)⟩) q
def zhb : DRn := fun ds G Q => ∃ c : Ce, ds = [e2 c] ∧ Q (eL e2 (nxtL c)) G
abbrev zlw : List Str := ["cell", "x", "y", "right", "down"]
def zrs : DTS :=
    (dSeq (dAsg (ze 0) (ze2 (z4 (zl 1) (z4 (zl 2) zfc)) 2))
    (dRet (dFz (dLc2 (za1 (dTup (zf (dNeg (dC (.int 1))) (zf (dC (.int 0)) (zf (dC (.int 1)) dNil))))) (zl 3) dYes (za1 (dTup (zf (dNeg (dC (.int 1))) (zf (dC (.int 0)) (zf (dC (.int 1)) dNil))))) (zl 4) (zag (dOp dNe (dTup (zf (ze 3) (zf (ze 4) dNil))) (dTup (zf (dC (.int 0)) (zf (dC (.int 0)) dNil))))) (dTup (zf (dOp dAdd (ze 1) (ze 3)) (zf (dOp dAdd (ze 2) (ze 4)) dNil))) [3, 4] [4]))))
theorem zz6 : ∀ ds G Q, zhb ds G Q → ds.length = 1 := fun ds G Q ⟨_, e, _⟩ => by rw [e]; rfl
theorem zab5 {α β : Type} {xs : List α} {g : α → List β} {i : Nat} {x : α} (h : xs[i]? = some x) : (xs.take (i + 1)).flatMap g = (xs.take i).flatMap g ++ g x := by
  rw [zba h, List.flatMap_append, List.flatMap_cons, List.flatMap_nil, List.append_nil]
theorem zzi : ∀ ds G Q, zhb ds G Q → zrs { nx := fun _ G' => Q .non G', rt := Q } (zao zlw ds) G := fun ds G Q h => by
  obtain ⟨c, rfl, q⟩ := h
  simp_arith only [zrs, zlw, e2, dLc2, za1]
  intro p hp
  refine ⟨fun i acc G' => acc = ((rs3.take i).flatMap (rowN c)).map e2 ∧ G' = up G p (.lst acc), ⟨rfl, rfl⟩, fun i acc G' ⟨h1, h2⟩ => ⟨trivial, by rw [h2]; exact zi⟩, fun i d acc G' hd ⟨e1, h2⟩ => ?_, fun acc G' ⟨e1, h2⟩ => ?_⟩
  · obtain ⟨r, hr, rfl⟩ := zaq (f := D.int) (xs := rs3) hd
    simp_arith only [true_and]
    refine ⟨fun j acc G' => acc = ((rs3.take i).flatMap (rowN c) ++ ((rs3.take j).filter fun d => decide ((r, d) ≠ (0, 0))).map fun d => (c.1 + r, c.2 + d)).map e2 ∧ G' = up G p (.lst acc), ⟨by rw [e1]; simp, h2⟩, fun j acc G' ⟨_, h⟩ => ⟨trivial, by rw [h]; exact zi⟩, fun j d acc G' hd ⟨f1, f2⟩ => ?_, fun acc G' ⟨f1, f2⟩ => ⟨?_, f2⟩⟩
    · obtain ⟨t, ht, rfl⟩ := zaq (f := D.int) (xs := rs3) hd
      have hj := (List.getElem?_eq_some_iff.mp ht).1
      have hi := (List.getElem?_eq_some_iff.mp hr).1
      have hlen : acc.length < sizeLine := by
        rw [f1, List.length_map, List.length_append, List.length_map]
        refine zv ?_
        have h1 : ((rs3.take i).flatMap (rowN c)).length ≤ (rs3.take i).length * 3 := zms (B := 3) fun x _ => by
          unfold rowN
          rw [List.length_map]
          exact List.length_filter_le _ _
        have h2 := List.length_filter_le (fun d => decide ((r, d) ≠ (0, 0))) (rs3.take j)
        rw [List.length_take] at h1 h2
        have h3 : rs3.length = 3 := rfl
        omega
      refine zafg (a := (r, t)) (b := (0, 0)) ?_
      subst f2
      by_cases e : (r, t) = (0, 0)
      · rw [decide_eq_false (fun h => h e)]
        simp_arith only [true_and]
        rw [f1, zba ht, List.filter_append, List.filter_cons_of_neg (by rw [decide_eq_true_eq]; exact fun h => h e), List.filter_nil, List.append_nil]
      · rw [decide_eq_true e]
        simp_arith only [true_and]
        refine ⟨hlen, zi, ?_, by rw [zc1]⟩
        rw [f1, zba ht, List.filter_append, List.filter_cons_of_pos (by rw [decide_eq_true_eq]; exact e), List.filter_nil, List.map_append (l₁ := List.filter _ _), ← List.append_assoc, List.map_append (l₂ := List.map _ [t])]
        rfl
    · rw [f1, zab5 hr]
      rfl
  · subst h2 e1
    simp_arith only [zi, za3 hp, DO.tree]
    exact q
end M
namespace M
open PySem PySem.Spec PyProof.Rows L2 DL
theorem z3u {α β : Type} [DecidableEq α] {kvs : List (α × β)} {k x : α} {v : β} : x ∈ (aput kvs k v).map (·.1) ↔ x ∈ kvs.map (·.1) ∨ x = k := by
  rw [zvi]
  cases e : (aget kvs k).isSome with
  | true =>
    rw [if_pos rfl]
    have := (zdt kvs k).mp e
    exact ⟨.inl, fun h => h.elim id fun h => by rw [h]; exact this⟩
  | false =>
    rw [if_neg (by simp), List.mem_append, List.mem_singleton]
theorem z7m {G : DHp} {p : Addr} {kvs : List (NestedKey × D)} (h : G p = some (.dN kvs)) : ∀ xs, G p ≠ some (.lst xs) := fun xs e => by rw [h] at e; cases e
theorem z9j {α : Type} {eα : α → D} {f : α → Ce} {sl : List α} {G : DHp} {Q : DVK} {wi : DTI} {g : DTG} {te : DTE} {own : List Nat} {η : DSt} (hl : sl.length ≤ 1000000)
    (hw : ∀ R, R (sl.map eα) zco G → wi η G R) (hb : ∀ s ∈ sl, ∀ (G1 : DHp) (A : DVK), A (e2 (f s)) G1 → g (eα s) (zid η own) G1 fun η2 G2 => te η2 G2 A)
    (q : ∀ p, G p = none → ∀ kvs : List (Ce × Bool), (kvs.map (·.1)).Nodup → (∀ x, x ∈ kvs.map (·.1) ↔ x ∈ sl.map f) → kvs.length ≤ sl.length → Q (.ref p) (up G p (.dN (enc DL.k2 .bl kvs)))) : dDc (.dN []) wi g dYes te (dC (.bl true)) own η G Q := by
  unfold dDc
  refine hw _ ?_
  intro p hp
  refine ⟨fun i G' => ∃ kvs : List (Ce × Bool), G' = up G p (.dN (enc DL.k2 .bl kvs)) ∧ kvs.length ≤ i ∧ (kvs.map (·.1)).Nodup ∧ (∀ x, x ∈ kvs.map (·.1) ↔ x ∈ (sl.take i).map f), ⟨[], rfl, Nat.le_refl _, List.nodup_nil, by simp⟩, ?_, ?_, ?_⟩
  · rintro i G' ⟨kvs, rfl, _⟩
    exact ⟨trivial, z7m zi⟩
  · rintro i d G' hd ⟨kvs, rfl, hk, nd, hm⟩
    obtain ⟨s, hs, rfl⟩ := zaq hd
    have hi := (List.getElem?_eq_some_iff.mp hs).1
    have := hb s (List.mem_of_getElem? hs) (up G p (.dN (enc DL.k2 .bl kvs))) (fun y G4 => (∀ xs, G4 p ≠ some (.lst xs)) ∧ dSet (.ref p) y (.bl true) G4 fun G' => ∃ kvs : List (Ce × Bool), G' = up G p (.dN (enc DL.k2 .bl kvs)) ∧ kvs.length ≤ i + 1 ∧ (kvs.map (·.1)).Nodup ∧ (∀ x, x ∈ kvs.map (·.1) ↔ x ∈ (sl.take (i + 1)).map f)) ?_
    · simpa only [dYes, dC, if_true] using this
    · refine ⟨z7m zi, z2p (f := D.bl) (b := true) tk2 zi (zv (by omega)) ?_⟩
      rw [zc1]
      have hlp := zsw kvs (f s) true
      refine ⟨_, rfl, by omega, zer _ _ _ nd, fun x => ?_⟩
      rw [z3u, hm, zba hs, List.map_append, List.mem_append, List.map_singleton, List.mem_singleton]
  · rintro G' ⟨kvs, rfl, hk, nd, hm⟩
    rw [List.length_map, List.take_length] at hm
    rw [List.length_map] at hk
    exact q p hp kvs nd hm hk
/-- what is left behind a pop -/
def drK (kvs : List (Ce × Bool)) (c : Ce) : List (Ce × Bool) := kvs.filter fun p => decide (p.1 ≠ c)
theorem zyy (kvs : List (Ce × Bool)) (c : Ce) : (drK kvs c).map (·.1) = (kvs.map (·.1)).filter fun u => decide (u ≠ c) := by
  unfold drK
  rw [List.filter_map]
  rfl
theorem zyv {kvs : List (Ce × Bool)} {c : Ce} {l : Addr} {G : DHp} {Q : DVK} (e : G l = some (.dN (enc DL.k2 .bl kvs))) (hc : c ∈ kvs.map (·.1)) (hl : kvs.length ≤ 1000000) (q : ∀ b, Q (.bl b) (up G l (.dN (enc DL.k2 .bl (drK kvs c))))) : tyD "dict" (.ref l) G ∧ zzw [.ref l, e2 c] G Q := by
  refine ⟨by simp only [tyD, e], ?_⟩
  unfold zzw d2
  dsimp only
  rw [e]
  have hk : D.key (e2 c) = some (DL.k2 c) := tk2.key c
  show match D.key (e2 c) with
    | some k => (k.depth ≤ 8 ∧ (enc DL.k2 D.bl kvs).length ≤ sizeLine) ∧ (match dval (enc DL.k2 D.bl kvs) k with
          | some d => Q d (up G l (.dN (zrm (enc DL.k2 D.bl kvs) k)))
          | none => False)
    | none => False
  rw [hk]
  obtain ⟨b, hb⟩ := Option.isSome_iff_exists.mp ((zdt kvs c).mpr hc)
  have hv : dval (enc DL.k2 D.bl kvs) (DL.k2 c) = some (.bl b) := by rw [zoe tk2.inj, hb]; rfl
  have hd : zrm (enc DL.k2 D.bl kvs) (DL.k2 c) = enc DL.k2 D.bl (drK kvs c) := by
    unfold zrm enc drK
    rw [List.filter_map]
    congr 1
    refine List.filter_congr fun p hp => ?_
    show decide (DL.k2 p.1 ≠ DL.k2 c) = decide (p.1 ≠ c)
    exact decide_eq_decide.mpr ⟨fun h e => h (by rw [e]), fun h e => h (tk2.inj.mp e)⟩
  dsimp only
  rw [hv, hd]
  exact ⟨⟨tk2.dep c, by unfold enc; rw [List.length_map]; exact zlf (by omega)⟩, q b⟩
def zft : DRn := fun ds G Q => ∃ cells : Bl, ds = [eL e2 cells] ∧ cells.length ≤ 1000 ∧ ∀ L, zek cells L → Q (eL eC (blkS L)) G
abbrev zt2 : List Str := ["cells", "left", "found", "cell", "blob", "waiting", "other"]
def z26 : DTS :=
    (dSeq (dPar 1 2 (zf (dDc (.dN []) (za1 (ze 0)) (zl 3) dYes (ze 3) (dC (.bl true)) [3]) (zf (zi7 dNil) dNil)))
    (dSeq (dFor (za1 (dFz (dCB zjm (zf (ze 0) dNil)))) (zl 3)
    (dIfS (zag (dOp (dIn false) (ze 3) (ze 1)))
    (dSeq (zh0 (dM "dict" zzw (ze 1) (zf (ze 3) dNil)))
    (dSeq (dPar 4 5 (zf (zi7 (zf (ze 3) dNil)) (zf (zi7 (zf (ze 3) dNil)) dNil)))
    (dSeq (z0i (zag (dOp dNe (ze 5) (zjv dNil)))
    (dFor (za1 (dCB zhb (zf (dM0 "list" dPop (ze 5)) dNil))) (zl 6)
    (dIfS (zag (dOp (dIn false) (ze 6) (ze 1)))
    (dSeq (zh0 (dM "dict" zzw (ze 1) (zf (ze 6) dNil)))
    (dSeq (zh0 (dM "list" zgp (ze 4) (zf (ze 6) dNil)))
    (zh0 (dM "list" zgp (ze 5) (zf (ze 6) dNil)))))
    zc7)))
    (dFrz 4 (dFrz 5 (zh0 (dM "list" zgp (ze 2) (zf (dCB zkn (zf (dFz (dCB zjm (zf (ze 4) dNil))) dNil)) dNil))))))))
    zc7))
    (dFrz 2 (dFrz 1 (dRet (dFz (dCB zjm (zf (ze 2) dNil))))))))
theorem z68 : ∀ ds G Q, zft ds G Q → ds.length = 1 := fun ds G Q ⟨_, e, _⟩ => by rw [e]; rfl
/-- the heap of the walk -/
def bhp (G : DHp) (l f : Addr) (kvs : List (Ce × Bool)) (F : List Bl) : DHp := up (up G l (.dN (enc DL.k2 .bl kvs))) f (.lst (F.map fun b => eC (srtT e2 b)))
/-- .. with a block and what waits -/
def bh4 (G : DHp) (l f bp wp : Addr) (kvs : List (Ce × Bool)) (F : List Bl) (b w : Bl) : DHp := up (up (bhp G l f kvs F) bp (.lst (b.map e2))) wp (.lst (w.map e2))
structure D4 (l f bp wp : Addr) : Prop where
  lf : l ≠ f
  lb : l ≠ bp
  lw : l ≠ wp
  fb : f ≠ bp
  fw : f ≠ wp
  bw : bp ≠ wp
section
variable {G : DHp} {l f bp wp : Addr} {kvs kvs' : List (Ce × Bool)} {F : List Bl} {b w b' w' : Bl}
theorem bh_l (h : l ≠ f) : bhp G l f kvs F l = some (.dN (enc DL.k2 .bl kvs)) := by unfold bhp; rw [zej h, zi]
theorem bh_f : bhp G l f kvs F f = some (.lst (F.map fun b => eC (srtT e2 b))) := by unfold bhp; rw [zi]
theorem zadr (h : l ≠ f) : up (bhp G l f kvs F) l (.dN (enc DL.k2 .bl kvs')) = bhp G l f kvs' F := by unfold bhp; rw [zg7 (Ne.symm h), zc1]
theorem b4_l (d : D4 l f bp wp) : bh4 G l f bp wp kvs F b w l = some (.dN (enc DL.k2 .bl kvs)) := by unfold bh4; rw [zej d.lw, zej d.lb, bh_l d.lf]
theorem b4_b (d : D4 l f bp wp) : bh4 G l f bp wp kvs F b w bp = some (.lst (b.map e2)) := by unfold bh4; rw [zej d.bw, zi]
theorem b4_w (d : D4 l f bp wp) : bh4 G l f bp wp kvs F b w wp = some (.lst (w.map e2)) := by unfold bh4; rw [zi]
theorem zafj (d : D4 l f bp wp) : up (bh4 G l f bp wp kvs F b w) l (.dN (enc DL.k2 .bl kvs')) = bh4 G l f bp wp kvs' F b w := by
  unfold bh4
  rw [zg7 (Ne.symm d.lw), zg7 (Ne.symm d.lb), zadr d.lf]
theorem zaf1 (d : D4 l f bp wp) : up (bh4 G l f bp wp kvs F b w) bp (.lst (b'.map e2)) = bh4 G l f bp wp kvs F b' w := by
  unfold bh4
  rw [zg7 (Ne.symm d.bw), zc1]
theorem zaea : up (bh4 G l f bp wp kvs F b w) wp (.lst (w'.map e2)) = bh4 G l f bp wp kvs F b w' := by
  unfold bh4
  rw [zc1]
end
theorem z74 : ∀ ds G Q, zft ds G Q → z26 { nx := fun _ G' => Q .non G', rt := Q } (zao zt2 ds) G := fun ds G Q h => by
  obtain ⟨cells, rfl, hl, q⟩ := h
  simp_arith only [z26, zt2]
  refine z9j (eα := e2) (f := id) (sl := cells) (by omega) (fun R r => by simp_arith only [za1, eL]; exact r) (fun x hx G1 A aa => by simp_arith only [true_and]; exact aa) fun l hl0 kvs0 nd0 hm0 hk0 => ?_
  rw [List.map_id] at hm0
  intro f hf0
  have hlf : l ≠ f := fun e => by rw [← e, zi] at hf0; cases hf0
  have hf1 : G f = none := by rwa [zej (Ne.symm hlf)] at hf0
  have o0 : OuI cells [] (kvs0.map (·.1)) := by
    refine ⟨nd0, fun x hx => (hm0 x).mp hx, zls (fun x => ?_) zx8, fun b hb => (by cases hb)⟩
    rw [List.mem_filter, decide_eq_true_eq]
    exact ⟨fun h => (by cases h), fun h => absurd ((hm0 x).mpr h.1) h.2⟩
  simp_arith only [dFor, za1]
  refine zgn (f := e2) (xs := cells) rfl zd0 DL.al2 (DL.st2 _) (fun a => Nat.le_trans (ze3 a) (by decide)) fun w hw => ?_
  simp_arith only [zi, za3 hw, DO.tree]
  have es : (srtT e2 cells).length = cells.length := (zam e2 cells).length_eq
  refine ⟨fun i η G' => ∃ kvs F x3 x4 x5 x6, η = [some (eL e2 cells), some (.ref l), some (.ref f), x3, x4, x5, x6] ∧ G' = bhp G l f kvs F ∧ OuI cells F (kvs.map (·.1)) ∧ kvs.length ≤ 1000 ∧ F.length ≤ i ∧ ∀ c ∈ (srtT e2 cells).take i, c ∉ kvs.map (·.1), ⟨kvs0, [], none, none, none, none, rfl, rfl, o0, by omega, Nat.le_refl _, fun c hc => by simp at hc⟩, fun _ _ _ _ => trivial, ?_, ?_⟩
  · rintro i d η G' hd ⟨kvs, F, x3, x4, x5, x6, rfl, rfl, ou, hkl, hF, dn⟩
    obtain ⟨c, hc, rfl⟩ := zaq hd
    have hi := (List.getElem?_eq_some_iff.mp hc).1
    rw [es] at hi
    have hdic : dicN (.ref l) (bhp G l f kvs F) = some (enc DL.k2 D.bl kvs) := by show (match bhp G l f kvs F l with | some (.dN kvs) => some kvs | _ => none) = _; rw [bh_l hlf]
    simp_arith only [true_and]
    refine z6d tk2 (k := DL.k2) (e := e2) (f := D.bl) (kvs := kvs) (neg := false) (a := c) hdic ?_
    cases hg : (aget kvs c).isSome with
    | false =>
      simp_arith only [true_and]
      refine ⟨_, (by repeat (first | exact Le.nil | apply Le.keep | apply Le.drop)), kvs, F, _, _, _, _, rfl, rfl, ou, hkl, by omega, fun x hx => ?_⟩
      rw [zba hc] at hx
      rcases List.mem_append.mp hx with hx | hx
      · exact dn x hx
      · rw [List.mem_singleton.mp hx]
        intro hm
        have := (zdt kvs c).mpr hm
        rw [hg] at this
        cases this
    | true =>
      have hcm : c ∈ kvs.map (·.1) := (zdt kvs c).mp hg
      simp_arith only [true_and]
      refine zyv (bh_l hlf) hcm (by omega) fun b0 => ?_
      rw [zadr hlf]
      intro bp hbp
      intro wp hwp
      have hfl : f ≠ l := Ne.symm hlf
      have lb : l ≠ bp := fun e => by rw [← e, bh_l hlf] at hbp; cases hbp
      have fb : f ≠ bp := fun e => by rw [← e, bh_f] at hbp; cases hbp
      have lw : l ≠ wp := fun e => by rw [← e, zej lb, bh_l hlf] at hwp; cases hwp
      have fw : f ≠ wp := fun e => by rw [← e, zej fb, bh_f] at hwp; cases hwp
      have bw : bp ≠ wp := fun e => by rw [← e, zi] at hwp; cases hwp
      have d : D4 l f bp wp := ⟨hlf, lb, lw, fb, fw, bw⟩
      have hwp0 : bhp G l f (drK kvs c) F wp = none := by rwa [zej (Ne.symm bw)] at hwp
      have hnl : ∀ kvs', bhp G l f kvs' F bp = none ∧ bhp G l f kvs' F wp = none := fun kvs' => by
        unfold bhp at hbp hwp0 ⊢
        rw [zej (Ne.symm fb), zej (Ne.symm lb)] at hbp ⊢
        rw [zej (Ne.symm fw), zej (Ne.symm lw)] at hwp0 ⊢
        exact ⟨hbp, hwp0⟩
      have hdk := List.length_filter_le (fun p : Ce × Bool => decide (p.1 ≠ c)) kvs
      have start := zace ou.nd hcm
      rw [← zyy] at start
      refine ⟨fun m η G' => ∃ kvs' b w x6, η = [some (eL e2 cells), some (.ref l), some (.ref f), some (e2 c), some (.ref bp), some (.ref wp), x6] ∧ G' = bh4 G l f bp wp kvs' F b w ∧ BlI (kvs.map (·.1)) c b w (kvs'.map (·.1)) ∧ m = w.length + kvs'.length ∧ b.length + kvs'.length ≤ 2000 ∧ w.length ≤ b.length ∧ kvs'.length ≤ 1000, ⟨_, drK kvs c, [c], [c], x6, rfl, rfl, start, rfl, by unfold drK; simp only [List.length_singleton]; omega, Nat.le_refl _, by unfold drK; omega⟩, ?_⟩
      rintro m η G' ⟨kvs', b, w, x6, rfl, rfl, bl, rfl, hsum, hwb, hk1⟩
      simp_arith only [true_and]
      refine z6u (x := .ref wp) (xs := w.map e2) (zux (b4_w d)) (zdk zd0 _) (fun z hz => by obtain ⟨u, _, rfl⟩ := List.mem_map.mp hz; exact Nat.le_trans (ze3 u) (by decide)) ?_
      have fzw : bh4 G l f bp wp kvs' F b w wp = some (.lst (w.map e2)) := b4_w d
      have fz1 : dl (dl (bh4 G l f bp wp kvs' F b w) bp) wp = bhp G l f kvs' F := by
        unfold bh4
        rw [zyj (Ne.symm bw), za3 (hnl kvs').1, za3 (hnl kvs').2]
      have fz2 : dl (bh4 G l f bp wp kvs' F b w) bp wp = some (.lst (w.map e2)) := by
        unfold bh4
        rw [zyj (Ne.symm bw), zi]
      rcases List.eq_nil_or_concat w with rfl | ⟨w0, y, hw⟩
      · simp_arith only [List.map_nil, List.isEmpty_nil, b4_b d, fz2, fz1, DO.tree]
        refine ⟨by simp only [tyD, bh_f], ?_⟩
        refine zgn (f := e2) (xs := b) rfl zd0 DL.al2 (DL.st2 _) (fun a => Nat.le_trans (ze3 a) (by decide)) fun w5 hw5 => ?_
        simp_arith only [zi, za3 hw5, DO.tree]
        rw [zni (ds := (srtT e2 b).map e2) rfl]
        refine (zh5 (y := eC (srtT e2 b)) bh_f (zv (by rw [List.length_map]; omega)) ?_).2
        have e1 : up (bhp G l f kvs' F) f (.lst (F.map (fun b => eC (srtT e2 b)) ++ [eC (srtT e2 b)])) = bhp G l f kvs' (F ++ [b]) := by
          unfold bhp
          rw [zc1, List.map_append]
          rfl
        rw [e1]
        refine ⟨_, (by repeat (first | exact Le.nil | apply Le.keep | apply Le.drop)), kvs', F ++ [b], _, _, _, _, rfl, rfl, ou.step hcm bl, hk1, by rw [List.length_append, List.length_singleton]; omega, fun x hx hm => ?_⟩
        rw [zba hc] at hx
        have hxk : x ∈ kvs.map (·.1) := (bl.mem x).mpr (.inr hm)
        rcases List.mem_append.mp hx with hx | hx
        · exact dn x hx hxk
        · rw [List.mem_singleton.mp hx] at hm
          exact (List.nodup_append.mp bl.nd).2.2 c bl.cb c hm rfl
      · rw [List.concat_eq_append] at hw
        subst hw
        have hie : ((w0 ++ [y]).map e2).isEmpty = false := by cases w0 <;> rfl
        rw [hie]
        simp_arith only [dFor, za1]
        refine z39 (ds := w0.map e2) (d := e2 y) (by rw [b4_w d, List.map_append]; rfl) ?_
        rw [zaea]
        refine ⟨y, rfl, ?_⟩
        rw [List.length_append, List.length_singleton] at hwb
        show ∃ I : Nat → DSt → DHp → Prop, _
        refine ⟨fun j η G' => ∃ kvs2 b2 w2 x6, η = [some (eL e2 cells), some (.ref l), some (.ref f), some (e2 c), some (.ref bp), some (.ref wp), x6] ∧ G' = bh4 G l f bp wp kvs2 F b2 w2 ∧ BlF (kvs.map (·.1)) c y ((nxtL y).take j) b2 w2 (kvs2.map (·.1)) ∧ w2.length + kvs2.length = w0.length + kvs'.length ∧ b2.length + kvs2.length ≤ 2000 ∧ w2.length ≤ b2.length ∧ kvs2.length ≤ 1000, ⟨kvs', b, w0, x6, rfl, rfl, bl.start, rfl, hsum, by omega, hk1⟩, fun _ _ _ _ => trivial, ?_, ?_⟩
        · rintro j dz η G' hdz ⟨kvs2, b2, w2, x6, rfl, rfl, bf, l1, l2, l3, l4⟩
          obtain ⟨z, hz, rfl⟩ := zaq hdz
          have hzt := (z78.mp (List.mem_of_getElem? hz)).1
          have hdic2 : dicN (.ref l) (bh4 G l f bp wp kvs2 F b2 w2) = some (enc DL.k2 D.bl kvs2) := by show (match bh4 G l f bp wp kvs2 F b2 w2 l with | some (.dN kvs) => some kvs | _ => none) = _; rw [b4_l d]
          simp_arith only [true_and]
          refine z6d tk2 (k := DL.k2) (e := e2) (f := D.bl) (kvs := kvs2) (neg := false) (a := z) hdic2 ?_
          cases hg2 : (aget kvs2 z).isSome with
          | false =>
            simp_arith only [true_and]
            have hzn : z ∉ kvs2.map (·.1) := fun hm => by
              have := (zdt kvs2 z).mpr hm
              rw [hg2] at this
              cases this
            exact ⟨_, (by repeat (first | exact Le.nil | apply Le.keep | apply Le.drop)), kvs2, b2, w2, _, rfl, rfl, by rw [zba hz]; exact bf.skip hzn, l1, l2, l3, l4⟩
          | true =>
            have hzm : z ∈ kvs2.map (·.1) := (zdt kvs2 z).mp hg2
            simp_arith only [true_and]
            refine zyv (b4_l d) hzm (by omega) fun b1 => ?_
            rw [zafj d]
            have hnd := (List.nodup_append.mp bf.nd).2.1
            have hdl : (drK kvs2 z).length + 1 = kvs2.length := by
              have h1 : ((kvs2.map (·.1)).erase z).length = (kvs2.map (·.1)).length - 1 := List.length_erase_of_mem hzm
              have h2 : (kvs2.map (·.1)).erase z = (kvs2.map (·.1)).filter fun u => decide (u ≠ z) := by
                rw [hnd.erase_eq_filter]
                exact List.filter_congr fun u _ => by cases hh : decide (u ≠ z) <;> simp_all
              rw [h2, ← zyy, List.length_map, List.length_map] at h1
              have h3 : 0 < kvs2.length := by
                cases kvs2 with
                | nil => cases hzm
                | cons _ _ => exact Nat.succ_pos _
              omega
            refine zh5 (y := e2 z) (b4_b d) (zv (by rw [List.length_map]; omega)) ?_
            rw [show b2.map e2 ++ [e2 z] = (b2 ++ [z]).map e2 by rw [List.map_append]; rfl, zaf1 d]
            refine zh5 (y := e2 z) (b4_w d) (zv (by rw [List.length_map]; omega)) ?_
            rw [show w2.map e2 ++ [e2 z] = (w2 ++ [z]).map e2 by rw [List.map_append]; rfl, zaea]
            refine ⟨_, (by repeat (first | exact Le.nil | apply Le.keep | apply Le.drop)), drK kvs2 z, b2 ++ [z], w2 ++ [z], _, rfl, rfl, by rw [zba hz, zyy]; exact bf.take hzm hzt, ?_, ?_, ?_, by omega⟩
            · rw [List.length_append, List.length_singleton]; omega
            · rw [List.length_append, List.length_singleton]; omega
            · rw [List.length_append, List.length_append, List.length_singleton]; omega
        · rintro η G' ⟨kvs2, b2, w2, x6, rfl, rfl, bf, l1, l2, l3, l4⟩
          rw [List.length_map, List.take_length] at bf
          exact ⟨w2.length + kvs2.length, by rw [List.length_append, List.length_singleton]; omega, _, (by repeat (first | exact Le.nil | apply Le.keep | apply Le.drop)), kvs2, b2, w2, _, rfl, rfl, bf.done, rfl, l2, l3, l4⟩
  · rintro η G' ⟨kvs, F, x3, x4, x5, x6, rfl, rfl, ou, hkl, hF, dn⟩
    rw [List.length_map, es] at hF
    rw [List.length_map, List.take_length] at dn
    have hk0 : kvs = [] := by
      cases e : kvs with
      | nil => rfl
      | cons u r =>
        have hu : u.1 ∈ kvs.map (·.1) := by rw [e]; exact List.mem_cons_self
        exact absurd hu (dn u.1 ((zam e2 cells).mem_iff.mpr (ou.sub _ hu)))
    subst hk0
    have P : zek cells F := zls (fun x => by rw [List.mem_filter]; exact ⟨fun h => h.1, fun h => ⟨h, decide_eq_true (fun z => by cases z)⟩⟩) ou.part
    have g1 : up G l (.dN (enc DL.k2 D.bl ([] : List (Ce × Bool)))) f = none := by rw [zej (Ne.symm hlf)]; exact hf1
    unfold bhp
    simp_arith only [zi, za3 g1, za3 hl0, DO.tree]
    refine zgn (f := eC) (xs := F.map (srtT e2)) (by show some _ = some _; rw [List.map_map]; rfl) zqi alC (stC fun v hv => ?_) (fun a => Nat.le_trans (zsy a) (by decide)) fun w5 hw5 => ?_
    · obtain ⟨b, hb, rfl⟩ := List.mem_map.mp hv
      intro e
      have h1 := (zam e2 b).length_eq
      rw [e] at h1
      exact P.ne b hb (List.length_eq_zero_iff.mp h1.symm)
    · simp_arith only [zi, za3 hw5, DO.tree]
      exact q F P
end M
namespace M
open PySem PySem.Spec PyProof.Rows L2 DL
def abz (i : Int) : Int := if i < 0 then -i else i
theorem z4e {i : Int} {G : DHp} {Q : DVK} : dAbs [.int i] G Q = Q (.int (abz i)) G := rfl
theorem z4s {i : Int} : abz i ≤ 1 ↔ -1 ≤ i ∧ i ≤ 1 := by unfold abz; split <;> omega
theorem zabe {x : Ce} {G : DHp} {Q : DVK} (q : Q (.int x.1) G) : dIx (e2 x) (.int 0) G Q := zjp (by decide) rfl q
theorem zabf {x : Ce} {G : DHp} {Q : DVK} (q : Q (.int x.2) G) : dIx (e2 x) (.int 1) G Q := zjp (by decide) rfl q
def zff : DRn := fun ds G Q => ∃ r o : Bl, ds = [eL e2 r, eL e2 o] ∧ o.length ≤ 1000 ∧ Q (.bl (touB r o)) G
abbrev zjf : List Str := ["row", "other", "one", "two"]
def zn6 : DTS :=
    (dSeq (dFor (za1 (ze 0)) (zl 2)
    (dIfS (zag (dCB dAny (zf (dFz (dLc (za1 (ze 1)) (zl 3) dYes (zna (dOp dLe (dCB dAbs (zf (dOp dSub (dOp dIx (ze 2) (dC (.int 0))) (dOp dIx (ze 3) (dC (.int 0)))) dNil)) (dC (.int 1))) (dOp dLe (dCB dAbs (zf (dOp dSub (dOp dIx (ze 2) (dC (.int 1))) (dOp dIx (ze 3) (dC (.int 1)))) dNil)) (dC (.int 1)))) [3])) dNil)))
    (dRet (dC (.bl true)))
    zc7))
    (dRet (dC (.bl false))))
theorem zv8 : ∀ ds G Q, zff ds G Q → ds.length = 2 := fun ds G Q ⟨_, _, e, _⟩ => by rw [e]; rfl
theorem zvz : ∀ ds G Q, zff ds G Q → zn6 { nx := fun _ G' => Q .non G', rt := Q } (zao zjf ds) G := fun ds G Q h => by
  obtain ⟨r, o, rfl, hl, q⟩ := h
  simp_arith only [zn6, zjf, dFor, za1]
  refine ⟨fun i η G' => ∃ x2, η = [some (eL e2 r), some (eL e2 o), x2, none] ∧ G' = G ∧ ∀ x ∈ r.take i, (o.any fun y => decide (tch x y)) = false, ⟨none, rfl, rfl, fun x hx => by simp at hx⟩, fun _ _ _ _ => trivial, ?_, ?_⟩
  · rintro i d η G' hd ⟨x2, rfl, rfl, dn⟩
    obtain ⟨x, hx, rfl⟩ := zaq hd
    simp_arith only [true_and]
    refine zky (xs := o) (f := e2) (fun y => .bl (decide (tch x y))) (by omega) (fun R r => by simp_arith only [za1]; exact r) (fun y hy G1 A k => ?_) fun w hw => ?_
    · simp_arith only [true_and]
      refine zabe (zabe ?_)
      simp_arith only [z4e]
      by_cases h1 : abz (x.1 - y.1) ≤ 1
      · rw [if_pos h1]
        refine zabf (zabf ?_)
        simp_arith only [z4e]
        have e : decide (tch x y) = decide (abz (x.2 - y.2) ≤ 1) := decide_eq_decide.mpr ⟨fun t => z4s.mpr t.2, fun h => ⟨z4s.mp h1, z4s.mp h⟩⟩
        rw [e] at k
        exact k
      · rw [if_neg h1]
        have e : decide (tch x y) = false := decide_eq_false fun t => h1 (z4s.mpr t.1)
        rw [e] at k
        exact k
    · simp_arith only [zi, za3 hw, DO.tree]
      refine zadb (xs := o) (b := fun y => decide (tch x y)) ?_
      cases ha : o.any fun y => decide (tch x y) with
      | true =>
        simp_arith only [true_and]
        have : touB r o = true := List.any_eq_true.mpr ⟨x, List.mem_of_getElem? hx, ha⟩
        rw [this] at q
        exact q
      | false =>
        simp_arith only [true_and]
        refine ⟨_, (by repeat (first | exact Le.nil | apply Le.keep | apply Le.drop)), _, rfl, rfl, fun z hz => ?_⟩
        rw [zba hx] at hz
        rcases List.mem_append.mp hz with hz | hz
        · exact dn z hz
        · rw [List.mem_singleton.mp hz]; exact ha
  · rintro η G' ⟨x2, rfl, rfl, dn⟩
    rw [List.length_map, List.take_length] at dn
    have : touB r o = false := by
      cases e : touB r o with
      | false => rfl
      | true =>
        obtain ⟨x, hx, h⟩ := List.any_eq_true.mp e
        rw [dn x hx] at h
        cases h
    rw [this] at q
    exact q
end M
namespace M
open PySem PySem.Spec PyProof.Rows L2 DL
abbrev eLL (R : List Bl) : D := eL (eL e2) R
theorem zac4 {a b : Bl} : eL e2 a = eL e2 b ↔ a = b := by
  constructor
  · intro h
    have e : D.nd .lst (a.map e2) = .nd .lst (b.map e2) := h
    injection e with _ e3
    exact zy3 (fun h => zwz.mp h) e3
  · intro h; rw [h]
/-- rows of which each hangs together, no cell twice -/
structure z6a (cells : Bl) (R : List Bl) : Prop where
  row : ∀ r ∈ R, RowP r
  nd : R.flatten.Nodup
  mem : ∀ x, x ∈ cells ↔ x ∈ R.flatten
theorem z91 {cells : Bl} (h : cells.Nodup) : z6a cells (cells.map fun c => [c]) := by
  have e : (cells.map fun c => [c]).flatten = cells := by
    induction cells with
    | nil => rfl
    | cons x r ih =>
      rw [List.map_cons, List.flatten_cons, ih (List.nodup_cons.mp h).2]
      rfl
  refine ⟨fun r hr => ?_, by rw [e]; exact h, fun x => by rw [e]⟩
  obtain ⟨c, _, rfl⟩ := List.mem_map.mp hr
  exact zva c
theorem z7n {cells : Bl} {R : List Bl} (P : zek cells R) : z6a cells R := by
  refine ⟨fun r hr => ⟨P.ne r hr, P.hang r hr, P.nd r hr⟩, ?_, fun x => ?_⟩
  · have := zq8 P fun _ => true
    rwa [List.filter_eq_self.mpr fun _ _ => rfl] at this
  · rw [P.cov x, List.mem_flatten]
theorem z6i {cells : Bl} {R late : List Bl} {r : Bl} {j : Nat} (h : z6a cells R) (hr : R[j]? = some r) (P : zek (R.take j).flatten late) :
    zek (R.take (j + 1)).flatten (late.filter (fun o => !touB r o) ++ [r ++ (late.filter (touB r)).flatten]) := by
  have e : (R.take (j + 1)).flatten = (R.take j).flatten ++ r := by
    rw [zba hr, List.flatten_append, List.flatten_cons, List.flatten_nil, List.append_nil]
  rw [e]
  refine z8u P (h.row r (List.mem_of_getElem? hr)) fun x hx hm => ?_
  have hn := h.nd
  rw [← List.take_append_drop j R, List.flatten_append] at hn
  have hd := (List.nodup_append.mp hn).2.2
  refine hd x hm x (List.mem_flatten.mpr ⟨r, ?_, hx⟩) rfl
  exact List.mem_of_getElem? (i := 0) (by rw [List.getElem?_drop]; exact hr)
def ze6 : DRn := fun ds G Q => ∃ cells : Bl, ds = [eL e2 cells] ∧ cells.Nodup ∧ cells.length ≤ 100 ∧ ∀ L, zek cells L → Q (eL eC (blkS L)) G
abbrev zey : List Str := ["cells", "rows", "turn", "late", "row", "near", "joined", "other", "cell"]
def znu : DTS :=
    (dSeq (dAsg (dLc (za1 (ze 0)) (zl 8) dYes (zjv (zf (ze 8) dNil)) [8]) (zl 1))
    (dFrz 1 (dSeq (dFor (zcx (zf (dCB dLen (zf (ze 0) dNil)) dNil)) (zl 2)
    (dSeq (dAsg (zi7 dNil) (zl 3))
    (dSeq (dFor (za1 (ze 1)) (zl 4)
    (dFrz 3 (dSeq (dAsg (dFz (dLc (za1 (ze 3)) (zl 7) (zag (dCB zff (zf (ze 4) (zf (ze 7) dNil)))) (ze 7) [7])) (zl 5))
    (dSeq (dAsg (dLc (za1 (ze 3)) (zl 7) (zag (dOp (dIn true) (ze 7) (ze 5))) (ze 7) [7]) (zl 3))
    (dSeq (dAsg (dCB zaas (zf (ze 4) dNil)) (zl 6))
    (dSeq (dFor (za1 (ze 5)) (zl 7)
    (dAug 6 (ze 7) zzm))
    (dFrz 6 (zh0 (dM "list" zgp (ze 3) (zf (ze 6) dNil))))))))))
    (dFrz 3 (dAsg (ze 3) (zl 1))))))
    (dRet (dFz (dCB zjm (zf (dFz (dLc (za1 (ze 1)) (zl 4) dYes (dCB zkn (zf (dFz (dCB zjm (zf (ze 4) dNil))) dNil)) [4])) dNil)))))))
theorem zv3 : ∀ ds G Q, ze6 ds G Q → ds.length = 1 := fun ds G Q ⟨_, e, _⟩ => by rw [e]; rfl
theorem z77 {xs : Bl} {G : DHp} {Q : DVK} (q : ∀ w, G w = none → Q (.ref w) (up G w (.lst (xs.map e2)))) : zaas [eL e2 xs] G Q := by
  unfold zaas d1
  have hls : sqD (eL e2 xs) G = some (xs.map e2) := rfl
  dsimp only
  rw [hls]
  exact q
theorem zvq : ∀ ds G Q, ze6 ds G Q → znu { nx := fun _ G' => Q .non G', rt := Q } (zao zey ds) G := fun ds G Q h => by
  obtain ⟨cells, rfl, nd, hl, q⟩ := h
  simp_arith only [znu, zey]
  refine zky (xs := cells) (f := e2) (fun c => eL e2 [c]) (by omega) (fun R r => by simp_arith only [za1, eL]; exact r) (fun c hc G1 A k => by simp_arith only [true_and]; exact k) fun w hw => ?_
  simp_arith only [zi, za3 hw, DO.tree]
  have fl : ∀ {R : List Bl}, z6a cells R → R.flatten.length ≤ 100 := fun {R} h => Nat.le_trans (zeq h.nd fun y hy => (h.mem y).mpr hy) hl
  simp_arith only [dFor, zcx]
  rw [zps (ds := cells.map e2) rfl]
  simp_arith only [true_and]
  refine ⟨⟨by omega, by rw [List.length_map]; omega⟩, ?_⟩
  refine ⟨fun i η G' => ∃ R x2 x3 x4 x5 x6 x7, η = [some (eL e2 cells), some (eLL R), x2, x3, x4, x5, x6, x7, none] ∧ G' = G ∧ z6a cells R ∧ R.length ≤ cells.length ∧ (1 ≤ i ∨ cells = [] → zek cells R), ⟨cells.map fun c => [c], none, none, none, none, none, none, by unfold eLL eL; rw [List.map_map]; rfl, rfl, z91 nd, by rw [List.length_map]; exact Nat.le_refl _, fun h => ?_⟩, fun _ _ _ _ => trivial, ?_, ?_⟩
  · rcases h with h | h
    · omega
    · rw [h]; exact zx8
  · rintro i d η G' hd ⟨R, x2, x3, x4, x5, x6, x7, rfl, rfl, rp, hR, hp⟩
    obtain ⟨t, ht, rfl⟩ := zaq hd
    have hfl := fl rp
    simp_arith only [true_and]
    intro p0 hp0
    simp_arith only [za1]
    refine ⟨fun j η G2 => ∃ late p x4 x5 x6 x7, η = [some (eL e2 cells), some (eLL R), some (.int t), some (.ref p), x4, x5, x6, x7, none] ∧ G2 = up G' p (.lst (late.map (eL e2))) ∧ G' p = none ∧ zek (R.take j).flatten late ∧ late.length ≤ j, ⟨[], p0, x4, x5, x6, x7, rfl, rfl, hp0, zx8, Nat.le_refl _⟩, fun _ _ _ _ => trivial, ?_, ?_⟩
    · rintro j dr η G2 hdr ⟨late, p, x4, x5, x6, x7, rfl, rfl, hp, P, hlt⟩
      obtain ⟨r, hr, rfl⟩ := zaq hdr
      have hj := (List.getElem?_eq_some_iff.mp hr).1
      have hrl : r.length ≤ 100 := by
        refine Nat.le_trans (zeq (rp.row r (List.mem_of_getElem? hr)).nd fun y hy => List.mem_flatten.mpr ⟨r, List.mem_of_getElem? hr, hy⟩) hfl
      have hol : ∀ o ∈ late, o.length ≤ 100 := fun o ho => by
        refine Nat.le_trans (zeq (P.nd o ho) fun y hy => ?_) hfl
        obtain ⟨b, hb, h2⟩ := List.mem_flatten.mp ((P.cov y).mpr ⟨o, ho, hy⟩)
        exact List.mem_flatten.mpr ⟨b, List.mem_of_mem_take hb, h2⟩
      simp_arith only [zi, za3 hp, DO.tree]
      refine ztr (xs := late) (f := eL e2) (fb := touB r) (eL e2) (by omega) (fun R r => by simp_arith only [za1]; exact r) (fun o ho G1 A B aa bb => ?_) fun w hw => ?_
      · simp_arith only [true_and]
        refine ⟨r, o, rfl, by have := hol o ho; omega, ?_⟩
        cases e : touB r o with
        | true => simp_arith only [true_and]; exact aa e
        | false => simp_arith only [true_and]; exact bb e
      · simp_arith only [zi, za3 hw, DO.tree]
        refine ztr (xs := late) (f := eL e2) (fb := fun o => !touB r o) (eL e2) (by omega) (fun R r => by simp_arith only [za1]; exact r) (fun o ho G1 A B aa bb => ?_) fun p2 hp2 => ?_
        · simp_arith only [true_and]
          refine z1k (neg := true) (x := eL e2 o) (ds := (late.filter (touB r)).map (eL e2)) (.inl rfl) (zod zd0 o) (zdk (fun a => zod zd0 a) _) (Nat.le_trans (zqf (B := 1) ze3 o) (by decide)) (touB r o) ?_ ?_
          · constructor
            · intro h
              exact List.mem_map.mpr ⟨o, List.mem_filter.mpr ⟨ho, h⟩, rfl⟩
            · intro h
              obtain ⟨u, hu, e⟩ := List.mem_map.mp h
              rw [← zac4.mp e]
              exact (List.mem_filter.mp hu).2
          · cases e : touB r o with
            | true => simp_arith only [true_and]; exact bb (by rw [e]; rfl)
            | false => simp_arith only [true_and]; exact aa (by rw [e]; rfl)
        · refine z77 fun jn hjn => ?_
          have hpj : p2 ≠ jn := fun e => by rw [← e, zi] at hjn; cases hjn
          have hj0 : G' jn = none := by rwa [zej (Ne.symm hpj)] at hjn
          have hnl : ((late.filter (touB r)).flatten).length ≤ 100 := by
            refine Nat.le_trans (zeq (zq8 P _) fun y hy => ?_) hfl
            obtain ⟨o, ho, h2⟩ := List.mem_flatten.mp hy
            obtain ⟨b, hb, h3⟩ := List.mem_flatten.mp ((P.cov y).mpr ⟨o, (List.mem_filter.mp ho).1, h2⟩)
            exact List.mem_flatten.mpr ⟨b, List.mem_of_mem_take hb, h3⟩
          have hstep := z6i rp hr P
          have hlen2 : (late.filter fun o => !touB r o).length ≤ late.length := List.length_filter_le _ _
          generalize hnr : late.filter (touB r) = near at hnl hstep
          generalize hlt2 : late.filter (fun o => !touB r o) = rest at hstep hlen2 hjn
          refine ⟨fun k η G3 => ∃ x7, η = [some (eL e2 cells), some (eLL R), some (.int t), some (.ref p2), some (eL e2 r), some (eLL near), some (.ref jn), x7, none] ∧ G3 = up (up G' p2 (.lst (rest.map (eL e2)))) jn (.lst ((r ++ (near.take k).flatten).map e2)), ⟨x7, rfl, by rw [List.take_zero, List.flatten_nil, List.append_nil]⟩, fun _ _ _ _ => trivial, ?_, ?_⟩
          · rintro k dk η G3 hdk ⟨x7, rfl, rfl⟩
            obtain ⟨o, ho, rfl⟩ := zaq hdk
            have hfl2 : ((near.take (k + 1)).flatten).length ≤ 100 := by
              refine Nat.le_trans ?_ hnl
              have h5 : near.flatten = (near.take (k + 1)).flatten ++ (near.drop (k + 1)).flatten := by rw [← List.flatten_append, List.take_append_drop]
              rw [h5, List.length_append]
              omega
            have et : (near.take (k + 1)).flatten = (near.take k).flatten ++ o := by rw [zba ho, List.flatten_append, List.flatten_cons, List.flatten_nil, List.append_nil]
            simp_arith only [true_and]
            refine ztc (xs := (r ++ (near.take k).flatten).map e2) (ys := o.map e2) zi rfl (zlf ?_) ?_
            · rw [List.length_map, List.length_map, List.length_append]
              rw [et, List.length_append] at hfl2
              omega
            · rw [zc1]
              exact ⟨_, (by repeat (first | exact Le.nil | apply Le.keep | apply Le.drop)), _, rfl, by rw [et, ← List.append_assoc, List.map_append (l₂ := o)]⟩
          · rintro η G3 ⟨x7, rfl, rfl⟩
            rw [List.length_map, List.take_length]
            simp_arith only [zi, za3 hjn, DO.tree]
            refine zh5 (y := eL e2 (r ++ near.flatten)) zi (zv (by rw [List.length_map]; omega)) ?_
            rw [zc1]
            exact ⟨_, (by repeat (first | exact Le.nil | apply Le.keep | apply Le.drop)), rest ++ [r ++ near.flatten], p2, _, _, _, _, rfl, by rw [List.map_append]; rfl, hp2, hstep, by rw [List.length_append, List.length_singleton]; omega⟩
    · rintro η G2 ⟨late, p, x4, x5, x6, x7, rfl, rfl, hp, P, hlt⟩
      rw [List.length_map] at hlt
      rw [List.length_map, List.take_length] at P
      have P2 : zek cells late := zls (fun x => (rp.mem x).symm) P
      simp_arith only [zi, za3 hp, DO.tree]
      exact ⟨_, (by repeat (first | exact Le.nil | apply Le.keep | apply Le.drop)), late, _, _, _, _, _, _, rfl, rfl, z7n P2, by omega, fun _ => P2⟩
  · rintro η G' ⟨R, x2, x3, x4, x5, x6, x7, rfl, rfl, rp, hR, hp⟩
    have P : zek cells R := hp (by
      rw [List.length_map, zcq, List.length_map]
      cases cells with
      | nil => exact .inr rfl
      | cons u v => left; rw [List.length_cons]; omega)
    have hfl := fl rp
    refine zky (xs := R) (f := eL e2) (fun r => eC (srtT e2 r)) (by omega) (fun R r => by simp_arith only [za1]; exact r) (fun r hr G1 A k => ?_) fun w hw => ?_
    · simp_arith only [true_and]
      refine zgn (f := e2) (xs := r) rfl zd0 DL.al2 (DL.st2 _) (fun a => Nat.le_trans (ze3 a) (by decide)) fun w5 hw5 => ?_
      simp_arith only [zi, za3 hw5, DO.tree]
      rw [zni (ds := (srtT e2 r).map e2) rfl]
      exact k
    · simp_arith only [zi, za3 hw, DO.tree]
      refine zgn (f := eC) (xs := R.map (srtT e2)) (by show some _ = some _; rw [List.map_map]; rfl) zqi alC (stC fun v hv => ?_) (fun a => Nat.le_trans (zsy a) (by decide)) fun w5 hw5 => ?_
      · obtain ⟨b, hb, rfl⟩ := List.mem_map.mp hv
        intro e
        have h1 := (zam e2 b).length_eq
        rw [e] at h1
        exact P.ne b hb (List.length_eq_zero_iff.mp h1.symm)
      · simp_arith only [zi, za3 hw5, DO.tree]
        exact q R P
end M
namespace M
open PySem PySem.Spec PyProof.Rows L2 DL
abbrev rwD (rows : List (List Int)) : D := eT (eT .int) rows
def zm8 (l : Int) (y : Nat) (row : List Int) : Bl := ((row.mapIdx fun i b => ((i : Int), b)).filter fun p => decide (l ≤ p.2)).map fun p => (p.1, (y : Int))
def brU (rows : List (List Int)) (l : Int) : Bl := (rows.mapIdx (zm8 l)).flatten
theorem zqu {l : Int} {y : Nat} {row : List Int} {c : Ce} : c ∈ zm8 l y row ↔ ∃ (i : Nat) (b : Int), row[i]? = some b ∧ l ≤ b ∧ c = ((i : Int), (y : Int)) := by
  unfold zm8
  rw [List.mem_map]
  constructor
  · rintro ⟨p, hp, rfl⟩
    obtain ⟨h1, h2⟩ := List.mem_filter.mp hp
    obtain ⟨i, hi, e⟩ := List.mem_mapIdx.mp h1
    subst e
    exact ⟨i, _, List.getElem?_eq_getElem hi, of_decide_eq_true h2, rfl⟩
  · rintro ⟨i, b, h1, h2, rfl⟩
    obtain ⟨hi, e⟩ := List.getElem?_eq_some_iff.mp h1
    refine ⟨((i : Int), b), List.mem_filter.mpr ⟨List.mem_mapIdx.mpr ⟨i, hi, by rw [e]⟩, decide_eq_true h2⟩, rfl⟩
theorem zac8 {rows : List (List Int)} {l : Int} {c : Ce} : c ∈ brU rows l ↔ ∃ (y i : Nat) (row : List Int) (b : Int), rows[y]? = some row ∧ row[i]? = some b ∧ l ≤ b ∧ c = ((i : Int), (y : Int)) := by
  unfold brU
  rw [List.mem_flatten]
  constructor
  · rintro ⟨L, hL, hc⟩
    obtain ⟨y, hy, e⟩ := List.mem_mapIdx.mp hL
    subst e
    obtain ⟨i, b, h1, h2, h3⟩ := zqu.mp hc
    exact ⟨y, i, _, b, List.getElem?_eq_getElem hy, h1, h2, h3⟩
  · rintro ⟨y, i, row, b, h1, h2, h3, h4⟩
    obtain ⟨hy, e⟩ := List.getElem?_eq_some_iff.mp h1
    exact ⟨zm8 l y row, List.mem_mapIdx.mpr ⟨y, hy, by rw [e]⟩, zqu.mpr ⟨i, b, h2, h3, h4⟩⟩
theorem z70 {α : Type} {R : α → α → Prop} {β : Type} (f : Nat → β → α) (xs : List β) (h : ∀ i j a b, i < j → xs[i]? = some a → xs[j]? = some b → R (f i a) (f j b)) : (xs.mapIdx f).Pairwise R := by
  refine List.pairwise_iff_getElem.mpr fun i j hi hj hij => ?_
  rw [List.length_mapIdx] at hi hj
  rw [List.getElem_mapIdx, List.getElem_mapIdx]
  exact h i j _ _ hij (List.getElem?_eq_getElem hi) (List.getElem?_eq_getElem hj)
theorem z1x (l : Int) (y : Nat) (row : List Int) : (zm8 l y row).Nodup := by
  have h1 : (row.mapIdx fun i b => ((i : Int), b)).Pairwise fun p q => p.1 ≠ q.1 := z70 _ _ fun i j a b h _ _ e => by
    have e2 : (i : Int) = (j : Int) := e
    omega
  exact List.pairwise_map.mpr ((h1.sublist List.filter_sublist).imp fun {p q} n (e : (p.1, (y : Int)) = (q.1, (y : Int))) => n (Prod.mk.inj e).1)
theorem z8g (rows : List (List Int)) (l : Int) : (brU rows l).Nodup := by
  refine List.pairwise_flatten.mpr ⟨fun L hL => ?_, z70 _ _ fun i j a b h _ _ x hx y hy e => ?_⟩
  · obtain ⟨y, hy, e⟩ := List.mem_mapIdx.mp hL
    subst e
    exact z1x _ _ _
  · obtain ⟨i1, b1, _, _, e1⟩ := zqu.mp hx
    obtain ⟨i2, b2, _, _, e2'⟩ := zqu.mp hy
    rw [e1, e2'] at e
    have := congrArg Prod.snd e
    have e3 : (i : Int) = (j : Int) := this
    omega
theorem z1m (l : Int) (y : Nat) (row : List Int) : (zm8 l y row).length ≤ row.length := by
  unfold zm8
  rw [List.length_map]
  refine Nat.le_trans (List.length_filter_le _ _) ?_
  rw [List.length_mapIdx]
  exact Nat.le_refl _
theorem z3f {α : Type} {B : Nat} : ∀ {L : List (List α)}, (∀ r ∈ L, r.length ≤ B) → L.flatten.length ≤ L.length * B
  | [], _ => by simp
  | r :: L, h => by
    have h1 := h r List.mem_cons_self
    have h2 := z3f (L := L) fun r hr => h r (List.mem_cons_of_mem _ hr)
    rw [List.flatten_cons, List.length_append, List.length_cons, Nat.succ_mul]
    omega
theorem zabp {α : Type} {L : List (List α)} {i : Nat} {r : List α} (h : L[i]? = some r) : (L.take (i + 1)).flatten = (L.take i).flatten ++ r := by
  rw [zba h, List.flatten_append, List.flatten_cons, List.flatten_nil, List.append_nil]
def zau : DRn := fun ds G Q => ∃ (rows : List (List Int)) (l : Int), ds = [rwD rows, .int l] ∧ rows.length ≤ 30 ∧ (∀ r ∈ rows, r.length ≤ 30) ∧ Q (eL e2 (srtT e2 (brU rows l))) G
abbrev zg1 : List Str := ["rows", "level", "found", "y", "row", "x", "bright"]
def zlc : DTS :=
    (dSeq (dAsg (zi7 dNil) (zl 2))
    (dSeq (dFor (zgt (zf (ze 0) dNil)) (ze2 (z4 (zl 3) (z4 (zl 4) zfc)) 2)
    (dAug 2 (dFz (dLc (zgt (zf (ze 4) dNil)) (ze2 (z4 (zl 5) (z4 (zl 6) zfc)) 2) (zag (dOp dGe (ze 6) (ze 1))) (dTup (zf (ze 5) (zf (ze 3) dNil))) [5, 6])) zzm))
    (dFrz 2 (dRet (dFz (dCB zjm (zf (ze 2) dNil)))))))
theorem zsd : ∀ ds G Q, zau ds G Q → ds.length = 2 := fun ds G Q ⟨_, _, e, _⟩ => by rw [e]; rfl
theorem z4j (rows : List (List Int)) (l : Int) (h1 : rows.length ≤ 30) (h2 : ∀ r ∈ rows, r.length ≤ 30) (i : Nat) : (((rows.mapIdx (zm8 l)).take i).flatten).length ≤ 900 := by
  have := z3f (B := 30) (L := (rows.mapIdx (zm8 l)).take i) fun r hr => by
    obtain ⟨y, hy, e⟩ := List.mem_mapIdx.mp (List.mem_of_mem_take hr)
    subst e
    exact Nat.le_trans (z1m _ _ _) (h2 _ (List.getElem_mem _))
  rw [List.length_take, List.length_mapIdx] at this
  omega
theorem zsk : ∀ ds G Q, zau ds G Q → zlc { nx := fun _ G' => Q .non G', rt := Q } (zao zg1 ds) G := fun ds G Q h => by
  obtain ⟨rows, l, rfl, h1, h2, q⟩ := h
  simp_arith only [zlc, zg1]
  intro p hp
  simp_arith only [dFor, zgt, eT]
  refine ⟨fun i η G' => ∃ x3 x4 x5 x6, η = [some (rwD rows), some (.int l), some (.ref p), x3, x4, x5, x6] ∧ G' = up G p (.lst ((((rows.mapIdx (zm8 l)).take i).flatten).map e2)), ⟨none, none, none, none, rfl, rfl⟩, fun _ _ _ _ => trivial, ?_, ?_⟩
  · rintro i d η G' hd ⟨x3, x4, x5, x6, rfl, rfl⟩
    obtain ⟨z, hz, rfl⟩ := zgb hd
    obtain ⟨row, hrow, rfl⟩ := zaq hz
    have hrl := h2 _ (List.mem_of_getElem? hrow)
    have hX : (rows.mapIdx (zm8 l))[i]? = some (zm8 l i row) := by rw [List.getElem?_mapIdx, hrow]; rfl
    simp_arith only [true_and]
    refine ztr (xs := row.mapIdx fun i b => ((i : Int), b)) (f := fun z => .nd .tup [.int z.1, .int z.2]) (fun z => decide (l ≤ z.2)) (fun z => e2 (z.1, (i : Int))) (by rw [List.length_mapIdx]; omega) (fun R r => ?_) (fun z hz G1 A B ka kb => ?_) fun w hw => ?_
    · simp_arith only [zgt, eT]
      rw [z73]
      exact r
    · simp_arith only [true_and]
      by_cases c : l ≤ z.2
      · rw [if_pos c]
        exact ka (decide_eq_true c)
      · rw [if_neg c]
        exact kb (decide_eq_false c)
    · simp_arith only [zi, za3 hw, DO.tree]
      have e1 : ((row.mapIdx fun i b => ((i : Int), b)).filter fun z => decide (l ≤ z.2)).map (fun z => e2 (z.1, (i : Int))) = (zm8 l i row).map e2 := by
        unfold zm8
        rw [List.map_map]
        rfl
      rw [e1]
      have hl1 := z4j rows l h1 h2 i
      have hl2 := z1m l i row
      refine ztc (xs := (((rows.mapIdx (zm8 l)).take i).flatten).map e2) (ys := (zm8 l i row).map e2) zi rfl (zlf (by rw [List.length_map, List.length_map]; omega)) ?_
      rw [zc1, ← List.map_append, ← zabp hX]
      exact ⟨_, (by repeat (first | exact Le.nil | apply Le.keep | apply Le.drop)), _, _, _, _, rfl, rfl⟩
  · rintro η G' ⟨x3, x4, x5, x6, rfl, rfl⟩
    rw [zib, List.length_map, show rows.length = (rows.mapIdx (zm8 l)).length by rw [List.length_mapIdx], List.take_length]
    simp_arith only [zi, za3 hp, DO.tree]
    refine zgn (f := e2) (xs := brU rows l) rfl zd0 DL.al2 (DL.st2 _) (fun a => Nat.le_trans (ze3 a) (by decide)) fun w hw => ?_
    simp_arith only [zi, za3 hw, DO.tree]
    exact q
def mxL (xs : List Int) : Int := match xs with
  | [] => 0
  | x :: r => r.foldr max x
def mnL (xs : List Int) : Int := match xs with
  | [] => 0
  | x :: r => r.foldr min x
theorem zqo {xs : List Int} (h : xs ≠ []) : mxL xs ∈ xs ∧ ∀ y ∈ xs, y ≤ mxL xs := by
  cases xs with
  | nil => exact absurd rfl h
  | cons x r =>
    clear h
    show r.foldr max x ∈ x :: r ∧ ∀ y ∈ x :: r, y ≤ r.foldr max x
    induction r with
    | nil => exact ⟨List.mem_cons_self, fun y hy => by rw [List.mem_singleton.mp hy]; exact Int.le_refl _⟩
    | cons a r ih =>
      obtain ⟨h1, h2⟩ := ih
      rw [List.foldr_cons]
      generalize hm : r.foldr max x = m at h1 h2 ⊢
      have hx := h2 x List.mem_cons_self
      have hr : ∀ y ∈ r, y ≤ m := fun y hy => h2 y (List.mem_cons_of_mem _ hy)
      rcases Int.le_total a m with h | h
      · rw [Int.max_eq_right h]
        refine ⟨?_, fun y hy => ?_⟩
        · rcases List.mem_cons.mp h1 with h3 | h3
          · rw [h3]; exact List.mem_cons_self
          · exact List.mem_cons_of_mem _ (List.mem_cons_of_mem _ h3)
        · rcases List.mem_cons.mp hy with h3 | h3
          · rw [h3]; exact hx
          · rcases List.mem_cons.mp h3 with h3 | h3
            · rw [h3]; exact h
            · exact hr y h3
      · rw [Int.max_eq_left h]
        refine ⟨List.mem_cons_of_mem _ List.mem_cons_self, fun y hy => ?_⟩
        rcases List.mem_cons.mp hy with h3 | h3
        · rw [h3]; omega
        · rcases List.mem_cons.mp h3 with h3 | h3
          · rw [h3]; exact Int.le_refl _
          · have := hr y h3; omega
theorem zp3 {xs : List Int} (h : xs ≠ []) : mnL xs ∈ xs ∧ ∀ y ∈ xs, mnL xs ≤ y := by
  cases xs with
  | nil => exact absurd rfl h
  | cons x r =>
    clear h
    show r.foldr min x ∈ x :: r ∧ ∀ y ∈ x :: r, r.foldr min x ≤ y
    induction r with
    | nil => exact ⟨List.mem_cons_self, fun y hy => by rw [List.mem_singleton.mp hy]; exact Int.le_refl _⟩
    | cons a r ih =>
      obtain ⟨h1, h2⟩ := ih
      rw [List.foldr_cons]
      generalize hm : r.foldr min x = m at h1 h2 ⊢
      have hx := h2 x List.mem_cons_self
      have hr : ∀ y ∈ r, m ≤ y := fun y hy => h2 y (List.mem_cons_of_mem _ hy)
      rcases Int.le_total m a with h | h
      · rw [Int.min_eq_right h]
        refine ⟨?_, fun y hy => ?_⟩
        · rcases List.mem_cons.mp h1 with h3 | h3
          · rw [h3]; exact List.mem_cons_self
          · exact List.mem_cons_of_mem _ (List.mem_cons_of_mem _ h3)
        · rcases List.mem_cons.mp hy with h3 | h3
          · rw [h3]; exact hx
          · rcases List.mem_cons.mp h3 with h3 | h3
            · rw [h3]; exact h
            · exact hr y h3
      · rw [Int.min_eq_left h]
        refine ⟨List.mem_cons_of_mem _ List.mem_cons_self, fun y hy => ?_⟩
        rcases List.mem_cons.mp hy with h3 | h3
        · rw [h3]; omega
        · rcases List.mem_cons.mp h3 with h3 | h3
          · rw [h3]; exact Int.le_refl _
          · have := hr y h3; omega
theorem zsv {xs : List Int} (h : xs ≠ []) {G : DHp} {Q : DVK} (q : Q (.int (mxL xs)) G) : z5c [eL .int xs] G Q := by
  refine ⟨xs, rfl, List.length_pos_iff.mpr h, fun m hm hy => ?_⟩
  obtain ⟨h1, h2⟩ := zqo h
  have h3 := hy _ h1
  have h4 := h2 _ hm
  rw [show m = mxL xs by omega]
  exact q
theorem ztf {xs : List Int} (h : xs ≠ []) {G : DHp} {Q : DVK} (q : Q (.int (mnL xs)) G) : z4z [eL .int xs] G Q := by
  refine ⟨xs, rfl, List.length_pos_iff.mpr h, fun m hm hy => ?_⟩
  obtain ⟨h1, h2⟩ := zp3 h
  have h3 := hy _ h1
  have h4 := h2 _ hm
  rw [show m = mnL xs by omega]
  exact q
def xsB (b : Bl) : List Int := b.map (·.1)
def ysB (b : Bl) : List Int := b.map (·.2)
def midB (b : Bl) : Ce := ((mnL (xsB b) + mxL (xsB b)) / 2, (mnL (ysB b) + mxL (ysB b)) / 2)
theorem zr5 {b : Bl} (h : b ≠ []) : xsB b ≠ [] := fun e => h (List.map_eq_nil_iff.mp e)
theorem zr3 {b : Bl} (h : b ≠ []) : ysB b ≠ [] := fun e => h (List.map_eq_nil_iff.mp e)
def zeo : DRn := fun ds G Q => ∃ b : Bl, ds = [eC b] ∧ b ≠ [] ∧ b.length ≤ 1000 ∧ Q (e2 (midB b)) G
abbrev zoc : List Str := ["blob", "rows", "columns", "x", "y"]
def zxk : DTS :=
    (dSeq (dPar 1 2 (zf (dFz (dLc (za1 (ze 0)) (ze2 (z4 (zl 3) (z4 (zl 4) zfc)) 2) dYes (ze 4) [3, 4])) (zf (dFz (dLc (za1 (ze 0)) (ze2 (z4 (zl 3) (z4 (zl 4) zfc)) 2) dYes (ze 3) [3, 4])) dNil)))
    (dRet (dTup (zf (dOp zv7 (dOp dAdd (dCB z4z (zf (ze 2) dNil)) (dCB z5c (zf (ze 2) dNil))) (dC (.int 2))) (zf (dOp zv7 (dOp dAdd (dCB z4z (zf (ze 1) dNil)) (dCB z5c (zf (ze 1) dNil))) (dC (.int 2))) dNil)))))
theorem z45 : ∀ ds G Q, zeo ds G Q → ds.length = 1 := fun ds G Q ⟨_, e, _⟩ => by rw [e]; rfl
theorem z5k : ∀ ds G Q, zeo ds G Q → zxk { nx := fun _ G' => Q .non G', rt := Q } (zao zoc ds) G := fun ds G Q h => by
  obtain ⟨b, rfl, ne, hl, q⟩ := h
  simp_arith only [zxk, zoc]
  refine zky (xs := b) (f := e2) (fun c => .int c.2) (by omega) (fun R r => by simp_arith only [za1, eT]; exact r) (fun c _ G1 A k => by simp_arith only [e2]; exact k) fun w hw => ?_
  simp_arith only [zi, za3 hw, DO.tree]
  refine zky (xs := b) (f := e2) (fun c => .int c.1) (by omega) (fun R r => by simp_arith only [za1, eT]; exact r) (fun c _ G1 A k => by simp_arith only [e2]; exact k) fun w2 hw2 => ?_
  simp_arith only [zi, za3 hw2, DO.tree]
  rw [show (D.lst (b.map fun c => D.int c.1)) = eL .int (xsB b) by unfold eL xsB; rw [List.map_map]; rfl, show (D.lst (b.map fun c => D.int c.2)) = eL .int (ysB b) by unfold eL ysB; rw [List.map_map]; rfl]
  refine ztf (zr5 ne) (zsv (zr5 ne) ?_)
  simp_arith only [true_and]
  refine ⟨⟨by decide, by decide⟩, ?_⟩
  refine ztf (zr3 ne) ?_
  refine zsv (zr3 ne) ?_
  simp_arith only [true_and]
  exact ⟨⟨by decide, by decide⟩, q⟩
def szB (steps : List Int) (n : Int) : Int := 1 + ((steps.filter fun s => decide (s ≤ n)).length : Int)
def zdj : DRn := fun ds G Q => ∃ (n : Int) (steps : List Int), ds = [.int n, eT .int steps] ∧ steps.length ≤ 90 ∧ Q (.int (szB steps n)) G
abbrev zn1 : List Str := ["many", "steps", "step"]
def zvp : DTS :=
    (dRet (dCB zact (zf (dC (.int 99)) (zf (dOp dAdd (dC (.int 1)) (dCB dLen (zf (dFz (dLc (za1 (ze 1)) (zl 2) (zag (dOp dGe (ze 0) (ze 2))) (ze 2) [2])) dNil))) dNil))))
theorem z2l : ∀ ds G Q, zdj ds G Q → ds.length = 2 := fun ds G Q ⟨_, _, e, _⟩ => by rw [e]; rfl
theorem z21 : ∀ ds G Q, zdj ds G Q → zvp { nx := fun _ G' => Q .non G', rt := Q } (zao zn1 ds) G := fun ds G Q h => by
  obtain ⟨n, steps, rfl, hl, q⟩ := h
  simp_arith only [zvp, zn1]
  refine ztr (xs := steps) (f := .int) (fun s => decide (s ≤ n)) .int (by omega) (fun R r => by simp_arith only [za1, eT]; exact r) (fun s _ G1 A B ka kb => ?_) fun w hw => ?_
  · simp_arith only [true_and]
    by_cases c : s ≤ n
    · rw [if_pos c]
      exact ka (decide_eq_true c)
    · rw [if_neg c]
      exact kb (decide_eq_false c)
  · have hf := List.length_filter_le (fun s => decide (s ≤ n)) steps
    unfold szB at q
    generalize steps.filter (fun s => decide (s ≤ n)) = L at hf q ⊢
    simp_arith only [zi, za3 hw, DO.tree]
    rw [zps (ds := L.map .int) rfl, List.length_map]
    simp_arith only [true_and]
    unfold zact d2
    dsimp only
    rw [if_pos (by omega)]
    exact q
def zec : DRn := fun ds G Q => ∃ xs : Bl, ds = [eL e2 xs] ∧ xs.length ≤ 1000 ∧ ∀ ys : Bl, ys.Nodup → (∀ y, y ∈ ys ↔ y ∈ xs) → ys.length ≤ xs.length → Q (eL e2 (srtT e2 ys)) G
abbrev zjt : List Str := ["items", "found", "one"]
def zmn : DTS :=
    (dSeq (dAsg zadj (zl 1))
    (dSeq (dFor (za1 (ze 0)) (zl 2)
    (dAsg (dC (.bl true)) (zpt (ze 1) (ze 2) dSet)))
    (dFrz 1 (dRet (dFz (dCB zqq (zf (ze 1) dNil)))))))
theorem zua : ∀ ds G Q, zec ds G Q → ds.length = 1 := fun ds G Q ⟨_, e, _⟩ => by rw [e]; rfl
theorem zve : ∀ ds G Q, zec ds G Q → zmn { nx := fun _ G' => Q .non G', rt := Q } (zao zjt ds) G := fun ds G Q h => by
  obtain ⟨xs, rfl, hl, q⟩ := h
  simp_arith only [zmn, zjt, zadj]
  intro p hp
  simp_arith only [dFor, za1, eL]
  refine ⟨fun i η G' => ∃ (kvs : List (Ce × Bool)) (x2 : Option D), η = [some (eL e2 xs), some (.ref p), x2] ∧ G' = up G p (.dN (enc DL.k2 .bl kvs)) ∧ (kvs.map (·.1)).Nodup ∧ (∀ y, y ∈ kvs.map (·.1) ↔ y ∈ xs.take i) ∧ kvs.length ≤ i, ⟨[], none, rfl, rfl, List.nodup_nil, by simp, Nat.le_refl _⟩, fun _ _ _ _ => trivial, ?_, ?_⟩
  · rintro i d η G' hd ⟨kvs, x2, rfl, rfl, nd, hm, hk⟩
    obtain ⟨x, hx, rfl⟩ := zaq hd
    have hi := (List.getElem?_eq_some_iff.mp hx).1
    simp_arith only [true_and]
    refine z2p (f := D.bl) (b := true) tk2 zi (zv (by omega)) ?_
    rw [zc1]
    have hlp := zsw kvs x true
    refine ⟨_, (by repeat (first | exact Le.nil | apply Le.keep | apply Le.drop)), _, _, rfl, rfl, zer _ _ _ nd, fun y => ?_, by omega⟩
    rw [z3u, hm, zba hx, List.mem_append, List.mem_singleton]
  · rintro η G' ⟨kvs, x2, rfl, rfl, nd, hm, hk⟩
    rw [List.length_map, List.take_length] at hm
    rw [List.length_map] at hk
    simp_arith only [zi, za3 hp]
    refine z2m (f := D.bl) tk2 (kvs := kvs) (z1p DL.k2 D.bl kvs _) DL.al2 (DL.st2 _) (fun a => Nat.le_trans (ze3 a) (by decide)) fun w hw => ?_
    simp_arith only [zi, za3 hw, DO.tree]
    refine q (kvs.map (·.1)) nd hm ?_
    rw [List.length_map]
    exact hk
def rowC (w : Int) (cells : Bl) (y : Int) : List Int := (zb4 0 w).map fun x => if (x, y) ∈ cells then 9 else 1
def zj9 (w h : Int) (cells : Bl) : List (List Int) := (zb4 0 h).map (rowC w cells)
theorem znd {n : Int} {i : Nat} {x : Int} : (zb4 0 n)[i]? = some x ↔ x = (i : Int) ∧ (i : Int) < n := by
  unfold zb4
  rw [List.getElem?_map]
  by_cases h : i < (n - 0).toNat
  · rw [List.getElem?_range h]
    show some (0 + (i : Int)) = some x ↔ _
    rw [Option.some.injEq]
    omega
  · rw [List.getElem?_eq_none (by rw [List.length_range]; omega)]
    constructor
    · intro h; cases h
    · omega
theorem zq0 {w h : Int} {cells : Bl} : (zj9 w h cells).length = h.toNat := by unfold zj9; rw [List.length_map, zcq, Int.sub_zero]
theorem z9u {w y : Int} {cells : Bl} : (rowC w cells y).length = w.toNat := by unfold rowC; rw [List.length_map, zcq, Int.sub_zero]
theorem zns {w h : Int} {cells : Bl} : ∀ r ∈ zj9 w h cells, r.length = w.toNat ∧ ∀ b ∈ r, 1 ≤ b ∧ b ≤ 9 := fun r hr => by
  obtain ⟨y, _, rfl⟩ := List.mem_map.mp hr
  refine ⟨z9u, fun b hb => ?_⟩
  obtain ⟨x, _, rfl⟩ := List.mem_map.mp hb
  split <;> omega
/-- the bright ones are the cells -/
theorem zrl {w h : Int} {cells : Bl} (inn : ∀ c ∈ cells, (0 ≤ c.1 ∧ c.1 < w) ∧ 0 ≤ c.2 ∧ c.2 < h) {c : Ce} : c ∈ brU (zj9 w h cells) 5 ↔ c ∈ cells := by
  rw [zac8]
  constructor
  · rintro ⟨y, i, row, b, h1, h2, h3, rfl⟩
    unfold zj9 at h1
    rw [List.getElem?_map] at h1
    cases e : (zb4 0 h)[y]? with
    | none => rw [e] at h1; cases h1
    | some u =>
      rw [e] at h1
      have e1 : rowC w cells u = row := Option.some.inj h1
      subst e1
      obtain ⟨rfl, _⟩ := znd.mp e
      unfold rowC at h2
      rw [List.getElem?_map] at h2
      cases e2 : (zb4 0 w)[i]? with
      | none => rw [e2] at h2; cases h2
      | some v =>
        rw [e2] at h2
        obtain ⟨rfl, _⟩ := znd.mp e2
        have e3 : (if ((i : Int), (y : Int)) ∈ cells then (9 : Int) else 1) = b := Option.some.inj h2
        by_cases hc : ((i : Int), (y : Int)) ∈ cells
        · exact hc
        · rw [if_neg hc] at e3; omega
  · intro hc
    obtain ⟨h1, h2⟩ := inn c hc
    have ey : ((c.2.toNat : Nat) : Int) = c.2 := Int.toNat_of_nonneg h2.1
    have ex : ((c.1.toNat : Nat) : Int) = c.1 := Int.toNat_of_nonneg h1.1
    refine ⟨c.2.toNat, c.1.toNat, rowC w cells c.2, 9, ?_, ?_, by omega, by rw [ey, ex]⟩
    · unfold zj9
      rw [List.getElem?_map, znd.mpr ⟨ey.symm, by rw [ey]; exact h2.2⟩]
      rfl
    · unfold rowC
      rw [List.getElem?_map, znd.mpr ⟨ex.symm, by rw [ex]; exact h1.2⟩]
      show some (if (c.1, c.2) ∈ cells then (9 : Int) else 1) = some 9
      rw [if_pos hc]
def zcu : DRn := fun ds G Q => ∃ (w h : Int) (cells : Bl), ds = [.int w, .int h, eL e2 cells] ∧ (0 ≤ w ∧ w ≤ 100) ∧ (0 ≤ h ∧ h ≤ 100) ∧ Q (rwD (zj9 w h cells)) G
abbrev zkv : List Str := ["width", "height", "cells", "y", "x"]
def zpd : DTS :=
    (dRet (dCB zkn (zf (dFz (dLc (zcx (zf (ze 1) dNil)) (zl 3) dYes (dCB zkn (zf (dFz (dLc (zcx (zf (ze 0) dNil)) (zl 4) dYes (dIf (zag (dOp (dIn false) (dTup (zf (ze 4) (zf (ze 3) dNil))) (ze 2))) (dC (.int 9)) (dC (.int 1))) [4])) dNil)) [3])) dNil)))
theorem zx0 : ∀ ds G Q, zcu ds G Q → ds.length = 3 := fun ds G Q ⟨_, _, _, e, _⟩ => by rw [e]; rfl
theorem zx9 : ∀ ds G Q, zcu ds G Q → zpd { nx := fun _ G' => Q .non G', rt := Q } (zao zkv ds) G := fun ds G Q h => by
  obtain ⟨w, h, cells, rfl, hw, hh, q⟩ := h
  simp_arith only [zpd, zkv]
  refine zky (xs := zb4 0 h) (f := .int) (fun y => eT .int (rowC w cells y)) (by rw [zcq]; omega) (fun R r => by simp_arith only [zcx]; exact ⟨⟨by omega, by omega⟩, r⟩) (fun y _ G1 A k => ?_) fun p hp => ?_
  · simp_arith only [true_and]
    refine zky (xs := zb4 0 w) (f := .int) (fun x => .int (if (x, y) ∈ cells then 9 else 1)) (by rw [zcq]; omega) (fun R r => by simp_arith only [zcx]; exact ⟨⟨by omega, by omega⟩, r⟩) (fun x _ G2 A2 k2 => ?_) fun p2 hp2 => ?_
    · simp_arith only [true_and]
      refine z1k (neg := false) (x := e2 (x, y)) (ds := cells.map e2) (.inl rfl) (zd0 _) (zdk zd0 _) (Nat.le_trans (ze3 _) (by decide)) (decide ((x, y) ∈ cells)) ?_ ?_
      · rw [decide_eq_true_eq]
        constructor
        · exact fun h => List.mem_map.mpr ⟨_, h, rfl⟩
        · intro h
          obtain ⟨u, hu, e⟩ := List.mem_map.mp h
          rwa [← zwz.mp e]
      · by_cases c : (x, y) ∈ cells
        · rw [if_pos c] at k2
          rw [decide_eq_true c]
          simp_arith only [true_and]
          exact k2
        · rw [if_neg c] at k2
          rw [decide_eq_false c]
          simp_arith only [true_and]
          exact k2
    · simp_arith only [zi, za3 hp2, DO.tree]
      rw [zni (ds := (zb4 0 w).map fun x => .int (if (x, y) ∈ cells then 9 else 1)) rfl]
      rw [show D.nd Kd.tup ((zb4 0 w).map fun x => .int (if (x, y) ∈ cells then 9 else 1)) = eT .int (rowC w cells y) by unfold eT rowC; rw [List.map_map]; rfl]
      exact k
  · simp_arith only [zi, za3 hp, DO.tree]
    rw [zni (ds := (zb4 0 h).map fun y => eT .int (rowC w cells y)) rfl]
    rw [show D.nd Kd.tup ((zb4 0 h).map fun y => eT .int (rowC w cells y)) = rwD (zj9 w h cells) by unfold zj9; show _ = D.nd Kd.tup _; rw [List.map_map]; rfl]
    exact q
end M
namespace M
open PySem PySem.Spec PyProof.Rows L2 DL
variable [CA]
def zaaa (w : Int) (r : List Int) : Prop := (r.length : Int) = w ∧ ∀ b ∈ r, 0 ≤ b ∧ b ≤ 1000000
def z8v (c : Cam) (rows : List (List Int)) : Prop := (rows.length : Int) = c.h ∧ (∀ r ∈ rows, zaaa c.w r) ∧ c.w ≤ 1000
def zfb : DRn := fun ds G Q => ∃ (c : Cam) (rows : List (List Int)), ds = [cD c, rwD rows] ∧ z8v c rows ∧ Q .non G
abbrev zjd : List Str := ["camera", "rows", "number", "row", "one"]
def znx : DTS :=
    (dSeq (dFor (zgt (zf (ze 1) dNil)) (ze2 (z4 (zl 2) (z4 (zl 3) zfc)) 2)
    (dSeq (dIfS (dOr (dNot (zag (dCB (dIsi isT) (zf (ze 3) (zf (dC (.ty "tuple")) dNil))))) (zag (dOp dNe (dCB dLen (zf (ze 3) dNil)) (dFld CA.Camera "width" (ze 0)))))
    zlp
    zc7)
    (dIfS (dNot (zag (dCB dAll (zf (dFz (dLc (za1 (ze 3)) (zl 4) dYes (dCB zah (zf (ze 4) (zf (dC (.int 0)) (zf (dC (.int 1000000)) dNil)))) [4])) dNil))))
    zlp
    zc7)))
    (dIfS (zag (dOp dNe (dCB dLen (zf (ze 1) dNil)) (dFld CA.Camera "height" (ze 0))))
    zlp
    zc7))
theorem zv1 : ∀ ds G Q, zfb ds G Q → ds.length = 2 := fun ds G Q ⟨_, _, e, _⟩ => by rw [e]; rfl
theorem zvv : ∀ ds G Q, zfb ds G Q → znx { nx := fun _ G' => Q .non G', rt := Q } (zao zjd ds) G := fun ds G Q h => by
  obtain ⟨c, rows, rfl, ⟨oh, ow, wl⟩, q⟩ := h
  simp_arith only [znx, zjd, eT, dFor, zgt]
  refine ⟨fun i η G' => ∃ x2 x3 x4, η = [some (cD c), some (rwD rows), x2, x3, x4] ∧ G' = G, ⟨none, none, none, rfl, rfl⟩, fun _ _ _ _ => trivial, ?_, ?_⟩
  · rintro i d η G' hd ⟨x2, x3, x4, rfl, rfl⟩
    obtain ⟨z, hz, rfl⟩ := zgb hd
    obtain ⟨row, hrow, rfl⟩ := zaq hz
    obtain ⟨h1, h2⟩ := ow _ (List.mem_of_getElem? hrow)
    simp_arith only [eT, zg8, dFld, zpu]
    rw [zza, List.length_map]
    simp_arith only [true_and]
    rw [decide_eq_true h1]
    simp_arith only [true_and]
    refine zky (xs := row) (f := .int) (fun b => .bl (decide (0 ≤ b ∧ b ≤ 1000000))) (by omega) (fun R r => by simp_arith only [za1]; exact r) (fun b hb G1 A k => ?_) fun w hw => ?_
    · simp_arith only [true_and]
      exact .inl ⟨b, 0, 1000000, rfl, rfl, rfl, k⟩
    · simp_arith only [zi, za3 hw, DO.tree]
      refine zt1 ?_
      rw [List.all_eq_true.mpr fun b hb => decide_eq_true (h2 b hb)]
      simp_arith only [true_and]
      exact ⟨_, (by repeat (first | exact Le.nil | apply Le.keep | apply Le.drop)), _, _, _, rfl, rfl⟩
  · rintro η G' ⟨x2, x3, x4, rfl, rfl⟩
    simp_arith only [dFld, zun]
    rw [zhk]
    simp_arith only [true_and]
    first
      | rw [if_neg (by omega)]
      | (rw [decide_eq_true oh]; simp_arith only [true_and])
    exact q
/-- rows of which the last is too short -/
def zad8 (n : Int) : XV := ⟨CA.BadPicture, [("number", .int n)]⟩
def zdp : DRnX := fun ds G Q E => ∃ (c : Cam) (rows : List (List Int)) (last : List Int), ds = [cD c, rwD (rows ++ [last])] ∧ (∀ r ∈ rows, zaaa c.w r) ∧ c.w ≤ 1000 ∧ (last.length : Int) ≠ c.w ∧ rows.length ≤ 1000 ∧ E (zad8 rows.length) G
abbrev zcp : List Str := ["camera", "rows", "number", "row", "one"]
def ziz (U : DXK) : DTS :=
    (dSeq (dFor (zgt (zf (ze 1) dNil)) (ze2 (z4 (zl 2) (z4 (zl 3) zfc)) 2)
    (dSeq (dIfS (dOr (dNot (zag (dCB (dIsi isT) (zf (ze 3) (zf (dC (.ty "tuple")) dNil))))) (zag (dOp dNe (dCB dLen (zf (ze 3) dNil)) (dFld CA.Camera "width" (ze 0)))))
    (z00 CA.BadPicture "number" U (zf (ze 2) dNil))
    zc7)
    (dIfS (dNot (zag (dCB dAll (zf (dFz (dLc (za1 (ze 3)) (zl 4) dYes (dCB zah (zf (ze 4) (zf (dC (.int 0)) (zf (dC (.int 1000000)) dNil)))) [4])) dNil))))
    (z00 CA.BadPicture "number" U (zf (ze 2) dNil))
    zc7)))
    (dIfS (zag (dOp dNe (dCB dLen (zf (ze 1) dNil)) (dFld CA.Camera "height" (ze 0))))
    (z00 CA.BadPicture "number" U (zf (dCB dLen (zf (ze 1) dNil)) dNil))
    zc7))
theorem zsj : ∀ ds G Q E, zdp ds G Q E → ds.length = 2 := fun ds G Q E ⟨_, _, _, e, _⟩ => by rw [e]; rfl
theorem zsr : ∀ ds G Q E, zdp ds G Q E → ziz (fun x _ G' => E x G') { nx := fun _ G' => Q .non G', rt := Q } (zao zcp ds) G := fun ds G Q E h => by
  obtain ⟨c, rows, last, rfl, ow, wl, nl, rl, q⟩ := h
  simp_arith only [ziz, zcp, eT, dFor, zgt]
  refine ⟨fun i η G' => ∃ x2 x3 x4, η = [some (cD c), some (rwD (rows ++ [last])), x2, x3, x4] ∧ G' = G ∧ i ≤ rows.length, ⟨none, none, none, rfl, rfl, Nat.zero_le _⟩, fun _ _ _ _ => trivial, ?_, ?_⟩
  · rintro i d η G' hd ⟨x2, x3, x4, rfl, rfl, hi⟩
    obtain ⟨z, hz, rfl⟩ := zgb hd
    obtain ⟨row, hrow, rfl⟩ := zaq hz
    by_cases hlt : i < rows.length
    · rw [List.getElem?_append_left hlt] at hrow
      obtain ⟨h1, h2⟩ := ow _ (List.mem_of_getElem? hrow)
      simp_arith only [eT, zg8, dFld, zpu]
      rw [zza, List.length_map]
      simp_arith only [true_and]
      rw [decide_eq_true h1]
      simp_arith only [true_and]
      refine zky (xs := row) (f := .int) (fun b => .bl (decide (0 ≤ b ∧ b ≤ 1000000))) (by omega) (fun R r => by simp_arith only [za1]; exact r) (fun b hb G1 A k => ?_) fun w hw => ?_
      · simp_arith only [true_and]
        exact .inl ⟨b, 0, 1000000, rfl, rfl, rfl, k⟩
      · simp_arith only [zi, za3 hw, DO.tree]
        refine zt1 ?_
        rw [List.all_eq_true.mpr fun b hb => decide_eq_true (h2 b hb)]
        simp_arith only [true_and]
        exact ⟨_, (by repeat (first | exact Le.nil | apply Le.keep | apply Le.drop)), _, _, _, rfl, rfl, hlt⟩
    · have ei : i = rows.length := by omega
      subst ei
      rw [List.getElem?_append_right (Nat.le_refl _), Nat.sub_self] at hrow
      cases hrow
      simp_arith only [eT, zg8, dFld, zpu]
      rw [zza, List.length_map]
      simp_arith only [true_and]
      rw [decide_eq_false nl]
      simp_arith only [z00]
      exact q
  · rintro η G' ⟨x2, x3, x4, rfl, rfl, hi⟩
    rw [zib, List.length_map, List.length_append, List.length_singleton] at hi
    omega
def ptB (steps : List Int) (b : Bl) : Int × Int × Int := ((midB b).1, (midB b).2, szB steps (b.length : Int))
def zcd : DRn := fun ds G Q => ∃ (c : Cam) (rows : List (List Int)) (l : Int) (steps : List Int), ds = [cD c, rwD rows, .int l, eT .int steps] ∧ z8v c rows ∧ c.w ≤ 30 ∧ c.h ≤ 30 ∧ steps.length ≤ 90 ∧
  ∀ L, zek (srtT e2 (brU rows l)) L → Q (eT e3 (srtT e3 ((blkS L).map (ptB steps)))) G
abbrev zk4 : List Str := ["camera", "rows", "level", "steps", "found", "blob"]
def zn3 : DTS :=
    (dSeq (zh0 (dCB zfb (zf (ze 0) (zf (ze 1) dNil))))
    (dSeq (dAsg (zi7 dNil) (zl 4))
    (dSeq (dFor (za1 (dCB zft (zf (dCB zau (zf (ze 1) (zf (ze 2) dNil))) dNil))) (zl 5)
    (zh0 (dM "list" zgp (ze 4) (zf (dTup (z9t (dCB zeo (zf (ze 5) dNil)) (zf (dCB zdj (zf (dCB dLen (zf (ze 5) dNil)) (zf (ze 3) dNil))) dNil))) dNil))))
    (dFrz 4 (dRet (dCB zkn (zf (dFz (dCB zjm (zf (ze 4) dNil))) dNil)))))))
theorem zv4 : ∀ ds G Q, zcd ds G Q → ds.length = 4 := fun ds G Q ⟨_, _, _, _, e, _⟩ => by rw [e]; rfl
theorem zacl {rows : List (List Int)} {l : Int} (h1 : rows.length ≤ 30) (h2 : ∀ r ∈ rows, r.length ≤ 30) : (srtT e2 (brU rows l)).length ≤ 900 := by
  have := z4j rows l h1 h2 (rows.mapIdx (zm8 l)).length
  rw [List.take_length] at this
  rw [(zam e2 _).length_eq]
  exact this
/-- blocks, sorted: what is told of each -/
theorem z3j {cells : Bl} {L : List Bl} (P : zek cells L) {b : Bl} (hb : b ∈ blkS L) : b ≠ [] ∧ b.length ≤ cells.length ∧ ∃ d ∈ L, b = srtT e2 d := by
  unfold blkS at hb
  obtain ⟨d, hd, rfl⟩ := List.mem_map.mp ((zam eC _).mem_iff.mp hb)
  have p := zam e2 d
  refine ⟨fun e => P.ne d hd ?_, ?_, d, hd, rfl⟩
  · rw [e] at p; exact p.symm.eq_nil
  · rw [p.length_eq]
    exact zeq (P.nd d hd) fun y hy => (P.cov y).mpr ⟨d, hd, hy⟩
theorem z4k (L : List Bl) : (blkS L).length = L.length := by
  unfold blkS
  rw [(zam eC _).length_eq, List.length_map]
theorem z4h {cells : Bl} {L : List Bl} (P : zek cells L) : L.length ≤ cells.length := by
  have nd := P.nodup
  have h : ∀ b ∈ L, ∃ x, x ∈ b := fun b hb => List.exists_mem_of_ne_nil _ (P.ne b hb)
  have hf : ∃ f : Bl → Ce, ∀ b ∈ L, f b ∈ b := by
    refine ⟨fun b => b.headD (0, 0), fun b hb => ?_⟩
    cases e : b with
    | nil => exact absurd e (P.ne b hb)
    | cons x r => exact List.mem_cons_self
  obtain ⟨f, hf⟩ := hf
  have h1 : (L.map f).Nodup := by
    refine List.pairwise_map.mpr (nd.imp_of_mem fun {a b} ha hb n e => ?_)
    exact P.far ha hb n _ (hf a ha) _ (hf b hb) (by rw [e]; exact zs8 _)
  have := zeq (xs := cells) h1 fun y hy => by
    obtain ⟨b, hb, rfl⟩ := List.mem_map.mp hy
    exact (P.cov _).mpr ⟨b, hb, hf b hb⟩
  rwa [List.length_map] at this
theorem zwa : ∀ ds G Q, zcd ds G Q → zn3 { nx := fun _ G' => Q .non G', rt := Q } (zao zk4 ds) G := fun ds G Q h => by
  obtain ⟨c, rows, l, steps, rfl, ok, wl, hl, sl, q⟩ := h
  have r30 : rows.length ≤ 30 := by have := ok.1; omega
  have c30 : ∀ r ∈ rows, r.length ≤ 30 := fun r hr => by have := (ok.2.1 r hr).1; omega
  have hlen := zacl (l := l) r30 c30
  simp_arith only [zn3, zk4]
  refine ⟨c, rows, rfl, ok, ?_⟩
  simp_arith only [true_and]
  intro p hp
  simp_arith only [dFor, za1]
  refine ⟨rows, l, rfl, r30, c30, ?_⟩
  simp_arith only [true_and]
  refine ⟨_, rfl, by omega, fun L P => ?_⟩
  simp_arith only [eL]
  refine ⟨fun i η G' => ∃ x5, η = [some (cD c), some (rwD rows), some (.int l), some (eT .int steps), some (.ref p), x5] ∧ G' = up G p (.lst ((((blkS L).take i).map (ptB steps)).map e3)), ⟨none, rfl, rfl⟩, fun _ _ _ _ => trivial, ?_, ?_⟩
  · rintro i d η G' hd ⟨x5, rfl, rfl⟩
    obtain ⟨b, hb, rfl⟩ := zaq hd
    obtain ⟨b1, b2, _⟩ := z3j P (List.mem_of_getElem? hb)
    have hi := (List.getElem?_eq_some_iff.mp hb).1
    have hpl := z4h P
    rw [z4k] at hi
    simp_arith only [z9t]
    refine ⟨by simp only [tyD, zi], b, rfl, b1, by omega, ?_⟩
    simp_arith only [e2]
    rw [zhk]
    refine ⟨_, steps, rfl, sl, ?_⟩
    simp_arith only [true_and]
    refine (zh5 (y := e3 (ptB steps b)) zi (zv (by rw [List.length_map, List.length_map, List.length_take]; omega)) ?_).2
    rw [zc1]
    exact ⟨_, (by repeat (first | exact Le.nil | apply Le.keep | apply Le.drop)), _, rfl, by rw [zba hb, List.map_append, List.map_append]; rfl⟩
  · rintro η G' ⟨x5, rfl, rfl⟩
    rw [List.length_map, List.take_length]
    simp_arith only [zi, za3 hp, DO.tree]
    refine zgn (f := e3) (xs := (blkS L).map (ptB steps)) rfl zn9 al3 (st3 _) (fun a => Nat.le_trans (zoa a) (by decide)) fun w hw => ?_
    simp_arith only [zi, za3 hw, DO.tree]
    rw [zni (ds := (srtT e3 ((blkS L).map (ptB steps))).map e3) rfl]
    exact q L P
def zdn : DRnX := fun ds G Q E => ∃ (c : Cam) (rows : List (List Int)) (last : List Int) (l : Int) (st : D), ds = [cD c, rwD (rows ++ [last]), .int l, st] ∧ (∀ r ∈ rows, zaaa c.w r) ∧ c.w ≤ 1000 ∧ (last.length : Int) ≠ c.w ∧ rows.length ≤ 1000 ∧ E (zad8 rows.length) G
abbrev zde : List Str := ["camera", "rows", "level", "steps", "found", "blob"]
def ziw (U : DXK) : DTS :=
    (dSeq (zh0 (dCX zdp U (zf (ze 0) (zf (ze 1) dNil))))
    (dSeq (dAsg (zi7 dNil) (zl 4))
    (dSeq (dFor (za1 (dCB zft (zf (dCB zau (zf (ze 1) (zf (ze 2) dNil))) dNil))) (zl 5)
    (zh0 (dM "list" zgp (ze 4) (zf (dTup (z9t (dCB zeo (zf (ze 5) dNil)) (zf (dCB zdj (zf (dCB dLen (zf (ze 5) dNil)) (zf (ze 3) dNil))) dNil))) dNil))))
    (dFrz 4 (dRet (dCB zkn (zf (dFz (dCB zjm (zf (ze 4) dNil))) dNil)))))))
theorem zsn : ∀ ds G Q E, zdn ds G Q E → ds.length = 4 := fun ds G Q E ⟨_, _, _, _, _, e, _⟩ => by rw [e]; rfl
theorem zsl : ∀ ds G Q E, zdn ds G Q E → ziw (fun x _ G' => E x G') { nx := fun _ G' => Q .non G', rt := Q } (zao zde ds) G := fun ds G Q E h => by
  obtain ⟨c, rows, last, l, st, rfl, ow, wl, nl, rl, q⟩ := h
  simp_arith only [ziw, zde, dCX]
  exact ⟨c, rows, last, rfl, ow, wl, nl, rl, q⟩
end M
namespace M
open PySem PySem.Spec PyProof.Rows L2 DL
variable [CA]
theorem z59 {s : Sk} {pic front rest : List Pt} {st : Pt} {Cr : List Int} (hl : front.length = Cr.length) (hp : (front ++ rest).Perm pic) (nd : Cr.Nodup)
    (hn : ∀ (i : Nat) (p : Pt) (a : Int), front[i]? = some p → Cr[i]? = some a → zol (zbe s st) s.cam.er p a) (h1 : (rest.length : Int) ≤ s.cam.fa) (h2 : (((zc5 s st).filter fun a => decide (a ∉ Cr)).length : Int) ≤ s.cam.lo) : FitP s pic st := by
  refine zyc hp (zaew (P := Cr.mapIdx fun i a => (a, i)) ?_)
  have e1 : (Cr.mapIdx fun i a => (a, i)).map (·.1) = Cr := by
    refine List.ext_getElem? fun i => ?_
    rw [List.getElem?_map, List.getElem?_mapIdx]
    cases Cr[i]? <;> rfl
  have e2 : (Cr.mapIdx fun i a => (a, i)).map (·.2) = List.range Cr.length := by
    refine List.ext_getElem? fun i => ?_
    rw [List.getElem?_map, List.getElem?_mapIdx]
    by_cases hi : i < Cr.length
    · rw [List.getElem?_eq_getElem hi, List.getElem?_eq_getElem (by rw [List.length_range]; exact hi), List.getElem_range]; rfl
    · rw [List.getElem?_eq_none (by omega), List.getElem?_eq_none (by rw [List.length_range]; omega)]; rfl
  refine ⟨by rw [e1]; exact nd, by rw [e2]; exact List.nodup_range, fun x hx => ?_, ?_, by rw [e1]; exact h2⟩
  · rw [List.mem_mapIdx] at hx
    obtain ⟨i, hi, e⟩ := hx
    cases e
    have hf : i < front.length := by omega
    refine ⟨front[i], by rw [List.getElem?_append_left hf, List.getElem?_eq_getElem hf], hn i _ _ (List.getElem?_eq_getElem hf) (List.getElem?_eq_getElem hi)⟩
  · rw [List.length_append, List.length_mapIdx]
    omega
theorem z7e {s : Sk} {st : Pt} {a : Int} : a ∈ zc5 s st ↔ ∃ (i : Nat) (p : Pt), a = i ∧ (zbe s st)[i]? = some p ∧ inC s.cam p.1 p.2.1 (0 - s.cam.er) := by
  rw [znn, zvj]
  constructor
  · rintro ⟨i, p, e, h, d⟩; exact ⟨i, p, e, h, of_decide_eq_true d⟩
  · rintro ⟨i, p, e, h, d⟩; exact ⟨i, p, e, h, decide_eq_true d⟩
/-- points, each near its own crater; few others, few sure craters besides -/
theorem z0r {α : Type} {s : Sk} {pic rest M : List Pt} {st : Pt} {Z : List α} (pt cr : α → Pt) (hp : (Z.map pt ++ rest).Perm pic) (nd : s.cs.Nodup) (hc : ∀ z ∈ Z, cr z ∈ s.cs) (hi : (Z.map cr).Nodup)
    (hn : ∀ z ∈ Z, zrd (pt z) (plc (cr z) st) s.cam.er) (h1 : (rest.length : Int) ≤ s.cam.fa) (hm : ∀ c ∈ s.cs, c ∉ Z.map cr → inC s.cam (plc c st).1 (plc c st).2.1 (0 - s.cam.er) → c ∈ M) (h2 : (M.length : Int) ≤ s.cam.lo) : FitP s pic st := by
  have ix : ∀ c ∈ s.cs, s.cs[s.cs.idxOf c]? = some c := fun c hc => by
    have hlt := List.idxOf_lt_length_iff.mpr hc
    rw [List.getElem?_eq_getElem hlt, List.getElem_idxOf hlt]
  refine z59 (front := Z.map pt) (rest := rest) (Cr := Z.map fun z => ((s.cs.idxOf (cr z) : Nat) : Int)) (by rw [List.length_map, List.length_map]) hp ?_ ?_ h1 ?_
  · refine List.pairwise_map.mpr ((List.pairwise_map.mp hi).imp_of_mem fun {a b} ha hb n e => n ?_)
    have e2 : s.cs.idxOf (cr a) = s.cs.idxOf (cr b) := by omega
    have h3 := ix _ (hc a ha)
    rw [e2, ix _ (hc b hb)] at h3
    exact (Option.some.inj h3).symm
  · intro i p a hp ha
    rw [List.getElem?_map] at hp ha
    cases ez : Z[i]? with
    | none => rw [ez] at hp; cases hp
    | some z =>
      rw [ez] at hp ha
      have ep : pt z = p := Option.some.inj hp
      have ea : ((s.cs.idxOf (cr z) : Nat) : Int) = a := Option.some.inj ha
      have hz := List.mem_of_getElem? ez
      refine ⟨s.cs.idxOf (cr z), plc (cr z) st, ea.symm, ?_, by rw [← ep]; exact hn z hz⟩
      unfold zbe
      rw [List.getElem?_map, ix _ (hc z hz)]
      rfl
  · refine Int.le_trans ?_ h2
    have inn : ∀ a ∈ (zc5 s st).filter fun a => decide (a ∉ Z.map fun z => ((s.cs.idxOf (cr z) : Nat) : Int)), ∃ (i : Nat) (c : Pt), a = i ∧ s.cs[i]? = some c ∧ c ∈ M := fun a ha => by
      obtain ⟨g1, g2⟩ := List.mem_filter.mp ha
      have g2 := of_decide_eq_true g2
      obtain ⟨i, p, rfl, hp, hin⟩ := z7e.mp g1
      unfold zbe at hp
      rw [List.getElem?_map] at hp
      cases ec : s.cs[i]? with
      | none => rw [ec] at hp; cases hp
      | some c =>
        rw [ec] at hp
        have ep : plc c st = p := Option.some.inj hp
        subst ep
        refine ⟨i, c, rfl, ec, hm c (List.mem_of_getElem? ec) (fun hz => g2 ?_) hin⟩
        obtain ⟨z, hz, e⟩ := List.mem_map.mp hz
        refine List.mem_map.mpr ⟨z, hz, ?_⟩
        have hlt := (List.getElem?_eq_some_iff.mp ec).1
        have h3 := ix _ (hc z hz)
        rw [e] at h3
        have := (List.getElem?_inj (i := i) (j := s.cs.idxOf c) hlt nd).mp (ec.trans h3.symm)
        rw [e, ← this]
    have nd2 := (zph s st).filter fun a => decide (a ∉ Z.map fun z => ((s.cs.idxOf (cr z) : Nat) : Int))
    generalize (zc5 s st).filter (fun a => decide (a ∉ Z.map fun z => ((s.cs.idxOf (cr z) : Nat) : Int))) = L at inn nd2 ⊢
    have hnd : (L.map fun a : Int => (s.cs[a.toNat]?).getD (0, 0, 0)).Nodup := List.pairwise_map.mpr (nd2.imp_of_mem fun {a b} ha hb n e => n (by
      obtain ⟨i, c, rfl, ec, _⟩ := inn a ha
      obtain ⟨j, d, rfl, ed, _⟩ := inn b hb
      rw [Int.toNat_natCast, Int.toNat_natCast, ec, ed] at e
      have e2 : c = d := e
      subst e2
      have hlt := (List.getElem?_eq_some_iff.mp ec).1
      have := (List.getElem?_inj (i := i) (j := j) hlt nd).mp (ec.trans ed.symm)
      omega))
    have := zeq (xs := M) hnd fun y hy => by
      obtain ⟨a, ha, rfl⟩ := List.mem_map.mp hy
      obtain ⟨i, c, rfl, ec, hM⟩ := inn a ha
      rw [Int.toNat_natCast, ec]
      exact hM
    rw [List.length_map] at this
    omega
theorem z32 {xs ys : List Int} (p : xs.Perm ys) (h : xs ≠ []) : mxL xs = mxL ys := by
  have h' : ys ≠ [] := fun e => h (by rw [e] at p; exact p.eq_nil)
  obtain ⟨a1, a2⟩ := zqo h
  obtain ⟨b1, b2⟩ := zqo h'
  have := a2 _ (p.mem_iff.mpr b1)
  have := b2 _ (p.mem_iff.mp a1)
  omega
theorem z31 {xs ys : List Int} (p : xs.Perm ys) (h : xs ≠ []) : mnL xs = mnL ys := by
  have h' : ys ≠ [] := fun e => h (by rw [e] at p; exact p.eq_nil)
  obtain ⟨a1, a2⟩ := zp3 h
  obtain ⟨b1, b2⟩ := zp3 h'
  have := a2 _ (p.mem_iff.mpr b1)
  have := b2 _ (p.mem_iff.mp a1)
  omega
theorem zaam {steps : List Int} {a b : Bl} (p : a.Perm b) (h : a ≠ []) : ptB steps a = ptB steps b := by
  have px : (xsB a).Perm (xsB b) := p.map _
  have py' : (ysB a).Perm (ysB b) := p.map _
  have e : midB a = midB b := by
    unfold midB
    rw [z32 px (zr5 h), z31 px (zr5 h), z32 py' (zr3 h), z31 py' (zr3 h)]
  unfold ptB
  rw [e, p.length_eq]
/-- the points of a picture, in some order -/
theorem z36 {steps : List Int} {cells : Bl} {L : List Bl} (P : zek cells L) : (srtT e3 ((blkS L).map (ptB steps))).Perm (L.map (ptB steps)) := by
  refine (zam e3 _).trans ?_
  unfold blkS
  refine ((zam eC _).map _).trans ?_
  rw [List.map_map]
  refine List.Perm.of_eq (List.map_congr_left fun b hb => ?_)
  show ptB steps (srtT e2 b) = ptB steps b
  refine zaam (zam e2 b) fun e => P.ne b hb ?_
  have := zam e2 b
  rw [e] at this
  exact this.symm.eq_nil
theorem z9z {b : Bl} {x y : Int} (ne : b ≠ []) (h : ∀ c ∈ b, (x - 1 ≤ c.1 ∧ c.1 ≤ x + 1) ∧ y - 1 ≤ c.2 ∧ c.2 ≤ y + 1) : (x - 1 ≤ (midB b).1 ∧ (midB b).1 ≤ x + 1) ∧ y - 1 ≤ (midB b).2 ∧ (midB b).2 ≤ y + 1 := by
  have h1 := zqo (zr5 ne)
  have h2 := zp3 (zr5 ne)
  have h3 := zqo (zr3 ne)
  have h4 := zp3 (zr3 ne)
  obtain ⟨c1, k1, e1⟩ := List.mem_map.mp h1.1
  obtain ⟨c2, k2, e2'⟩ := List.mem_map.mp h2.1
  obtain ⟨c3, k3, e3'⟩ := List.mem_map.mp h3.1
  obtain ⟨c4, k4, e4'⟩ := List.mem_map.mp h4.1
  have g1 := (h c1 k1).1
  have g2 := (h c2 k2).1
  have g3 := (h c3 k3).2
  have g4 := (h c4 k4).2
  have f1 : c1.1 = mxL (xsB b) := e1
  have f2 : c2.1 = mnL (xsB b) := e2'
  have f3 : c3.2 = mxL (ysB b) := e3'
  have f4 : c4.2 = mnL (ysB b) := e4'
  show (x - 1 ≤ (mnL (xsB b) + mxL (xsB b)) / 2 ∧ (mnL (xsB b) + mxL (xsB b)) / 2 ≤ x + 1) ∧ y - 1 ≤ (mnL (ysB b) + mxL (ysB b)) / 2 ∧ (mnL (ysB b) + mxL (ysB b)) / 2 ≤ y + 1
  omega
theorem zade (c : Ce) : midB [c] = c := by
  show ((c.1 + c.1) / 2, (c.2 + c.2) / 2) = c
  refine Prod.ext ?_ ?_
  · show (c.1 + c.1) / 2 = c.1; omega
  · show (c.2 + c.2) / 2 = c.2; omega
theorem sz24 (n : Int) : szB [2, 4] n = 1 + (if 2 ≤ n then 1 else 0) + (if 4 ≤ n then 1 else 0) := by
  unfold szB
  by_cases h1 : (2 : Int) ≤ n <;> by_cases h2 : (4 : Int) ≤ n <;> simp [h1, h2, List.filter]
theorem z27 {cells : Bl} (nd : cells.Nodup) (h : ∀ a ∈ cells, ∀ b ∈ cells, a ≠ b → ¬ tch a b) : zek cells (cells.map fun c => [c]) := by
  refine ⟨fun x => ⟨fun hx => ⟨[x], List.mem_map.mpr ⟨x, hx, rfl⟩, List.mem_singleton.mpr rfl⟩, fun ⟨b, hb, hx⟩ => ?_⟩, fun b hb => ?_, fun b hb => ?_, ?_, fun b hb => ?_⟩
  · obtain ⟨c, hc, rfl⟩ := List.mem_map.mp hb
    rw [List.mem_singleton.mp hx]; exact hc
  · obtain ⟨c, _, rfl⟩ := List.mem_map.mp hb
    exact (zva c).ne
  · obtain ⟨c, _, rfl⟩ := List.mem_map.mp hb
    exact (zva c).hang
  · refine List.pairwise_map.mpr (nd.imp_of_mem fun {a b} ha hb n x hx y hy => ?_)
    rw [List.mem_singleton.mp hx, List.mem_singleton.mp hy]
    exact h a ha b hb n
  · obtain ⟨c, _, rfl⟩ := List.mem_map.mp hb
    exact (zva c).nd
def z5u (w h : Int) (cr : List Pt) : Sk := ⟨srtT e3 cr, ⟨w, h, 1, 0, 5⟩, [0], (0, 0, 0, 0)⟩
theorem plc0 (p : Pt) : plc p (0, 0, 0) = p := by
  unfold plc rot
  simp only [if_true, Int.add_zero]
theorem zxh {i n : Int} : ab i ≤ n ↔ -n ≤ i ∧ i ≤ n := by unfold ab; split <;> omega
theorem zaco {w h : Int} {cr : List Pt} {shown : Bl} {pic : List Pt} (nd : cr.Nodup) (ns : shown.Nodup) (hl : cr.length ≤ 5) (hs : ∀ c ∈ shown, (c.1, c.2, 1) ∈ cr) (hp : pic.Perm (shown.map fun c => ((c.1, c.2, 1) : Pt))) : fitb (z5u w h cr) pic (0, 0, 0) = true := by
  have pm := zam e3 cr
  refine zjy.mpr (z0r (s := z5u w h cr) (Z := shown) (rest := []) (M := cr) (fun c => (c.1, c.2, 1)) (fun c => (c.1, c.2, 1)) (by rw [List.append_nil]; exact hp.symm) (pm.nodup_iff.mpr nd) (fun c hc => pm.mem_iff.mpr (hs c hc)) ?_ (fun c hc => ?_) (Int.le_refl 0) (fun c hc _ _ => pm.mem_iff.mp hc) (by show (cr.length : Int) ≤ 5; omega))
  · exact List.pairwise_map.mpr (ns.imp fun {a b} n (e : ((a.1, a.2, 1) : Pt) = (b.1, b.2, 1)) => n (Prod.ext (Prod.mk.inj e).1 (Prod.mk.inj (Prod.mk.inj e).2).1))
  · rw [plc0]
    refine ⟨rfl, ?_, ?_⟩
    · show ab (c.1 - c.1) ≤ 1
      rw [zxh]; omega
    · show ab (c.2 - c.2) ≤ 1
      rw [zxh]; omega
end M
namespace M
open PySem PySem.Spec PyProof.Rows L2 DL
variable [CA]
structure zada (x y : Int) (b : Bl) : Prop where
  row : RowP b
  near : ∀ c ∈ b, (x - 1 ≤ c.1 ∧ c.1 ≤ x + 1) ∧ y - 1 ≤ c.2 ∧ c.2 ≤ y + 1
  len : b.length ≤ 9
def zabs : Bl := [(-1, -1), (-1, 0), (-1, 1), (0, -1), (0, 1), (1, -1), (1, 0), (1, 1)]
theorem z95 : ∀ d ∈ zabs, ((-1 ≤ d.1 ∧ d.1 ≤ 1) ∧ -1 ≤ d.2 ∧ d.2 ≤ 1) ∧ d ≠ (0, 0) := by decide
theorem zacy {x y : Int} {ys : Bl} (h : ys.Sublist zabs) : zada x y ((x, y) :: ys.map fun d => (x + d.1, y + d.2)) := by
  have hin : ∀ d ∈ ys, ((-1 ≤ d.1 ∧ d.1 ≤ 1) ∧ -1 ≤ d.2 ∧ d.2 ≤ 1) ∧ d ≠ (0, 0) := fun d hd => z95 d (h.subset hd)
  have hnd : ys.Nodup := h.nodup (by decide)
  have root : ∀ z ∈ (x, y) :: ys.map (fun d => ((x + d.1, y + d.2) : Ce)), Way2 ((x, y) :: ys.map fun d => (x + d.1, y + d.2)) (x, y) z := fun z hz => by
    rcases List.mem_cons.mp hz with e | hm
    · rw [e]; exact .here List.mem_cons_self
    · refine .on (.here List.mem_cons_self) hz ?_
      obtain ⟨d, hd, rfl⟩ := List.mem_map.mp hm
      have := (hin d hd).1
      unfold tch
      dsimp only
      omega
  refine ⟨⟨fun e => (by cases e), fun u hu v hv => (root u hu).symm.trans (root v hv), ?_⟩, fun c hc => ?_, ?_⟩
  · refine List.nodup_cons.mpr ⟨fun hm => ?_, List.pairwise_map.mpr (hnd.imp fun {a b} n e => n ?_)⟩
    · obtain ⟨d, hd, e⟩ := List.mem_map.mp hm
      have h1 : x + d.1 = x := congrArg Prod.fst e
      have h2 : y + d.2 = y := congrArg Prod.snd e
      exact (hin d hd).2 (Prod.ext (by show d.1 = 0; omega) (by show d.2 = 0; omega))
    · have h1 : x + a.1 = x + b.1 := congrArg Prod.fst e
      have h2 : y + a.2 = y + b.2 := congrArg Prod.snd e
      exact Prod.ext (by omega) (by omega)
  · rcases List.mem_cons.mp hc with e | hm
    · rw [e]; dsimp only; omega
    · obtain ⟨d, hd, rfl⟩ := List.mem_map.mp hm
      have := (hin d hd).1
      dsimp only
      omega
  · rw [List.length_cons, List.length_map]
    have : ys.length ≤ 8 := h.length_le
    omega
def zgf : DRn := fun ds G Q => ∃ (a : Addr) (ns : List Int) (c : Int) (G0 : DHp) (x y : Int), ds = [.ref a, .int x, .int y] ∧ G = Gw G0 a ns c ∧ ns.length ≤ 63 ∧ ∀ b c', zada x y b → Q (eL e2 b) (Gw G0 a ns c')
abbrev zj6 : List Str := ["draw", "x", "y", "near", "right", "down"]
def zo4 : DTS :=
    (dSeq (dIfS (zag (dOp dEq (dCB zr (zf (ze 0) (zf (dC (.int 3)) dNil))) (dC (.int 0))))
    (dRet (zjv (zf (dTup (zf (dOp dSub (dOp dAdd (ze 1) (dCB zr (zf (ze 0) (zf (dC (.int 3)) dNil)))) (dC (.int 1))) (zf (dOp dSub (dOp dAdd (ze 2) (dCB zr (zf (ze 0) (zf (dC (.int 3)) dNil)))) (dC (.int 1))) dNil))) dNil)))
    zc7)
    (dSeq (dAsg (zjv (zf (dTup (zf (dNeg (dC (.int 1))) (zf (dNeg (dC (.int 1))) dNil))) (zf (dTup (zf (dNeg (dC (.int 1))) (zf (dC (.int 0)) dNil))) (zf (dTup (zf (dNeg (dC (.int 1))) (zf (dC (.int 1)) dNil))) (zf (dTup (zf (dC (.int 0)) (zf (dNeg (dC (.int 1))) dNil))) (zf (dTup (zf (dC (.int 0)) (zf (dC (.int 1)) dNil))) (zf (dTup (zf (dC (.int 1)) (zf (dNeg (dC (.int 1))) dNil))) (zf (dTup (zf (dC (.int 1)) (zf (dC (.int 0)) dNil))) (zf (dTup (zf (dC (.int 1)) (zf (dC (.int 1)) dNil))) dNil))))))))) (zl 3))
    (dRet (dOp dAdd (zjv (zf (dTup (zf (ze 1) (zf (ze 2) dNil))) dNil)) (dFz (dLc (za1 (ze 3)) (ze2 (z4 (zl 4) (z4 (zl 5) zfc)) 2) (zag (dOp dEq (dCB zr (zf (ze 0) (zf (dC (.int 3)) dNil))) (dC (.int 0)))) (dTup (zf (dOp dAdd (ze 1) (ze 4)) (zf (dOp dAdd (ze 2) (ze 5)) dNil))) [4, 5]))))))
theorem zx2 : ∀ ds G Q, zgf ds G Q → ds.length = 3 := fun ds G Q ⟨_, _, _, _, _, _, e, _⟩ => by rw [e]; rfl
theorem zyb : ∀ ds G Q, zgf ds G Q → zo4 { nx := fun _ G' => Q .non G', rt := Q } (zao zj6 ds) G := fun ds G Q h => by
  obtain ⟨a, ns, c, G0, x, y, rfl, rfl, hl, q⟩ := h
  simp_arith only [zo4, zj6]
  refine zfa (by decide) hl fun r r0 r1 => ?_
  simp_arith only [true_and]
  by_cases h : r = 0
  · rw [if_pos h]
    refine zfa (by decide) hl fun u u0 u1 => ?_
    simp_arith only [true_and]
    refine zfa (by decide) hl fun v v0 v1 => ?_
    simp_arith only [true_and]
    refine q [(x + u - 1, y + v - 1)] _ ⟨zva _, fun c hc => ?_, by show 1 ≤ 9; omega⟩
    rw [List.mem_singleton.mp hc]
    dsimp only
    omega
  · rw [if_neg h]
    refine zafl (xs := zabs) (f := e2) (fun d => e2 (x + d.1, y + d.2)) (by decide) (fun R r => by simp_arith only [za1]; exact r) (fun d hd G1 c1 A B ka kb => ?_) fun ys hy c' p hp => ?_
    · simp_arith only [e2]
      refine zfa (by decide) hl fun s s0 s1 => ?_
      simp_arith only [true_and]
      by_cases h2 : s = 0
      · rw [if_pos h2]
        exact ka _
      · rw [if_neg h2]
        exact kb _
    · simp_arith only [zi, za3 hp, DO.tree]
      have hyl : ys.length ≤ 8 := hy.length_le
      refine zl5 (xs := [e2 (x, y)]) (ys := ys.map fun d => e2 (x + d.1, y + d.2)) rfl rfl (zlf (by rw [List.length_map, List.length_singleton]; omega)) ?_
      have := q ((x, y) :: ys.map fun d => (x + d.1, y + d.2)) c' (zacy hy)
      rw [show D.nd Kd.lst ([e2 (x, y)] ++ ys.map fun d => e2 (x + d.1, y + d.2)) = eL e2 ((x, y) :: ys.map fun d => (x + d.1, y + d.2)) by unfold eL; rw [List.map_cons, List.map_map]; rfl]
      exact this
structure Bx where
  x : Int
  y : Int
  k : Int
  b : Bl
/-- the i-th box of w beside each other -/
structure OkB (w h : Int) (i : Nat) (z : Bx) : Prop where
  ex : z.x = 1 + 4 * ((i : Int) % w)
  ey : z.y = 1 + 4 * ((i : Int) / w)
  hi : (i : Int) < w * h
  k0 : 0 ≤ z.k ∧ z.k < 8
  bl : zada z.x z.y z.b
def OkBs (w h : Int) (B : List Bx) : Prop := ∀ i z, B[i]? = some z → OkB w h i z
def farB (a b : Bx) : Prop := (a.x + 4 ≤ b.x ∨ b.x + 4 ≤ a.x) ∨ a.y + 4 ≤ b.y ∨ b.y + 4 ≤ a.y
structure SmB (w h : Int) : Prop where
  w1 : 1 ≤ w ∧ w ≤ 3
  h1 : 1 ≤ h ∧ h ≤ 2
theorem OkB.inn {w h : Int} (sm : SmB w h) {i : Nat} {z : Bx} (o : OkB w h i z) : (1 ≤ z.x ∧ z.x + 3 ≤ 4 * w) ∧ 1 ≤ z.y ∧ z.y + 3 ≤ 4 * h := by
  obtain ⟨h1, h2, h3, _, _⟩ := o
  obtain ⟨w1, h1'⟩ := sm
  have : w = 1 ∨ w = 2 ∨ w = 3 := by omega
  rcases this with rfl | rfl | rfl <;> omega
theorem OkBs.far {w h : Int} (sm : SmB w h) {B : List Bx} (o : OkBs w h B) : B.Pairwise farB := by
  refine List.pairwise_iff_getElem.mpr fun i j hi hj hij => ?_
  obtain ⟨a1, a2, a3, _, _⟩ := o i _ (List.getElem?_eq_getElem hi)
  obtain ⟨b1, b2, b3, _, _⟩ := o j _ (List.getElem?_eq_getElem hj)
  obtain ⟨w1, h1⟩ := sm
  unfold farB
  generalize B[i] = a at *
  generalize B[j] = b at *
  have : w = 1 ∨ w = 2 ∨ w = 3 := by omega
  rcases this with rfl | rfl | rfl <;> omega
def shB (z : Bx) : Bool := decide (z.k < 4) || decide (z.k = 6)
def zlv (B : List Bx) : Bl := (B.filter shB).flatMap (·.b)
def szX (z : Bx) : Int := szB [2, 4] (z.b.length : Int)
def crB (r d : Int) (z : Bx) : Pt := (z.x - r, z.y - d, szX z)
def zt9 (r d : Int) (B : List Bx) : List Pt := (B.filter fun z => decide (z.k < 6)).map (crB r d)
def zsf (B : List Bx) : List Bx := B.filter fun z => decide (4 ≤ z.k ∧ z.k < 6)
def falB (B : List Bx) : List Bx := B.filter fun z => decide (z.k = 6)
theorem z50 {w h : Int} {a b : Bx} {i j : Nat} (oa : OkB w h i a) (ob : OkB w h j b) (f : farB a b) {x y : Ce} (hx : x ∈ a.b) (hy : y ∈ b.b) : ¬ tch x y := by
  have h1 := oa.bl.near x hx
  have h2 := ob.bl.near y hy
  unfold farB at f
  unfold tch
  omega
theorem OkBs.mem {w h : Int} {B : List Bx} (o : OkBs w h B) {z : Bx} (hz : z ∈ B) : ∃ i, OkB w h i z := by
  obtain ⟨i, hi, e⟩ := List.getElem_of_mem hz
  exact ⟨i, o i z (by rw [List.getElem?_eq_getElem hi, e])⟩
theorem zw0 {w h : Int} (sm : SmB w h) {B : List Bx} (o : OkBs w h B) : zek (zlv B) ((B.filter shB).map (·.b)) := by
  refine ⟨fun x => ?_, fun b hb => ?_, fun b hb => ?_, ?_, fun b hb => ?_⟩
  · unfold zlv
    rw [List.mem_flatMap]
    constructor
    · rintro ⟨z, hz, hx⟩
      exact ⟨z.b, List.mem_map.mpr ⟨z, hz, rfl⟩, hx⟩
    · rintro ⟨b, hb, hx⟩
      obtain ⟨z, hz, rfl⟩ := List.mem_map.mp hb
      exact ⟨z, hz, hx⟩
  · obtain ⟨z, hz, rfl⟩ := List.mem_map.mp hb
    obtain ⟨i, oi⟩ := o.mem (List.mem_filter.mp hz).1
    exact oi.bl.row.ne
  · obtain ⟨z, hz, rfl⟩ := List.mem_map.mp hb
    obtain ⟨i, oi⟩ := o.mem (List.mem_filter.mp hz).1
    exact oi.bl.row.hang
  · refine List.pairwise_map.mpr (((o.far sm).sublist List.filter_sublist).imp_of_mem fun {a b} ha hb f x hx y hy => ?_)
    obtain ⟨i, oi⟩ := o.mem (List.mem_filter.mp ha).1
    obtain ⟨j, oj⟩ := o.mem (List.mem_filter.mp hb).1
    exact z50 oi oj f hx hy
  · obtain ⟨z, hz, rfl⟩ := List.mem_map.mp hb
    obtain ⟨i, oi⟩ := o.mem (List.mem_filter.mp hz).1
    exact oi.bl.row.nd
theorem zaak {w h : Int} (sm : SmB w h) {B : List Bx} (o : OkBs w h B) : ∀ c ∈ zlv B, (0 ≤ c.1 ∧ c.1 < 4 * w) ∧ 0 ≤ c.2 ∧ c.2 < 4 * h := fun c hc => by
  obtain ⟨z, hz, hc⟩ := List.mem_flatMap.mp hc
  obtain ⟨i, oi⟩ := o.mem (List.mem_filter.mp hz).1
  have h1 := oi.inn sm
  have h2 := oi.bl.near c hc
  omega
theorem zz1 {w h : Int} {B : List Bx} (o : OkBs w h B) : (zlv B).length ≤ B.length * 9 := by
  refine Nat.le_trans (zms (B := 9) fun z hz => ?_) (Nat.mul_le_mul_right _ (List.length_filter_le _ _))
  obtain ⟨i, oi⟩ := o.mem (List.mem_filter.mp hz).1
  exact oi.bl.len
def skB (w h lo fa r d : Int) (B : List Bx) : Sk := ⟨srtT e3 (zt9 r d B ++ [(99, 99, 1)]), ⟨4 * w, 4 * h, 1, fa, lo⟩, [0], (r, r, d, d)⟩
theorem plcB {x y k r d : Int} : plc (x, y, k) (0, r, d) = (x + r, y + d, k) := by
  unfold plc rot
  simp only [if_true]
theorem zwu {w h r d : Int} (sm : SmB w h) {B : List Bx} (o : OkBs w h B) {Z : List Bx} (hs : Z.Sublist B) : (Z.map (crB r d)).Nodup := by
  refine List.pairwise_map.mpr (((o.far sm).sublist hs).imp fun {a b} f e => ?_)
  have h1 : a.x - r = b.x - r := congrArg Prod.fst e
  have h2 : a.y - d = b.y - d := congrArg (fun z : Pt => z.2.1) e
  unfold farB at f
  omega
theorem z5z {w h lo fa r d : Int} (sm : SmB w h) {B : List Bx} (o : OkBs w h B) (hr : -2 ≤ r ∧ r ≤ 2) (hd : -2 ≤ d ∧ d ≤ 2) (h1 : ((zsf B).length : Int) ≤ lo) (h2 : ((falB B).length : Int) ≤ fa) {pic : List Pt} (hp : pic.Perm ((B.filter shB).map fun z => ptB [2, 4] z.b)) : fitb (skB w h lo fa r d B) pic (0, r, d) = true := by
  have pm := zam e3 (zt9 r d B ++ [(99, 99, 1)])
  have c99 : ∀ z ∈ B, crB r d z ≠ (99, 99, 1) := fun z hz e => by
    obtain ⟨i, oi⟩ := o.mem hz
    have h3 := oi.inn sm
    have h4 : z.x - r = 99 := congrArg Prod.fst e
    have := sm.w1
    omega
  have pp : ((B.filter fun z => decide (z.k < 4)).map (fun z => ptB [2, 4] z.b) ++ (falB B).map fun z => ptB [2, 4] z.b).Perm pic := by
    refine List.Perm.trans ?_ hp.symm
    rw [← List.map_append]
    refine List.Perm.map _ ?_
    have h3 := List.filter_append_perm (fun z : Bx => decide (z.k < 4)) (B.filter shB)
    rw [List.filter_filter, List.filter_filter] at h3
    refine List.Perm.trans (List.Perm.of_eq ?_) h3
    congr 1
    · refine List.filter_congr fun z _ => ?_
      unfold shB
      by_cases c : z.k < 4 <;> simp [c]
    · unfold falB
      refine List.filter_congr fun z _ => ?_
      unfold shB
      by_cases c : z.k < 4
      · have : z.k ≠ 6 := by omega
        simp [c, this]
      · simp [c]
  refine zjy.mpr (z0r (s := skB w h lo fa r d B) (Z := B.filter fun z => decide (z.k < 4)) (rest := (falB B).map fun z => ptB [2, 4] z.b) (M := (zsf B).map (crB r d)) (fun z => ptB [2, 4] z.b) (crB r d) pp (pm.nodup_iff.mpr ?_) (fun z hz => pm.mem_iff.mpr ?_) (zwu sm o List.filter_sublist) (fun z hz => ?_) (by rw [List.length_map]; exact h2) (fun c hc hn hin => ?_) (by rw [List.length_map]; exact h1))
  · refine List.nodup_append.mpr ⟨zwu sm o List.filter_sublist, by simp, fun u hu v hv e => ?_⟩
    obtain ⟨z, hz, rfl⟩ := List.mem_map.mp hu
    rw [List.mem_singleton.mp hv] at e
    exact c99 z (List.mem_filter.mp hz).1 e
  · obtain ⟨g1, g2⟩ := List.mem_filter.mp hz
    have g2 := of_decide_eq_true g2
    exact List.mem_append.mpr (.inl (List.mem_map.mpr ⟨z, List.mem_filter.mpr ⟨g1, decide_eq_true (by omega)⟩, rfl⟩))
  · obtain ⟨i, oi⟩ := o.mem (List.mem_filter.mp hz).1
    have hm := z9z oi.bl.row.ne oi.bl.near
    unfold crB
    rw [plcB]
    refine ⟨rfl, ?_, ?_⟩
    · show ab ((midB z.b).1 - (z.x - r + r)) ≤ 1
      rw [zxh]; omega
    · show ab ((midB z.b).2 - (z.y - d + d)) ≤ 1
      rw [zxh]; omega
  · rcases List.mem_append.mp (pm.mem_iff.mp hc) with hc | hc
    · obtain ⟨z, hz, rfl⟩ := List.mem_map.mp hc
      obtain ⟨g1, g2⟩ := List.mem_filter.mp hz
      have g2 := of_decide_eq_true g2
      by_cases c4 : z.k < 4
      · exact absurd (List.mem_map.mpr ⟨z, List.mem_filter.mpr ⟨g1, decide_eq_true c4⟩, rfl⟩) hn
      · exact List.mem_map.mpr ⟨z, List.mem_filter.mpr ⟨g1, decide_eq_true (by omega)⟩, rfl⟩
    · rw [List.mem_singleton.mp hc, plcB] at hin
      obtain ⟨⟨_, h3⟩, _⟩ := hin
      have h4 : 99 + r < 4 * w + (0 - 1) := h3
      have := sm.w1
      omega
theorem z6j {s : Sk} {p p' : List Pt} {st : Pt} (h : p.Perm p') : fitb s p st = fitb s p' st := by
  cases e : fitb s p st with
  | true => exact (zjy.mpr (zyc h (zjy.mp e))).symm
  | false =>
    cases e' : fitb s p' st with
    | false => rfl
    | true => rw [zjy.mpr (zyc h.symm (zjy.mp e'))] at e; cases e
end M
namespace M
open PySem PySem.Spec PyProof.Rows L2 DL
variable [CA]
theorem z4d {b : Bool} {G : DHp} {Q : DVK} : dInt [.bl b] G Q = Q (.int (if b then 1 else 0)) G := rfl
theorem z8y (B : List Bx) (z : Bx) : zlv (B ++ [z]) = zlv B ++ (if shB z = true then z.b else []) := by
  unfold zlv
  rw [List.filter_append, List.flatMap_append]
  congr 1
  cases e : shB z <;> simp [List.filter, e]
theorem z7s (r d : Int) (B : List Bx) (z : Bx) : zt9 r d (B ++ [z]) = zt9 r d B ++ (if z.k < 6 then [crB r d z] else []) := by
  unfold zt9
  rw [List.filter_append, List.map_append]
  congr 1
  by_cases e : z.k < 6 <;> simp [List.filter, e]
theorem z7l (B : List Bx) (z : Bx) : ((zsf (B ++ [z])).length : Int) = (zsf B).length + (if 4 ≤ z.k ∧ z.k < 6 then 1 else 0) := by
  unfold zsf
  rw [List.filter_append, List.length_append]
  by_cases e : 4 ≤ z.k ∧ z.k < 6 <;> simp [List.filter, e]
theorem zaaf (B : List Bx) (z : Bx) : ((falB (B ++ [z])).length : Int) = (falB B).length + (if z.k = 6 then 1 else 0) := by
  unfold falB
  rw [List.filter_append, List.length_append]
  by_cases e : z.k = 6 <;> simp [List.filter, e]
theorem OkBs.snoc {w h : Int} {B : List Bx} (o : OkBs w h B) {z : Bx} (oz : OkB w h B.length z) : OkBs w h (B ++ [z]) := fun i y hy => by
  by_cases hi : i < B.length
  · rw [List.getElem?_append_left hi] at hy
    exact o i y hy
  · rw [List.getElem?_append_right (by omega)] at hy
    have e : i - B.length = 0 := by
      cases e : i - B.length with
      | zero => rfl
      | succ n => rw [e] at hy; cases hy
    rw [e] at hy
    cases hy
    rw [show i = B.length by omega]
    exact oz
theorem z3s (r d : Int) (B : List Bx) : (zt9 r d B).length ≤ B.length := by
  unfold zt9
  rw [List.length_map]
  exact List.length_filter_le _ _
theorem zxe {x : Bool} {G : DHp} {Q : DVK} (q : Q (.bl true) G) : dEq (.bl x) (.bl x) G Q := by
  refine ⟨⟨rfl, rfl, by show SeqAt.shaped (py (.bl x)) = true; rw [py]; rfl, by show SeqAt.shaped (py (.bl x)) = true; rw [py]; rfl⟩, ?_⟩
  show Q (.bl (PyData.eqv (py (.bl x)) (py (.bl x)))) G
  rw [py, PyData.eqv, show (x == x) = true by simp]
  exact q
def mkB (W : Int) (i : Nat) (k : Int) (b : Bl) : Bx := ⟨1 + 4 * ((i : Int) % W), 1 + 4 * ((i : Int) / W), k, b⟩
def zbw : DRn := fun ds G Q => ∃ (a : Addr) (ns : List Int) (c : Int) (G0 : DHp), ds = [.ref a] ∧ G = Gw G0 a ns c ∧ ns.length ≤ 63 ∧ ∀ c', Q (.bl true) (Gw G0 a ns c')
abbrev zfs : List Str := ["draw", "wide", "high", "lost", "false", "right", "down", "camera", "craters", "cells", "many", "at", "x", "y", "kind", "blob", "size", "sky", "picture"]
def zh1 : DTS :=
    (dSeq (dAsg (dTup (zf (dOp dAdd (dC (.int 1)) (dCB zr (zf (ze 0) (zf (dC (.int 3)) dNil)))) (zf (dOp dAdd (dC (.int 1)) (dCB zr (zf (ze 0) (zf (dC (.int 2)) dNil)))) (zf (dCB zr (zf (ze 0) (zf (dC (.int 3)) dNil))) (zf (dCB zr (zf (ze 0) (zf (dC (.int 2)) dNil))) dNil))))) (ze2 (z4 (zl 1) (z4 (zl 2) (z4 (zl 3) (z4 (zl 4) zfc)))) 4))
    (dSeq (dPar 5 6 (zf (dOp dSub (dCB zr (zf (ze 0) (zf (dC (.int 5)) dNil))) (dC (.int 2))) (zf (dOp dSub (dCB zr (zf (ze 0) (zf (dC (.int 5)) dNil))) (dC (.int 2))) dNil)))
    (dSeq (dAsg (dTup (zf (dFz (zsg CA.Camera zal (zf (dOp dMul (dC (.int 4)) (ze 1)) (zf (dOp dMul (dC (.int 4)) (ze 2)) (zf (dC (.int 1)) (zf (ze 4) (zf (ze 3) dNil))))))) (zf (zi7 dNil) (zf (zjv dNil) (zf (zjv (zf (dC (.int 0)) (zf (dC (.int 0)) dNil))) dNil))))) (ze2 (z4 (zl 7) (z4 (zl 8) (z4 (zl 9) (z4 (zl 10) zfc)))) 4))
    (dSeq (dFor (zcx (zf (dOp dMul (ze 1) (ze 2)) dNil)) (zl 11)
    (dSeq (zabr 12 13 14 (zf (dOp dAdd (dC (.int 1)) (dOp dMul (dC (.int 4)) (dOp dMod (dCB dInt (zf (ze 11) dNil)) (ze 1)))) (zf (dOp dAdd (dC (.int 1)) (dOp dMul (dC (.int 4)) (dOp zv7 (ze 11) (ze 1)))) (zf (dCB zr (zf (ze 0) (zf (dC (.int 8)) dNil))) dNil))))
    (dSeq (dAsg (dCB zgf (zf (ze 0) (zf (ze 12) (zf (ze 13) dNil)))) (zl 15))
    (dSeq (dAsg (dOp dAdd (dOp dAdd (dC (.int 1)) (dCB dInt (zf (dOp dGe (dCB dLen (zf (ze 15) dNil)) (dC (.int 2))) dNil))) (dCB dInt (zf (dOp dGe (dCB dLen (zf (ze 15) dNil)) (dC (.int 4))) dNil))) (zl 16))
    (dSeq (dIfS (zag (dOp dLt (ze 14) (dC (.int 6))))
    (zh0 (dM "list" zgp (ze 8) (zf (dTup (zf (dOp dSub (ze 12) (ze 5)) (zf (dOp dSub (ze 13) (ze 6)) (zf (ze 16) dNil)))) dNil)))
    zc7)
    (dSeq (dIfS (dOr (zag (dOp dLt (ze 14) (dC (.int 4)))) (zag (dOp dEq (ze 14) (dC (.int 6)))))
    (dAsg (dOp dAdd (ze 9) (ze 15)) (zl 9))
    zc7)
    (dAsg (zjv (zf (dOp dAdd (dOp dIx (ze 10) (dC (.int 0))) (dCB dInt (zf (zie dLe dLt (dC (.int 4)) (ze 14) (dC (.int 6))) dNil))) (zf (dOp dAdd (dOp dIx (ze 10) (dC (.int 1))) (dCB dInt (zf (dOp dEq (ze 14) (dC (.int 6))) dNil))) dNil))) (zl 10))))))))
    (dFrz 8 (dSeq (dAsg (dFz (zsg CA.Sky zbq (zf (dFz (zsg CA.Ground zaw (zf (dOp dAdd (ze 8) (zjv (zf (dTup (zf (dC (.int 99)) (zf (dC (.int 99)) (zf (dC (.int 1)) dNil)))) dNil))) dNil))) (zf (ze 7) (zf (dTup (zf (dC (.int 0)) dNil)) (zf (dTup (zf (ze 5) (zf (ze 5) (zf (ze 6) (zf (ze 6) dNil))))) dNil)))))) (zl 17))
    (dSeq (dAsg (dCB zcd (zf (ze 7) (zf (dCB zcu (zf (dOp dMul (dC (.int 4)) (ze 1)) (zf (dOp dMul (dC (.int 4)) (ze 2)) (zf (ze 9) dNil)))) (zf (dC (.int 5)) (zf (dTup (zf (dC (.int 2)) (zf (dC (.int 4)) dNil))) dNil))))) (zl 18))
    (dSeq (dIfS (dAnd (zag (dOp dLe (dOp dIx (ze 10) (dC (.int 0))) (ze 3))) (dAnd (zag (dOp dLe (dOp dIx (ze 10) (dC (.int 1))) (ze 4))) (dNot (zag (dCB zj7 (zf (ze 17) (zf (ze 18) (zf (dTup (zf (dC (.int 0)) (zf (ze 5) (zf (ze 6) dNil)))) dNil))))))))
    (dRet (dC (.bl false)))
    zc7)
    (dRet (dOp dEq (dCB zj7 (zf (ze 17) (zf (z5y (ze 18)) (zf (dTup (zf (dC (.int 0)) (zf (ze 5) (zf (ze 6) dNil)))) dNil)))) (dCB zf8 (zf (ze 17) (zf (ze 18) (zf (dTup (zf (dC (.int 0)) (zf (ze 5) (zf (ze 6) dNil)))) dNil))))))))))))))
theorem zon : ∀ ds G Q, zbw ds G Q → ds.length = 1 := fun ds G Q ⟨_, _, _, _, e, _⟩ => by rw [e]; rfl
theorem zom : ∀ ds G Q, zbw ds G Q → zh1 { nx := fun _ G' => Q .non G', rt := Q } (zao zfs ds) G := fun ds G Q h => by
  obtain ⟨a, ns, c, G0, rfl, rfl, hl, q⟩ := h
  simp_arith only [zh1, zfs]
  refine zfa (by decide) hl fun w w0 w1 => ?_
  simp_arith only [true_and]
  refine zfa (by decide) hl fun h h0 h1 => ?_
  simp_arith only [true_and]
  refine zfa (by decide) hl fun lo lo0 lo1 => ?_
  refine zfa (by decide) hl fun fa fa0 fa1 => ?_
  refine zfa (by decide) hl fun r r0 r1 => ?_
  simp_arith only [true_and]
  refine zfa (by decide) hl fun d d0 d1 => ?_
  simp_arith only [zsg]
  refine ⟨zgu (by omega), zgu (by omega), fun y hy => ?_⟩
  refine ⟨y, ⟨4 * (1 + w), 4 * (1 + h), 1, fa, lo⟩, rfl, zi, ⟨by dsimp only; omega, by dsimp only; omega, by dsimp only; omega, by dsimp only; omega, by dsimp only; omega⟩, ?_⟩
  rw [zc1]
  refine ⟨rfl, ?_⟩
  simp_arith only [zi, za3 hy]
  intro p hp
  obtain ⟨e, hap⟩ := zzt (o := .lst []) hp
  have hgp := zu5 hap hp
  rw [e]
  have sm : SmB (1 + w) (1 + h) := ⟨by omega, by omega⟩
  simp_arith only [dFor, zcx]
  refine ⟨zgu (by omega), ⟨?_, ?_⟩, ?_⟩
  · have : 0 ≤ (1 + w) * (1 + h) := Int.mul_nonneg (by omega) (by omega)
    omega
  · have : (1 + w) * (1 + h) ≤ 3 * 2 := Int.mul_le_mul (by omega) (by omega) (by omega) (by omega)
    omega
  refine ⟨fun i η G' => ∃ B c' o1 o2 o3 o4 o5 o6, η = [some (.ref a), some (.int (1 + w)), some (.int (1 + h)), some (.int lo), some (.int fa), some (.int (r - 2)), some (.int (d - 2)), some (cD ⟨4 * (1 + w), 4 * (1 + h), 1, fa, lo⟩), some (.ref p), some (eL e2 (zlv B)), some (eL .int [((zsf B).length : Int), ((falB B).length : Int)]), o1, o2, o3, o4, o5, o6, none, none] ∧ G' = Gw (up G0 p (.lst ((zt9 (r - 2) (d - 2) B).map e3))) a ns c' ∧ OkBs (1 + w) (1 + h) B ∧ B.length = i, ⟨[], _, none, none, none, none, none, none, rfl, rfl, fun i z hz => (by cases hz), rfl⟩, fun _ _ _ _ => trivial, ?_, ?_⟩
  · rintro i dd η G' hd ⟨B, c', o1, o2, o3, o4, o5, o6, rfl, rfl, ob, rfl⟩
    obtain ⟨t, ht, rfl⟩ := zaq hd
    obtain ⟨rfl, hlt⟩ := znd.mp ht
    have h6 : (1 + w) * (1 + h) ≤ 3 * 2 := Int.mul_le_mul (by omega) (by omega) (by omega) (by omega)
    simp_arith only [zabr, zn8]
    refine ⟨by omega, zgu ?_, ⟨by omega, by omega⟩, zgu ?_, ?_⟩
    · omega
    · omega
    · refine zfa (by decide) hl fun k k0 k1 => ?_
      simp_arith only [true_and]
      refine ⟨a, ns, _, _, _, _, rfl, rfl, hl, fun b c2 hb => ?_⟩
      have hbl := hb.len
      have hcl := zz1 ob
      have hcr := z3s (r - 2) (d - 2) B
      have hB6 : B.length ≤ 6 := by omega
      have oz : OkB (1 + w) (1 + h) B.length (mkB (1 + w) B.length k b) := ⟨rfl, rfl, hlt, ⟨k0, k1⟩, hb⟩
      have hz1 := z7s (r - 2) (d - 2) B (mkB (1 + w) B.length k b)
      have hz2 := z8y B (mkB (1 + w) B.length k b)
      have hz3 := z7l B (mkB (1 + w) B.length k b)
      have hz4 := zaaf B (mkB (1 + w) B.length k b)
      have hsz : (1 + (if 2 ≤ (b.length : Int) then 1 else 0)) + (if 4 ≤ (b.length : Int) then 1 else 0) = szX (mkB (1 + w) B.length k b) := (sz24 _).symm
      simp_arith only [zlx, z4d, hsz]
      have hkk : k < 4 ∨ (4 ≤ k ∧ k < 6) ∨ k = 6 ∨ k = 7 := by omega
      clear ht hd
      rcases hkk with hk | hk | hk | hk
      · have c1 : (k < 6) = True := eq_true (show k < 6 by omega)
        have c2' : (k < 4) = True := eq_true (show k < 4 by omega)
        have c3 : (k = 6) = False := eq_false (show ¬ k = 6 by omega)
        have c4 : (4 ≤ k) = False := eq_false (show ¬ 4 ≤ k by omega)
        have sh : shB (mkB (1 + w) B.length k b) = true := by
          show (decide (k < 4) || decide (k = 6)) = _
          simp only [c2', c3, decide_true, decide_false, Bool.or_self, Bool.true_or, Bool.or_true]
        rw [sh] at hz2
        have k6 : ((mkB (1 + w) B.length k b).k < 6) = True := c1
        rw [if_pos (by rw [k6]; trivial)] at hz1
        have k4 : (4 ≤ (mkB (1 + w) B.length k b).k ∧ (mkB (1 + w) B.length k b).k < 6) = False := eq_false (show ¬ (4 ≤ k ∧ k < 6) by omega)
        rw [if_neg (by rw [k4]; exact id)] at hz3
        have k6' : ((mkB (1 + w) B.length k b).k = 6) = False := c3
        rw [if_neg (by rw [k6']; exact id)] at hz4
        simp_arith only [c1, c2', c3, c4]
        refine zh5 (y := e3 (crB (r - 2) (d - 2) (mkB (1 + w) B.length k b))) (zu2 hap) (zv (by rw [List.length_map]; omega)) ?_
        rw [z5p hap]
        refine zl5 (G := _) (xs := (zlv B).map e2) (ys := b.map e2) rfl rfl (zlf (by rw [List.length_map, List.length_map]; omega)) ?_
        refine zhw (f := .int) (by decide) (x := ((zsf B).length : Int)) rfl ?_
        simp_arith only [true_and]
        refine zhw (f := .int) (by decide) (x := ((falB B).length : Int)) rfl ?_
        simp_arith only [true_and]
        refine ⟨_, (by repeat (first | exact Le.nil | apply Le.keep | apply Le.drop)), B ++ [mkB (1 + w) B.length k b], c2, some (.int (B.length : Int)), some (.int (1 + 4 * ((B.length : Int) % (1 + w)))), some (.int (1 + 4 * ((B.length : Int) / (1 + w)))), some (.int k), some (eL e2 b), some (.int (szX (mkB (1 + w) B.length k b))), ?_, ?_, ob.snoc oz, by rw [List.length_append]; rfl⟩
        · rw [hz2, hz3, hz4]
          unfold eL
          rw [if_pos rfl, List.map_append]
          rfl
        · rw [hz1]
          rw [List.map_append]
          rfl
      · have c1 : (k < 6) = True := eq_true (show k < 6 by omega)
        have c2' : (k < 4) = False := eq_false (show ¬ k < 4 by omega)
        have c3 : (k = 6) = False := eq_false (show ¬ k = 6 by omega)
        have c4 : (4 ≤ k) = True := eq_true (show 4 ≤ k by omega)
        have sh : shB (mkB (1 + w) B.length k b) = false := by
          show (decide (k < 4) || decide (k = 6)) = _
          simp only [c2', c3, decide_true, decide_false, Bool.or_self, Bool.true_or, Bool.or_true]
        rw [sh] at hz2
        have k6 : ((mkB (1 + w) B.length k b).k < 6) = True := c1
        rw [if_pos (by rw [k6]; trivial)] at hz1
        have k4 : (4 ≤ (mkB (1 + w) B.length k b).k ∧ (mkB (1 + w) B.length k b).k < 6) = True := eq_true (show (4 ≤ k ∧ k < 6) by omega)
        rw [if_pos (by rw [k4]; trivial)] at hz3
        have k6' : ((mkB (1 + w) B.length k b).k = 6) = False := c3
        rw [if_neg (by rw [k6']; exact id)] at hz4
        simp_arith only [c1, c2', c3, c4]
        refine zh5 (y := e3 (crB (r - 2) (d - 2) (mkB (1 + w) B.length k b))) (zu2 hap) (zv (by rw [List.length_map]; omega)) ?_
        rw [z5p hap]
        refine zhw (f := .int) (by decide) (x := ((zsf B).length : Int)) rfl ?_
        simp_arith only [true_and]
        refine zhw (f := .int) (by decide) (x := ((falB B).length : Int)) rfl ?_
        simp_arith only [true_and]
        refine ⟨_, (by repeat (first | exact Le.nil | apply Le.keep | apply Le.drop)), B ++ [mkB (1 + w) B.length k b], c2, some (.int (B.length : Int)), some (.int (1 + 4 * ((B.length : Int) % (1 + w)))), some (.int (1 + 4 * ((B.length : Int) / (1 + w)))), some (.int k), some (eL e2 b), some (.int (szX (mkB (1 + w) B.length k b))), ?_, ?_, ob.snoc oz, by rw [List.length_append]; rfl⟩
        · rw [hz2, hz3, hz4]
          rw [if_neg (by decide), List.append_nil]
          rfl
        · rw [hz1]
          rw [List.map_append]
          rfl
      · have c1 : (k < 6) = False := eq_false (show ¬ k < 6 by omega)
        have c2' : (k < 4) = False := eq_false (show ¬ k < 4 by omega)
        have c3 : (k = 6) = True := eq_true (show k = 6 by omega)
        have c4 : (4 ≤ k) = True := eq_true (show 4 ≤ k by omega)
        have sh : shB (mkB (1 + w) B.length k b) = true := by
          show (decide (k < 4) || decide (k = 6)) = _
          simp only [c2', c3, decide_true, decide_false, Bool.or_self, Bool.true_or, Bool.or_true]
        rw [sh] at hz2
        have k6 : ((mkB (1 + w) B.length k b).k < 6) = False := c1
        rw [if_neg (by rw [k6]; exact id)] at hz1
        have k4 : (4 ≤ (mkB (1 + w) B.length k b).k ∧ (mkB (1 + w) B.length k b).k < 6) = False := eq_false (show ¬ (4 ≤ k ∧ k < 6) by omega)
        rw [if_neg (by rw [k4]; exact id)] at hz3
        have k6' : ((mkB (1 + w) B.length k b).k = 6) = True := c3
        rw [if_pos (by rw [k6']; trivial)] at hz4
        simp_arith only [c1, c2', c3, c4]
        refine zl5 (G := _) (xs := (zlv B).map e2) (ys := b.map e2) rfl rfl (zlf (by rw [List.length_map, List.length_map]; omega)) ?_
        refine zhw (f := .int) (by decide) (x := ((zsf B).length : Int)) rfl ?_
        simp_arith only [true_and]
        refine zhw (f := .int) (by decide) (x := ((falB B).length : Int)) rfl ?_
        simp_arith only [true_and]
        refine ⟨_, (by repeat (first | exact Le.nil | apply Le.keep | apply Le.drop)), B ++ [mkB (1 + w) B.length k b], c2, some (.int (B.length : Int)), some (.int (1 + 4 * ((B.length : Int) % (1 + w)))), some (.int (1 + 4 * ((B.length : Int) / (1 + w)))), some (.int k), some (eL e2 b), some (.int (szX (mkB (1 + w) B.length k b))), ?_, ?_, ob.snoc oz, by rw [List.length_append]; rfl⟩
        · rw [hz2, hz3, hz4]
          unfold eL
          rw [if_pos rfl, List.map_append]
          rfl
        · rw [hz1]
          rw [List.append_nil]
      · have c1 : (k < 6) = False := eq_false (show ¬ k < 6 by omega)
        have c2' : (k < 4) = False := eq_false (show ¬ k < 4 by omega)
        have c3 : (k = 6) = False := eq_false (show ¬ k = 6 by omega)
        have c4 : (4 ≤ k) = True := eq_true (show 4 ≤ k by omega)
        have sh : shB (mkB (1 + w) B.length k b) = false := by
          show (decide (k < 4) || decide (k = 6)) = _
          simp only [c2', c3, decide_true, decide_false, Bool.or_self, Bool.true_or, Bool.or_true]
        rw [sh] at hz2
        have k6 : ((mkB (1 + w) B.length k b).k < 6) = False := c1
        rw [if_neg (by rw [k6]; exact id)] at hz1
        have k4 : (4 ≤ (mkB (1 + w) B.length k b).k ∧ (mkB (1 + w) B.length k b).k < 6) = False := eq_false (show ¬ (4 ≤ k ∧ k < 6) by omega)
        rw [if_neg (by rw [k4]; exact id)] at hz3
        have k6' : ((mkB (1 + w) B.length k b).k = 6) = False := c3
        rw [if_neg (by rw [k6']; exact id)] at hz4
        simp_arith only [c1, c2', c3, c4]
        refine zhw (f := .int) (by decide) (x := ((zsf B).length : Int)) rfl ?_
        simp_arith only [true_and]
        refine zhw (f := .int) (by decide) (x := ((falB B).length : Int)) rfl ?_
        simp_arith only [true_and]
        refine ⟨_, (by repeat (first | exact Le.nil | apply Le.keep | apply Le.drop)), B ++ [mkB (1 + w) B.length k b], c2, some (.int (B.length : Int)), some (.int (1 + 4 * ((B.length : Int) % (1 + w)))), some (.int (1 + 4 * ((B.length : Int) / (1 + w)))), some (.int k), some (eL e2 b), some (.int (szX (mkB (1 + w) B.length k b))), ?_, ?_, ob.snoc oz, by rw [List.length_append]; rfl⟩
        · rw [hz2, hz3, hz4]
          rw [if_neg (by decide), List.append_nil]
          rfl
        · rw [hz1]
          rw [List.append_nil]
  · rintro η G' ⟨B, c', o1, o2, o3, o4, o5, o6, rfl, rfl, ob, hBl⟩
    rw [List.length_map, zcq] at hBl
    have h6 : (1 + w) * (1 + h) ≤ 3 * 2 := Int.mul_le_mul (by omega) (by omega) (by omega) (by omega)
    have hB6 : B.length ≤ 6 := by omega
    have hcr := z3s (r - 2) (d - 2) B
    have hcl := zz1 ob
    clear hBl
    simp_arith only [zu2 hap, zacw hap hgp, zsg]
    refine zl5 (xs := (zt9 (r - 2) (d - 2) B).map e3) (ys := [e3 (99, 99, 1)]) rfl rfl (zlf (by rw [List.length_map, List.length_singleton]; omega)) ?_
    rw [show D.nd Kd.lst ((zt9 (r - 2) (d - 2) B).map e3 ++ [e3 (99, 99, 1)]) = eL e3 (zt9 (r - 2) (d - 2) B ++ [(99, 99, 1)]) by unfold eL; rw [List.map_append]; rfl]
    intro gx hgx
    refine ⟨gx, _, rfl, rfl, zi, by rw [List.length_append, List.length_singleton]; omega, fun u hu => ?_, ?_⟩
    · rcases List.mem_append.mp hu with hu | hu
      · obtain ⟨z, hz, rfl⟩ := List.mem_map.mp hu
        obtain ⟨j, oj⟩ := ob.mem (List.mem_filter.mp hz).1
        have h1' := oj.inn sm
        have h2' : 1 ≤ szX z ∧ szX z ≤ 3 := by
          unfold szX
          rw [sz24]
          split <;> split <;> omega
        exact ⟨⟨by show _ ≤ z.x - (r - 2); omega, by show z.x - (r - 2) ≤ _; omega⟩, ⟨by show _ ≤ z.y - (d - 2); omega, by show z.y - (d - 2) ≤ _; omega⟩, h2'.1, by show szX z ≤ 99; omega⟩
      · rw [List.mem_singleton.mp hu]
        exact ⟨⟨by decide, by decide⟩, ⟨by decide, by decide⟩, by decide, by decide⟩
    · rw [zc1]
      refine ⟨rfl, ?_⟩
      simp_arith only [zi, za3 hgx]
      intro sx hsx
      refine ⟨sx, skB (1 + w) (1 + h) lo fa (r - 2) (d - 2) B, rfl, zi, ⟨by show ([0] : List Int) ≠ []; decide, by show ∀ t ∈ ([0] : List Int), 0 ≤ t ∧ t ≤ 3; decide, by show ([0] : List Int).Pairwise (· < ·); decide, by show ([0] : List Int).length ≤ 4; decide, ⟨by show _ ≤ r - 2; omega, by show r - 2 ≤ r - 2; omega, by show r - 2 ≤ _; omega⟩, ⟨by show _ ≤ d - 2; omega, by show d - 2 ≤ d - 2; omega, by show d - 2 ≤ _; omega⟩, ?_⟩, ?_⟩
      · show (1 : Int) * (r - 2 - (r - 2) + 1) * (d - 2 - (d - 2) + 1) ≤ 40000
        rw [Int.sub_self, Int.sub_self]
        decide
      · rw [zc1]
        refine ⟨rfl, ?_⟩
        simp_arith only [zi, za3 hsx]
        refine ⟨zgu (by omega), zgu (by omega), ?_⟩
        refine ⟨4 * (1 + w), 4 * (1 + h), zlv B, rfl, ⟨by omega, by omega⟩, ⟨by omega, by omega⟩, ?_⟩
        refine ⟨⟨4 * (1 + w), 4 * (1 + h), 1, fa, lo⟩, zj9 (4 * (1 + w)) (4 * (1 + h)) (zlv B), 5, [2, 4], rfl, ⟨?_, fun u hu => ?_, by show 4 * (1 + w) ≤ 1000; omega⟩, by show 4 * (1 + w) ≤ 30; omega, by show 4 * (1 + h) ≤ 30; omega, by decide, fun L P => ?_⟩
        · rw [zq0]
          show _ = 4 * (1 + h)
          omega
        · obtain ⟨g1, g2⟩ := zns u hu
          refine ⟨?_, fun v hv => by have := g2 v hv; omega⟩
          show (u.length : Int) = 4 * (1 + w)
          omega
        · have P2 : zek (zlv B) L := zls (fun x => by rw [(zam e2 _).mem_iff, zrl (zaak sm ob)]) P
          have hs := zs7 P2 (zw0 sm ob)
          have hpic := z36 (steps := [2, 4]) (zw0 sm ob)
          rw [hs]
          rw [List.map_map] at hpic
          generalize srtT e3 ((blkS ((B.filter shB).map (·.b))).map (ptB [2, 4])) = pic at hpic ⊢
          have hpl : pic.length ≤ 6 := by
            rw [hpic.length_eq, List.length_map]
            exact Nat.le_trans (List.length_filter_le _ _) hB6
          have hsl : (skB (1 + w) (1 + h) lo fa (r - 2) (d - 2) B).cs.length ≤ 7 := by
            show (srtT e3 _).length ≤ 7
            rw [(zam e3 _).length_eq, List.length_append, List.length_singleton]
            omega
          have hrev : fitb (skB (1 + w) (1 + h) lo fa (r - 2) (d - 2) B) pic.reverse (0, r - 2, d - 2) = fitb (skB (1 + w) (1 + h) lo fa (r - 2) (d - 2) B) pic (0, r - 2, d - 2) := z6j (List.reverse_perm pic)
          simp_arith only [true_and]
          refine zhw (f := .int) (by decide) (x := ((zsf B).length : Int)) rfl ?_
          simp_arith only [true_and]
          by_cases b1 : ((zsf B).length : Int) ≤ lo
          · rw [if_pos b1]
            refine zhw (f := .int) (by decide) (x := ((falB B).length : Int)) rfl ?_
            simp_arith only [true_and]
            by_cases b2 : ((falB B).length : Int) ≤ fa
            · rw [if_pos b2]
              refine ⟨skB (1 + w) (1 + h) lo fa (r - 2) (d - 2) B, pic, (0, r - 2, d - 2), rfl, by omega, by omega, ?_⟩
              rw [z5z sm ob ⟨by omega, by omega⟩ ⟨by omega, by omega⟩ b1 b2 hpic]
              simp_arith only [z5y, eT]
              refine ⟨skB (1 + w) (1 + h) lo fa (r - 2) (d - 2) B, pic.reverse, (0, r - 2, d - 2), by unfold eT; rw [List.map_reverse]; rfl, by omega, by rw [List.length_reverse]; omega, ?_⟩
              refine ⟨skB (1 + w) (1 + h) lo fa (r - 2) (d - 2) B, pic, (0, r - 2, d - 2), rfl, hsl, by omega, ?_⟩
              rw [hrev]
              exact zxe (q _)
            · rw [if_neg b2]
              simp_arith only [z5y, eT]
              refine ⟨skB (1 + w) (1 + h) lo fa (r - 2) (d - 2) B, pic.reverse, (0, r - 2, d - 2), by unfold eT; rw [List.map_reverse]; rfl, by omega, by rw [List.length_reverse]; omega, ?_⟩
              refine ⟨skB (1 + w) (1 + h) lo fa (r - 2) (d - 2) B, pic, (0, r - 2, d - 2), rfl, hsl, by omega, ?_⟩
              rw [hrev]
              exact zxe (q _)
          · rw [if_neg b1]
            simp_arith only [z5y, eT]
            refine ⟨skB (1 + w) (1 + h) lo fa (r - 2) (d - 2) B, pic.reverse, (0, r - 2, d - 2), by unfold eT; rw [List.map_reverse]; rfl, by omega, by rw [List.length_reverse]; omega, ?_⟩
            refine ⟨skB (1 + w) (1 + h) lo fa (r - 2) (d - 2) B, pic, (0, r - 2, d - 2), rfl, hsl, by omega, ?_⟩
            rw [hrev]
            exact zxe (q _)
end M
namespace M
open PySem PySem.Spec PyProof.Rows L2 DL
variable [CA]
theorem z3y (ds : List D) (d : D) : atI (ds ++ [d]) (-1) = some d := by
  unfold atI
  have e : ixN (ds ++ [d]).length (-1) = some ds.length := by
    rw [List.length_append, List.length_singleton]
    unfold ixN
    simp
    omega
  rw [e]
  show (ds ++ [d])[ds.length]? = some d
  simp
theorem z4p {p : Addr} {ds : List D} {d : D} {G : DHp} {Q : DVK} (hp : G p = some (.lst (ds ++ [d]))) (q : Q d G) : dIx (.ref p) (.int (-1)) G Q := by
  unfold dIx
  rw [zux hp]
  show atD _ _ _
  unfold atD
  dsimp only
  rw [z3y]
  exact q
theorem z87 {ds : List D} {d : D} {G : DHp} {Q : DVK} (q : Q d G) : dIx (.nd .tup (ds ++ [d])) (.int (-1)) G Q := by
  show (match atI (ds ++ [d]) (-1) with | some d => Q d G | none => False)
  rw [z3y]
  exact q
theorem z80 (ds : List D) (d : D) : DL.cutD (ds ++ [d]) none (some (-1)) = ds := by
  unfold DL.cutD
  rw [HT.sIx_none, List.drop_zero, Nat.sub_zero]
  have e : HT.sIx (ds ++ [d]).length (ds ++ [d]).length (some (-1)) = ds.length := by
    show (if (-1 : Int) < 0 then ((-1 : Int) + ((ds ++ [d]).length : Int)).toNat else min (-1 : Int).toNat (ds ++ [d]).length) = _
    rw [if_pos (by decide), List.length_append, List.length_singleton]
    omega
  rw [e]
  simp
theorem z3v {ds : List D} {d : D} {G : DHp} {Q : DVK} (q : Q (.nd .tup ds) G) : dSl (.nd .tup (ds ++ [d])) none (some (-1)) G Q := by
  show Q (.nd .tup (DL.cutD (ds ++ [d]) none (some (-1)))) G
  rw [z80]
  exact q
theorem zabx {t : Pt} {G : DHp} {Q : DVK} (q : Q (e2 (t.1, t.2.1)) G) : dSl (e3 t) none (some 2) G Q := q
section
variable {G0 : DHp} {a p w : Addr} {ns : List Int} {c : Int}
theorem zaeu {A B : DO} (hap : a ≠ p) (hwp : w ≠ p) : Gw (up (up G0 p A) w B) a ns c p = some A := by
  show up (up (up G0 p A) w B) a _ p = _
  rw [zej (Ne.symm hap), zej (Ne.symm hwp), zi]
theorem zafp {A A' B : DO} (hap : a ≠ p) (hwp : w ≠ p) : up (Gw (up (up G0 p A) w B) a ns c) p A' = Gw (up (up G0 p A') w B) a ns c := by
  show up (up (up (up G0 p A) w B) a _) p A' = up (up (up G0 p A') w B) a _
  rw [zg7 (G := up (up G0 p A) w B) hap, zg7 (G := up G0 p A) hwp, zc1]
end
def sp_law : DRn := z6s
abbrev z1w : List Str := ["script", "draw", "width", "height", "cells", "rows", "camera", "due", "blob", "columns", "lines", "craters", "shown", "turn", "x", "y", "sky", "picture", "bad"]
def zx7 : DTS :=
    (dIfS (dOr (zag (dOp dNe (dCB zau (zf (ze 5) (zf (dC (.int 5)) dNil))) (ze 4))) (zag (dOp dNe (dCB zft (zf (ze 4) dNil)) (dCB ze6 (zf (ze 4) dNil)))))
    (dRet (dC (.bl false)))
    zc7)
def zuk : DTS :=
    (dFor (za1 (dCB zft (zf (ze 4) dNil))) (zl 8)
    (dSeq (dPar 9 10 (zf (dFz (dLc (za1 (ze 8)) (ze2 (z4 (zl 14) (z4 (zl 15) zfc)) 2) dYes (ze 14) [14, 15])) (zf (dFz (dLc (za1 (ze 8)) (ze2 (z4 (zl 14) (z4 (zl 15) zfc)) 2) dYes (ze 15) [14, 15])) dNil)))
    (dSeq (zh0 (dM "list" zgp (ze 7) (zf (dTup (zf (dOp zv7 (dOp dAdd (dCB z4z (zf (ze 9) dNil)) (dCB z5c (zf (ze 9) dNil))) (dC (.int 2))) (zf (dOp zv7 (dOp dAdd (dCB z4z (zf (ze 10) dNil)) (dCB z5c (zf (ze 10) dNil))) (dC (.int 2))) (zf (dOp dAdd (dOp dAdd (dC (.int 1)) (dCB dInt (zf (dOp dGe (dCB dLen (zf (ze 8) dNil)) (dC (.int 2))) dNil))) (dCB dInt (zf (dOp dGe (dCB dLen (zf (ze 8) dNil)) (dC (.int 4))) dNil))) dNil)))) dNil)))
    (dIfS (dOr (zag (dOp dNe (dCB zeo (zf (ze 8) dNil)) (zk7 dSl (dOp dIx (ze 7) (dNeg (dC (.int 1)))) zhs (zp1 (dC (.int 2)))))) (zag (dOp dNe (dCB zdj (zf (dCB dLen (zf (ze 8) dNil)) (zf (dTup (zf (dC (.int 2)) (zf (dC (.int 4)) dNil))) dNil))) (dOp dIx (dOp dIx (ze 7) (dNeg (dC (.int 1)))) (dC (.int 2))))))
    (dRet (dC (.bl false)))
    zc7))))
def ztp : DTS :=
    (dIfS (zag (dOp dNe (dCB zcd (zf (ze 6) (zf (ze 5) (zf (dC (.int 5)) (zf (dTup (zf (dC (.int 2)) (zf (dC (.int 4)) dNil))) dNil))))) (dCB zkn (zf (dFz (dCB zjm (zf (ze 7) dNil))) dNil))))
    (dRet (dC (.bl false)))
    zc7)
def zru : DTS :=
    (dFor (zcx (zf (dC (.int 5)) dNil)) (zl 13)
    (dSeq (dPar 14 15 (zf (dOp dMul (dC (.int 3)) (dCB zr (zf (ze 1) (zf (dOp zv7 (ze 2) (dC (.int 3))) dNil)))) (zf (dOp dMul (dC (.int 3)) (dCB zr (zf (ze 1) (zf (dOp zv7 (ze 3) (dC (.int 3))) dNil)))) dNil)))
    (dIfS (zag (dOp (dIn true) (dTup (zf (ze 14) (zf (ze 15) (zf (dC (.int 1)) dNil)))) (ze 11)))
    (dSeq (zh0 (dM "list" zgp (ze 11) (zf (dTup (zf (ze 14) (zf (ze 15) (zf (dC (.int 1)) dNil)))) dNil)))
    (dAug 12 (dIf (zag (dOp dGt (dCB zr (zf (ze 1) (zf (dC (.int 4)) dNil))) (dC (.int 0)))) (zjv (zf (dTup (zf (ze 14) (zf (ze 15) dNil))) dNil)) (zjv dNil)) zzm))
    zc7)))
def zut : DTS :=
    (dIfS (dOr (zag (dOp dNe (dCB dLen (zf (ze 17) dNil)) (dCB dLen (zf (ze 12) dNil)))) (dOr (dNot (zag (dCB zj7 (zf (ze 16) (zf (ze 17) (zf (dTup (zf (dC (.int 0)) (zf (dC (.int 0)) (zf (dC (.int 0)) dNil)))) dNil)))))) (dNot (zag (dCB zbw (zf (ze 1) dNil))))))
    (dRet (dC (.bl false)))
    zc7)
def zvc : DTS :=
    (zabn CA.BadPicture [] 18 (fun _ _ _ => False) (fun U1 => (dSeq (zh0 (dCX zdn U1 (zf (ze 6) (zf (dOp dAdd (zk7 dSl (ze 5) zhs (zp1 (dNeg (dC (.int 1))))) (dTup (zf (zk7 dSl (dOp dIx (ze 5) (dNeg (dC (.int 1)))) zhs (zp1 (dNeg (dC (.int 1))))) dNil))) (zf (dC (.int 5)) (zf (dTup dNil) dNil))))))
    (dRet (dC (.bl false)))))
    (fun a1 x1 => (dRet (dOp dEq (dXF a1 CA.BadPicture x1 "number" (ze 18)) (dOp dSub (ze 3) (dC (.int 1)))))))
def zac9 : DTS :=
    (dSeq (dAsg (zi7 (zf (ze 0) (zf (dC (.int 0)) dNil))) (zl 1))
    (dSeq (dAsg (dTup (zf (dOp dAdd (dC (.int 3)) (dCB zr (zf (ze 1) (zf (dC (.int 6)) dNil)))) (zf (dOp dAdd (dC (.int 3)) (dCB zr (zf (ze 1) (zf (dC (.int 5)) dNil)))) dNil))) (ze2 (z4 (zl 2) (z4 (zl 3) zfc)) 2))
    (dSeq (dAsg (dCB zec (zf (dFz (dLc (zcx (zf (dCB zr (zf (ze 1) (zf (dC (.int 14)) dNil))) dNil)) (zl 13) dYes (dTup (zf (dCB zr (zf (ze 1) (zf (ze 2) dNil))) (zf (dCB zr (zf (ze 1) (zf (ze 3) dNil))) dNil))) [13])) dNil)) (zl 4))
    (dSeq (dAsg (dCB zcu (zf (ze 2) (zf (ze 3) (zf (ze 4) dNil)))) (zl 5))
    (dSeq (dAsg (dFz (zsg CA.Camera zal (zf (ze 2) (zf (ze 3) (zf (dC (.int 1)) (zf (dC (.int 1)) (zf (dC (.int 1)) dNil))))))) (zl 6))
    (dSeq zx7
    (dSeq (dAsg (zi7 dNil) (zl 7))
    (dSeq zuk
    (dFrz 7 (dSeq ztp
    (dSeq (dPar 11 12 (zf (zi7 dNil) (zf (zi7 dNil) dNil)))
    (dSeq zru
    (dFrz 12 (dFrz 11 (dSeq (dAsg (dFz (zsg CA.Sky zbq (zf (dFz (zsg CA.Ground zaw (zf (ze 11) dNil))) (zf (dFz (zsg CA.Camera zal (zf (ze 2) (zf (ze 3) (zf (dC (.int 1)) (zf (dC (.int 0)) (zf (dC (.int 5)) dNil))))))) (zf (dTup (zf (dC (.int 0)) dNil)) (zf (dTup (zf (dC (.int 0)) (zf (dC (.int 0)) (zf (dC (.int 0)) (zf (dC (.int 0)) dNil))))) dNil)))))) (zl 16))
    (dSeq (dAsg (dCB zcd (zf (dFld CA.Sky "camera" (ze 16)) (zf (dCB zcu (zf (ze 2) (zf (ze 3) (zf (ze 12) dNil)))) (zf (dC (.int 5)) (zf (dTup (zf (dC (.int 9)) dNil)) dNil))))) (zl 17))
    (dSeq zut
    zvc)))))))))))))))))
structure CeP (w h : Int) (cells : Bl) : Prop where
  nd : cells.Nodup
  srt : srtT e2 cells = cells
  inn : ∀ c ∈ cells, (0 ≤ c.1 ∧ c.1 < w) ∧ 0 ≤ c.2 ∧ c.2 < h
  len : cells.length ≤ 13
structure WhP (w h : Int) : Prop where
  ws : 3 ≤ w ∧ w ≤ 8
  hs : 3 ≤ h ∧ h ≤ 7
def stL (ns : List Int) (a : Addr) (w h : Int) (cells : Bl) (o7 o8 o9 o10 o11 o12 o13 o14 o15 o16 o17 : Option D) : DSt := [some (.nd .scr (ns.map .int)), some (.ref a), some (.int w), some (.int h), some (eL e2 cells), some (rwD (zj9 w h cells)), some (cD ⟨w, h, 1, 1, 1⟩), o7, o8, o9, o10, o11, o12, o13, o14, o15, o16, o17, none]
section
variable {ns : List Int} {a : Addr} {w h : Int} {cells : Bl}
theorem CeP.bright (W : WhP w h) (C : CeP w h cells) : srtT e2 (brU (zj9 w h cells) 5) = cells := by
  rw [zuc (zrv (z8g _ _) C.nd fun c => zrl C.inn), C.srt]
theorem zafy {F : zla} {G : DHp} (W : WhP w h) (C : CeP w h cells) (k : F.nx (stL ns a w h cells none none none none none none none none none none none) G) : zx7 F (stL ns a w h cells none none none none none none none none none none none) G := by
  have hl := C.len
  have hw := W.ws
  have hh := W.hs
  simp_arith only [zx7, stL]
  refine ⟨zj9 w h cells, 5, rfl, by rw [zq0]; omega, fun r hr => by rw [(zns r hr).1]; omega, ?_⟩
  rw [C.bright W]
  refine ztt (zod zd0 _) (zod zd0 _) (Nat.le_trans (zqf (B := 1) ze3 _) (by decide)) (Nat.le_trans (zqf (B := 1) ze3 _) (by decide)) false ⟨fun z => (by cases z), fun z => absurd rfl z⟩ ?_
  simp_arith only [true_and]
  refine ⟨cells, rfl, by omega, fun L P => ?_⟩
  refine ⟨cells, rfl, C.nd, by omega, fun L' P' => ?_⟩
  rw [zs7 P P']
  refine ztt (zod zqi _) (zod zqi _) (Nat.le_trans (zqf (B := 2) zsy _) (by decide)) (Nat.le_trans (zqf (B := 2) zsy _) (by decide)) false ⟨fun z => (by cases z), fun z => absurd rfl z⟩ ?_
  simp_arith only [true_and]
  exact k
theorem zadu {F : zla} {G : DHp} {p : Addr} (hp : G p = none) (C : CeP w h cells) (k : ∀ L, zek cells L → ∀ o8 o9 o10 o14 o15, F.nx (stL ns a w h cells (some (.ref p)) o8 o9 o10 none none none o14 o15 none none) (up G p (.lst (((blkS L).map (ptB [2, 4])).map e3)))) :
    zuk F (stL ns a w h cells (some (.ref p)) none none none none none none none none none none) (up G p (.lst [])) := by
  have hl := C.len
  simp_arith only [zuk, stL, dFor, za1]
  refine ⟨cells, rfl, by omega, fun L P => ?_⟩
  simp_arith only [eL]
  refine ⟨fun i η G' => ∃ o8 o9 o10 o14 o15, η = stL ns a w h cells (some (.ref p)) o8 o9 o10 none none none o14 o15 none none ∧ G' = up G p (.lst ((((blkS L).take i).map (ptB [2, 4])).map e3)), ⟨none, none, none, none, none, rfl, rfl⟩, fun _ _ _ _ => trivial, ?_, ?_⟩
  · rintro i d η G' hd ⟨o8, o9, o10, o14, o15, rfl, rfl⟩
    obtain ⟨b, hb, rfl⟩ := zaq hd
    obtain ⟨b1, b2, _⟩ := z3j P (List.mem_of_getElem? hb)
    have hpl := z4h P
    have hi := (List.getElem?_eq_some_iff.mp hb).1
    rw [z4k] at hi
    simp_arith only [stL]
    refine zky (xs := b) (f := e2) (fun c => .int c.1) (by omega) (fun R r => by simp_arith only [za1, eT]; exact r) (fun c _ G1 A k => by simp_arith only [e2]; exact k) fun w1 hw1 => ?_
    simp_arith only [zi, za3 hw1, DO.tree]
    refine zky (xs := b) (f := e2) (fun c => .int c.2) (by omega) (fun R r => by simp_arith only [za1, eT]; exact r) (fun c _ G1 A k => by simp_arith only [e2]; exact k) fun w2 hw2 => ?_
    simp_arith only [zi, za3 hw2, DO.tree]
    rw [show (D.lst (b.map fun c => D.int c.1)) = eL .int (xsB b) by unfold eL xsB; rw [List.map_map]; rfl, show (D.lst (b.map fun c => D.int c.2)) = eL .int (ysB b) by unfold eL ysB; rw [List.map_map]; rfl]
    refine ⟨by simp only [tyD, zi], ?_⟩
    refine ztf (zr5 b1) ?_
    refine zsv (zr5 b1) ?_
    simp_arith only [true_and]
    refine ⟨⟨by decide, by decide⟩, ?_⟩
    refine ztf (zr3 b1) ?_
    refine zsv (zr3 b1) ?_
    simp_arith only [true_and]
    refine ⟨⟨by decide, by decide⟩, ?_⟩
    have hsz : (1 + (if 2 ≤ (b.length : Int) then 1 else 0)) + (if 4 ≤ (b.length : Int) then 1 else 0) = szB [2, 4] (b.length : Int) := (sz24 _).symm
    simp_arith only [zhk, z4d, hsz]
    refine (zh5 (y := e3 (ptB [2, 4] b)) zi (zv (by rw [List.length_map, List.length_map, List.length_take]; omega)) ?_).2
    rw [zc1]
    refine ⟨b, rfl, b1, by omega, ?_⟩
    refine z4p zi (zabx ?_)
    refine ztt (zd0 _) (zd0 _) (Nat.le_trans (ze3 _) (by decide)) (Nat.le_trans (ze3 _) (by decide)) false ⟨fun z => (by cases z), fun z => absurd rfl z⟩ ?_
    simp_arith only [true_and]
    refine ⟨_, [2, 4], rfl, by decide, ?_⟩
    refine z4p zi (zjp (by decide) rfl ?_)
    simp_arith only [ptB, decide_true]
    exact ⟨_, (by repeat (first | exact Le.nil | apply Le.keep | apply Le.drop)), _, _, _, _, _, rfl, by rw [zba hb, List.map_append, List.map_append]; rfl⟩
  · rintro η G' ⟨o8, o9, o10, o14, o15, rfl, rfl⟩
    rw [List.length_map, List.take_length]
    exact k L P _ _ _ _ _
end
theorem z6q {w h : Int} {c : Cam} {cells : Bl} (e1 : c.w = w) (e2 : c.h = h) (hw : 0 ≤ w ∧ w ≤ 30) (hh : 0 ≤ h ∧ h ≤ 30) : z8v c (zj9 w h cells) := by
  refine ⟨?_, fun r hr => ?_, by omega⟩
  · rw [zq0, e2]
    omega
  · obtain ⟨g1, g2⟩ := zns r hr
    exact ⟨by rw [g1, e1]; omega, fun b hb => by have := g2 b hb; omega⟩
theorem zad5 {F : zla} {G : DHp} {ns : List Int} {a : Addr} {w h : Int} {cells : Bl} (W : WhP w h) (C : CeP w h cells) {L : List Bl} (P : zek cells L) {o8 o9 o10 o14 o15 : Option D} (k : F.nx (stL ns a w h cells (some (eL e3 ((blkS L).map (ptB [2, 4])))) o8 o9 o10 none none none o14 o15 none none) G) :
    ztp F (stL ns a w h cells (some (eL e3 ((blkS L).map (ptB [2, 4])))) o8 o9 o10 none none none o14 o15 none none) G := by
  have hw := W.ws
  have hh := W.hs
  simp_arith only [ztp, stL]
  refine ⟨⟨w, h, 1, 1, 1⟩, zj9 w h cells, 5, [2, 4], rfl, z6q rfl rfl ⟨by omega, by omega⟩ ⟨by omega, by omega⟩, by show w ≤ 30; omega, by show h ≤ 30; omega, by decide, fun L' P' => ?_⟩
  rw [C.bright W] at P'
  rw [zs7 P' P]
  refine zgn (f := e3) (xs := (blkS L).map (ptB [2, 4])) rfl zn9 al3 (st3 _) (fun a => Nat.le_trans (zoa a) (by decide)) fun w5 hw5 => ?_
  simp_arith only [zi, za3 hw5, DO.tree]
  rw [zni (ds := (srtT e3 ((blkS L).map (ptB [2, 4]))).map e3) rfl]
  refine ztt (zs1 zn9 _) (zs1 zn9 _) (Nat.le_trans (zs9 zoa _) (by decide)) (Nat.le_trans (zs9 zoa _) (by decide)) false ⟨fun z => (by cases z), fun z => absurd rfl z⟩ ?_
  simp_arith only [true_and]
  exact k
/-- drawn craters three apart, some of them shown -/
structure CrP (w h : Int) (cr : List Pt) (sh : Bl) : Prop where
  nd : cr.Nodup
  ns : sh.Nodup
  sub : ∀ c ∈ sh, ((c.1, c.2, 1) : Pt) ∈ cr
  ok : ∀ t ∈ cr, t.2.2 = 1 ∧ (0 ≤ t.1 ∧ t.1 < w ∧ t.1 % 3 = 0) ∧ 0 ≤ t.2.1 ∧ t.2.1 < h ∧ t.2.1 % 3 = 0
theorem CrP.len {w h : Int} {cr : List Pt} {sh : Bl} (C : CrP w h cr sh) : sh.length ≤ cr.length := by
  have := zeq (ys := sh.map fun c => ((c.1, c.2, 1) : Pt)) (xs := cr) (List.pairwise_map.mpr (C.ns.imp fun {a b} n (e : ((a.1, a.2, 1) : Pt) = (b.1, b.2, 1)) => n (Prod.ext (Prod.mk.inj e).1 (Prod.mk.inj (Prod.mk.inj e).2).1))) fun y hy => by
    obtain ⟨c, hc, rfl⟩ := List.mem_map.mp hy
    exact C.sub c hc
  rwa [List.length_map] at this
theorem zacb {F : zla} {G0 : DHp} {ns : List Int} {a p q : Addr} {w h c : Int} {cells : Bl} {o7 o8 o9 o10 o14 o15 : Option D} (W : WhP w h) (hl : ns.length ≤ 63) (hap : a ≠ p) (haq : a ≠ q) (hqp : q ≠ p)
    (k : ∀ cr sh c' o13 o14 o15, CrP w h cr sh → cr.length ≤ 5 → F.nx (stL ns a w h cells o7 o8 o9 o10 (some (.ref p)) (some (.ref q)) o13 o14 o15 none none) (Gw (up (up G0 p (.lst (cr.map e3))) q (.lst (sh.map e2))) a ns c')) :
    zru F (stL ns a w h cells o7 o8 o9 o10 (some (.ref p)) (some (.ref q)) none o14 o15 none none) (Gw (up (up G0 p (.lst [])) q (.lst [])) a ns c) := by
  have hw := W.ws
  have hh := W.hs
  simp_arith only [zru, stL, dFor, zcx]
  refine ⟨⟨by decide, by decide⟩, fun i η G' => ∃ cr sh c' o13 o14 o15, η = stL ns a w h cells o7 o8 o9 o10 (some (.ref p)) (some (.ref q)) o13 o14 o15 none none ∧ G' = Gw (up (up G0 p (.lst (cr.map e3))) q (.lst (sh.map e2))) a ns c' ∧ CrP w h cr sh ∧ cr.length ≤ i, ⟨[], [], c, none, o14, o15, rfl, rfl, ⟨List.nodup_nil, List.nodup_nil, fun _ h => (by cases h), fun _ h => (by cases h)⟩, Nat.le_refl _⟩, fun _ _ _ _ => trivial, ?_, ?_⟩
  · rintro i d η G' hd ⟨cr, sh, c', o13, o14, o15, rfl, rfl, C, hi⟩
    obtain ⟨t, ht, rfl⟩ := zaq hd
    have hlt := (List.getElem?_eq_some_iff.mp hd).1
    rw [List.length_map, zcq] at hlt
    have hsl := C.len
    simp_arith only [stL]
    refine ⟨⟨by decide, by decide⟩, zfa (by omega) hl fun x x0 x1 => ?_⟩
    simp_arith only [true_and]
    refine ⟨zgu (by omega), ⟨by decide, by decide⟩, zfa (by omega) hl fun y y0 y1 => ?_⟩
    simp_arith only [true_and]
    refine ⟨zgu (by omega), ?_⟩
    refine z1k (neg := true) (x := e3 (3 * x, 3 * y, 1)) (ds := cr.map e3) (.inl (zux (zaeu hap hqp))) (zn9 _) (zdk zn9 _) (Nat.le_trans (zoa _) (by decide)) (decide ((3 * x, 3 * y, 1) ∈ cr)) ?_ ?_
    · rw [decide_eq_true_eq]
      exact ⟨fun h => List.mem_map.mpr ⟨_, h, rfl⟩, fun h => by obtain ⟨u, hu, e⟩ := List.mem_map.mp h; rw [← zae0.mp e]; exact hu⟩
    · by_cases hin : (3 * x, 3 * y, 1) ∈ cr
      · rw [decide_eq_true hin]
        simp_arith only [true_and]
        exact ⟨_, (by repeat (first | exact Le.nil | apply Le.keep | apply Le.drop)), cr, sh, _, _, _, _, rfl, rfl, C, by omega⟩
      · rw [decide_eq_false hin]
        simp_arith only [true_and]
        refine zh5 (y := e3 (3 * x, 3 * y, 1)) (zaeu hap hqp) (zv (by rw [List.length_map]; omega)) ?_
        rw [zafp hap hqp]
        have ecr : cr.map e3 ++ [e3 (3 * x, 3 * y, 1)] = (cr ++ [(3 * x, 3 * y, 1)]).map e3 := by rw [List.map_append]; rfl
        rw [ecr]
        have C1 : CrP w h (cr ++ [(3 * x, 3 * y, 1)]) sh := by
          refine ⟨List.nodup_append.mpr ⟨C.nd, by simp, fun u hu v hv => by rw [List.mem_singleton] at hv; subst hv; exact fun e => hin (e ▸ hu)⟩, C.ns, fun c hc => List.mem_append.mpr (.inl (C.sub c hc)), fun t ht => ?_⟩
          rcases List.mem_append.mp ht with ht | ht
          · exact C.ok t ht
          · rw [List.mem_singleton.mp ht]
            dsimp only
            omega
        have C2 : CrP w h (cr ++ [(3 * x, 3 * y, 1)]) (sh ++ [(3 * x, 3 * y)]) := by
          refine ⟨C1.nd, List.nodup_append.mpr ⟨C.ns, by simp, fun u hu v hv => by rw [List.mem_singleton] at hv; subst hv; exact fun e => hin (by have := C.sub u hu; rw [e] at this; exact this)⟩, fun c hc => ?_, C1.ok⟩
          rcases List.mem_append.mp hc with hc | hc
          · exact C1.sub c hc
          · rw [List.mem_singleton.mp hc]
            exact List.mem_append.mpr (.inr (List.mem_singleton.mpr rfl))
        refine zfa (by decide) hl fun z z0 z1 => ?_
        simp_arith only [true_and]
        by_cases hz : 0 < z
        · rw [if_pos hz]
          refine ztc (xs := sh.map e2) (ys := [e2 (3 * x, 3 * y)]) (zu2 haq) rfl (zlf (by rw [List.length_map, List.length_singleton]; omega)) ?_
          rw [z5p haq]
          exact ⟨_, (by repeat (first | exact Le.nil | apply Le.keep | apply Le.drop)), _, sh ++ [(3 * x, 3 * y)], _, _, _, _, rfl, by rw [List.map_append (l₁ := sh)]; rfl, C2, by rw [List.length_append, List.length_singleton]; omega⟩
        · rw [if_neg hz]
          refine ztc (xs := sh.map e2) (ys := []) (zu2 haq) rfl (zlf (by rw [List.length_map, List.length_nil]; omega)) ?_
          rw [z5p haq]
          exact ⟨_, (by repeat (first | exact Le.nil | apply Le.keep | apply Le.drop)), _, sh, _, _, _, _, rfl, by rw [List.append_nil], C1, by rw [List.length_append, List.length_singleton]; omega⟩
  · rintro η G' ⟨cr, sh, c', o13, o14, o15, rfl, rfl, C, hi⟩
    rw [List.length_map, zcq] at hi
    exact k cr sh c' _ _ _ C hi
theorem zaeq {wi : DTI} {g : DTG} {te : DTE} {own : List Nat} {η : DSt} {Q : DVK} {α β : Type} {f : α → D} {G0 : DHp} {a : Addr} {ns : List Int} {c : Int} (h : β → D) (Pr : α → β → Prop) (Ok : List α → Prop) (hl : ∀ xs, Ok xs → xs.length ≤ 1000000)
    (hw : ∀ R, (∀ xs c1, Ok xs → R (xs.map f) zco (Gw G0 a ns c1)) → wi η (Gw G0 a ns c) R)
    (hb : ∀ xs, Ok xs → ∀ x ∈ xs, ∀ (G1 : DHp) (c1 : Int) (A : DVK), (∀ y c2, Pr x y → A (h y) (Gw G1 a ns c2)) → g (f x) (zid η own) (Gw G1 a ns c1) fun η2 G2 => te η2 G2 A)
    (q : ∀ xs, Ok xs → ∀ ys : List β, ys.length = xs.length → (∀ y ∈ ys, ∃ x ∈ xs, Pr x y) → ∀ c' p, Gw G0 a ns c' p = none → Q (.ref p) (up (Gw G0 a ns c') p (.lst (ys.map h)))) : dLc wi g dYes te own η (Gw G0 a ns c) Q := by
  refine hw _ fun xs c0 okx => ?_
  intro p hp
  have hl := hl xs okx
  obtain ⟨e, hap⟩ := zzt (o := .lst []) hp
  refine ⟨fun i acc G' => ∃ (ys : List β) (c' : Int), ys.length = i ∧ i ≤ xs.length ∧ (∀ y ∈ ys, ∃ x ∈ xs, Pr x y) ∧ acc = ys.map h ∧ G' = Gw (up G0 p (.lst acc)) a ns c', ⟨[], c0, rfl, Nat.zero_le _, (by simp), rfl, e⟩, ?_, ?_, ?_⟩
  · rintro i acc G' ⟨ys, c', hi, hle, hs, rfl, rfl⟩
    exact ⟨trivial, zu2 hap⟩
  · rintro i d acc G' hd ⟨ys, c', hi, hle, hs, rfl, rfl⟩
    obtain ⟨x, hx, rfl⟩ := zaq hd
    have hlt := (List.getElem?_eq_some_iff.mp hx).1
    refine hb xs okx x (List.mem_of_getElem? hx) (up G0 p (.lst (ys.map h))) c' _ (fun y c2 pr => ⟨zv ?_, zu2 hap, ys ++ [y], c2, by rw [List.length_append, List.length_singleton, hi], hlt, ?_, by rw [List.map_append]; rfl, z5p hap⟩)
    · rw [List.length_map]
      omega
    · intro z hz
      rcases List.mem_append.mp hz with hz | hz
      · exact hs z hz
      · rw [List.mem_singleton] at hz; subst hz; exact ⟨x, List.mem_of_getElem? hx, pr⟩
  · rintro acc G' ⟨ys, c', hi, hle, hs, rfl, rfl⟩
    have hn : Gw G0 a ns c' p = none := by
      have := zu5 hap hp
      show up G0 a _ p = none
      rw [zej (Ne.symm hap)]
      exact this
    have e2 : Gw (up G0 p (.lst (ys.map h))) a ns c' = up (Gw G0 a ns c') p (.lst (ys.map h)) := by
      show up (up G0 p _) a _ = up (up G0 a _) p _
      exact zg7 (Ne.symm hap)
    rw [e2]
    rw [List.length_map] at hi
    exact q xs okx ys hi hs c' p hn
theorem zaej {F : zla} {G0 : DHp} {ns : List Int} {a : Addr} {w h c : Int} {cells : Bl} {o7 o8 o9 o10 o13 o14 o15 : Option D} {cr : List Pt} {sh : Bl} {pic : List Pt} (hl : ns.length ≤ 63) (C : CrP w h cr sh) (hc : cr.length ≤ 5) (hp : pic.Perm (sh.map fun c => ((c.1, c.2, 1) : Pt)))
    (k : ∀ c', F.nx (stL ns a w h cells o7 o8 o9 o10 (some (eL e3 cr)) (some (eL e2 sh)) o13 o14 o15 (some (sD (z5u w h cr))) (some (eT e3 pic))) (Gw G0 a ns c')) :
    zut F (stL ns a w h cells o7 o8 o9 o10 (some (eL e3 cr)) (some (eL e2 sh)) o13 o14 o15 (some (sD (z5u w h cr))) (some (eT e3 pic))) (Gw G0 a ns c) := by
  have e1 : pic.length = sh.length := by rw [hp.length_eq, List.length_map]
  have hsl := C.len
  simp_arith only [zut, stL, zhk, zlx, e1, decide_true]
  refine ⟨z5u w h cr, pic, (0, 0, 0), rfl, ?_, by omega, ?_⟩
  · show (srtT e3 cr).length ≤ 100
    rw [(zam e3 cr).length_eq]; omega
  · rw [zaco C.nd C.ns hc C.sub hp]
    simp_arith only [true_and]
    refine ⟨a, ns, _, _, rfl, rfl, hl, fun c' => ?_⟩
    simp_arith only [true_and]
    exact k c'
theorem zad3 {F : zla} {G : DHp} {ns : List Int} {a : Addr} {w h : Int} {cells : Bl} {o7 o8 o9 o10 o11 o12 o13 o14 o15 o16 o17 : Option D} (W : WhP w h) (k : ∀ G', F.rt (.bl true) G') :
    zvc F (stL ns a w h cells o7 o8 o9 o10 o11 o12 o13 o14 o15 o16 o17) G := by
  have hw := W.ws
  have hh := W.hs
  obtain ⟨rows0, last0, b, er, hr0, hok, hl0⟩ : ∃ (rows0 : List (List Int)) (last0 : List Int) (b : Int), zj9 w h cells = rows0 ++ [last0 ++ [b]] ∧ (rows0.length : Int) = h - 1 ∧ (∀ r ∈ rows0, zaaa w r) ∧ (last0.length : Int) = w - 1 := by
    have hlen : (zj9 w h cells).length = h.toNat := zq0
    have hne : zj9 w h cells ≠ [] := fun e => by rw [e, List.length_nil] at hlen; omega
    obtain ⟨g1, _⟩ := zns _ (List.getLast_mem hne)
    have hne2 : (zj9 w h cells).getLast hne ≠ [] := fun e => by rw [e, List.length_nil] at g1; omega
    refine ⟨(zj9 w h cells).dropLast, ((zj9 w h cells).getLast hne).dropLast, ((zj9 w h cells).getLast hne).getLast hne2, ?_, ?_, fun r hr => ?_, ?_⟩
    · rw [List.dropLast_concat_getLast hne2, List.dropLast_concat_getLast hne]
    · rw [List.length_dropLast, hlen]; omega
    · obtain ⟨g1, g2⟩ := zns r ((List.dropLast_sublist _).subset hr)
      exact ⟨by rw [g1]; omega, fun b hb => by have := g2 b hb; omega⟩
    · rw [List.length_dropLast, g1]; omega
  simp_arith only [zvc, stL, zabn, dCX, dXF, er]
  have e1 : rwD (rows0 ++ [last0 ++ [b]]) = .nd .tup (rows0.map (eT .int) ++ [.nd .tup (last0.map .int ++ [.int b])]) := by
    show D.nd .tup ((rows0 ++ [last0 ++ [b]]).map (eT .int)) = _
    rw [List.map_append, List.map_singleton]
    unfold eT
    rw [List.map_append, List.map_singleton]
  rw [e1]
  refine z3v (z87 (z3v ?_))
  refine ⟨zlf ?_, ?_⟩
  · rw [List.length_map, List.length_singleton]; omega
  · refine ⟨⟨w, h, 1, 1, 1⟩, rows0, last0, 5, .nd .tup [], ?_, hok, by show w ≤ 1000; omega, by show (last0.length : Int) ≠ w; omega, by omega, ?_⟩
    · show _ = [_, D.nd .tup ((rows0 ++ [last0]).map (eT .int)), _, _]
      rw [List.map_append]
      rfl
    · refine .inl ⟨rfl, fun y => ?_⟩
      refine ⟨rfl, .int rows0.length, rfl, ?_⟩
      simp_arith only [true_and]
      rw [decide_eq_true (show (rows0.length : Int) = h - 1 from hr0)]
      exact k _
theorem z6z {w h : Int} {cr : List Pt} {sh : Bl} (C : CrP w h cr sh) : zek sh (sh.map fun c => [c]) := z27 C.ns fun a ha b hb n t => by
  have h1 := (C.ok _ (C.sub a ha)).2
  have h2 := (C.ok _ (C.sub b hb)).2
  unfold tch at t
  dsimp only at h1 h2
  exact n (Prod.ext (by omega) (by omega))
theorem zadl : ∀ ds G Q, sp_law ds G Q → ds.length = 1 := fun ds G Q h => by
  match ds, h with
  | [_], _ => rfl
theorem zabm : ∀ ds G Q, sp_law ds G Q → zac9 { nx := fun _ G' => Q .non G', rt := Q } (zao z1w ds) G := fun ds G Q h => by
  match ds, h with
  | [_], ⟨ns, rfl, hl, hG, q⟩ =>
    simp_arith only [zac9, z1w]
    intro a ha
    rw [show up G a (.lst [.nd .scr (ns.map .int), .int 0]) = Gw G a ns 0 from rfl]
    refine zfa (by decide) hl fun w w0 w1 => ?_
    simp_arith only [true_and]
    refine zfa (by decide) hl fun h h0 h1 => ?_
    simp_arith only [true_and]
    have W : WhP (3 + w) (3 + h) := ⟨by omega, by omega⟩
    refine zaeq (f := D.int) e2 (fun _ y => (0 ≤ y.1 ∧ y.1 < 3 + w) ∧ 0 ≤ y.2 ∧ y.2 < 3 + h) (fun xs => xs.length ≤ 13) (fun xs h => by omega) (fun R r => ?_) (fun xs hxs x hx G1 c1 A aa => ?_) fun xs hxs ys hyl hys c2 p hp => ?_
    · simp_arith only [zcx]
      exact zfa (by decide) hl fun n n0 n1 => ⟨⟨by omega, by omega⟩, r (zb4 0 n) _ (by rw [zcq]; omega)⟩
    · simp_arith only [true_and]
      refine zfa (by omega) hl fun x x0 x1 => ?_
      refine zfa (by omega) hl fun y y0 y1 => ?_
      exact aa (x, y) _ ⟨⟨x0, x1⟩, y0, y1⟩
    · simp_arith only [zi, za3 hp, DO.tree]
      refine ⟨ys, rfl, by omega, fun zs nd hm hlz => ?_⟩
      have C : CeP (3 + w) (3 + h) (srtT e2 zs) := by
        have pm := zam e2 zs
        refine ⟨pm.nodup_iff.mpr nd, zuc pm, fun c hc => ?_, by rw [pm.length_eq]; omega⟩
        obtain ⟨_, _, h⟩ := hys c ((hm c).mp (pm.mem_iff.mp hc))
        exact h
      generalize srtT e2 zs = cells at C ⊢
      simp_arith only [true_and]
      refine ⟨3 + w, 3 + h, cells, rfl, ⟨by omega, by omega⟩, ⟨by omega, by omega⟩, ?_⟩
      simp_arith only [zsg]
      intro x hx
      refine ⟨x, ⟨3 + w, 3 + h, 1, 1, 1⟩, rfl, zi, ⟨by dsimp only; omega, by dsimp only; omega, by dsimp only; omega, by dsimp only; omega, by dsimp only; omega⟩, ?_⟩
      rw [zc1]
      refine ⟨rfl, ?_⟩
      simp_arith only [zi, za3 hx]
      refine zafy W C ?_
      simp_arith only [stL]
      intro p2 hp2
      refine zadu hp2 C fun L P o8 o9 o10 o14 o15 => ?_
      simp_arith only [stL, zi, za3 hp2, DO.tree]
      refine zad5 W C P ?_
      simp_arith only [stL]
      intro p hp q1 hq1
      obtain ⟨e, hap⟩ := zzt (o := .lst []) hp
      have hgp := zu5 hap hp
      rw [e] at hq1
      obtain ⟨e', haq⟩ := zzt (o := .lst []) hq1
      have hgq := zu5 haq hq1
      have hqp : q1 ≠ p := fun z => by rw [z, zi] at hgq; cases hgq
      rw [e, e']
      refine zacb W hl hap haq hqp fun cr sh c3 o13 o14 o15 K hcl => ?_
      have hgq2 : up G p (.lst (cr.map e3)) q1 = none := by
        rw [zej hqp] at hgq ⊢
        exact hgq
      simp_arith only [stL, zu2 haq, zacw haq hgq2, DO.tree, zu2 hap, zacw hap hgp, zsg]
      intro gx hgx
      refine ⟨gx, cr, rfl, rfl, zi, by omega, fun u hu => ?_, ?_⟩
      · obtain ⟨k1, k2, k3⟩ := K.ok u hu
        exact ⟨⟨by omega, by omega⟩, ⟨by omega, by omega⟩, by omega, by omega⟩
      rw [zc1]
      refine ⟨rfl, ?_⟩
      simp_arith only [zi, za3 hgx]
      intro cx hcx
      refine ⟨cx, ⟨3 + w, 3 + h, 1, 0, 5⟩, rfl, zi, ⟨by dsimp only; omega, by dsimp only; omega, by dsimp only; omega, by dsimp only; omega, by dsimp only; omega⟩, ?_⟩
      rw [zc1]
      refine ⟨rfl, ?_⟩
      simp_arith only [zi, za3 hcx]
      intro sx hsx
      refine ⟨sx, z5u (3 + w) (3 + h) cr, rfl, zi, ⟨by show ([0] : List Int) ≠ []; decide, by show ∀ t ∈ ([0] : List Int), 0 ≤ t ∧ t ≤ 3; decide, by show ([0] : List Int).Pairwise (· < ·); decide, by show ([0] : List Int).length ≤ 4; decide, by show (_ : Int) ≤ 0 ∧ (0 : Int) ≤ 0 ∧ (0 : Int) ≤ _; decide, by show (_ : Int) ≤ 0 ∧ (0 : Int) ≤ 0 ∧ (0 : Int) ≤ _; decide, by show (1 : Int) * (0 - 0 + 1) * (0 - 0 + 1) ≤ 40000; decide⟩, ?_⟩
      rw [zc1]
      refine ⟨rfl, ?_⟩
      simp_arith only [zi, za3 hsx, dFld]
      have esk : ∀ s : Sk, D.nd (.ins CA.Sky ["ground", "camera", "turns", "area"]) [gD s.cs, cD s.cam, eT .int s.tu, e4 s.ar] = sD s := fun s => rfl
      rw [esk, zln]
      dsimp only
      refine ⟨3 + w, 3 + h, sh, rfl, ⟨by omega, by omega⟩, ⟨by omega, by omega⟩, ?_⟩
      refine ⟨⟨3 + w, 3 + h, 1, 0, 5⟩, zj9 (3 + w) (3 + h) sh, 5, [9], rfl, z6q rfl rfl ⟨by omega, by omega⟩ ⟨by omega, by omega⟩, by show 3 + w ≤ 30; omega, by show 3 + h ≤ 30; omega, by decide, fun L' P' => ?_⟩
      have hin : ∀ c ∈ sh, (0 ≤ c.1 ∧ c.1 < 3 + w) ∧ 0 ≤ c.2 ∧ c.2 < 3 + h := fun c hc => by
        obtain ⟨_, k2, k3⟩ := K.ok _ (K.sub c hc)
        exact ⟨⟨k2.1, k2.2.1⟩, k3.1, k3.2.1⟩
      have P2 : zek sh L' := zls (fun x => by rw [(zam e2 _).mem_iff, zrl hin]) P'
      have hpic := z36 (steps := [9]) (z6z K)
      rw [zs7 P2 (z6z K)]
      rw [List.map_map] at hpic
      have hfn : (ptB [9] ∘ fun c => [c]) = fun c : Ce => ((c.1, c.2, 1) : Pt) := funext fun c => by
        show ((midB [c]).1, (midB [c]).2, szB [9] 1) = _
        rw [zade]
        rfl
      rw [hfn] at hpic
      generalize srtT e3 ((blkS (sh.map fun c => [c])).map (ptB [9])) = pic at hpic ⊢
      refine zaej hl K hcl hpic fun c4 => ?_
      exact zad3 W q
end M
end
namespace M
open PySem PySem.Spec PyProof.Rows L2 DL
variable [CA]
theorem zli : FnScope zjt ["items"] (defScope zbs) := ⟨rfl, rfl, rfl, by decide +kernel, rfl, by decide +kernel, by decide +kernel⟩
theorem zjc : FnScope zkv ["width", "height", "cells"] (defScope zck) := ⟨rfl, rfl, rfl, by decide +kernel, rfl, by decide +kernel, by decide +kernel⟩
theorem z1z : FnScope zgl ["thing", "low", "high"] (defScope zdy) := ⟨rfl, rfl, rfl, by decide +kernel, rfl, by decide +kernel, by decide +kernel⟩
theorem z2c : FnScope zj1 ["thing", "low", "high"] (defScope zdw) := ⟨rfl, rfl, rfl, by decide +kernel, rfl, by decide +kernel, by decide +kernel⟩
theorem zht : FnScope zgh ["self", "craters"] (defScope zai) := ⟨rfl, rfl, rfl, by decide +kernel, rfl, by decide +kernel, by decide +kernel⟩
theorem zcr : FnScope zfp ["self", "ground", "camera", "turns", "area"] (defScope zap) := ⟨rfl, rfl, rfl, by decide +kernel, rfl, by decide +kernel, by decide +kernel⟩
theorem zd6 : FnScope zep ["self", "width", "height", "error", "false", "lost"] (defScope zaj) := ⟨rfl, rfl, rfl, by decide +kernel, rfl, by decide +kernel, by decide +kernel⟩
theorem zih : FnScope zlw ["cell"] (defScope zdl) := ⟨rfl, rfl, rfl, by decide +kernel, rfl, by decide +kernel, by decide +kernel⟩
theorem zmq : FnScope zt2 ["cells"] (defScope zig) := ⟨rfl, rfl, rfl, by decide +kernel, rfl, by decide +kernel, by decide +kernel⟩
theorem zh7 : FnScope zjd ["camera", "rows"] (defScope zb2) := ⟨rfl, rfl, rfl, by decide +kernel, rfl, by decide +kernel, by decide +kernel⟩
theorem zf5 : FnScope zcp ["camera", "rows"] (defScope zab) := ⟨rfl, rfl, rfl, by decide +kernel, rfl, by decide +kernel, by decide +kernel⟩
theorem zct : FnScope zg1 ["rows", "level"] (defScope za5) := ⟨rfl, rfl, rfl, by decide +kernel, rfl, by decide +kernel, by decide +kernel⟩
theorem zrb : FnScope zn1 ["many", "steps"] (defScope zen) := ⟨rfl, rfl, rfl, by decide +kernel, rfl, by decide +kernel, by decide +kernel⟩
theorem zi6 : FnScope zoc ["blob"] (defScope zfu) := ⟨rfl, rfl, rfl, by decide +kernel, rfl, by decide +kernel, by decide +kernel⟩
theorem zmk : FnScope zk4 ["camera", "rows", "level", "steps"] (defScope zcj) := ⟨rfl, rfl, rfl, by decide +kernel, rfl, by decide +kernel, by decide +kernel⟩
theorem zko : FnScope zde ["camera", "rows", "level", "steps"] (defScope zaf) := ⟨rfl, rfl, rfl, by decide +kernel, rfl, by decide +kernel, by decide +kernel⟩
theorem zda : FnScope zjw ["script", "index"] (defScope zbr) := ⟨rfl, rfl, rfl, by decide +kernel, rfl, by decide +kernel, by decide +kernel⟩
theorem z09 : FnScope zmb ["draw", "many"] (defScope zc2) := ⟨rfl, rfl, rfl, by decide +kernel, rfl, by decide +kernel, by decide +kernel⟩
theorem zjx : FnScope zjf ["row", "other"] (defScope zby) := ⟨rfl, rfl, rfl, by decide +kernel, rfl, by decide +kernel, by decide +kernel⟩
theorem zak : FnScope zey ["cells"] (defScope za9) := ⟨rfl, rfl, rfl, by decide +kernel, rfl, by decide +kernel, by decide +kernel⟩
theorem z61 : FnScope zs2 ["x", "y", "turn"] (defScope zg4) := ⟨rfl, rfl, rfl, by decide +kernel, rfl, by decide +kernel, by decide +kernel⟩
theorem zne : FnScope zmj ["self", "crater", "standing"] (defScope zc3) := ⟨rfl, rfl, rfl, by decide +kernel, rfl, by decide +kernel, by decide +kernel⟩
theorem zl8 : FnScope zi1 ["self", "standing"] (defScope zbz) := ⟨rfl, rfl, rfl, by decide +kernel, rfl, by decide +kernel, by decide +kernel⟩
theorem z2s : FnScope zob ["point", "place", "error"] (defScope zdx) := ⟨rfl, rfl, rfl, by decide +kernel, rfl, by decide +kernel, by decide +kernel⟩
theorem zfz : FnScope zly ["sky", "picture", "standing"] (defScope zdh) := ⟨rfl, rfl, rfl, by decide +kernel, rfl, by decide +kernel, by decide +kernel⟩
theorem zk8 : FnScope zts ["comers", "last", "pairs"] (defScope zii) := ⟨rfl, rfl, rfl, by decide +kernel, rfl, by decide +kernel, by decide +kernel⟩
theorem zkx : FnScope zmi ["nexts", "one", "pairs"] (defScope zc4) := ⟨rfl, rfl, rfl, by decide +kernel, rfl, by decide +kernel, by decide +kernel⟩
theorem zf2 : FnScope zl2 ["nexts"] (defScope zdi) := ⟨rfl, rfl, rfl, by decide +kernel, rfl, by decide +kernel, by decide +kernel⟩
theorem zet : FnScope zgv ["nexts", "many"] (defScope za8) := ⟨rfl, rfl, rfl, by decide +kernel, rfl, by decide +kernel, by decide +kernel⟩
theorem zou : FnScope zfx ["self", "x", "y", "more"] (defScope zad) := ⟨rfl, rfl, rfl, by decide +kernel, rfl, by decide +kernel, by decide +kernel⟩
theorem zrp : FnScope zg5 ["self", "x", "y"] (defScope zas) := ⟨rfl, rfl, rfl, by decide +kernel, rfl, by decide +kernel, by decide +kernel⟩
theorem zbv : FnScope zea ["self", "standing"] (defScope z6) := ⟨rfl, rfl, rfl, by decide +kernel, rfl, by decide +kernel, by decide +kernel⟩
theorem zhu : FnScope zi9 ["sky", "picture", "standing"] (defScope zb0) := ⟨rfl, rfl, rfl, by decide +kernel, rfl, by decide +kernel, by decide +kernel⟩
theorem zd2 : FnScope zij ["nexts", "matching"] (defScope zca) := ⟨rfl, rfl, rfl, by decide +kernel, rfl, by decide +kernel, by decide +kernel⟩
theorem zhf : FnScope znm ["sky", "picture", "standing"] (defScope zes) := ⟨rfl, rfl, rfl, by decide +kernel, rfl, by decide +kernel, by decide +kernel⟩
theorem zadh : FnScope z30 ["sky", "picture", "standing"] (defScope zm6) := ⟨rfl, rfl, rfl, by decide +kernel, rfl, by decide +kernel, by decide +kernel⟩
theorem zi2 : FnScope zj6 ["draw", "x", "y"] (defScope zcm) := ⟨rfl, rfl, rfl, by decide +kernel, rfl, by decide +kernel, by decide +kernel⟩
theorem zb5 : FnScope zhv ["points", "places", "error"] (defScope zbj) := ⟨rfl, rfl, rfl, by decide +kernel, rfl, by decide +kernel, by decide +kernel⟩
theorem zev : FnScope zkg ["sky", "picture", "standing"] (defScope zcn) := ⟨rfl, rfl, rfl, by decide +kernel, rfl, by decide +kernel, by decide +kernel⟩
theorem zq : FnScope zfs ["draw"] (defScope zac) := ⟨rfl, rfl, rfl, by decide +kernel, rfl, by decide +kernel, by decide +kernel⟩
theorem zfi : FnScope z1w ["script"] (defScope znb) := ⟨rfl, rfl, rfl, by decide +kernel, rfl, by decide +kernel, by decide +kernel⟩
theorem zd9 : bootBuiltins ("sorted" : Str) = some (.builtin "sorted") := by first | rfl | decide +kernel
theorem zel : bootBuiltins ("tuple" : Str) = some (.type "tuple") := by first | rfl | decide +kernel
theorem zab8 : bootBuiltins ("bool" : Str) = some (.type "bool") := by first | rfl | decide +kernel
theorem ze4 : bootBuiltins ("isinstance" : Str) = some (.builtin "isinstance") := by first | rfl | decide +kernel
theorem zkw : bootBuiltins ("int" : Str) = some (.type "int") := by first | rfl | decide +kernel
theorem zdd : bootBuiltins ("len" : Str) = some (.builtin "len") := by first | rfl | decide +kernel
theorem z0y : bootBuiltins ("all" : Str) = some (.builtin "all") := by first | rfl | decide +kernel
theorem zzg : bootBuiltins ("min" : Str) = some (.builtin "min") := by first | rfl | decide +kernel
theorem z3d : bootBuiltins ("max" : Str) = some (.builtin "max") := by first | rfl | decide +kernel
theorem zwj : bootBuiltins ("abs" : Str) = some (.builtin "abs") := by first | rfl | decide +kernel
theorem zaeh : bootBuiltins ("any" : Str) = some (.builtin "any") := by first | rfl | decide +kernel
theorem z1v : bootBuiltins ("list" : Str) = some (.type "list") := by first | rfl | decide +kernel
theorem z8q : bootBuiltins ("dict" : Str) = some (.type "dict") := by first | rfl | decide +kernel
structure Txt (P : Program) (K : PySem.W.Frag) (mg : Str → Option Value) where
  z0v : Addr
  zd4 : Addr
  zgm : FuncData
  zqc : Fun K "_law_unlike" "_law_unlike" zbs zd4 zgm
  zyu : mg "_law_unlike" = some (.ref zd4)
  zwb : Binds K zgm ["items"] []
  zeg : Addr
  zf7 : FuncData
  zmg : Fun K "_law_rows" "_law_rows" zck zeg zf7
  zpg : mg "_law_rows" = some (.ref zeg)
  zny : Binds K zf7 ["width", "height", "cells"] []
  zcf : Addr
  zc0 : FuncData
  zgk : Fun K "is_whole" "is_whole" zdy zcf zc0
  zhn : mg "is_whole" = some (.ref zcf)
  zf9 : Binds K zc0 ["thing", "low", "high"] []
  zho : Addr
  zj3 : FuncData
  zw1 : Fun K "is_point" "is_point" zdw zho zj3
  z5h : mg "is_point" = some (.ref zho)
  z13 : Binds K zj3 ["thing", "low", "high"] []
  za4 : Addr
  zbx : FuncData
  zrw : Fun K "__init__" "Ground.__init__" zai za4 zbx
  zk2 : Binds K zbx ["self", "craters"] []
  zb6 : Addr
  zdf : FuncData
  zwh : Fun K "__init__" "Sky.__init__" zap zb6 zdf
  zn2 : Binds K zdf ["self", "ground", "camera", "turns", "area"] []
  za7 : Addr
  zb1 : FuncData
  zrt : Fun K "__init__" "Camera.__init__" zaj za7 zb1
  zh8 : Binds K zb1 ["self", "width", "height", "error", "false", "lost"] []
  zhq : Addr
  zjz : FuncData
  zw6 : Fun K "nexts_to" "nexts_to" zdl zhq zjz
  z5b : mg "nexts_to" = some (.ref zhq)
  z1u : Binds K zjz ["cell"] []
  zji : Addr
  zk9 : FuncData
  zuh : Fun K "blobs" "blobs" zig zji zk9
  zx1 : mg "blobs" = some (.ref zji)
  zti : Binds K zk9 ["cells"] []
  ze1 : Addr
  zhg : FuncData
  zr9 : Fun K "check_rows" "check_rows" zb2 ze1 zhg
  z1g : mg "check_rows" = some (.ref ze1)
  zxz : Binds K zhg ["camera", "rows"] []
  zbh : Addr
  zfo : FuncData
  zoq : Fun K "check_rows" "check_rows" zab zbh zfo
  zwe : mg "check_rows" = some (.ref zbh)
  ztx : Binds K zfo ["camera", "rows"] []
  zbg : Addr
  zb7 : FuncData
  ziy : Fun K "bright_cells" "bright_cells" za5 zbg zb7
  zld : mg "bright_cells" = some (.ref zbg)
  zku : Binds K zb7 ["rows", "level"] []
  zfg : Addr
  zg2 : FuncData
  zp8 : Fun K "size_by" "size_by" zen zfg zg2
  ztn : mg "size_by" = some (.ref zfg)
  zre : Binds K zg2 ["many", "steps"] []
  zg3 : Addr
  ziv : FuncData
  zs3 : Fun K "middle" "middle" zfu zg3 ziv
  zxi : mg "middle" = some (.ref zg3)
  zt4 : Binds K ziv ["blob"] []
  zdg : Addr
  zez : FuncData
  zk0 : Fun K "picture_of" "picture_of" zcj zdg zez
  zn0 : mg "picture_of" = some (.ref zdg)
  zl7 : Binds K zez ["camera", "rows", "level", "steps"] []
  zbf : Addr
  zfl : FuncData
  zot : Fun K "picture_of" "picture_of" zaf zbf zfl
  zv2 : mg "picture_of" = some (.ref zbf)
  zu6 : Binds K zfl ["camera", "rows", "level", "steps"] []
  zd8 : Addr
  zgj : FuncData
  zp5 : Fun K "_law_number" "_law_number" zbr zd8 zgj
  zzc : mg "_law_number" = some (.ref zd8)
  zwc : Binds K zgj ["script", "index"] []
  zc6 : Addr
  zeh : FuncData
  zat : Fun K "_law_take" "_law_take" zc2 zc6 zeh
  za0 : mg "_law_take" = some (.ref zc6)
  zan : Binds K zeh ["draw", "many"] []
  zew : Addr
  zhr : FuncData
  zsc : Fun K "_law_touch" "_law_touch" zby zew zhr
  zzr : mg "_law_touch" = some (.ref zew)
  zxm : Binds K zhr ["row", "other"] []
  zeu : Addr
  zhp : FuncData
  zrz : Fun K "_law_group" "_law_group" za9 zeu zhp
  zzs : mg "_law_group" = some (.ref zeu)
  zy9 : Binds K zhp ["cells"] []
  zk6 : Addr
  zog : FuncData
  z3n : Fun K "turned" "turned" zg4 zk6 zog
  zaap : mg "turned" = some (.ref zk6)
  z7v : Binds K zog ["x", "y", "turn"] []
  zf4 : Addr
  zim : FuncData
  z1o : Fun K "place" "Sky.place" zc3 zf4 zim
  z0a : Binds K zim ["self", "crater", "standing"] []
  zcg : Addr
  zdb : FuncData
  z0u : Fun K "places" "Sky.places" zbz zcg zdb
  zmm : Binds K zdb ["self", "standing"] []
  zhj : Addr
  zj2 : FuncData
  zwn : Fun K "are_near" "are_near" zdx zhj zj2
  z42 : mg "are_near" = some (.ref zhj)
  z2j : Binds K zj2 ["point", "place", "error"] []
  zfm : Addr
  zhe : FuncData
  zri : Fun K "nexts_of" "nexts_of" zdh zfm zhe
  zwt : mg "nexts_of" = some (.ref zfm)
  zvg : Binds K zhe ["sky", "picture", "standing"] []
  zn5 : Addr
  zrr : FuncData
  z6x : Fun K "along" "along" zii zn5 zrr
  zach : mg "along" = some (.ref zn5)
  z81 : Binds K zrr ["comers", "last", "pairs"] []
  zgg : Addr
  zil : FuncData
  zur : Fun K "augmented" "augmented" zc4 zgg zil
  z2i : mg "augmented" = some (.ref zgg)
  z01 : Binds K zil ["nexts", "one", "pairs"] []
  zhl : Addr
  zj0 : FuncData
  zq6 : Fun K "greatest" "greatest" zdi zhl zj0
  zwo : mg "greatest" = some (.ref zhl)
  zu1 : Binds K zj0 ["nexts"] []
  zdc : Addr
  zfn : FuncData
  zos : Fun K "turned_round" "turned_round" za8 zdc zfn
  zvs : mg "turned_round" = some (.ref zdc)
  ztv : Binds K zfn ["nexts", "many"] []
  zbn : Addr
  zcz : FuncData
  zqa : Fun K "is_within" "Camera.is_within" zad zbn zcz
  zov : Binds K zcz ["self", "x", "y", "more"] []
  zch : Addr
  zdz : FuncData
  zst : Fun K "is_sure" "Camera.is_sure" zas zch zdz
  zq7 : Binds K zdz ["self", "x", "y"] []
  zbo : Addr
  zcw : FuncData
  zp7 : Fun K "sure_craters" "Sky.sure_craters" z6 zbo zcw
  zo3 : Binds K zcw ["self", "standing"] []
  zex : Addr
  zhh : FuncData
  zr7 : Fun K "sure_nexts" "sure_nexts" zb0 zex zhh
  z0j : mg "sure_nexts" = some (.ref zex)
  zxs : Binds K zhh ["sky", "picture", "standing"] []
  zf0 : Addr
  ziq : FuncData
  zo0 : Fun K "short_lot" "short_lot" zca zf0 ziq
  zu3 : mg "short_lot" = some (.ref zf0)
  zr0 : Binds K ziq ["nexts", "matching"] []
  zi4 : Addr
  zlq : FuncData
  z1d : Fun K "against" "against" zes zi4 zlq
  z57 : mg "against" = some (.ref zi4)
  z43 : Binds K zlq ["sky", "picture", "standing"] []
  zoo : Addr
  zr4 : FuncData
  z3g : Fun K "fits" "fits" zm6 zoo zr4
  z7f : mg "fits" = some (.ref zoo)
  z2d : Binds K zr4 ["sky", "picture", "standing"] []
  zge : Addr
  zio : FuncData
  zvf : Fun K "_law_blob" "_law_blob" zcm zge zio
  z19 : mg "_law_blob" = some (.ref zge)
  z0p : Binds K zio ["draw", "x", "y"] []
  zd1 : Addr
  zgi : FuncData
  zp4 : Fun K "_law_shares" "_law_shares" zbj zd1 zgi
  zzd : mg "_law_shares" = some (.ref zd1)
  zwd : Binds K zgi ["points", "places", "error"] []
  zf6 : Addr
  zir : FuncData
  ztz : Fun K "_law_fits" "_law_fits" zcn zf6 zir
  z2u : mg "_law_fits" = some (.ref zf6)
  z0s : Binds K zir ["sky", "picture", "standing"] []
  zbm : Addr
  zcy : FuncData
  zk1 : Fun K "_law_blobs_right" "_law_blobs_right" zac zbm zcy
  zpx : mg "_law_blobs_right" = some (.ref zbm)
  zoy : Binds K zcy ["draw"] []
  z40 : Addr
  zaad : FuncData
  zaft : Fun K "law" "law" znb z40 zaad
  m_law : mg "law" = some (.ref z40)
  bi_law : Binds K zaad ["script"] []
  zfv : mg "sorted" = none
  zle : mg "range" = none
  zgr : mg "tuple" = none
  zadn : mg "bool" = none
  zf3 : mg "isinstance" = none
  zpw : mg "int" = none
  zgy : mg "len" = none
  zei : mg "enumerate" = none
  z6e : mg "all" = none
  zafx : mg "zip" = none
  z8h : mg "min" = none
  z97 : mg "max" = none
  z48 : mg "abs" = none
  zafz : mg "any" = none
  z8b : mg "list" = none
  zabh : mg "dict" = none
  isi : zac2 K isT
  zue : ∃ t, mg "MOST_SIZE" = some (.int 99 t)
  zhm : ∃ t, mg "MOST_PLACE" = some (.int 1000000 t)
  zkz : ∃ t, mg "MOST_COUNT" = some (.int 100 t)
  zik : NoAttr K CA.Ground "craters"
  ztk : Cls K CA.Ground
  zse : ∃ t, mg "MOST_STANDINGS" = some (.int 40000 t)
  zmr : NoAttr K CA.Sky "ground"
  zjb : Cls K CA.Sky
  ze5 : NoAttr K CA.Sky "camera"
  z0l : NoAttr K CA.Sky "turns"
  z29 : NoAttr K CA.Sky "area"
  zu0 : ∃ t, mg "MOST_SIDE" = some (.int 1000 t)
  zfy : NoAttr K CA.Camera "width"
  zaz : Cls K CA.Camera
  zfj : NoAttr K CA.Camera "height"
  zcv : NoAttr K CA.Camera "error"
  zkj : NoAttr K CA.Camera "false"
  zlk : NoAttr K CA.Camera "lost"
  zl3 : DX.XTxt P K mg CA.BadPicture z0v "number" "number"
  zjr : mg "BadPicture" = some (.ref CA.BadPicture)
  z05 : Meth K CA.Sky "place" zf4
  zl4 : Meth K CA.Sky "places" zcg
  zpi : Meth K CA.Camera "is_within" zbn
  zq9 : Meth K CA.Camera "is_sure" zch
  zo9 : Meth K CA.Sky "sure_craters" zbo
  zuu : mg "Camera" = some (.ref CA.Camera)
  zvn : Mk K CA.Camera za7
  zaa5 : mg "Sky" = some (.ref CA.Sky)
  zabg : Mk K CA.Sky zb6
  z0m : mg "Ground" = some (.ref CA.Ground)
  z0c : Mk K CA.Ground za4
  zye : PySem.W.exmOne K (.ref CA.BadPicture) (.ref CA.BadPicture) = some true
  zyx : XfC K CA.BadPicture
  zgq : PySem.W.findIn K (.ref CA.BadPicture) "number" = some none
section
variable {P : Program} {w : World} {K : PySem.W.Frag} {mg : Str → Option Value} {base : Heap}
theorem zv9 [Bs] (T : Txt P K mg) (cdv : Value) (A : Around) (outer : List Env) (s : Shared) (H : Hp) (E : XK) (hr : Room 0 (A.deeper (envOfC "_law_unlike" (defScope zbs) s.heap.objs.size T.zd4 cdv))) :
    PSsD (cxOf CX0 P w K mg base zjt "_law_unlike" (defScope zbs) T.zd4 cdv A outer s H E).nox (defBody zbs) zmn :=
  (zh (zae (i := 1) zli.nd rfl (Or.inl rfl) z9o)
      (zh (zb9 PassesOwn.never rfl (zay (za 0)) (zk (i := 2) zli.nd rfl (Or.inl rfl))
      (zj (zin zje (zto (za 1) (za 2) (zw9 hr.units)))))
      (zbk 1 (zj (z8 (za2 (zm (zw2 hr.units rfl) T.zfv zd9 (zc (za 1) zd))))))))
theorem zvw (T : Txt P K mg) : FnD P w K mg base 1 T.zd4 T.zgm ["items"] zec :=
  fn_d T.zqc zli zua (zv9 T) zve
theorem zzv [Bs] (T : Txt P K mg) (cdv : Value) (A : Around) (outer : List Env) (s : Shared) (H : Hp) (E : XK) (hr : Room 0 (A.deeper (envOfC "_law_rows" (defScope zck) s.heap.objs.size T.zeg cdv))) :
    PSsD (cxOf CX0 P w K mg base zkv "_law_rows" (defScope zck) T.zeg cdv A outer s H E).nox (defBody zck) zpd :=
  (zj (z8 (z7 zia T.zgr zel (zc (za2 (zfw (own := [("y", 3)]) rfl zjc.nd (zfk T.zle (zc (za 1) zd)) (blkOk_by (N := zkv) (sc := defScope zck) (by decide +kernel)) (fun _ _ _ _ _ => (zk (i := 3) zjc.nd rfl (Or.inr rfl))) (fun _ _ _ _ _ => zb3) (fun _ _ _ _ _ => (z7 zia T.zgr zel (zc (za2 (zfw (own := [("x", 4)]) rfl zjc.nd (zfk T.zle (zc (za 0) zd)) (blkOk_by (by kernel_rfl)) (fun _ _ _ _ _ => (zk (i := 4) zjc.nd rfl (Or.inl rfl))) (fun _ _ _ _ _ => zb3) (fun _ _ _ _ _ => (zzh (zw (zacq (have h := DL.Room.u65 hr; h)) (zt (zc (za 4) (zc (za 3) zd))) (za 2) (by with_unfolding_all rfl)) zg zg)))) zd))))) zd))))
theorem z1i (T : Txt P K mg) : FnD P w K mg base 1 T.zeg T.zf7 ["width", "height", "cells"] zcu :=
  fn_d T.zmg zjc zx0 (zzv T) zx9
theorem z2o [Bs] (T : Txt P K mg) (cdv : Value) (A : Around) (outer : List Env) (s : Shared) (H : Hp) (E : XK) (hr : Room 0 (A.deeper (envOfC "is_whole" (defScope zdy) s.heap.objs.size T.zcf cdv))) :
    PSsD (cxOf CX0 P w K mg base zgl "is_whole" (defScope zdy) T.zcf cdv A outer s H E).nox (defBody zdy) zhi :=
  (zj (z8 (znw (zm (zu9 T.isi) T.zf3 ze4 (zc (za 0) (zc (zma T.zpw zkw) zd))) (znw (zac5 (zm (zu9 T.isi) T.zf3 ze4 (zc (za 0) (zc (zma T.zadn zab8) zd)))) (zum (zqv (zng hr.units) (zng hr.units) (za 1) (za 0) (za 2)))))))
theorem z17 (T : Txt P K mg) : FnD P w K mg base 1 T.zcf T.zc0 ["thing", "low", "high"] zah :=
  fn_d T.zgk z1z z0o (z2o T) z0t
theorem z3b [Bs] (T : Txt P K mg) (z9 : FnD P w K mg base 1 T.zcf T.zc0 ["thing", "low", "high"] zah) (cdv : Value) (A : Around) (outer : List Env) (s : Shared) (H : Hp) (E : XK) (hr : Room 1 (A.deeper (envOfC "is_point" (defScope zdw) s.heap.objs.size T.zho cdv))) :
    PSsD (cxOf CX0 P w K mg base zj1 "is_point" (defScope zdw) T.zho cdv A outer s H E).nox (defBody zdw) zlo :=
  (zh (zcc (zpm (zll (zhd (zfe (zm (zu9 T.isi) T.zf3 ze4 (zc (za 0) (zc (zma T.zgr zel) zd))))) (zkt (zw (znr hr.units) (zm zc9 T.zgy zdd (zc (za 0) zd)) zg (nomark _)))))
      (zj (z8 zje))
      zaa)
      (zj (z8 (znw (zo z9 (hr.mono (by decide)) T.zhn T.zgk.kp T.zf9 (zc (zax (ixd hr.units) (za 0) zg) (zc (za 1) (zc (za 2) zd)))) (znw (zo z9 (hr.mono (by decide)) T.zhn T.zgk.kp T.zf9 (zc (zax (ixd hr.units) (za 0) zg) (zc (za 1) (zc (za 2) zd)))) (zum (zo z9 (hr.mono (by decide)) T.zhn T.zgk.kp T.zf9 (zc (zax (ixd hr.units) (za 0) zg) (zc zg (zc (ze8 (Classical.choose_spec T.zue)) zd))))))))))
theorem z16 (T : Txt P K mg) (z9 : FnD P w K mg base 1 T.zcf T.zc0 ["thing", "low", "high"] zah) : FnD P w K mg base 2 T.zho T.zj3 ["thing", "low", "high"] zhc :=
  fn_d T.zw1 z2c zzq (z3b T z9) z0f
theorem zqt [Bs] (T : Txt P K mg) (zl1 : FnD P w K mg base 2 T.zho T.zj3 ["thing", "low", "high"] zhc) (cdv : Value) (A : Around) (outer : List Env) (s : Shared) (H : Hp) (E : XK) (hr : Room 2 (A.deeper (envOfC "Ground.__init__" (defScope zai) s.heap.objs.size T.za4 cdv))) :
    PSsD (cxOf CX0 P w K mg base zgh "Ground.__init__" (defScope zai) T.za4 cdv A outer s H E).nox (defBody zai) ziu :=
  (zh (zb9 PassesOwn.never rfl (zix T.zei (zc (za 1) zd)) (zcb rfl (zn (zk (i := 2) zht.nd rfl (Or.inl rfl)) (zn (zk (i := 3) zht.nd rfl (Or.inl rfl)) zbb)))
      (zj (zcc (zpm (zll (zw (z15 hr.units) (za 2) (ze8 (Classical.choose_spec T.zkz)) (nomark _)) (zkt (zhd (zfe (zo zl1 (hr.mono (by decide)) T.z5h T.zw1.kp T.z13 (zc (za 3) (zc (zp zdv zg (ze8 (Classical.choose_spec T.zhm))) (zc (ze8 (Classical.choose_spec T.zhm)) zd)))))))))
      (zj zgd)
      zaa)))
      (zj (zlg T.ztk T.zik (za 0) (z7 zia T.zgr zel (zc (za2 (zm (zgx hr.units) T.zfv zd9 (zc (za 1) zd))) zd)))))
theorem zqj (T : Txt P K mg) (zl1 : FnD P w K mg base 2 T.zho T.zj3 ["thing", "low", "high"] zhc) : FnD P w K mg base 3 T.za4 T.zbx ["self", "craters"] zaw :=
  fn_d T.zrw zht zpe (zqt T zl1) zpa
theorem zu8 [Bs] (T : Txt P K mg) (z9 : FnD P w K mg base 1 T.zcf T.zc0 ["thing", "low", "high"] zah) (cdv : Value) (A : Around) (outer : List Env) (s : Shared) (H : Hp) (E : XK) (hr : Room 1 (A.deeper (envOfC "Sky.__init__" (defScope zap) s.heap.objs.size T.zb6 cdv))) :
    PSsD (cxOf CX0 P w K mg base zfp "Sky.__init__" (defScope zap) T.zb6 cdv A outer s H E).nox (defBody zap) zor :=
  (zh (zcc (zpm (zll (zhd (zfe (zm (zu9 T.isi) T.zf3 ze4 (zc (za 3) (zc (zma T.zgr zel) zd))))) (zll (zw (zsi hr.units) (za 3) (zt zd) (nomark _)) (zkt (zhd (zfe (zm (z1h rfl) T.z6e z0y (zc (za2 (zfw (own := [("turn", 5)]) rfl zcr.nd (zay (za 3)) (blkOk_by (N := zfp) (sc := defScope zap) (by decide +kernel)) (fun _ _ _ _ _ => (zk (i := 5) zcr.nd rfl (Or.inl rfl))) (fun _ _ _ _ _ => zb3) (fun _ _ _ _ _ => (zo z9 (hr.mono (by decide)) T.zhn T.zgk.kp T.zf9 (zc (za 5) (zc zg (zc zg zd))))))) zd))))))))
      (zj zgd)
      zaa)
      (zh (zcc (zhd (zfe (zm (z1h rfl) T.z6e z0y (zc (za2 (zfw (own := [("one", 6), ("other", 7)]) rfl zcr.nd (zabk T.zafx (zc (za 3) (zc (zqb sld (za 3) (zs4 zg) ztb) zd))) (blkOk_by (N := zfp) (sc := defScope zap) (by decide +kernel)) (fun _ _ _ _ _ => (zcb rfl (zn (zk (i := 6) zcr.nd rfl (Or.inl rfl)) (zn (zk (i := 7) zcr.nd rfl (Or.inl rfl)) zbb)))) (fun _ _ _ _ _ => zb3) (fun _ _ _ _ _ => (zh2 (zvl hr.units) (za 6) (za 7) (nomark _))))) zd))))
      (zj zgd)
      zaa)
      (zh (zcc (zpm (zll (zhd (zfe (zm (zu9 T.isi) T.zf3 ze4 (zc (za 4) (zc (zma T.zgr zel) zd))))) (zkt (zw (znr hr.units) (zm zc9 T.zgy zdd (zc (za 4) zd)) zg (nomark _)))))
      (zj zgd)
      zaa)
      (zh (zcc (zhd (zfe (zm (z1h rfl) T.z6e z0y (zc (za2 (zfw (own := [("number", 8)]) rfl zcr.nd (zay (za 4)) (blkOk_by (N := zfp) (sc := defScope zap) (by decide +kernel)) (fun _ _ _ _ _ => (zk (i := 8) zcr.nd rfl (Or.inl rfl))) (fun _ _ _ _ _ => zb3) (fun _ _ _ _ _ => (zo z9 (hr.mono (by decide)) T.zhn T.zgk.kp T.zf9 (zc (za 8) (zc (zp zdv zg (ze8 (Classical.choose_spec T.zhm))) (zc (ze8 (Classical.choose_spec T.zhm)) zd))))))) zd))))
      (zj zgd)
      zaa)
      (zh (zcc (zpm (zll (zw (z6y hr.units) (zax (ixd hr.units) (za 4) zg) (zax (ixd hr.units) (za 4) zg) (nomark _)) (zkt (zw (z6y hr.units) (zax (ixd hr.units) (za 4) zg) (zax (ixd hr.units) (za 4) zg) (nomark _)))))
      (zj zgd)
      zaa)
      (zh (zcc (zw (z6y hr.units) (zp zi8 (zp zi8 (zm zc9 T.zgy zdd (zc (za 3) zd)) (zp zci (zp zdv (zax (ixd hr.units) (za 4) zg) (zax (ixd hr.units) (za 4) zg)) zg)) (zp zci (zp zdv (zax (ixd hr.units) (za 4) zg) (zax (ixd hr.units) (za 4) zg)) zg)) (ze8 (Classical.choose_spec T.zse)) (nomark _))
      (zj zgd)
      zaa)
      (zh (zlg T.zjb T.zmr (za 0) (za 1))
      (zh (zlg T.zjb T.ze5 (za 0) (za 2))
      (zh (zlg T.zjb T.z0l (za 0) (za 3))
      (zj (zlg T.zjb T.z29 (za 0) (za 4))))))))))))
theorem zvo (T : Txt P K mg) (z9 : FnD P w K mg base 1 T.zcf T.zc0 ["thing", "low", "high"] zah) : FnD P w K mg base 2 T.zb6 T.zdf ["self", "ground", "camera", "turns", "area"] zbq :=
  fn_d T.zwh zcr zsu (zu8 T z9) zss
theorem zql [Bs] (T : Txt P K mg) (z9 : FnD P w K mg base 1 T.zcf T.zc0 ["thing", "low", "high"] zah) (cdv : Value) (A : Around) (outer : List Env) (s : Shared) (H : Hp) (E : XK) (hr : Room 1 (A.deeper (envOfC "Camera.__init__" (defScope zaj) s.heap.objs.size T.za7 cdv))) :
    PSsD (cxOf CX0 P w K mg base zep "Camera.__init__" (defScope zaj) T.za7 cdv A outer s H E).nox (defBody zaj) zlz :=
  (zh (zb9 PassesOwn.never rfl (zay (zt (zc (zt (zc zpk (zc (za 1) (zc zg (zc (ze8 (Classical.choose_spec T.zu0)) zd))))) (zc (zt (zc zpk (zc (za 2) (zc zg (zc (ze8 (Classical.choose_spec T.zu0)) zd))))) (zc (zt (zc zpk (zc (za 3) (zc zg (zc (ze8 (Classical.choose_spec T.zkz)) zd))))) (zc (zt (zc zpk (zc (za 4) (zc zg (zc (ze8 (Classical.choose_spec T.zkz)) zd))))) (zc (zt (zc zpk (zc (za 5) (zc zg (zc (ze8 (Classical.choose_spec T.zkz)) zd))))) zd))))))) (zcb rfl (zn (zk (i := 6) zd6.nd rfl (Or.inl rfl)) (zn (zk (i := 7) zd6.nd rfl (Or.inl rfl)) (zn (zk (i := 8) zd6.nd rfl (Or.inl rfl)) (zn (zk (i := 9) zd6.nd rfl (Or.inl rfl)) zbb)))))
      (zj (zcc (zhd (zfe (zo z9 (hr.mono (by decide)) T.zhn T.zgk.kp T.zf9 (zc (za 7) (zc (za 8) (zc (za 9) zd))))))
      (zj zgd)
      zaa)))
      (zh (zlg T.zaz T.zfy (za 0) (za 1))
      (zh (zlg T.zaz T.zfj (za 0) (za 2))
      (zh (zlg T.zaz T.zcv (za 0) (za 3))
      (zh (zlg T.zaz T.zkj (za 0) (za 4))
      (zj (zlg T.zaz T.zlk (za 0) (za 5))))))))
theorem zp6 (T : Txt P K mg) (z9 : FnD P w K mg base 1 T.zcf T.zc0 ["thing", "low", "high"] zah) : FnD P w K mg base 2 T.za7 T.zb1 ["self", "width", "height", "error", "false", "lost"] zal :=
  fn_d T.zrt zd6 zo2 (zql T z9) zpj
theorem z2v [Bs] (T : Txt P K mg) (cdv : Value) (A : Around) (outer : List Env) (s : Shared) (H : Hp) (E : XK) (hr : Room 0 (A.deeper (envOfC "nexts_to" (defScope zdl) s.heap.objs.size T.zhq cdv))) :
    PSsD (cxOf CX0 P w K mg base zlw "nexts_to" (defScope zdl) T.zhq cdv A outer s H E).nox (defBody zdl) zrs :=
  (zh (zin (za 0) (zcb rfl (zn (zk (i := 1) zih.nd rfl (Or.inr rfl)) (zn (zk (i := 2) zih.nd rfl (Or.inr rfl)) zbb))))
      (zj (z8 (za2 (zac6 (own := [("right", 3), ("down", 4)]) (own1 := [4]) rfl zih.nd (zay (zt (zc (zif zg) (zc zg (zc zg zd))))) (blkOk_by (N := zlw) (sc := defScope zdl) (by decide +kernel)) (fun _ _ _ _ _ => (zk (i := 3) zih.nd rfl (Or.inl rfl))) (fun _ _ _ _ _ => zb3) (fun _ _ _ _ _ => (zay (zt (zc (zif zg) (zc zg (zc zg zd)))))) (fun _ _ _ _ _ => (zk (i := 4) zih.nd rfl (Or.inl rfl))) (fun _ _ _ _ _ => (zic (zw (znr hr.units) (zt (zc (za 3) (zc (za 4) zd))) (zt (zc zg (zc zg zd))) (nomark _)))) (fun _ _ _ _ _ => (zt (zc (zp zci (za 1) (za 3)) (zc (zp zci (za 2) (za 4)) zd)))))))))
theorem z22 (T : Txt P K mg) : FnD P w K mg base 1 T.zhq T.zjz ["cell"] zhb :=
  fn_d T.zw6 zih zz6 (z2v T) zzi
theorem z98 [Bs] (T : Txt P K mg) (zlu : FnD P w K mg base 1 T.zhq T.zjz ["cell"] zhb) (cdv : Value) (A : Around) (outer : List Env) (s : Shared) (H : Hp) (E : XK) (hr : Room 1 (A.deeper (envOfC "blobs" (defScope zig) s.heap.objs.size T.zji cdv))) :
    PSsD (cxOf CX0 P w K mg base zt2 "blobs" (defScope zig) T.zji cdv A outer s H E).nox (defBody zig) z26 :=
  (zh (zlh (i := 1) (j := 2) rfl zmq.nd rfl rfl (by decide) rfl rfl (zc (zacu hr.units (own := [("cell", 3)]) rfl zmq.nd (zay (za 0)) (blkOk_by (N := zt2) (sc := defScope zig) (by decide +kernel)) (fun _ _ _ _ _ => (zk (i := 3) zmq.nd rfl (Or.inl rfl))) (fun _ _ _ _ _ => zb3) (fun _ _ _ _ _ => (za 3)) (fun _ _ _ _ _ => zje)) (zc (zem zd) zd)) (by with_unfolding_all rfl))
      (zh (zb9 PassesOwn.never rfl (zay (za2 (zm (zgx hr.units) T.zfv zd9 (zc (za 0) zd)))) (zk (i := 3) zmq.nd rfl (Or.inl rfl))
      (zj (zcc (zw (zacq (have h := DL.Room.u65 hr; h)) (za 3) (za 1) (by with_unfolding_all rfl))
      (zh (zc8 (zm9 PySem.F.plainAttrs_dict PySem.F.slot_dict_pop PySem.F.type_dict_pop (z4m hr.units) (za 1) (zc (za 3) zd)))
      (zh (zlh (i := 4) (j := 5) rfl zmq.nd rfl rfl (by decide) rfl rfl (zc (zem (zc (za 3) zd)) (zc (zem (zc (za 3) zd)) zd)) (by with_unfolding_all rfl))
      (zh (zpy PassesOwn.never (zw (znr hr.units) (za 5) (zfr zd) (nomark _))
      (zj (zb9 PassesOwn.never rfl (zay (zo zlu (hr.mono (by decide)) T.z5b T.zw6.kp T.z1u (zc (zaa4 PySem.F.plainAttrs_list PySem.F.slot_list_pop PySem.F.type_list_pop zaa3 (za 5)) zd))) (zk (i := 6) zmq.nd rfl (Or.inl rfl))
      (zj (zcc (zw (zacq (have h := DL.Room.u65 hr; h)) (za 6) (za 1) (by with_unfolding_all rfl))
      (zh (zc8 (zm9 PySem.F.plainAttrs_dict PySem.F.slot_dict_pop PySem.F.type_dict_pop (z4m hr.units) (za 1) (zc (za 6) zd)))
      (zh (zc8 (zm9 PySem.F.plainAttrs_list PySem.F.slot_list_append PySem.F.type_list_append zd3 (za 4) (zc (za 6) zd)))
      (zj (zc8 (zm9 PySem.F.plainAttrs_list PySem.F.slot_list_append PySem.F.type_list_append zd3 (za 5) (zc (za 6) zd))))))
      zaa)))))
      (zbk 4 (zbk 5 (zj (zc8 (zm9 PySem.F.plainAttrs_list PySem.F.slot_list_append PySem.F.type_list_append zd3 (za 2) (zc (z7 zia T.zgr zel (zc (za2 (zm (zgx hr.units) T.zfv zd9 (zc (za 4) zd))) zd)) zd)))))))))
      zaa)))
      (zbk 2 (zbk 1 (zj (z8 (za2 (zm (zgx hr.units) T.zfv zd9 (zc (za 2) zd)))))))))
theorem z9r (T : Txt P K mg) (zlu : FnD P w K mg base 1 T.zhq T.zjz ["cell"] zhb) : FnD P w K mg base 2 T.zji T.zk9 ["cells"] zft :=
  fn_d T.zuh zmq z68 (z98 T zlu) z74
theorem zzf [Bs] (T : Txt P K mg) (z9 : FnD P w K mg base 1 T.zcf T.zc0 ["thing", "low", "high"] zah) (cdv : Value) (A : Around) (outer : List Env) (s : Shared) (H : Hp) (E : XK) (hr : Room 1 (A.deeper (envOfC "check_rows" (defScope zb2) s.heap.objs.size T.ze1 cdv))) :
    PSsD (cxOf CX0 P w K mg base zjd "check_rows" (defScope zb2) T.ze1 cdv A outer s H E).nox (defBody zb2) znx :=
  (zh (zb9 PassesOwn.never rfl (zix T.zei (zc (za 1) zd)) (zcb rfl (zn (zk (i := 2) zh7.nd rfl (Or.inl rfl)) (zn (zk (i := 3) zh7.nd rfl (Or.inl rfl)) zbb)))
      (zh (zcc (zpm (zll (zhd (zfe (zm (zu9 T.isi) T.zf3 ze4 (zc (za 3) (zc (zma T.zgr zel) zd))))) (zkt (zw (znr hr.units) (zm zc9 T.zgy zdd (zc (za 3) zd)) (zce T.zaz T.zfy (za 0)) (nomark _)))))
      (zj zgd)
      zaa)
      (zj (zcc (zhd (zfe (zm (z1h rfl) T.z6e z0y (zc (za2 (zfw (own := [("one", 4)]) rfl zh7.nd (zay (za 3)) (blkOk_by (N := zjd) (sc := defScope zb2) (by decide +kernel)) (fun _ _ _ _ _ => (zk (i := 4) zh7.nd rfl (Or.inl rfl))) (fun _ _ _ _ _ => zb3) (fun _ _ _ _ _ => (zo z9 (hr.mono (by decide)) T.zhn T.zgk.kp T.zf9 (zc (za 4) (zc zg (zc (ze8 (Classical.choose_spec T.zhm)) zd))))))) zd))))
      (zj zgd)
      zaa))))
      (zj (zcc (zw (znr hr.units) (zm zc9 T.zgy zdd (zc (za 1) zd)) (zce T.zaz T.zfj (za 0)) (nomark _))
      (zj zgd)
      zaa)))
theorem zxx (T : Txt P K mg) (z9 : FnD P w K mg base 1 T.zcf T.zc0 ["thing", "low", "high"] zah) : FnD P w K mg base 2 T.ze1 T.zhg ["camera", "rows"] zfb :=
  fn_d T.zr9 zh7 zv1 (zzf T z9) zvv
theorem zvb [Bs] (T : Txt P K mg) (z9 : FnD P w K mg base 1 T.zcf T.zc0 ["thing", "low", "high"] zah) (U : DXK) (cdv : Value) (A : Around) (outer : List Env) (s : Shared) (H : Hp) (E : XK) (hr : Room 1 (A.deeper (envOfC "check_rows" (defScope zab) s.heap.objs.size T.zbh cdv)))
    (tk : Takes (cxOf (L2.CX P w) P w K mg base zcp "check_rows" (defScope zab) T.zbh cdv A outer s H E) (ztw ⟨K, w⟩ U)) (po : PassesOwn (model P w) (cxOf (L2.CX P w) P w K mg base zcp "check_rows" (defScope zab) T.zbh cdv A outer s H E).A (cxOf (L2.CX P w) P w K mg base zcp "check_rows" (defScope zab) T.zbh cdv A outer s H E).env (cxOf (L2.CX P w) P w K mg base zcp "check_rows" (defScope zab) T.zbh cdv A outer s H E).xe) :
    PSsD (cxOf (L2.CX P w) P w K mg base zcp "check_rows" (defScope zab) T.zbh cdv A outer s H E) (defBody zab) (ziz U) :=
  (zh (zb9 po rfl (zix T.zei (zc (za 1) zd)) (zcb rfl (zn (zk (i := 2) zf5.nd rfl (Or.inl rfl)) (zn (zk (i := 3) zf5.nd rfl (Or.inl rfl)) zbb)))
      (zh (zcc (zpm (zll (zhd (zfe (zm (zu9 T.isi) T.zf3 ze4 (zc (za 3) (zc (zma T.zgr zel) zd))))) (zkt (zw (znr hr.units) (zm zc9 T.zgy zdd (zc (za 3) zd)) (zce T.zaz T.zfy (za 0)) (nomark _)))))
      (zj (zt7 rfl T.zl3 T.zjr hr tk (zc (za 2) zd)))
      zaa)
      (zj (zcc (zhd (zfe (zm (z1h rfl) T.z6e z0y (zc (za2 (zfw (own := [("one", 4)]) rfl zf5.nd (zay (za 3)) (blkOk_by (N := zcp) (sc := defScope zab) (by decide +kernel)) (fun _ _ _ _ _ => (zk (i := 4) zf5.nd rfl (Or.inl rfl))) (fun _ _ _ _ _ => zb3) (fun _ _ _ _ _ => (zo z9 (hr.mono (by decide)) T.zhn T.zgk.kp T.zf9 (zc (za 4) (zc zg (zc (ze8 (Classical.choose_spec T.zhm)) zd))))))) zd))))
      (zj (zt7 rfl T.zl3 T.zjr hr tk (zc (za 2) zd)))
      zaa))))
      (zj (zcc (zw (znr hr.units) (zm zc9 T.zgy zdd (zc (za 1) zd)) (zce T.zaz T.zfj (za 0)) (nomark _))
      (zj (zt7 rfl T.zl3 T.zjr hr tk (zc (zm zc9 T.zgy zdd (zc (za 1) zd)) zd)))
      zaa)))
theorem zuy (T : Txt P K mg) (z9 : FnD P w K mg base 1 T.zcf T.zc0 ["thing", "low", "high"] zah) : FnX P w K mg base 2 T.zbh T.zfo ["camera", "rows"] zdp :=
  fn_x (T := ziz) T.zoq zf5 zsj (zvb T z9) zsr
theorem zvk [Bs] (T : Txt P K mg) (cdv : Value) (A : Around) (outer : List Env) (s : Shared) (H : Hp) (E : XK) (hr : Room 0 (A.deeper (envOfC "bright_cells" (defScope za5) s.heap.objs.size T.zbg cdv))) :
    PSsD (cxOf CX0 P w K mg base zg1 "bright_cells" (defScope za5) T.zbg cdv A outer s H E).nox (defBody za5) zlc :=
  (zh (zae (i := 2) zct.nd rfl (Or.inl rfl) (zem zd))
      (zh (zb9 PassesOwn.never rfl (zix T.zei (zc (za 0) zd)) (zcb rfl (zn (zk (i := 3) zct.nd rfl (Or.inr rfl)) (zn (zk (i := 4) zct.nd rfl (Or.inl rfl)) zbb)))
      (zj (z1q (i := 2) zct.nd rfl (Or.inl rfl) (za2 (zfw (own := [("x", 5), ("bright", 6)]) rfl zct.nd (zix T.zei (zc (za 4) zd)) (blkOk_by (N := zg1) (sc := defScope za5) (by decide +kernel)) (fun _ _ _ _ _ => (zcb rfl (zn (zk (i := 5) zct.nd rfl (Or.inl rfl)) (zn (zk (i := 6) zct.nd rfl (Or.inl rfl)) zbb)))) (fun _ _ _ _ _ => (zic (zw (z15 hr.units) (za 6) (za 1) (nomark _)))) (fun _ _ _ _ _ => (zt (zc (za 5) (zc (za 3) zd)))))) zxo)))
      (zbk 2 (zj (z8 (za2 (zm (zgx hr.units) T.zfv zd9 (zc (za 2) zd))))))))
theorem zt6 (T : Txt P K mg) : FnD P w K mg base 1 T.zbg T.zb7 ["rows", "level"] zau :=
  fn_d T.ziy zct zsd (zvk T) zsk
theorem z41 [Bs] (T : Txt P K mg) (cdv : Value) (A : Around) (outer : List Env) (s : Shared) (H : Hp) (E : XK) (hr : Room 0 (A.deeper (envOfC "size_by" (defScope zen) s.heap.objs.size T.zfg cdv))) :
    PSsD (cxOf CX0 P w K mg base zn1 "size_by" (defScope zen) T.zfg cdv A outer s H E).nox (defBody zen) zvp :=
  (zj (z8 (zm (zacp rfl) T.z8h zzg (zc (ze8 (Classical.choose_spec T.zue)) (zc (zp zci zg (zm zc9 T.zgy zdd (zc (za2 (zfw (own := [("step", 2)]) rfl zrb.nd (zay (za 1)) (blkOk_by (N := zn1) (sc := defScope zen) (by decide +kernel)) (fun _ _ _ _ _ => (zk (i := 2) zrb.nd rfl (Or.inl rfl))) (fun _ _ _ _ _ => (zic (zw (z15 hr.units) (za 0) (za 2) (nomark _)))) (fun _ _ _ _ _ => (za 2)))) zd))) zd)))))
theorem z47 (T : Txt P K mg) : FnD P w K mg base 1 T.zfg T.zg2 ["many", "steps"] zdj :=
  fn_d T.zp8 zrb z2l (z41 T) z21
theorem z8f [Bs] (T : Txt P K mg) (cdv : Value) (A : Around) (outer : List Env) (s : Shared) (H : Hp) (E : XK) (hr : Room 0 (A.deeper (envOfC "middle" (defScope zfu) s.heap.objs.size T.zg3 cdv))) :
    PSsD (cxOf CX0 P w K mg base zoc "middle" (defScope zfu) T.zg3 cdv A outer s H E).nox (defBody zfu) zxk :=
  (zh (zlh (i := 1) (j := 2) rfl zi6.nd rfl rfl (by decide) rfl rfl (zc (za2 (zfw (own := [("x", 3), ("y", 4)]) rfl zi6.nd (zay (za 0)) (blkOk_by (N := zoc) (sc := defScope zfu) (by decide +kernel)) (fun _ _ _ _ _ => (zcb rfl (zn (zk (i := 3) zi6.nd rfl (Or.inl rfl)) (zn (zk (i := 4) zi6.nd rfl (Or.inl rfl)) zbb)))) (fun _ _ _ _ _ => zb3) (fun _ _ _ _ _ => (za 4)))) (zc (za2 (zfw (own := [("x", 3), ("y", 4)]) rfl zi6.nd (zay (za 0)) (blkOk_by (N := zoc) (sc := defScope zfu) (by decide +kernel)) (fun _ _ _ _ _ => (zcb rfl (zn (zk (i := 3) zi6.nd rfl (Or.inl rfl)) (zn (zk (i := 4) zi6.nd rfl (Or.inl rfl)) zbb)))) (fun _ _ _ _ _ => zb3) (fun _ _ _ _ _ => (za 3)))) zd)) (by with_unfolding_all rfl))
      (zj (z8 (zt (zc (zp zlj (zp zci (zm (zxv rfl) T.z8h zzg (zc (za 2) zd)) (zm (zyd rfl) T.z97 z3d (zc (za 2) zd))) zg) (zc (zp zlj (zp zci (zm (zxv rfl) T.z8h zzg (zc (za 1) zd)) (zm (zyd rfl) T.z97 z3d (zc (za 1) zd))) zg) zd))))))
theorem z6v (T : Txt P K mg) : FnD P w K mg base 1 T.zg3 T.ziv ["blob"] zeo :=
  fn_d T.zs3 zi6 z45 (z8f T) z5k
theorem zy6 [Bs] (T : Txt P K mg) (zgo : FnD P w K mg base 2 T.zji T.zk9 ["cells"] zft) (zar : FnD P w K mg base 1 T.zbg T.zb7 ["rows", "level"] zau) (zi0 : FnD P w K mg base 2 T.ze1 T.zhg ["camera", "rows"] zfb) (zfd : FnD P w K mg base 1 T.zg3 T.ziv ["blob"] zeo) (zds : FnD P w K mg base 1 T.zfg T.zg2 ["many", "steps"] zdj) (cdv : Value) (A : Around) (outer : List Env) (s : Shared) (H : Hp) (E : XK) (hr : Room 2 (A.deeper (envOfC "picture_of" (defScope zcj) s.heap.objs.size T.zdg cdv))) :
    PSsD (cxOf CX0 P w K mg base zk4 "picture_of" (defScope zcj) T.zdg cdv A outer s H E).nox (defBody zcj) zn3 :=
  (zh (zc8 (zo zi0 (hr.mono (by decide)) T.z1g T.zr9.kp T.zxz (zc (za 0) (zc (za 1) zd))))
      (zh (zae (i := 4) zmk.nd rfl (Or.inl rfl) (zem zd))
      (zh (zb9 PassesOwn.never rfl (zay (zo zgo (hr.mono (by decide)) T.zx1 T.zuh.kp T.zti (zc (zo zar (hr.mono (by decide)) T.zld T.ziy.kp T.zku (zc (za 1) (zc (za 2) zd))) zd))) (zk (i := 5) zmk.nd rfl (Or.inl rfl))
      (zj (zc8 (zm9 PySem.F.plainAttrs_list PySem.F.slot_list_append PySem.F.type_list_append zd3 (za 4) (zc (zt (z3q (zo zfd (hr.mono (by decide)) T.zxi T.zs3.kp T.zt4 (zc (za 5) zd)) (zc (zo zds (hr.mono (by decide)) T.ztn T.zp8.kp T.zre (zc (zm zc9 T.zgy zdd (zc (za 5) zd)) (zc (za 3) zd))) zd))) zd)))))
      (zbk 4 (zj (z8 (z7 zia T.zgr zel (zc (za2 (zm (zgx hr.units) T.zfv zd9 (zc (za 4) zd))) zd))))))))
theorem zxc (T : Txt P K mg) (zgo : FnD P w K mg base 2 T.zji T.zk9 ["cells"] zft) (zar : FnD P w K mg base 1 T.zbg T.zb7 ["rows", "level"] zau) (zi0 : FnD P w K mg base 2 T.ze1 T.zhg ["camera", "rows"] zfb) (zfd : FnD P w K mg base 1 T.zg3 T.ziv ["blob"] zeo) (zds : FnD P w K mg base 1 T.zfg T.zg2 ["many", "steps"] zdj) : FnD P w K mg base 3 T.zdg T.zez ["camera", "rows", "level", "steps"] zcd :=
  fn_d T.zk0 zmk zv4 (zy6 T zgo zar zi0 zfd zds) zwa
theorem ztm [Bs] (T : Txt P K mg) (zgo : FnD P w K mg base 2 T.zji T.zk9 ["cells"] zft) (zar : FnD P w K mg base 1 T.zbg T.zb7 ["rows", "level"] zau) (zgw : FnX P w K mg base 2 T.zbh T.zfo ["camera", "rows"] zdp) (zfd : FnD P w K mg base 1 T.zg3 T.ziv ["blob"] zeo) (zds : FnD P w K mg base 1 T.zfg T.zg2 ["many", "steps"] zdj) (U : DXK) (cdv : Value) (A : Around) (outer : List Env) (s : Shared) (H : Hp) (E : XK) (hr : Room 2 (A.deeper (envOfC "picture_of" (defScope zaf) s.heap.objs.size T.zbf cdv)))
    (tk : Takes (cxOf (L2.CX P w) P w K mg base zde "picture_of" (defScope zaf) T.zbf cdv A outer s H E) (ztw ⟨K, w⟩ U)) (po : PassesOwn (model P w) (cxOf (L2.CX P w) P w K mg base zde "picture_of" (defScope zaf) T.zbf cdv A outer s H E).A (cxOf (L2.CX P w) P w K mg base zde "picture_of" (defScope zaf) T.zbf cdv A outer s H E).env (cxOf (L2.CX P w) P w K mg base zde "picture_of" (defScope zaf) T.zbf cdv A outer s H E).xe) :
    PSsD (cxOf (L2.CX P w) P w K mg base zde "picture_of" (defScope zaf) T.zbf cdv A outer s H E) (defBody zaf) (ziw U) :=
  (zh (zc8 (z02 zgw (hr.mono (by decide)) T.zwe T.zoq.kp T.ztx tk (zc (za 0) (zc (za 1) zd))))
      (zh (zae (i := 4) zko.nd rfl (Or.inl rfl) (zem zd))
      (zh (zb9 po rfl (zay (zo zgo (hr.mono (by decide)) T.zx1 T.zuh.kp T.zti (zc (zo zar (hr.mono (by decide)) T.zld T.ziy.kp T.zku (zc (za 1) (zc (za 2) zd))) zd))) (zk (i := 5) zko.nd rfl (Or.inl rfl))
      (zj (zc8 (zm9 PySem.F.plainAttrs_list PySem.F.slot_list_append PySem.F.type_list_append zd3 (za 4) (zc (zt (z3q (zo zfd (hr.mono (by decide)) T.zxi T.zs3.kp T.zt4 (zc (za 5) zd)) (zc (zo zds (hr.mono (by decide)) T.ztn T.zp8.kp T.zre (zc (zm zc9 T.zgy zdd (zc (za 5) zd)) (zc (za 3) zd))) zd))) zd)))))
      (zbk 4 (zj (z8 (z7 zia T.zgr zel (zc (za2 (zm (zgx hr.units) T.zfv zd9 (zc (za 4) zd))) zd))))))))
theorem ztu (T : Txt P K mg) (zgo : FnD P w K mg base 2 T.zji T.zk9 ["cells"] zft) (zar : FnD P w K mg base 1 T.zbg T.zb7 ["rows", "level"] zau) (zgw : FnX P w K mg base 2 T.zbh T.zfo ["camera", "rows"] zdp) (zfd : FnD P w K mg base 1 T.zg3 T.ziv ["blob"] zeo) (zds : FnD P w K mg base 1 T.zfg T.zg2 ["many", "steps"] zdj) : FnX P w K mg base 3 T.zbf T.zfl ["camera", "rows", "level", "steps"] zdn :=
  fn_x (T := ziw) T.zot zko zsn (ztm T zgo zar zgw zfd zds) zsl
theorem zwi [Bs] (T : Txt P K mg) (cdv : Value) (A : Around) (outer : List Env) (s : Shared) (H : Hp) (E : XK) (hr : Room 0 (A.deeper (envOfC "_law_number" (defScope zbr) s.heap.objs.size T.zd8 cdv))) :
    PSsD (cxOf CX0 P w K mg base zjw "_law_number" (defScope zbr) T.zd8 cdv A outer s H E).nox (defBody zbr) zmo :=
  (zh (zin (zzh (zw (znr hr.units) (za 0) (zfr zd) (nomark _)) (zt (zc (zax (ixd hr.units) (za 0) (zp zr2 (za 1) (zm zc9 T.zgy zdd (zc (za 0) zd)))) (zc (zp zlj (za 1) (zm zc9 T.zgy zdd (zc (za 0) zd))) zd))) (zt (zc zg (zc zg zd)))) (zcb rfl (zn (zk (i := 2) zda.nd rfl (Or.inl rfl)) (zn (zk (i := 3) zda.nd rfl (Or.inl rfl)) zbb))))
      (zh (zae (i := 4) zda.nd rfl (Or.inl rfl) (zzh (zw (zvl hr.units) (za 3) zg (nomark _)) (zp zdv (za 2) (zp zadm zg zg)) zg))
      (zh (zb9 PassesOwn.never rfl (zfk T.zle (zc (zp zr2 (z7 zlr T.zpw zkw (zc (za 3) zd)) zg) zd)) (zk (i := 5) zda.nd rfl (Or.inl rfl))
      (zj (zae (i := 4) zda.nd rfl (Or.inl rfl) (zp zlj (za 4) zg))))
      (zh (zcc (zw (z6y hr.units) (za 4) zg (nomark _))
      (zj (z8 (zp zr2 (z7 zlr T.zpw zkw (zc (za 4) zd)) zg)))
      zaa)
      (zh (zae (i := 6) zda.nd rfl (Or.inl rfl) (zp zr2 (zp zci (zp zi8 (z7 zlr T.zpw zkw (zc (zp zci (za 2) (zp zi8 zg (za 1))) zd)) zg) (zp zi8 zg (zm zc9 T.zgy zdd (zc (za 0) zd)))) zg))
      (zh (zae (i := 6) zda.nd rfl (Or.inl rfl) (zp zr2 (zp zci (zp zi8 (za 6) (za 6)) (zp zi8 zg (za 1))) zg))
      (zj (z8 (z7 zlr T.zpw zkw (zc (zp zr2 (zp zci (zp zi8 (za 6) zg) (zp zlj (za 6) zg)) zg) zd))))))))))
theorem zvy (T : Txt P K mg) : FnD P w K mg base 1 T.zd8 T.zgj ["script", "index"] zef :=
  fn_d T.zp5 zda zu4 (zwi T) zvm
theorem z0x [Bs] (T : Txt P K mg) (zh9 : FnD P w K mg base 1 T.zd8 T.zgj ["script", "index"] zef) (cdv : Value) (A : Around) (outer : List Env) (s : Shared) (H : Hp) (E : XK) (hr : Room 1 (A.deeper (envOfC "_law_take" (defScope zc2) s.heap.objs.size T.zc6 cdv))) :
    PSsD (cxOf CX0 P w K mg base zmb "_law_take" (defScope zc2) T.zc6 cdv A outer s H E).nox (defBody zc2) zpf :=
  (zh (zaaj (za 0) zg zaax zg zxo (zw9 hr.units))
      (zj (z8 (zp zr2 (z7 zlr T.zpw zkw (zc (zo zh9 (hr.mono (by decide)) T.zzc T.zp5.kp T.zwc (zc (zax (ixd hr.units) (za 0) zg) (zc (z7 zlr T.zpw zkw (zc (zax (ixd hr.units) (za 0) zg) zd)) zd))) zd)) (za 1)))))
theorem z1j (T : Txt P K mg) (zh9 : FnD P w K mg base 1 T.zd8 T.zgj ["script", "index"] zef) : FnD P w K mg base 2 T.zc6 T.zeh ["draw", "many"] zr :=
  fn_d T.zat z09 zy4 (z0x T zh9) zys
theorem zx5 [Bs] (T : Txt P K mg) (cdv : Value) (A : Around) (outer : List Env) (s : Shared) (H : Hp) (E : XK) (hr : Room 0 (A.deeper (envOfC "_law_touch" (defScope zby) s.heap.objs.size T.zew cdv))) :
    PSsD (cxOf CX0 P w K mg base zjf "_law_touch" (defScope zby) T.zew cdv A outer s H E).nox (defBody zby) zn6 :=
  (zh (zb9 PassesOwn.never rfl (zay (za 0)) (zk (i := 2) zjx.nd rfl (Or.inr rfl))
      (zj (zcc (zfe (zm (zad1 rfl) T.zafz zaeh (zc (za2 (zfw (own := [("two", 3)]) rfl zjx.nd (zay (za 1)) (blkOk_by (N := zjf) (sc := defScope zby) (by decide +kernel)) (fun _ _ _ _ _ => (zk (i := 3) zjx.nd rfl (Or.inl rfl))) (fun _ _ _ _ _ => zb3) (fun _ _ _ _ _ => (znw (zh2 (zng hr.units) (zm zwx T.z48 zwj (zc (zp zdv (zax (ixd hr.units) (za 2) zg) (zax (ixd hr.units) (za 3) zg)) zd)) zg (nomark _)) (zum (zh2 (zng hr.units) (zm zwx T.z48 zwj (zc (zp zdv (zax (ixd hr.units) (za 2) zg) (zax (ixd hr.units) (za 3) zg)) zd)) zg (nomark _))))))) zd)))
      (zj (z8 zje))
      zaa)))
      (zj (z8 zje)))
theorem zyw (T : Txt P K mg) : FnD P w K mg base 1 T.zew T.zhr ["row", "other"] zff :=
  fn_d T.zsc zjx zv8 (zx5 T) zvz
theorem zx3 [Bs] (T : Txt P K mg) (zi3 : FnD P w K mg base 1 T.zew T.zhr ["row", "other"] zff) (cdv : Value) (A : Around) (outer : List Env) (s : Shared) (H : Hp) (E : XK) (hr : Room 1 (A.deeper (envOfC "_law_group" (defScope za9) s.heap.objs.size T.zeu cdv))) :
    PSsD (cxOf CX0 P w K mg base zey "_law_group" (defScope za9) T.zeu cdv A outer s H E).nox (defBody za9) znu :=
  (zh (zqk (i := 1) (own := [("cell", 8)]) rfl zak.nd rfl rfl (sw_true rfl rfl rfl (by decide +kernel)) (zay (za 0)) (blkOk_by (N := zey) (sc := defScope za9) (by decide +kernel)) (fun _ _ _ _ _ => (zk (i := 8) zak.nd rfl (Or.inl rfl))) (fun _ _ _ _ _ => zb3) (fun _ _ _ _ _ => (zfr (zc (za 8) zd))))
      (zbk 1 (zh (zb9 PassesOwn.never rfl (zfk T.zle (zc (zm zc9 T.zgy zdd (zc (za 0) zd)) zd)) (zk (i := 2) zak.nd rfl (Or.inl rfl))
      (zh (zae (i := 3) zak.nd rfl (Or.inl rfl) (zem zd))
      (zh (zb9 PassesOwn.never rfl (zay (za 1)) (zk (i := 4) zak.nd rfl (Or.inr rfl))
      (zbk 3 (zh (zae (i := 5) zak.nd rfl (Or.inr rfl) (za2 (zfw (own := [("other", 7)]) rfl zak.nd (zay (za 3)) (blkOk_by (N := zey) (sc := defScope za9) (by decide +kernel)) (fun _ _ _ _ _ => (zk (i := 7) zak.nd rfl (Or.inl rfl))) (fun _ _ _ _ _ => (zic (zfe (zo zi3 (hr.mono (by decide)) T.zzr T.zsc.kp T.zxm (zc (za 4) (zc (za 7) zd)))))) (fun _ _ _ _ _ => (za 7)))))
      (zh (zqk (i := 3) (own := [("other", 7)]) rfl zak.nd rfl rfl (sw_true rfl rfl rfl (by decide +kernel)) (zay (za 3)) (blkOk_by (N := zey) (sc := defScope za9) (by decide +kernel)) (fun _ _ _ _ _ => (zk (i := 7) zak.nd rfl (Or.inl rfl))) (fun _ _ _ _ _ => (zic (zw (zk5 (have h := DL.Room.u65 hr; h)) (za 7) (za 5) (by with_unfolding_all rfl)))) (fun _ _ _ _ _ => (za 7)))
      (zh (zae (i := 6) zak.nd rfl (Or.inl rfl) (z7 zabz T.z8b z1v (zc (za 4) zd)))
      (zh (zb9 PassesOwn.never rfl (zay (za 5)) (zk (i := 7) zak.nd rfl (Or.inl rfl))
      (zj (z1q (i := 6) zak.nd rfl (Or.inl rfl) (za 7) zxo)))
      (zbk 6 (zj (zc8 (zm9 PySem.F.plainAttrs_list PySem.F.slot_list_append PySem.F.type_list_append zd3 (za 3) (zc (za 6) zd)))))))))))
      (zbk 3 (zj (zae (i := 1) zak.nd rfl (Or.inl rfl) (za 3)))))))
      (zj (z8 (za2 (zm (zgx hr.units) T.zfv zd9 (zc (za2 (zfw (own := [("row", 4)]) rfl zak.nd (zay (za 1)) (blkOk_by (N := zey) (sc := defScope za9) (by decide +kernel)) (fun _ _ _ _ _ => (zk (i := 4) zak.nd rfl (Or.inl rfl))) (fun _ _ _ _ _ => zb3) (fun _ _ _ _ _ => (z7 zia T.zgr zel (zc (za2 (zm (zgx hr.units) T.zfv zd9 (zc (za 4) zd))) zd))))) zd))))))))
theorem zyz (T : Txt P K mg) (zi3 : FnD P w K mg base 1 T.zew T.zhr ["row", "other"] zff) : FnD P w K mg base 2 T.zeu T.zhp ["cells"] ze6 :=
  fn_d T.zrz zak zv3 (zx3 T zi3) zvq
theorem z76 [Bs] (T : Txt P K mg) (cdv : Value) (A : Around) (outer : List Env) (s : Shared) (H : Hp) (E : XK) (hr : Room 0 (A.deeper (envOfC "turned" (defScope zg4) s.heap.objs.size T.zk6 cdv))) :
    PSsD (cxOf CX0 P w K mg base zs2 "turned" (defScope zg4) T.zk6 cdv A outer s H E).nox (defBody zg4) zy8 :=
  (zh (zcc (zw (zsi hr.units) (za 2) zg (nomark _))
      (zj (z8 (zt (zc (za 0) (zc (za 1) zd)))))
      zaa)
      (zh (zcc (zw (zsi hr.units) (za 2) zg (nomark _))
      (zj (z8 (zt (zc (zp zdv zg (za 1)) (zc (za 0) zd)))))
      zaa)
      (zj (z8 (zzh (zw (zsi hr.units) (za 2) zg (nomark _)) (zt (zc (zp zdv zg (za 0)) (zc (zp zdv zg (za 1)) zd))) (zt (zc (za 1) (zc (zp zdv zg (za 0)) zd))))))))
theorem z6k (T : Txt P K mg) : FnD P w K mg base 1 T.zk6 T.zog ["x", "y", "turn"] zkl :=
  fn_d T.z3n z61 z5o (z76 T) z5v
theorem zzo [Bs] (T : Txt P K mg) (zqz : FnD P w K mg base 1 T.zk6 T.zog ["x", "y", "turn"] zkl) (cdv : Value) (A : Around) (outer : List Env) (s : Shared) (H : Hp) (E : XK) (hr : Room 1 (A.deeper (envOfC "Sky.place" (defScope zc3) s.heap.objs.size T.zf4 cdv))) :
    PSsD (cxOf CX0 P w K mg base zmj "Sky.place" (defScope zc3) T.zf4 cdv A outer s H E).nox (defBody zc3) zo6 :=
  (zh (zin (zo zqz (hr.mono (by decide)) T.zaap T.z3n.kp T.z7v (zc (zax (ixd hr.units) (za 1) zg) (zc (zax (ixd hr.units) (za 1) zg) (zc (zax (ixd hr.units) (za 2) zg) zd)))) (zcb rfl (zn (zk (i := 3) zne.nd rfl (Or.inl rfl)) (zn (zk (i := 4) zne.nd rfl (Or.inl rfl)) zbb))))
      (zj (z8 (zt (zc (zp zci (za 3) (zax (ixd hr.units) (za 2) zg)) (zc (zp zci (za 4) (zax (ixd hr.units) (za 2) zg)) (zc (zax (ixd hr.units) (za 1) zg) zd)))))))
theorem zzx (T : Txt P K mg) (zqz : FnD P w K mg base 1 T.zk6 T.zog ["x", "y", "turn"] zkl) : FnD P w K mg base 2 T.zf4 T.zim ["self", "crater", "standing"] zgc :=
  fn_d T.z1o zne zxa (zzo T zqz) zxd
theorem zyq [Bs] (T : Txt P K mg) (zkb : FnD P w K mg base 2 T.zf4 T.zim ["self", "crater", "standing"] zgc) (cdv : Value) (A : Around) (outer : List Env) (s : Shared) (H : Hp) (E : XK) (hr : Room 2 (A.deeper (envOfC "Sky.places" (defScope zbz) s.heap.objs.size T.zcg cdv))) :
    PSsD (cxOf CX0 P w K mg base zi1 "Sky.places" (defScope zbz) T.zcg cdv A outer s H E).nox (defBody zbz) znf :=
  (zj (z8 (za2 (zfw (own := [("crater", 2)]) rfl zl8.nd (zay (zce T.ztk T.zik (zce T.zjb T.zmr (za 0)))) (blkOk_by (N := zi1) (sc := defScope zbz) (by decide +kernel)) (fun _ _ _ _ _ => (zk (i := 2) zl8.nd rfl (Or.inl rfl))) (fun _ _ _ _ _ => zb3) (fun _ _ _ _ _ => (zmd T.zjb T.z05 zkb (hr.mono (by decide)) T.z0a (za 0) (zc (za 2) (zc (za 1) zd))))))))
theorem zy7 (T : Txt P K mg) (zkb : FnD P w K mg base 2 T.zf4 T.zim ["self", "crater", "standing"] zgc) : FnD P w K mg base 3 T.zcg T.zdb ["self", "standing"] zbi :=
  fn_d T.z0u zl8 zv6 (zyq T zkb) zwg
theorem z24 [Bs] (T : Txt P K mg) (cdv : Value) (A : Around) (outer : List Env) (s : Shared) (H : Hp) (E : XK) (hr : Room 0 (A.deeper (envOfC "are_near" (defScope zdx) s.heap.objs.size T.zhj cdv))) :
    PSsD (cxOf CX0 P w K mg base zob "are_near" (defScope zdx) T.zhj cdv A outer s H E).nox (defBody zdx) zq2 :=
  (zj (z8 (znw (zh2 (zsi hr.units) (zax (ixd hr.units) (za 0) zg) (zax (ixd hr.units) (za 1) zg) (nomark _)) (znw (zh2 (zng hr.units) (zm zwx T.z48 zwj (zc (zp zdv (zax (ixd hr.units) (za 0) zg) (zax (ixd hr.units) (za 1) zg)) zd)) (za 2) (nomark _)) (zum (zh2 (zng hr.units) (zm zwx T.z48 zwj (zc (zp zdv (zax (ixd hr.units) (za 0) zg) (zax (ixd hr.units) (za 1) zg)) zd)) (za 2) (nomark _)))))))
theorem z1y (T : Txt P K mg) : FnD P w K mg base 1 T.zhj T.zj2 ["point", "place", "error"] zg9 :=
  fn_d T.zwn z2s z0g (z24 T) z0w
theorem z23 [Bs] (T : Txt P K mg) (zbd : FnD P w K mg base 3 T.zcg T.zdb ["self", "standing"] zbi) (zl0 : FnD P w K mg base 1 T.zhj T.zj2 ["point", "place", "error"] zg9) (cdv : Value) (A : Around) (outer : List Env) (s : Shared) (H : Hp) (E : XK) (hr : Room 3 (A.deeper (envOfC "nexts_of" (defScope zdh) s.heap.objs.size T.zfm cdv))) :
    PSsD (cxOf CX0 P w K mg base zly "nexts_of" (defScope zdh) T.zfm cdv A outer s H E).nox (defBody zdh) zrg :=
  (zh (zin (zt (zc (zmd T.zjb T.zl4 zbd (hr.mono (by decide)) T.zmm (za 0) (zc (za 2) zd)) (zc (zce T.zaz T.zcv (zce T.zjb T.ze5 (za 0))) zd))) (zcb rfl (zn (zk (i := 3) zfz.nd rfl (Or.inl rfl)) (zn (zk (i := 4) zfz.nd rfl (Or.inr rfl)) zbb))))
      (zh (zae (i := 5) zfz.nd rfl (Or.inl rfl) (zem zd))
      (zh (zb9 PassesOwn.never rfl (zay (za 1)) (zk (i := 6) zfz.nd rfl (Or.inr rfl))
      (zj (zc8 (zm9 PySem.F.plainAttrs_list PySem.F.slot_list_append PySem.F.type_list_append zd3 (za 5) (zc (za2 (zfw (own := [("number", 7), ("place", 8)]) rfl zfz.nd (zix T.zei (zc (za 3) zd)) (blkOk_by (N := zly) (sc := defScope zdh) (by decide +kernel)) (fun _ _ _ _ _ => (zcb rfl (zn (zk (i := 7) zfz.nd rfl (Or.inl rfl)) (zn (zk (i := 8) zfz.nd rfl (Or.inl rfl)) zbb)))) (fun _ _ _ _ _ => (zic (zfe (zo zl0 (hr.mono (by decide)) T.z42 T.zwn.kp T.z2j (zc (za 6) (zc (za 8) (zc (za 4) zd))))))) (fun _ _ _ _ _ => (za 7)))) zd)))))
      (zj (zxp (za 5))))))
theorem z11 (T : Txt P K mg) (zbd : FnD P w K mg base 3 T.zcg T.zdb ["self", "standing"] zbi) (zl0 : FnD P w K mg base 1 T.zhj T.zj2 ["point", "place", "error"] zg9) : FnD P w K mg base 4 T.zfm T.zhe ["sky", "picture", "standing"] zee :=
  fn_d T.zri zfz z03 (z23 T zbd zl0) zzl
theorem zaaw [Bs] (T : Txt P K mg) (cdv : Value) (A : Around) (outer : List Env) (s : Shared) (H : Hp) (E : XK) (hr : Room 0 (A.deeper (envOfC "along" (defScope zii) s.heap.objs.size T.zn5 cdv))) :
    PSsD (cxOf CX0 P w K mg base zts "along" (defScope zii) T.zn5 cdv A outer s H E).nox (defBody zii) z2h :=
  (zh (zlh (i := 3) (j := 4) rfl zk8.nd rfl rfl (by decide) rfl rfl (zc (z7 z9i T.zabh z8q (zc (za 2) zd)) (zc (za 1) zd)) (by with_unfolding_all rfl))
      (zh (zrq (i := 5) hr.units (own := [("second", 8), ("now", 6)]) rfl zk8.nd rfl rfl (zyn rfl rfl rfl (by decide +kernel)) (z1f (za 2)) (blkOk_by (N := zts) (sc := defScope zii) (by decide +kernel)) (fun _ _ _ _ _ => (zcb rfl (zn (zk (i := 8) zk8.nd rfl (Or.inl rfl)) (zn (zk (i := 6) zk8.nd rfl (Or.inl rfl)) zbb)))) (fun _ _ _ _ _ => zb3) (fun _ _ _ _ _ => (za 6)) (fun _ _ _ _ _ => (za 8)))
      (zbk 5 (zh (zpy PassesOwn.never (zw z4c (za 4) zup (nomark _))
      (zh (zae (i := 6) zk8.nd rfl (Or.inl rfl) (zax (ixd hr.units) (za 0) (za 4)))
      (zh (zae (i := 7) zk8.nd rfl (Or.inl rfl) (zm9 PySem.F.plainAttrs_dict PySem.F.slot_dict_get PySem.F.type_dict_get (zab6 hr.units) (za 5) (zc (za 6) zd)))
      (zh (zin (za 6) (zto (za 3) (za 4) (zw9 hr.units)))
      (zj (zae (i := 4) zk8.nd rfl (Or.inl rfl) (za 7)))))))
      (zj (zxp (za 3)))))))
theorem z96 (T : Txt P K mg) : FnD P w K mg base 1 T.zn5 T.zrr ["comers", "last", "pairs"] zml :=
  fn_d T.z6x zk8 z7p (zaaw T) z67
theorem z08 [Bs] (T : Txt P K mg) (zug : FnD P w K mg base 1 T.zn5 T.zrr ["comers", "last", "pairs"] zml) (cdv : Value) (A : Around) (outer : List Env) (s : Shared) (H : Hp) (E : XK) (hr : Room 1 (A.deeper (envOfC "augmented" (defScope zc4) s.heap.objs.size T.zgg cdv))) :
    PSsD (cxOf CX0 P w K mg base zmi "augmented" (defScope zc4) T.zgg cdv A outer s H E).nox (defBody zc4) zo8 :=
  (zh (zlh (i := 3) (j := 4) rfl zkx.nd rfl rfl (by decide) rfl rfl (zc z4v (zc (zem (zc (za 1) zd)) zd)) (by with_unfolding_all rfl))
      (zh (zpy PassesOwn.never (zw (znr hr.units) (za 4) (zfr zd) (nomark _))
      (zh (zae (i := 5) zkx.nd rfl (Or.inl rfl) (zm9 PySem.F.plainAttrs_list PySem.F.slot_list_pop PySem.F.type_list_pop zaag (za 4) (zc zg zd)))
      (zj (zb9 PassesOwn.never rfl (zay (zax (ixd hr.units) (za 0) (za 5))) (zk (i := 6) zkx.nd rfl (Or.inl rfl))
      (zj (zcc (zw (zk5 (have h := DL.Room.u65 hr; h)) (za 6) (za 3) (by with_unfolding_all rfl))
      (zh (zin (za 5) (zto (za 3) (za 6) (zw9 hr.units)))
      (zh (zcc (zw (zk5 (have h := DL.Room.u65 hr; h)) (za 6) (za 2) (by with_unfolding_all rfl))
      (zbk 4 (zbk 3 (zj (z8 (zo zug (hr.mono (by decide)) T.zach T.z6x.kp T.z81 (zc (za 3) (zc (za 6) (zc (za 2) zd))))))))
      zaa)
      (zj (zc8 (zm9 PySem.F.plainAttrs_list PySem.F.slot_list_append PySem.F.type_list_append zd3 (za 4) (zc (zax (ixd hr.units) (za 2) (za 6)) zd))))))
      zaa))))))
      (zbk 4 (zbk 3 (zj (z8 zup))))))
theorem z07 (T : Txt P K mg) (zug : FnD P w K mg base 1 T.zn5 T.zrr ["comers", "last", "pairs"] zml) : FnD P w K mg base 2 T.zgg T.zil ["nexts", "one", "pairs"] zga :=
  fn_d T.zur zkx zxu (z08 T zug) zy5
theorem z2e [Bs] (T : Txt P K mg) (zkh : FnD P w K mg base 2 T.zgg T.zil ["nexts", "one", "pairs"] zga) (cdv : Value) (A : Around) (outer : List Env) (s : Shared) (H : Hp) (E : XK) (hr : Room 2 (A.deeper (envOfC "greatest" (defScope zdi) s.heap.objs.size T.zhl cdv))) :
    PSsD (cxOf CX0 P w K mg base zl2 "greatest" (defScope zdi) T.zhl cdv A outer s H E).nox (defBody zdi) zrk :=
  (zh (zae (i := 1) zf2.nd rfl (Or.inl rfl) (za2 z4v))
      (zh (zb9 PassesOwn.never rfl (zfk T.zle (zc (zm zc9 T.zgy zdd (zc (za 0) zd)) zd)) (zk (i := 2) zf2.nd rfl (Or.inl rfl))
      (zh (zae (i := 3) zf2.nd rfl (Or.inl rfl) (zo zkh (hr.mono (by decide)) T.z2i T.zur.kp T.z01 (zc (za 0) (zc (za 2) (zc (za 1) zd)))))
      (zj (zcc (zw z4c (za 3) zup (nomark _))
      (zj (zae (i := 1) zf2.nd rfl (Or.inl rfl) (za 3)))
      zaa))))
      (zj (z8 (za2 (zadc hr.units (own := [("other", 4), ("one", 2)]) rfl zf2.nd (zay (za2 (z18 hr.units rfl T.zfv zd9 (za 1)))) (blkOk_by (N := zl2) (sc := defScope zdi) (by decide +kernel)) (fun _ _ _ _ _ => (zcb rfl (zn (zk (i := 4) zf2.nd rfl (Or.inl rfl)) (zn (zk (i := 2) zf2.nd rfl (Or.inl rfl)) zbb)))) (fun _ _ _ _ _ => zb3) (fun _ _ _ _ _ => (za 2)) (fun _ _ _ _ _ => (za 4))))))))
theorem z2x (T : Txt P K mg) (zkh : FnD P w K mg base 2 T.zgg T.zil ["nexts", "one", "pairs"] zga) : FnD P w K mg base 3 T.zhl T.zj0 ["nexts"] zf1 :=
  fn_d T.zq6 zf2 zzp (z2e T zkh) z0d
theorem zuo [Bs] (T : Txt P K mg) (cdv : Value) (A : Around) (outer : List Env) (s : Shared) (H : Hp) (E : XK) (hr : Room 0 (A.deeper (envOfC "turned_round" (defScope za8) s.heap.objs.size T.zdc cdv))) :
    PSsD (cxOf CX0 P w K mg base zgv "turned_round" (defScope za8) T.zdc cdv A outer s H E).nox (defBody za8) zlb :=
  (zh (zqk (i := 2) (own := [("other", 5)]) rfl zet.nd rfl rfl (sw_true rfl rfl rfl (by decide +kernel)) (zfk T.zle (zc (za 1) zd)) (blkOk_by (N := zgv) (sc := defScope za8) (by decide +kernel)) (fun _ _ _ _ _ => (zk (i := 5) zet.nd rfl (Or.inl rfl))) (fun _ _ _ _ _ => zb3) (fun _ _ _ _ _ => (zem zd)))
      (zh (zb9 PassesOwn.never rfl (zix T.zei (zc (za 0) zd)) (zcb rfl (zn (zk (i := 3) zet.nd rfl (Or.inl rfl)) (zn (zk (i := 4) zet.nd rfl (Or.inl rfl)) zbb)))
      (zj (zb9 PassesOwn.never rfl (zay (za 4)) (zk (i := 5) zet.nd rfl (Or.inl rfl))
      (zj (zc8 (zm9 PySem.F.plainAttrs_list PySem.F.slot_list_append PySem.F.type_list_append zd3 (zax (ixd hr.units) (za 2) (za 5)) (zc (za 3) zd)))))))
      (z8r 2 (zj (zxp (za 2))))))
theorem zub (T : Txt P K mg) : FnD P w K mg base 1 T.zdc T.zfn ["nexts", "many"] zdq :=
  fn_d T.zos zet zsh (zuo T) zso
theorem zox [Bs] (T : Txt P K mg) (cdv : Value) (A : Around) (outer : List Env) (s : Shared) (H : Hp) (E : XK) (hr : Room 0 (A.deeper (envOfC "Camera.is_within" (defScope zad) s.heap.objs.size T.zbn cdv))) :
    PSsD (cxOf CX0 P w K mg base zfx "Camera.is_within" (defScope zad) T.zbn cdv A outer s H E).nox (defBody zad) zh3 :=
  (zj (z8 (znw (zqv (zng hr.units) (zvl hr.units) (zp zdv zg (za 3)) (za 1) (zp zci (zce T.zaz T.zfy (za 0)) (za 3))) (zum (zqv (zng hr.units) (zvl hr.units) (zp zdv zg (za 3)) (za 2) (zp zci (zce T.zaz T.zfj (za 0)) (za 3)))))))
theorem zow (T : Txt P K mg) : FnD P w K mg base 1 T.zbn T.zcz ["self", "x", "y", "more"] zbt :=
  fn_d T.zqa zou zok (zox T) zoj
theorem zq4 [Bs] (T : Txt P K mg) (zd5 : FnD P w K mg base 1 T.zbn T.zcz ["self", "x", "y", "more"] zbt) (cdv : Value) (A : Around) (outer : List Env) (s : Shared) (H : Hp) (E : XK) (hr : Room 1 (A.deeper (envOfC "Camera.is_sure" (defScope zas) s.heap.objs.size T.zch cdv))) :
    PSsD (cxOf CX0 P w K mg base zg5 "Camera.is_sure" (defScope zas) T.zch cdv A outer s H E).nox (defBody zas) zjn :=
  (zj (z8 (zmd T.zaz T.zpi zd5 (hr.mono (by decide)) T.zov (za 0) (zc (za 1) (zc (za 2) (zc (zp zdv zg (zce T.zaz T.zcv (za 0))) zd))))))
theorem zrx (T : Txt P K mg) (zd5 : FnD P w K mg base 1 T.zbn T.zcz ["self", "x", "y", "more"] zbt) : FnD P w K mg base 2 T.zch T.zdz ["self", "x", "y"] zcl :=
  fn_d T.zst zrp zqh (zq4 T zd5) zqg
theorem zpn [Bs] (T : Txt P K mg) (zfh : FnD P w K mg base 2 T.zch T.zdz ["self", "x", "y"] zcl) (zbd : FnD P w K mg base 3 T.zcg T.zdb ["self", "standing"] zbi) (cdv : Value) (A : Around) (outer : List Env) (s : Shared) (H : Hp) (E : XK) (hr : Room 3 (A.deeper (envOfC "Sky.sure_craters" (defScope z6) s.heap.objs.size T.zbo cdv))) :
    PSsD (cxOf CX0 P w K mg base zea "Sky.sure_craters" (defScope z6) T.zbo cdv A outer s H E).nox (defBody z6) zhx :=
  (zh (zae (i := 2) zbv.nd rfl (Or.inl rfl) (zmd T.zjb T.zl4 zbd (hr.mono (by decide)) T.zmm (za 0) (zc (za 1) zd)))
      (zj (z8 (za2 (zfw (own := [("number", 3), ("x", 4), ("y", 5), ("size", 6)]) rfl zbv.nd (zix T.zei (zc (za 2) zd)) (blkOk_by (N := zea) (sc := defScope z6) (by decide +kernel)) (fun _ _ _ _ _ => (zcb rfl (zn (zk (i := 3) zbv.nd rfl (Or.inl rfl)) (zn (zcb rfl (zn (zk (i := 4) zbv.nd rfl (Or.inl rfl)) (zn (zk (i := 5) zbv.nd rfl (Or.inl rfl)) (zn (zk (i := 6) zbv.nd rfl (Or.inl rfl)) zbb)))) zbb)))) (fun _ _ _ _ _ => (zic (zfe (zmd T.zaz T.zq9 zfh (hr.mono (by decide)) T.zq7 (zce T.zjb T.ze5 (za 0)) (zc (za 4) (zc (za 5) zd)))))) (fun _ _ _ _ _ => (za 3)))))))
theorem zpp (T : Txt P K mg) (zfh : FnD P w K mg base 2 T.zch T.zdz ["self", "x", "y"] zcl) (zbd : FnD P w K mg base 3 T.zcg T.zdb ["self", "standing"] zbi) : FnD P w K mg base 4 T.zbo T.zcw ["self", "standing"] zbu :=
  fn_d T.zp7 zbv zoi (zpn T zfh zbd) zoh
theorem zxr [Bs] (T : Txt P K mg) (zd7 : FnD P w K mg base 4 T.zbo T.zcw ["self", "standing"] zbu) (zfq : FnD P w K mg base 4 T.zfm T.zhe ["sky", "picture", "standing"] zee) (zgz : FnD P w K mg base 1 T.zdc T.zfn ["nexts", "many"] zdq) (cdv : Value) (A : Around) (outer : List Env) (s : Shared) (H : Hp) (E : XK) (hr : Room 4 (A.deeper (envOfC "sure_nexts" (defScope zb0) s.heap.objs.size T.zex cdv))) :
    PSsD (cxOf CX0 P w K mg base zi9 "sure_nexts" (defScope zb0) T.zex cdv A outer s H E).nox (defBody zb0) zno :=
  (zh (zae (i := 3) zhu.nd rfl (Or.inr rfl) (zo zgz (hr.mono (by decide)) T.zvs T.zos.kp T.ztv (zc (zo zfq (hr.mono (by decide)) T.zwt T.zri.kp T.zvg (zc (za 0) (zc (za 1) (zc (za 2) zd)))) (zc (zm zc9 T.zgy zdd (zc (zce T.ztk T.zik (zce T.zjb T.zmr (za 0))) zd)) zd))))
      (zh (zae (i := 4) zhu.nd rfl (Or.inl rfl) (zmd T.zjb T.zo9 zd7 (hr.mono (by decide)) T.zo3 (za 0) (zc (za 2) zd)))
      (zj (z8 (zt (zc (za 4) (zc (za2 (zfw (own := [("number", 5)]) rfl zhu.nd (zay (za 4)) (blkOk_by (N := zi9) (sc := defScope zb0) (by decide +kernel)) (fun _ _ _ _ _ => (zk (i := 5) zhu.nd rfl (Or.inl rfl))) (fun _ _ _ _ _ => zb3) (fun _ _ _ _ _ => (zax (ixd hr.units) (za 3) (za 5))))) zd)))))))
theorem zyr (T : Txt P K mg) (zd7 : FnD P w K mg base 4 T.zbo T.zcw ["self", "standing"] zbu) (zfq : FnD P w K mg base 4 T.zfm T.zhe ["sky", "picture", "standing"] zee) (zgz : FnD P w K mg base 1 T.zdc T.zfn ["nexts", "many"] zdq) : FnD P w K mg base 5 T.zex T.zhh ["sky", "picture", "standing"] ze9 :=
  fn_d T.zr7 zhu zv0 (zxr T zd7 zfq zgz) zvt
theorem zz9 [Bs] (T : Txt P K mg) (cdv : Value) (A : Around) (outer : List Env) (s : Shared) (H : Hp) (E : XK) (hr : Room 0 (A.deeper (envOfC "short_lot" (defScope zca) s.heap.objs.size T.zf0 cdv))) :
    PSsD (cxOf CX0 P w K mg base zij "short_lot" (defScope zca) T.zf0 cdv A outer s H E).nox (defBody zca) zpb :=
  (zh (zrq (i := 2) hr.units (own := [("one", 6), ("other", 5)]) rfl zd2.nd rfl rfl (zyn rfl rfl rfl (by decide +kernel)) (z1f (za 1)) (blkOk_by (N := zij) (sc := defScope zca) (by decide +kernel)) (fun _ _ _ _ _ => (zcb rfl (zn (zk (i := 6) zd2.nd rfl (Or.inl rfl)) (zn (zk (i := 5) zd2.nd rfl (Or.inl rfl)) zbb)))) (fun _ _ _ _ _ => zb3) (fun _ _ _ _ _ => (za 5)) (fun _ _ _ _ _ => (za 6)))
      (zbk 2 (zh (zrq (i := 3) hr.units (own := [("one", 6)]) rfl zd2.nd rfl rfl (zyn rfl rfl rfl (by decide +kernel)) (zfk T.zle (zc (zm zc9 T.zgy zdd (zc (za 0) zd)) zd)) (blkOk_by (N := zij) (sc := defScope zca) (by decide +kernel)) (fun _ _ _ _ _ => (zk (i := 6) zd2.nd rfl (Or.inl rfl))) (fun _ _ _ _ _ => (zic (zw (zk5 (have h := DL.Room.u65 hr; h)) (za 6) (za 1) (by with_unfolding_all rfl)))) (fun _ _ _ _ _ => (za 6)) (fun _ _ _ _ _ => zje))
      (zh (zae (i := 4) zd2.nd rfl (Or.inl rfl) (z7 (z4g rfl) T.z8b z1v (zc (za 3) zd)))
      (zh (zpy PassesOwn.never (zw (znr hr.units) (za 4) (zfr zd) (nomark _))
      (zj (zb9 PassesOwn.never rfl (zay (zax (ixd hr.units) (za 0) (zaa4 PySem.F.plainAttrs_list PySem.F.slot_list_pop PySem.F.type_list_pop zaa3 (za 4)))) (zk (i := 5) zd2.nd rfl (Or.inl rfl))
      (zh (zae (i := 6) zd2.nd rfl (Or.inl rfl) (zax (ixd hr.units) (za 2) (za 5)))
      (zj (zcc (zw (zk5 (have h := DL.Room.u65 hr; h)) (za 6) (za 3) (by with_unfolding_all rfl))
      (zh (zin zje (zto (za 3) (za 6) (zw9 hr.units)))
      (zj (zc8 (zm9 PySem.F.plainAttrs_list PySem.F.slot_list_append PySem.F.type_list_append zd3 (za 4) (zc (za 6) zd)))))
      zaa))))))
      (zbk 4 (zbk 3 (zj (z8 (za2 (zm (zw2 hr.units rfl) T.zfv zd9 (zc (za 3) zd))))))))))))
theorem zz5 (T : Txt P K mg) : FnD P w K mg base 1 T.zf0 T.ziq ["nexts", "matching"] ze0 :=
  fn_d T.zo0 zd2 zxy (zz9 T) zyo
theorem z5a [Bs] (T : Txt P K mg) (zj4 : FnD P w K mg base 3 T.zhl T.zj0 ["nexts"] zf1) (zfq : FnD P w K mg base 4 T.zfm T.zhe ["sky", "picture", "standing"] zee) (zit : FnD P w K mg base 1 T.zf0 T.ziq ["nexts", "matching"] ze0) (zi5 : FnD P w K mg base 5 T.zex T.zhh ["sky", "picture", "standing"] ze9) (cdv : Value) (A : Around) (outer : List Env) (s : Shared) (H : Hp) (E : XK) (hr : Room 5 (A.deeper (envOfC "against" (defScope zes) s.heap.objs.size T.zi4 cdv))) :
    PSsD (cxOf CX0 P w K mg base znm "against" (defScope zes) T.zi4 cdv A outer s H E).nox (defBody zes) zvd :=
  (zh (zae (i := 3) zhf.nd rfl (Or.inl rfl) (zo zfq (hr.mono (by decide)) T.zwt T.zri.kp T.zvg (zc (za 0) (zc (za 1) (zc (za 2) zd)))))
      (zh (zae (i := 4) zhf.nd rfl (Or.inl rfl) (zo zj4 (hr.mono (by decide)) T.zwo T.zq6.kp T.zu1 (zc (za 3) zd)))
      (zh (zcc (zw (zvl hr.units) (zm zc9 T.zgy zdd (zc (za 4) zd)) (zp zdv (zm zc9 T.zgy zdd (zc (za 1) zd)) (zce T.zaz T.zkj (zce T.zjb T.ze5 (za 0)))) (nomark _))
      (zj (z8 (zt (zc zpk (zc (z7 zia T.zgr zel (zc (zo zit (hr.mono (by decide)) T.zu3 T.zo0.kp T.zr0 (zc (za 3) (zc (za 4) zd))) zd)) zd)))))
      zaa)
      (zh (zin (zo zi5 (hr.mono (by decide)) T.z0j T.zr7.kp T.zxs (zc (za 0) (zc (za 1) (zc (za 2) zd)))) (zcb rfl (zn (zk (i := 5) zhf.nd rfl (Or.inr rfl)) (zn (zk (i := 6) zhf.nd rfl (Or.inl rfl)) zbb))))
      (zh (zae (i := 7) zhf.nd rfl (Or.inl rfl) (zo zj4 (hr.mono (by decide)) T.zwo T.zq6.kp T.zu1 (zc (za 6) zd)))
      (zh (zcc (zw (zvl hr.units) (zm zc9 T.zgy zdd (zc (za 7) zd)) (zp zdv (zm zc9 T.zgy zdd (zc (za 5) zd)) (zce T.zaz T.zlk (zce T.zjb T.ze5 (za 0)))) (nomark _))
      (zj (z8 (zt (zc zpk (zc (z7 zia T.zgr zel (zc (za2 (zfw (own := [("at", 8)]) rfl zhf.nd (zay (zo zit (hr.mono (by decide)) T.zu3 T.zo0.kp T.zr0 (zc (za 6) (zc (za 7) zd)))) (blkOk_by (N := znm) (sc := defScope zes) (by decide +kernel)) (fun _ _ _ _ _ => (zk (i := 8) zhf.nd rfl (Or.inl rfl))) (fun _ _ _ _ _ => zb3) (fun _ _ _ _ _ => (zax (ixd hr.units) (za 5) (za 8))))) zd)) zd)))))
      zaa)
      (zj (z8 zup))))))))
theorem z5m (T : Txt P K mg) (zj4 : FnD P w K mg base 3 T.zhl T.zj0 ["nexts"] zf1) (zfq : FnD P w K mg base 4 T.zfm T.zhe ["sky", "picture", "standing"] zee) (zit : FnD P w K mg base 1 T.zf0 T.ziq ["nexts", "matching"] ze0) (zi5 : FnD P w K mg base 5 T.zex T.zhh ["sky", "picture", "standing"] ze9) : FnD P w K mg base 6 T.zi4 T.zlq ["sky", "picture", "standing"] zis :=
  fn_d T.z1d zhf z12 (z5a T zj4 zfq zit zi5) z2b
theorem zadd [Bs] (T : Txt P K mg) (znh : FnD P w K mg base 6 T.zi4 T.zlq ["sky", "picture", "standing"] zis) (cdv : Value) (A : Around) (outer : List Env) (s : Shared) (H : Hp) (E : XK) (hr : Room 6 (A.deeper (envOfC "fits" (defScope zm6) s.heap.objs.size T.zoo cdv))) :
    PSsD (cxOf CX0 P w K mg base z30 "fits" (defScope zm6) T.zoo cdv A outer s H E).nox (defBody zm6) z7r :=
  (zj (z8 (zh2 zafv (zo znh (hr.mono (by decide)) T.z57 T.z1d.kp T.z43 (zc (za 0) (zc (za 1) (zc (za 2) zd)))) zup (nomark _))))
theorem zac3 (T : Txt P K mg) (znh : FnD P w K mg base 6 T.zi4 T.zlq ["sky", "picture", "standing"] zis) : FnD P w K mg base 7 T.zoo T.zr4 ["sky", "picture", "standing"] zj7 :=
  fn_d T.z3g zadh z9l (zadd T znh) zaac
theorem z04 [Bs] (T : Txt P K mg) (zu : FnD P w K mg base 2 T.zc6 T.zeh ["draw", "many"] zr) (cdv : Value) (A : Around) (outer : List Env) (s : Shared) (H : Hp) (E : XK) (hr : Room 2 (A.deeper (envOfC "_law_blob" (defScope zcm) s.heap.objs.size T.zge cdv))) :
    PSsD (cxOf CX0 P w K mg base zj6 "_law_blob" (defScope zcm) T.zge cdv A outer s H E).nox (defBody zcm) zo4 :=
  (zh (zcc (zw (zsi hr.units) (zo zu (hr.mono (by decide)) T.za0 T.zat.kp T.zan (zc (za 0) (zc zg zd))) zg (nomark _))
      (zj (z8 (zfr (zc (zt (zc (zp zdv (zp zci (za 1) (zo zu (hr.mono (by decide)) T.za0 T.zat.kp T.zan (zc (za 0) (zc zg zd)))) zg) (zc (zp zdv (zp zci (za 2) (zo zu (hr.mono (by decide)) T.za0 T.zat.kp T.zan (zc (za 0) (zc zg zd)))) zg) zd))) zd))))
      zaa)
      (zh (zae (i := 3) zi2.nd rfl (Or.inl rfl) (zfr (zc (zt (zc (zif zg) (zc (zif zg) zd))) (zc (zt (zc (zif zg) (zc zg zd))) (zc (zt (zc (zif zg) (zc zg zd))) (zc (zt (zc zg (zc (zif zg) zd))) (zc (zt (zc zg (zc zg zd))) (zc (zt (zc zg (zc (zif zg) zd))) (zc (zt (zc zg (zc zg zd))) (zc (zt (zc zg (zc zg zd))) zd))))))))))
      (zj (z8 (zp zci (zfr (zc (zt (zc (za 1) (zc (za 2) zd))) zd)) (za2 (zfw (own := [("right", 4), ("down", 5)]) rfl zi2.nd (zay (za 3)) (blkOk_by (N := zj6) (sc := defScope zcm) (by decide +kernel)) (fun _ _ _ _ _ => (zcb rfl (zn (zk (i := 4) zi2.nd rfl (Or.inl rfl)) (zn (zk (i := 5) zi2.nd rfl (Or.inl rfl)) zbb)))) (fun _ _ _ _ _ => (zic (zw (zsi hr.units) (zo zu (hr.mono (by decide)) T.za0 T.zat.kp T.zan (zc (za 0) (zc zg zd))) zg (nomark _)))) (fun _ _ _ _ _ => (zt (zc (zp zci (za 1) (za 4)) (zc (zp zci (za 2) (za 5)) zd)))))))))))
theorem z1e (T : Txt P K mg) (zu : FnD P w K mg base 2 T.zc6 T.zeh ["draw", "many"] zr) : FnD P w K mg base 3 T.zge T.zio ["draw", "x", "y"] zgf :=
  fn_d T.zvf zi2 zx2 (z04 T zu) zyb
theorem zvu [Bs] (T : Txt P K mg) (cdv : Value) (A : Around) (outer : List Env) (s : Shared) (H : Hp) (E : XK) (hr : Room 0 (A.deeper (envOfC "_law_shares" (defScope zbj) s.heap.objs.size T.zd1 cdv))) :
    PSsD (cxOf CX0 P w K mg base zhv "_law_shares" (defScope zbj) T.zd1 cdv A outer s H E).nox (defBody zbj) zmp :=
  (zh (zae (i := 3) zb5.nd rfl (Or.inl rfl) (za2 (z8d hr.units (zt zd) zje)))
      (zh (zb9 PassesOwn.never rfl (zay (za 0)) (zk (i := 4) zb5.nd rfl (Or.inl rfl))
      (zh (zae (i := 5) zb5.nd rfl (Or.inl rfl) (z7 (z89 hr.units) T.zabh z8q (zc (za 3) zd)))
      (zh (zb9 PassesOwn.never rfl (zix T.zei (zc (za 1) zd)) (zcb rfl (zn (zk (i := 6) zb5.nd rfl (Or.inr rfl)) (zn (zk (i := 7) zb5.nd rfl (Or.inl rfl)) zbb)))
      (zj (zcc (zpm (zrj (zw (zng hr.units) (zm zwx T.z48 zwj (zc (zp zdv (zax (ixd hr.units) (za 4) zg) (zax (ixd hr.units) (za 7) zg)) zd)) (za 2) (nomark _)) (zrj (zw (zng hr.units) (zm zwx T.z48 zwj (zc (zp zdv (zax (ixd hr.units) (za 4) zg) (zax (ixd hr.units) (za 7) zg)) zd)) (za 2) (nomark _)) (zs0 (zw (zsi hr.units) (zax (ixd hr.units) (za 4) zg) (zax (ixd hr.units) (za 7) zg) (nomark _))))))
      (zj (zb9 PassesOwn.never rfl (zay (za2 (zfw (own := [("one", 9)]) rfl zb5.nd (z84 (za 3)) (blkOk_by (N := zhv) (sc := defScope zbj) (by decide +kernel)) (fun _ _ _ _ _ => (zk (i := 9) zb5.nd rfl (Or.inl rfl))) (fun _ _ _ _ _ => (zic (zw (zk5 (have h := DL.Room.u65 hr; h)) (za 6) (za 9) (by with_unfolding_all rfl)))) (fun _ _ _ _ _ => (za 9))))) (zk (i := 8) zb5.nd rfl (Or.inl rfl))
      (zj (zin zje (zto (za 5) (z7 zia T.zgr zel (zc (za2 (zm (z5n hr.units) T.zfv zd9 (zc (zp zci (za 8) (zt (zc (za 6) zd))) zd))) zd)) (zw9 hr.units))))))
      zaa)))
      (zbk 5 (zj (zae (i := 3) zb5.nd rfl (Or.inl rfl) (za 5)))))))
      (zj (z8 (za2 (z7 (z4g rfl) T.z8b z1v (zc (za 3) zd)))))))
theorem zv5 (T : Txt P K mg) : FnD P w K mg base 1 T.zd1 T.zgi ["points", "places", "error"] zed :=
  fn_d T.zp4 zb5 zt0 (zvu T) zuq
theorem z1n [Bs] (T : Txt P K mg) (zbd : FnD P w K mg base 3 T.zcg T.zdb ["self", "standing"] zbi) (zhy : FnD P w K mg base 1 T.zd1 T.zgi ["points", "places", "error"] zed) (cdv : Value) (A : Around) (outer : List Env) (s : Shared) (H : Hp) (E : XK) (hr : Room 3 (A.deeper (envOfC "_law_fits" (defScope zcn) s.heap.objs.size T.zf6 cdv))) :
    PSsD (cxOf CX0 P w K mg base zkg "_law_fits" (defScope zcn) T.zf6 cdv A outer s H E).nox (defBody zcn) zo1 :=
  (zh (zlh (i := 3) (j := 4) rfl zev.nd rfl rfl (by decide) rfl rfl (zc (zmd T.zjb T.zl4 zbd (hr.mono (by decide)) T.zmm (za 0) (zc (za 2) zd)) (zc (zce T.zjb T.ze5 (za 0)) zd)) (by with_unfolding_all rfl))
      (zh (zae (i := 5) zev.nd rfl (Or.inl rfl) (zem zd))
      (zh (zb9 PassesOwn.never rfl (zix T.zei (zc (za 3) zd)) (zcb rfl (zn (zk (i := 6) zev.nd rfl (Or.inl rfl)) (zn (zk (i := 7) zev.nd rfl (Or.inl rfl)) zbb)))
      (zj (zcc (zpm (zrj (zzn (zng hr.units) (zvl hr.units) (zce T.zaz T.zcv (za 4)) (zax (ixd hr.units) (za 7) zg) (zp zdv (zce T.zaz T.zfy (za 4)) (zce T.zaz T.zcv (za 4)))) (zs0 (zzn (zng hr.units) (zvl hr.units) (zce T.zaz T.zcv (za 4)) (zax (ixd hr.units) (za 7) zg) (zp zdv (zce T.zaz T.zfj (za 4)) (zce T.zaz T.zcv (za 4)))))))
      (zj (zc8 (zm9 PySem.F.plainAttrs_list PySem.F.slot_list_append PySem.F.type_list_append zd3 (za 5) (zc (za 6) zd))))
      zaa)))
      (zbk 5 (zh (zb9 PassesOwn.never rfl (zay (zo zhy (hr.mono (by decide)) T.zzd T.zp4.kp T.zwd (zc (za 1) (zc (za 3) (zc (zce T.zaz T.zcv (za 4)) zd))))) (zk (i := 8) zev.nd rfl (Or.inr rfl))
      (zh (zqk (i := 9) (own := [("at", 6)]) rfl zev.nd rfl rfl (sw_true rfl rfl rfl (by decide +kernel)) (zay (za 5)) (blkOk_by (N := zkg) (sc := defScope zcn) (by decide +kernel)) (fun _ _ _ _ _ => (zk (i := 6) zev.nd rfl (Or.inl rfl))) (fun _ _ _ _ _ => (zic (zw (zk5 (have h := DL.Room.u65 hr; h)) (za 6) (za 8) (by with_unfolding_all rfl)))) (fun _ _ _ _ _ => (za 6)))
      (zbk 9 (zj (zcc (zpm (zrj (zw (zng hr.units) (zp zdv (zm zc9 T.zgy zdd (zc (za 1) zd)) (zm zc9 T.zgy zdd (zc (za 8) zd))) (zce T.zaz T.zkj (za 4)) (nomark _)) (zs0 (zw (zng hr.units) (zm zc9 T.zgy zdd (zc (za 9) zd)) (zce T.zaz T.zlk (za 4)) (nomark _)))))
      (zj (z8 zje))
      zaa)))))
      (zj (z8 zje)))))))
theorem zz2 (T : Txt P K mg) (zbd : FnD P w K mg base 3 T.zcg T.zdb ["self", "standing"] zbi) (zhy : FnD P w K mg base 1 T.zd1 T.zgi ["points", "places", "error"] zed) : FnD P w K mg base 4 T.zf6 T.zir ["sky", "picture", "standing"] zf8 :=
  fn_d T.ztz zev zxg (z1n T zbd zhy) zy0
theorem zpl [Bs] (T : Txt P K mg) (zav : FnD P w K mg base 2 T.za7 T.zb1 ["self", "width", "height", "error", "false", "lost"] zal) (za6 : FnD P w K mg base 3 T.za4 T.zbx ["self", "craters"] zaw) (zb8 : FnD P w K mg base 2 T.zb6 T.zdf ["self", "ground", "camera", "turns", "area"] zbq) (zj8 : FnD P w K mg base 3 T.zge T.zio ["draw", "x", "y"] zgf) (zkd : FnD P w K mg base 4 T.zf6 T.zir ["sky", "picture", "standing"] zf8) (zdr : FnD P w K mg base 1 T.zeg T.zf7 ["width", "height", "cells"] zcu) (zu : FnD P w K mg base 2 T.zc6 T.zeh ["draw", "many"] zr) (znt : FnD P w K mg base 7 T.zoo T.zr4 ["sky", "picture", "standing"] zj7) (zcs : FnD P w K mg base 3 T.zdg T.zez ["camera", "rows", "level", "steps"] zcd) (cdv : Value) (A : Around) (outer : List Env) (s : Shared) (H : Hp) (E : XK) (hr : Room 7 (A.deeper (envOfC "_law_blobs_right" (defScope zac) s.heap.objs.size T.zbm cdv))) :
    PSsD (cxOf CX0 P w K mg base zfs "_law_blobs_right" (defScope zac) T.zbm cdv A outer s H E).nox (defBody zac) zh1 :=
  (zh (zin (zt (zc (zp zci zg (zo zu (hr.mono (by decide)) T.za0 T.zat.kp T.zan (zc (za 0) (zc zg zd)))) (zc (zp zci zg (zo zu (hr.mono (by decide)) T.za0 T.zat.kp T.zan (zc (za 0) (zc zg zd)))) (zc (zo zu (hr.mono (by decide)) T.za0 T.zat.kp T.zan (zc (za 0) (zc zg zd))) (zc (zo zu (hr.mono (by decide)) T.za0 T.zat.kp T.zan (zc (za 0) (zc zg zd))) zd))))) (zcb rfl (zn (zk (i := 1) zq.nd rfl (Or.inl rfl)) (zn (zk (i := 2) zq.nd rfl (Or.inl rfl)) (zn (zk (i := 3) zq.nd rfl (Or.inl rfl)) (zn (zk (i := 4) zq.nd rfl (Or.inl rfl)) zbb))))))
      (zh (zlh (i := 5) (j := 6) rfl zq.nd rfl rfl (by decide) rfl rfl (zc (zp zdv (zo zu (hr.mono (by decide)) T.za0 T.zat.kp T.zan (zc (za 0) (zc zg zd))) zg) (zc (zp zdv (zo zu (hr.mono (by decide)) T.za0 T.zat.kp T.zan (zc (za 0) (zc zg zd))) zg) zd)) (by with_unfolding_all rfl))
      (zh (zin (zt (zc (za2 (zmf T.zvn zav (hr.mono (by decide)) T.zuu T.zh8 (zc (zp zi8 zg (za 1)) (zc (zp zi8 zg (za 2)) (zc zg (zc (za 4) (zc (za 3) zd))))))) (zc (zem zd) (zc (zfr zd) (zc (zfr (zc zg (zc zg zd))) zd))))) (zcb rfl (zn (zk (i := 7) zq.nd rfl (Or.inl rfl)) (zn (zk (i := 8) zq.nd rfl (Or.inl rfl)) (zn (zk (i := 9) zq.nd rfl (Or.inl rfl)) (zn (zk (i := 10) zq.nd rfl (Or.inl rfl)) zbb))))))
      (zh (zb9 PassesOwn.never rfl (zfk T.zle (zc (zp zi8 (za 1) (za 2)) zd)) (zk (i := 11) zq.nd rfl (Or.inl rfl))
      (zh (z82 (i := 12) (j := 13) (l := 14) rfl zq.nd rfl rfl rfl (by decide) (by decide) (by decide) rfl rfl rfl (zc (zp zci zg (zp zi8 zg (zp zr2 (z7 zlr T.zpw zkw (zc (za 11) zd)) (za 1)))) (zc (zp zci zg (zp zi8 zg (zp zlj (za 11) (za 1)))) (zc (zo zu (hr.mono (by decide)) T.za0 T.zat.kp T.zan (zc (za 0) (zc zg zd))) zd))) (by with_unfolding_all rfl))
      (zh (zae (i := 15) zq.nd rfl (Or.inl rfl) (zo zj8 (hr.mono (by decide)) T.z19 T.zvf.kp T.z0p (zc (za 0) (zc (za 12) (zc (za 13) zd)))))
      (zh (zae (i := 16) zq.nd rfl (Or.inl rfl) (zp zci (zp zci zg (z7 zlr T.zpw zkw (zc (zh2 (z15 hr.units) (zm zc9 T.zgy zdd (zc (za 15) zd)) zg (nomark _)) zd))) (z7 zlr T.zpw zkw (zc (zh2 (z15 hr.units) (zm zc9 T.zgy zdd (zc (za 15) zd)) zg (nomark _)) zd))))
      (zh (zcc (zw (zvl hr.units) (za 14) zg (nomark _))
      (zj (zc8 (zm9 PySem.F.plainAttrs_list PySem.F.slot_list_append PySem.F.type_list_append zd3 (za 8) (zc (zt (zc (zp zdv (za 12) (za 5)) (zc (zp zdv (za 13) (za 6)) (zc (za 16) zd)))) zd))))
      zaa)
      (zh (zcc (zpm (zll (zw (zvl hr.units) (za 14) zg (nomark _)) (zkt (zw (zsi hr.units) (za 14) zg (nomark _)))))
      (zj (zae (i := 9) zq.nd rfl (Or.inl rfl) (zp zci (za 9) (za 15))))
      zaa)
      (zj (zae (i := 10) zq.nd rfl (Or.inl rfl) (zfr (zc (zp zci (zax (ixd hr.units) (za 10) zg) (z7 zlr T.zpw zkw (zc (zqv (zng hr.units) (zvl hr.units) zg (za 14) zg) zd))) (zc (zp zci (zax (ixd hr.units) (za 10) zg) (z7 zlr T.zpw zkw (zc (zh2 (zsi hr.units) (za 14) zg (nomark _)) zd))) zd)))))))))))
      (zbk 8 (zh (zae (i := 17) zq.nd rfl (Or.inl rfl) (za2 (zmf T.zabg zb8 (hr.mono (by decide)) T.zaa5 T.zn2 (zc (za2 (zmf T.z0c za6 (hr.mono (by decide)) T.z0m T.zk2 (zc (zp zci (za 8) (zfr (zc (zt (zc zg (zc zg (zc zg zd)))) zd))) zd))) (zc (za 7) (zc (zt (zc zg zd)) (zc (zt (zc (za 5) (zc (za 5) (zc (za 6) (zc (za 6) zd))))) zd)))))))
      (zh (zae (i := 18) zq.nd rfl (Or.inl rfl) (zo zcs (hr.mono (by decide)) T.zn0 T.zk0.kp T.zl7 (zc (za 7) (zc (zo zdr (hr.mono (by decide)) T.zpg T.zmg.kp T.zny (zc (zp zi8 zg (za 1)) (zc (zp zi8 zg (za 2)) (zc (za 9) zd)))) (zc zg (zc (zt (zc zg (zc zg zd))) zd))))))
      (zh (zcc (zpm (zrj (zw (zng hr.units) (zax (ixd hr.units) (za 10) zg) (za 3) (nomark _)) (zrj (zw (zng hr.units) (zax (ixd hr.units) (za 10) zg) (za 4) (nomark _)) (zs0 (zhd (zfe (zo znt (hr.mono (by decide)) T.z7f T.z3g.kp T.z2d (zc (za 17) (zc (za 18) (zc (zt (zc zg (zc (za 5) (zc (za 6) zd)))) zd))))))))))
      (zj (z8 zje))
      zaa)
      (zj (z8 (zh2 (zsi hr.units) (zo znt (hr.mono (by decide)) T.z7f T.z3g.kp T.z2d (zc (za 17) (zc (zaau (za 18)) (zc (zt (zc zg (zc (za 5) (zc (za 6) zd)))) zd)))) (zo zkd (hr.mono (by decide)) T.z2u T.ztz.kp T.z0s (zc (za 17) (zc (za 18) (zc (zt (zc zg (zc (za 5) (zc (za 6) zd)))) zd)))) (nomark _))))))))))))
theorem zpo (T : Txt P K mg) (zav : FnD P w K mg base 2 T.za7 T.zb1 ["self", "width", "height", "error", "false", "lost"] zal) (za6 : FnD P w K mg base 3 T.za4 T.zbx ["self", "craters"] zaw) (zb8 : FnD P w K mg base 2 T.zb6 T.zdf ["self", "ground", "camera", "turns", "area"] zbq) (zj8 : FnD P w K mg base 3 T.zge T.zio ["draw", "x", "y"] zgf) (zkd : FnD P w K mg base 4 T.zf6 T.zir ["sky", "picture", "standing"] zf8) (zdr : FnD P w K mg base 1 T.zeg T.zf7 ["width", "height", "cells"] zcu) (zu : FnD P w K mg base 2 T.zc6 T.zeh ["draw", "many"] zr) (znt : FnD P w K mg base 7 T.zoo T.zr4 ["sky", "picture", "standing"] zj7) (zcs : FnD P w K mg base 3 T.zdg T.zez ["camera", "rows", "level", "steps"] zcd) : FnD P w K mg base 8 T.zbm T.zcy ["draw"] zbw :=
  fn_d T.zk1 zq zon (zpl T zav za6 zb8 zj8 zkd zdr zu znt zcs) zom
theorem zaed [Bs] (T : Txt P K mg) (zav : FnD P w K mg base 2 T.za7 T.zb1 ["self", "width", "height", "error", "false", "lost"] zal) (za6 : FnD P w K mg base 3 T.za4 T.zbx ["self", "craters"] zaw) (zb8 : FnD P w K mg base 2 T.zb6 T.zdf ["self", "ground", "camera", "turns", "area"] zbq) (zeb : FnD P w K mg base 8 T.zbm T.zcy ["draw"] zbw) (zja : FnD P w K mg base 2 T.zeu T.zhp ["cells"] ze6) (zdr : FnD P w K mg base 1 T.zeg T.zf7 ["width", "height", "cells"] zcu) (zu : FnD P w K mg base 2 T.zc6 T.zeh ["draw", "many"] zr) (zh6 : FnD P w K mg base 1 T.zd4 T.zgm ["items"] zec) (zgo : FnD P w K mg base 2 T.zji T.zk9 ["cells"] zft) (zar : FnD P w K mg base 1 T.zbg T.zb7 ["rows", "level"] zau) (znt : FnD P w K mg base 7 T.zoo T.zr4 ["sky", "picture", "standing"] zj7) (zfd : FnD P w K mg base 1 T.zg3 T.ziv ["blob"] zeo) (zcs : FnD P w K mg base 3 T.zdg T.zez ["camera", "rows", "level", "steps"] zcd) (zg0 : FnX P w K mg base 3 T.zbf T.zfl ["camera", "rows", "level", "steps"] zdn) (zds : FnD P w K mg base 1 T.zfg T.zg2 ["many", "steps"] zdj) (cdv : Value) (A : Around) (outer : List Env) (s : Shared) (H : Hp) (E : XK) (hr : Room 8 (A.deeper (envOfC "law" (defScope znb) s.heap.objs.size T.z40 cdv))) :
    PSsD (cxOf CX0 P w K mg base z1w "law" (defScope znb) T.z40 cdv A outer s H E).nox (defBody znb) zac9 :=
  (zh (zae (i := 1) zfi.nd rfl (Or.inr rfl) (zem (zc (za 0) (zc zg zd))))
      (zh (zin (zt (zc (zp zci zg (zo zu (hr.mono (by decide)) T.za0 T.zat.kp T.zan (zc (za 1) (zc zg zd)))) (zc (zp zci zg (zo zu (hr.mono (by decide)) T.za0 T.zat.kp T.zan (zc (za 1) (zc zg zd)))) zd))) (zcb rfl (zn (zk (i := 2) zfi.nd rfl (Or.inr rfl)) (zn (zk (i := 3) zfi.nd rfl (Or.inr rfl)) zbb))))
      (zh (zae (i := 4) zfi.nd rfl (Or.inl rfl) (zo zh6 (hr.mono (by decide)) T.zyu T.zqc.kp T.zwb (zc (za2 (zfw (own := [("turn", 13)]) rfl zfi.nd (zfk T.zle (zc (zo zu (hr.mono (by decide)) T.za0 T.zat.kp T.zan (zc (za 1) (zc zg zd))) zd)) (blkOk_by (N := z1w) (sc := defScope znb) (by decide +kernel)) (fun _ _ _ _ _ => (zk (i := 13) zfi.nd rfl (Or.inl rfl))) (fun _ _ _ _ _ => zb3) (fun _ _ _ _ _ => (zt (zc (zo zu (hr.mono (by decide)) T.za0 T.zat.kp T.zan (zc (za 1) (zc (za 2) zd))) (zc (zo zu (hr.mono (by decide)) T.za0 T.zat.kp T.zan (zc (za 1) (zc (za 3) zd))) zd)))))) zd)))
      (zh (zae (i := 5) zfi.nd rfl (Or.inl rfl) (zo zdr (hr.mono (by decide)) T.zpg T.zmg.kp T.zny (zc (za 2) (zc (za 3) (zc (za 4) zd)))))
      (zh (zae (i := 6) zfi.nd rfl (Or.inl rfl) (za2 (zmf T.zvn zav (hr.mono (by decide)) T.zuu T.zh8 (zc (za 2) (zc (za 3) (zc zg (zc zg (zc zg zd))))))))
      (zh (zcc (zpm (zll (zw (znr hr.units) (zo zar (hr.mono (by decide)) T.zld T.ziy.kp T.zku (zc (za 5) (zc zg zd))) (za 4) (nomark _)) (zkt (zw (znr hr.units) (zo zgo (hr.mono (by decide)) T.zx1 T.zuh.kp T.zti (zc (za 4) zd)) (zo zja (hr.mono (by decide)) T.zzs T.zrz.kp T.zy9 (zc (za 4) zd)) (nomark _)))))
      (zj (z8 zje))
      zaa)
      (zh (zae (i := 7) zfi.nd rfl (Or.inl rfl) (zem zd))
      (zh (zb9 PassesOwn.never rfl (zay (zo zgo (hr.mono (by decide)) T.zx1 T.zuh.kp T.zti (zc (za 4) zd))) (zk (i := 8) zfi.nd rfl (Or.inl rfl))
      (zh (zlh (i := 9) (j := 10) rfl zfi.nd rfl rfl (by decide) rfl rfl (zc (za2 (zfw (own := [("x", 14), ("y", 15)]) rfl zfi.nd (zay (za 8)) (blkOk_by (N := z1w) (sc := defScope znb) (by decide +kernel)) (fun _ _ _ _ _ => (zcb rfl (zn (zk (i := 14) zfi.nd rfl (Or.inl rfl)) (zn (zk (i := 15) zfi.nd rfl (Or.inl rfl)) zbb)))) (fun _ _ _ _ _ => zb3) (fun _ _ _ _ _ => (za 14)))) (zc (za2 (zfw (own := [("x", 14), ("y", 15)]) rfl zfi.nd (zay (za 8)) (blkOk_by (N := z1w) (sc := defScope znb) (by decide +kernel)) (fun _ _ _ _ _ => (zcb rfl (zn (zk (i := 14) zfi.nd rfl (Or.inl rfl)) (zn (zk (i := 15) zfi.nd rfl (Or.inl rfl)) zbb)))) (fun _ _ _ _ _ => zb3) (fun _ _ _ _ _ => (za 15)))) zd)) (by with_unfolding_all rfl))
      (zh (zc8 (zm9 PySem.F.plainAttrs_list PySem.F.slot_list_append PySem.F.type_list_append zd3 (za 7) (zc (zt (zc (zp zlj (zp zci (zm (zxv rfl) T.z8h zzg (zc (za 9) zd)) (zm (zyd rfl) T.z97 z3d (zc (za 9) zd))) zg) (zc (zp zlj (zp zci (zm (zxv rfl) T.z8h zzg (zc (za 10) zd)) (zm (zyd rfl) T.z97 z3d (zc (za 10) zd))) zg) (zc (zp zci (zp zci zg (z7 zlr T.zpw zkw (zc (zh2 (z15 hr.units) (zm zc9 T.zgy zdd (zc (za 8) zd)) zg (nomark _)) zd))) (z7 zlr T.zpw zkw (zc (zh2 (z15 hr.units) (zm zc9 T.zgy zdd (zc (za 8) zd)) zg (nomark _)) zd))) zd)))) zd)))
      (zj (zcc (zpm (zll (zw (znr hr.units) (zo zfd (hr.mono (by decide)) T.zxi T.zs3.kp T.zt4 (zc (za 8) zd)) (zqb sld (zax (ixd hr.units) (za 7) (zif zg)) ztb (zs4 zg)) (nomark _)) (zkt (zw (znr hr.units) (zo zds (hr.mono (by decide)) T.ztn T.zp8.kp T.zre (zc (zm zc9 T.zgy zdd (zc (za 8) zd)) (zc (zt (zc zg (zc zg zd))) zd))) (zax (ixd hr.units) (zax (ixd hr.units) (za 7) (zif zg)) zg) (nomark _)))))
      (zj (z8 zje))
      zaa)))))
      (zbk 7 (zh (zcc (zw (znr hr.units) (zo zcs (hr.mono (by decide)) T.zn0 T.zk0.kp T.zl7 (zc (za 6) (zc (za 5) (zc zg (zc (zt (zc zg (zc zg zd))) zd))))) (z7 zia T.zgr zel (zc (za2 (zm (zgx hr.units) T.zfv zd9 (zc (za 7) zd))) zd)) (nomark _))
      (zj (z8 zje))
      zaa)
      (zh (zlh (i := 11) (j := 12) rfl zfi.nd rfl rfl (by decide) rfl rfl (zc (zem zd) (zc (zem zd) zd)) (by with_unfolding_all rfl))
      (zh (zb9 PassesOwn.never rfl (zfk T.zle (zc zg zd)) (zk (i := 13) zfi.nd rfl (Or.inl rfl))
      (zh (zlh (i := 14) (j := 15) rfl zfi.nd rfl rfl (by decide) rfl rfl (zc (zp zi8 zg (zo zu (hr.mono (by decide)) T.za0 T.zat.kp T.zan (zc (za 1) (zc (zp zlj (za 2) zg) zd)))) (zc (zp zi8 zg (zo zu (hr.mono (by decide)) T.za0 T.zat.kp T.zan (zc (za 1) (zc (zp zlj (za 3) zg) zd)))) zd)) (by with_unfolding_all rfl))
      (zj (zcc (zw (zk5 (have h := DL.Room.u65 hr; h)) (zt (zc (za 14) (zc (za 15) (zc zg zd)))) (za 11) (by with_unfolding_all rfl))
      (zh (zc8 (zm9 PySem.F.plainAttrs_list PySem.F.slot_list_append PySem.F.type_list_append zd3 (za 11) (zc (zt (zc (za 14) (zc (za 15) (zc zg zd)))) zd)))
      (zj (z1q (i := 12) zfi.nd rfl (Or.inl rfl) (zzh (zw (z6y hr.units) (zo zu (hr.mono (by decide)) T.za0 T.zat.kp T.zan (zc (za 1) (zc zg zd))) zg (nomark _)) (zfr (zc (zt (zc (za 14) (zc (za 15) zd))) zd)) (zfr zd)) zxo)))
      zaa))))
      (zbk 12 (zbk 11 (zh (zae (i := 16) zfi.nd rfl (Or.inl rfl) (za2 (zmf T.zabg zb8 (hr.mono (by decide)) T.zaa5 T.zn2 (zc (za2 (zmf T.z0c za6 (hr.mono (by decide)) T.z0m T.zk2 (zc (za 11) zd))) (zc (za2 (zmf T.zvn zav (hr.mono (by decide)) T.zuu T.zh8 (zc (za 2) (zc (za 3) (zc zg (zc zg (zc zg zd))))))) (zc (zt (zc zg zd)) (zc (zt (zc zg (zc zg (zc zg (zc zg zd))))) zd)))))))
      (zh (zae (i := 17) zfi.nd rfl (Or.inl rfl) (zo zcs (hr.mono (by decide)) T.zn0 T.zk0.kp T.zl7 (zc (zce T.zjb T.ze5 (za 16)) (zc (zo zdr (hr.mono (by decide)) T.zpg T.zmg.kp T.zny (zc (za 2) (zc (za 3) (zc (za 12) zd)))) (zc zg (zc (zt (zc zg zd)) zd))))))
      (zh (zcc (zpm (zll (zw (znr hr.units) (zm zc9 T.zgy zdd (zc (za 17) zd)) (zm zc9 T.zgy zdd (zc (za 12) zd)) (nomark _)) (zll (zhd (zfe (zo znt (hr.mono (by decide)) T.z7f T.z3g.kp T.z2d (zc (za 16) (zc (za 17) (zc (zt (zc zg (zc zg (zc zg zd)))) zd)))))) (zkt (zhd (zfe (zo zeb (hr.mono (by decide)) T.zpx T.zk1.kp T.zoy (zc (za 1) zd))))))))
      (zj (z8 zje))
      zaa)
      (zj (z9k (C := CA.BadPicture) (oth := []) (i := 18) rfl rfl zfi.nd rfl rfl T.zjr T.zye (fun _ hC => nomatch hC) z9q (fun U1 pn1 xe1 tk1 po1 => (zh (zc8 (z02 zg0 (hr.mono (by decide)) T.zv2 T.zot.kp T.zu6 tk1 (zc (za 6) (zc (zp zci (zqb sld (za 5) ztb (zs4 (zif zg))) (zt (zc (zqb sld (zax (ixd hr.units) (za 5) (zif zg)) ztb (zs4 (zif zg))) zd))) (zc zg (zc (zt zd) zd))))))
      (zj (z8 zje))))
      (fun a1 oe1 cls1 d1 pn1 x1 hz1 hv1 xr1 hb1 => (zj (z8 (zh2 (zsi hr.units) (zaez T.zyx T.zgq hz1 hv1 xr1 hb1 (za 18)) (zp zdv (za 3) zg) (nomark _))))))))))))))))))))))))
theorem zad7 (T : Txt P K mg) (zav : FnD P w K mg base 2 T.za7 T.zb1 ["self", "width", "height", "error", "false", "lost"] zal) (za6 : FnD P w K mg base 3 T.za4 T.zbx ["self", "craters"] zaw) (zb8 : FnD P w K mg base 2 T.zb6 T.zdf ["self", "ground", "camera", "turns", "area"] zbq) (zeb : FnD P w K mg base 8 T.zbm T.zcy ["draw"] zbw) (zja : FnD P w K mg base 2 T.zeu T.zhp ["cells"] ze6) (zdr : FnD P w K mg base 1 T.zeg T.zf7 ["width", "height", "cells"] zcu) (zu : FnD P w K mg base 2 T.zc6 T.zeh ["draw", "many"] zr) (zh6 : FnD P w K mg base 1 T.zd4 T.zgm ["items"] zec) (zgo : FnD P w K mg base 2 T.zji T.zk9 ["cells"] zft) (zar : FnD P w K mg base 1 T.zbg T.zb7 ["rows", "level"] zau) (znt : FnD P w K mg base 7 T.zoo T.zr4 ["sky", "picture", "standing"] zj7) (zfd : FnD P w K mg base 1 T.zg3 T.ziv ["blob"] zeo) (zcs : FnD P w K mg base 3 T.zdg T.zez ["camera", "rows", "level", "steps"] zcd) (zg0 : FnX P w K mg base 3 T.zbf T.zfl ["camera", "rows", "level", "steps"] zdn) (zds : FnD P w K mg base 1 T.zfg T.zg2 ["many", "steps"] zdj) : FnD P w K mg base 9 T.z40 T.zaad ["script"] sp_law :=
  fn_d T.zaft zfi zadl (zaed T zav za6 zb8 zeb zja zdr zu zh6 zgo zar znt zfd zcs zg0 zds) zabm
end
section
variable {P : Program} {w : World} {K : PySem.W.Frag} {mg : Str → Option Value} {base : Heap}
theorem zaff (T : Txt P K mg) : FnD P w K mg base 9 T.z40 T.zaad ["script"] sp_law := by
  have zh6 : FnD P w K mg base 1 T.zd4 T.zgm ["items"] zec := zvw T
  have zdr : FnD P w K mg base 1 T.zeg T.zf7 ["width", "height", "cells"] zcu := z1i T
  have z9 : FnD P w K mg base 1 T.zcf T.zc0 ["thing", "low", "high"] zah := z17 T
  have zl1 : FnD P w K mg base 2 T.zho T.zj3 ["thing", "low", "high"] zhc := z16 T z9
  have za6 : FnD P w K mg base 3 T.za4 T.zbx ["self", "craters"] zaw := zqj T zl1
  have zb8 : FnD P w K mg base 2 T.zb6 T.zdf ["self", "ground", "camera", "turns", "area"] zbq := zvo T z9
  have zav : FnD P w K mg base 2 T.za7 T.zb1 ["self", "width", "height", "error", "false", "lost"] zal := zp6 T z9
  have zlu : FnD P w K mg base 1 T.zhq T.zjz ["cell"] zhb := z22 T
  have zgo : FnD P w K mg base 2 T.zji T.zk9 ["cells"] zft := z9r T zlu
  have zi0 : FnD P w K mg base 2 T.ze1 T.zhg ["camera", "rows"] zfb := zxx T z9
  have zgw : FnX P w K mg base 2 T.zbh T.zfo ["camera", "rows"] zdp := zuy T z9
  have zar : FnD P w K mg base 1 T.zbg T.zb7 ["rows", "level"] zau := zt6 T
  have zds : FnD P w K mg base 1 T.zfg T.zg2 ["many", "steps"] zdj := z47 T
  have zfd : FnD P w K mg base 1 T.zg3 T.ziv ["blob"] zeo := z6v T
  have zcs : FnD P w K mg base 3 T.zdg T.zez ["camera", "rows", "level", "steps"] zcd := zxc T zgo zar zi0 zfd zds
  have zg0 : FnX P w K mg base 3 T.zbf T.zfl ["camera", "rows", "level", "steps"] zdn := ztu T zgo zar zgw zfd zds
  have zh9 : FnD P w K mg base 1 T.zd8 T.zgj ["script", "index"] zef := zvy T
  have zu : FnD P w K mg base 2 T.zc6 T.zeh ["draw", "many"] zr := z1j T zh9
  have zi3 : FnD P w K mg base 1 T.zew T.zhr ["row", "other"] zff := zyw T
  have zja : FnD P w K mg base 2 T.zeu T.zhp ["cells"] ze6 := zyz T zi3
  have zqz : FnD P w K mg base 1 T.zk6 T.zog ["x", "y", "turn"] zkl := z6k T
  have zkb : FnD P w K mg base 2 T.zf4 T.zim ["self", "crater", "standing"] zgc := zzx T zqz
  have zbd : FnD P w K mg base 3 T.zcg T.zdb ["self", "standing"] zbi := zy7 T zkb
  have zl0 : FnD P w K mg base 1 T.zhj T.zj2 ["point", "place", "error"] zg9 := z1y T
  have zfq : FnD P w K mg base 4 T.zfm T.zhe ["sky", "picture", "standing"] zee := z11 T zbd zl0
  have zug : FnD P w K mg base 1 T.zn5 T.zrr ["comers", "last", "pairs"] zml := z96 T
  have zkh : FnD P w K mg base 2 T.zgg T.zil ["nexts", "one", "pairs"] zga := z07 T zug
  have zj4 : FnD P w K mg base 3 T.zhl T.zj0 ["nexts"] zf1 := z2x T zkh
  have zgz : FnD P w K mg base 1 T.zdc T.zfn ["nexts", "many"] zdq := zub T
  have zd5 : FnD P w K mg base 1 T.zbn T.zcz ["self", "x", "y", "more"] zbt := zow T
  have zfh : FnD P w K mg base 2 T.zch T.zdz ["self", "x", "y"] zcl := zrx T zd5
  have zd7 : FnD P w K mg base 4 T.zbo T.zcw ["self", "standing"] zbu := zpp T zfh zbd
  have zi5 : FnD P w K mg base 5 T.zex T.zhh ["sky", "picture", "standing"] ze9 := zyr T zd7 zfq zgz
  have zit : FnD P w K mg base 1 T.zf0 T.ziq ["nexts", "matching"] ze0 := zz5 T
  have znh : FnD P w K mg base 6 T.zi4 T.zlq ["sky", "picture", "standing"] zis := z5m T zj4 zfq zit zi5
  have znt : FnD P w K mg base 7 T.zoo T.zr4 ["sky", "picture", "standing"] zj7 := zac3 T znh
  have zj8 : FnD P w K mg base 3 T.zge T.zio ["draw", "x", "y"] zgf := z1e T zu
  have zhy : FnD P w K mg base 1 T.zd1 T.zgi ["points", "places", "error"] zed := zv5 T
  have zkd : FnD P w K mg base 4 T.zf6 T.zir ["sky", "picture", "standing"] zf8 := zz2 T zbd zhy
  have zeb : FnD P w K mg base 8 T.zbm T.zcy ["draw"] zbw := zpo T zav za6 zb8 zj8 zkd zdr zu znt zcs
  exact zad7 T zav za6 zb8 zeb zja zdr zu zh6 zgo zar znt zfd zcs zg0 zds
end
omit [CA] in
theorem zaen {l : PySem.W.OpenLaw} {w : World} {K : PySem.W.Frag} {h : Heap} {mg : Str → Option Value} {fa f0 f1 f2 f3 f4 f5 f6 f7 f8 f9 f10 f11 f12 f13 f14 f15 f16 f17 f18 f19 f20 f21 f22 f23 f24 f25 f26 f27 f28 f29 f30 f31 f32 f33 f34 f35 f36 f37 f38 f39 f40 c_BadPicture c_Ground c_Camera c_Sky : Addr} (X : K.In h) (G : h.Ns mainGlobals mg) (hfa : mg "law" = some (.ref fa))
    {fx_BadPicture cda_BadPicture cc_BadPicture : Addr} {ox_BadPicture kx_BadPicture dx_BadPicture px_BadPicture ctx_BadPicture ccl_BadPicture cl_BadPicture : Value} {odx_BadPicture anx_BadPicture cdd_BadPicture cld_BadPicture : Option Addr} {slx_BadPicture ccs_BadPicture csl_BadPicture : Array (Option Value)} {vs_BadPicture : Array Value} {file_BadPicture : Str} {tf_BadPicture : Tok}
    {od0 od1 od2 od3 od4 od5 od6 od7 od8 od9 od10 od11 od12 od13 od14 od15 od16 od17 od18 od19 od20 od21 od22 od23 od24 od25 od26 od27 od28 od29 od30 od31 od32 od33 od34 od35 od36 od37 od38 od39 od40 an0 an1 an2 an3 an4 an5 an6 an7 an8 an9 an10 an11 an12 an13 an14 an15 an16 an17 an18 an19 an20 an21 an22 an23 an24 an25 an26 an27 an28 an29 an30 an31 an32 an33 an34 an35 an36 an37 an38 an39 an40 : Option Addr} {sl0 sl1 sl2 sl3 sl4 sl5 sl6 sl7 sl8 sl9 sl10 sl11 sl12 sl13 sl14 sl15 sl16 sl17 sl18 sl19 sl20 sl21 sl22 sl23 sl24 sl25 sl26 sl27 sl28 sl29 sl30 sl31 sl32 sl33 sl34 sl35 sl36 sl37 sl38 sl39 sl40 : Array (Option Value)} {oc0 oc1 oc2 oc3 oc4 oc5 oc6 oc7 oc8 oc9 oc10 oc11 oc12 oc13 oc14 oc15 oc16 oc17 oc18 oc19 oc20 oc21 oc22 oc23 oc24 oc25 oc26 oc27 oc28 oc29 oc30 oc31 oc32 oc33 oc34 oc35 oc36 oc37 oc38 oc39 oc40 kV0 kV1 kV2 kV3 kV4 kV5 kV6 kV7 kV8 kV9 kV10 kV11 kV12 kV13 kV14 kV15 kV16 kV17 kV18 kV19 kV20 kV21 kV22 kV23 kV24 kV25 kV26 kV27 kV28 kV29 kV30 kV31 kV32 kV33 kV34 kV35 kV36 kV37 kV38 kV39 kV40 dc0 dc1 dc2 dc3 dc4 dc5 dc6 dc7 dc8 dc9 dc10 dc11 dc12 dc13 dc14 dc15 dc16 dc17 dc18 dc19 dc20 dc21 dc22 dc23 dc24 dc25 dc26 dc27 dc28 dc29 dc30 dc31 dc32 dc33 dc34 dc35 dc36 dc37 dc38 dc39 dc40 pm0 pm1 pm2 pm3 pm4 pm5 pm6 pm7 pm8 pm9 pm10 pm11 pm12 pm13 pm14 pm15 pm16 pm17 pm18 pm19 pm20 pm21 pm22 pm23 pm24 pm25 pm26 pm27 pm28 pm29 pm30 pm31 pm32 pm33 pm34 pm35 pm36 pm37 pm38 pm39 pm40 cd0 cd1 cd2 cd3 cd4 cd5 cd6 cd7 cd8 cd9 cd10 cd11 cd12 cd13 cd14 cd15 cd16 cd17 cd18 cd19 cd20 cd21 cd22 cd23 cd24 cd25 cd26 cd27 cd28 cd29 cd30 cd31 cd32 cd33 cd34 cd35 cd36 cd37 cd38 cd39 cd40 ct0 ct1 ct2 ct3 ct4 ct5 ct6 ct7 ct8 ct9 ct10 ct11 ct12 ct13 ct14 ct15 ct16 ct17 ct18 ct19 ct20 ct21 ct22 ct23 ct24 ct25 ct26 ct27 ct28 ct29 ct30 ct31 ct32 ct33 ct34 ct35 ct36 ct37 ct38 ct39 ct40 : Value}
    (e_BadPicture : PySem.W.nsIn K mainGlobals "BadPicture" = some (some (.ref c_BadPicture)))
    (e_Ground : PySem.W.nsIn K mainGlobals "Ground" = some (some (.ref c_Ground)))
    (e_Camera : PySem.W.nsIn K mainGlobals "Camera" = some (some (.ref c_Camera)))
    (e_Sky : PySem.W.nsIn K mainGlobals "Sky" = some (some (.ref c_Sky)))
    (a0 : PySem.W.nsIn K mainGlobals "_law_unlike" = some (some (.ref f0)))
    (l0 : K.lookup f0 = some ⟨oc0, od0, .func (PySem.W.fnOf "_law_unlike" "_law_unlike" (defArgs zbs) (defBody zbs) (defScope zbs) .none kV0 dc0 pm0 an0 cd0 ct0), sl0⟩)
    (c0 : PySem.W.codeIn K cd0 "_law_unlike" = true)
    (k0 : PySem.W.keepIn K (.ref f0) = true)
    (a1 : PySem.W.nsIn K mainGlobals "_law_rows" = some (some (.ref f1)))
    (l1 : K.lookup f1 = some ⟨oc1, od1, .func (PySem.W.fnOf "_law_rows" "_law_rows" (defArgs zck) (defBody zck) (defScope zck) .none kV1 dc1 pm1 an1 cd1 ct1), sl1⟩)
    (c1 : PySem.W.codeIn K cd1 "_law_rows" = true)
    (k1 : PySem.W.keepIn K (.ref f1) = true)
    (a2 : PySem.W.nsIn K mainGlobals "is_whole" = some (some (.ref f2)))
    (l2 : K.lookup f2 = some ⟨oc2, od2, .func (PySem.W.fnOf "is_whole" "is_whole" (defArgs zdy) (defBody zdy) (defScope zdy) .none kV2 dc2 pm2 an2 cd2 ct2), sl2⟩)
    (c2 : PySem.W.codeIn K cd2 "is_whole" = true)
    (k2 : PySem.W.keepIn K (.ref f2) = true)
    (a3 : PySem.W.nsIn K mainGlobals "is_point" = some (some (.ref f3)))
    (l3 : K.lookup f3 = some ⟨oc3, od3, .func (PySem.W.fnOf "is_point" "is_point" (defArgs zdw) (defBody zdw) (defScope zdw) .none kV3 dc3 pm3 an3 cd3 ct3), sl3⟩)
    (c3 : PySem.W.codeIn K cd3 "is_point" = true)
    (k3 : PySem.W.keepIn K (.ref f3) = true)
    (a4 : PySem.W.findIn K (.ref c_Ground) "__init__" = some (some (.ref f4)))
    (i4 : PySem.W.isFn K (.ref f4) = true)
    (l4 : K.lookup f4 = some ⟨oc4, od4, .func (PySem.W.fnOf "__init__" "Ground.__init__" (defArgs zai) (defBody zai) (defScope zai) .none kV4 dc4 pm4 an4 cd4 ct4), sl4⟩)
    (c4 : PySem.W.codeIn K cd4 "Ground.__init__" = true)
    (k4 : PySem.W.keepIn K (.ref f4) = true)
    (a5 : PySem.W.findIn K (.ref c_Sky) "__init__" = some (some (.ref f5)))
    (i5 : PySem.W.isFn K (.ref f5) = true)
    (l5 : K.lookup f5 = some ⟨oc5, od5, .func (PySem.W.fnOf "__init__" "Sky.__init__" (defArgs zap) (defBody zap) (defScope zap) .none kV5 dc5 pm5 an5 cd5 ct5), sl5⟩)
    (c5 : PySem.W.codeIn K cd5 "Sky.__init__" = true)
    (k5 : PySem.W.keepIn K (.ref f5) = true)
    (a6 : PySem.W.findIn K (.ref c_Camera) "__init__" = some (some (.ref f6)))
    (i6 : PySem.W.isFn K (.ref f6) = true)
    (l6 : K.lookup f6 = some ⟨oc6, od6, .func (PySem.W.fnOf "__init__" "Camera.__init__" (defArgs zaj) (defBody zaj) (defScope zaj) .none kV6 dc6 pm6 an6 cd6 ct6), sl6⟩)
    (c6 : PySem.W.codeIn K cd6 "Camera.__init__" = true)
    (k6 : PySem.W.keepIn K (.ref f6) = true)
    (a7 : PySem.W.nsIn K mainGlobals "nexts_to" = some (some (.ref f7)))
    (l7 : K.lookup f7 = some ⟨oc7, od7, .func (PySem.W.fnOf "nexts_to" "nexts_to" (defArgs zdl) (defBody zdl) (defScope zdl) .none kV7 dc7 pm7 an7 cd7 ct7), sl7⟩)
    (c7 : PySem.W.codeIn K cd7 "nexts_to" = true)
    (k7 : PySem.W.keepIn K (.ref f7) = true)
    (a8 : PySem.W.nsIn K mainGlobals "blobs" = some (some (.ref f8)))
    (l8 : K.lookup f8 = some ⟨oc8, od8, .func (PySem.W.fnOf "blobs" "blobs" (defArgs zig) (defBody zig) (defScope zig) .none kV8 dc8 pm8 an8 cd8 ct8), sl8⟩)
    (c8 : PySem.W.codeIn K cd8 "blobs" = true)
    (k8 : PySem.W.keepIn K (.ref f8) = true)
    (a9 : PySem.W.nsIn K mainGlobals "check_rows" = some (some (.ref f9)))
    (l9 : K.lookup f9 = some ⟨oc9, od9, .func (PySem.W.fnOf "check_rows" "check_rows" (defArgs zb2) (defBody zb2) (defScope zb2) .none kV9 dc9 pm9 an9 cd9 ct9), sl9⟩)
    (c9 : PySem.W.codeIn K cd9 "check_rows" = true)
    (k9 : PySem.W.keepIn K (.ref f9) = true)
    (a10 : PySem.W.nsIn K mainGlobals "check_rows" = some (some (.ref f10)))
    (l10 : K.lookup f10 = some ⟨oc10, od10, .func (PySem.W.fnOf "check_rows" "check_rows" (defArgs zab) (defBody zab) (defScope zab) .none kV10 dc10 pm10 an10 cd10 ct10), sl10⟩)
    (c10 : PySem.W.codeIn K cd10 "check_rows" = true)
    (k10 : PySem.W.keepIn K (.ref f10) = true)
    (a11 : PySem.W.nsIn K mainGlobals "bright_cells" = some (some (.ref f11)))
    (l11 : K.lookup f11 = some ⟨oc11, od11, .func (PySem.W.fnOf "bright_cells" "bright_cells" (defArgs za5) (defBody za5) (defScope za5) .none kV11 dc11 pm11 an11 cd11 ct11), sl11⟩)
    (c11 : PySem.W.codeIn K cd11 "bright_cells" = true)
    (k11 : PySem.W.keepIn K (.ref f11) = true)
    (a12 : PySem.W.nsIn K mainGlobals "size_by" = some (some (.ref f12)))
    (l12 : K.lookup f12 = some ⟨oc12, od12, .func (PySem.W.fnOf "size_by" "size_by" (defArgs zen) (defBody zen) (defScope zen) .none kV12 dc12 pm12 an12 cd12 ct12), sl12⟩)
    (c12 : PySem.W.codeIn K cd12 "size_by" = true)
    (k12 : PySem.W.keepIn K (.ref f12) = true)
    (a13 : PySem.W.nsIn K mainGlobals "middle" = some (some (.ref f13)))
    (l13 : K.lookup f13 = some ⟨oc13, od13, .func (PySem.W.fnOf "middle" "middle" (defArgs zfu) (defBody zfu) (defScope zfu) .none kV13 dc13 pm13 an13 cd13 ct13), sl13⟩)
    (c13 : PySem.W.codeIn K cd13 "middle" = true)
    (k13 : PySem.W.keepIn K (.ref f13) = true)
    (a14 : PySem.W.nsIn K mainGlobals "picture_of" = some (some (.ref f14)))
    (l14 : K.lookup f14 = some ⟨oc14, od14, .func (PySem.W.fnOf "picture_of" "picture_of" (defArgs zcj) (defBody zcj) (defScope zcj) .none kV14 dc14 pm14 an14 cd14 ct14), sl14⟩)
    (c14 : PySem.W.codeIn K cd14 "picture_of" = true)
    (k14 : PySem.W.keepIn K (.ref f14) = true)
    (a15 : PySem.W.nsIn K mainGlobals "picture_of" = some (some (.ref f15)))
    (l15 : K.lookup f15 = some ⟨oc15, od15, .func (PySem.W.fnOf "picture_of" "picture_of" (defArgs zaf) (defBody zaf) (defScope zaf) .none kV15 dc15 pm15 an15 cd15 ct15), sl15⟩)
    (c15 : PySem.W.codeIn K cd15 "picture_of" = true)
    (k15 : PySem.W.keepIn K (.ref f15) = true)
    (a16 : PySem.W.nsIn K mainGlobals "_law_number" = some (some (.ref f16)))
    (l16 : K.lookup f16 = some ⟨oc16, od16, .func (PySem.W.fnOf "_law_number" "_law_number" (defArgs zbr) (defBody zbr) (defScope zbr) .none kV16 dc16 pm16 an16 cd16 ct16), sl16⟩)
    (c16 : PySem.W.codeIn K cd16 "_law_number" = true)
    (k16 : PySem.W.keepIn K (.ref f16) = true)
    (a17 : PySem.W.nsIn K mainGlobals "_law_take" = some (some (.ref f17)))
    (l17 : K.lookup f17 = some ⟨oc17, od17, .func (PySem.W.fnOf "_law_take" "_law_take" (defArgs zc2) (defBody zc2) (defScope zc2) .none kV17 dc17 pm17 an17 cd17 ct17), sl17⟩)
    (c17 : PySem.W.codeIn K cd17 "_law_take" = true)
    (k17 : PySem.W.keepIn K (.ref f17) = true)
    (a18 : PySem.W.nsIn K mainGlobals "_law_touch" = some (some (.ref f18)))
    (l18 : K.lookup f18 = some ⟨oc18, od18, .func (PySem.W.fnOf "_law_touch" "_law_touch" (defArgs zby) (defBody zby) (defScope zby) .none kV18 dc18 pm18 an18 cd18 ct18), sl18⟩)
    (c18 : PySem.W.codeIn K cd18 "_law_touch" = true)
    (k18 : PySem.W.keepIn K (.ref f18) = true)
    (a19 : PySem.W.nsIn K mainGlobals "_law_group" = some (some (.ref f19)))
    (l19 : K.lookup f19 = some ⟨oc19, od19, .func (PySem.W.fnOf "_law_group" "_law_group" (defArgs za9) (defBody za9) (defScope za9) .none kV19 dc19 pm19 an19 cd19 ct19), sl19⟩)
    (c19 : PySem.W.codeIn K cd19 "_law_group" = true)
    (k19 : PySem.W.keepIn K (.ref f19) = true)
    (a20 : PySem.W.nsIn K mainGlobals "turned" = some (some (.ref f20)))
    (l20 : K.lookup f20 = some ⟨oc20, od20, .func (PySem.W.fnOf "turned" "turned" (defArgs zg4) (defBody zg4) (defScope zg4) .none kV20 dc20 pm20 an20 cd20 ct20), sl20⟩)
    (c20 : PySem.W.codeIn K cd20 "turned" = true)
    (k20 : PySem.W.keepIn K (.ref f20) = true)
    (a21 : PySem.W.findIn K (.ref c_Sky) "place" = some (some (.ref f21)))
    (i21 : PySem.W.isFn K (.ref f21) = true)
    (l21 : K.lookup f21 = some ⟨oc21, od21, .func (PySem.W.fnOf "place" "Sky.place" (defArgs zc3) (defBody zc3) (defScope zc3) .none kV21 dc21 pm21 an21 cd21 ct21), sl21⟩)
    (c21 : PySem.W.codeIn K cd21 "Sky.place" = true)
    (k21 : PySem.W.keepIn K (.ref f21) = true)
    (a22 : PySem.W.findIn K (.ref c_Sky) "places" = some (some (.ref f22)))
    (i22 : PySem.W.isFn K (.ref f22) = true)
    (l22 : K.lookup f22 = some ⟨oc22, od22, .func (PySem.W.fnOf "places" "Sky.places" (defArgs zbz) (defBody zbz) (defScope zbz) .none kV22 dc22 pm22 an22 cd22 ct22), sl22⟩)
    (c22 : PySem.W.codeIn K cd22 "Sky.places" = true)
    (k22 : PySem.W.keepIn K (.ref f22) = true)
    (a23 : PySem.W.nsIn K mainGlobals "are_near" = some (some (.ref f23)))
    (l23 : K.lookup f23 = some ⟨oc23, od23, .func (PySem.W.fnOf "are_near" "are_near" (defArgs zdx) (defBody zdx) (defScope zdx) .none kV23 dc23 pm23 an23 cd23 ct23), sl23⟩)
    (c23 : PySem.W.codeIn K cd23 "are_near" = true)
    (k23 : PySem.W.keepIn K (.ref f23) = true)
    (a24 : PySem.W.nsIn K mainGlobals "nexts_of" = some (some (.ref f24)))
    (l24 : K.lookup f24 = some ⟨oc24, od24, .func (PySem.W.fnOf "nexts_of" "nexts_of" (defArgs zdh) (defBody zdh) (defScope zdh) .none kV24 dc24 pm24 an24 cd24 ct24), sl24⟩)
    (c24 : PySem.W.codeIn K cd24 "nexts_of" = true)
    (k24 : PySem.W.keepIn K (.ref f24) = true)
    (a25 : PySem.W.nsIn K mainGlobals "along" = some (some (.ref f25)))
    (l25 : K.lookup f25 = some ⟨oc25, od25, .func (PySem.W.fnOf "along" "along" (defArgs zii) (defBody zii) (defScope zii) .none kV25 dc25 pm25 an25 cd25 ct25), sl25⟩)
    (c25 : PySem.W.codeIn K cd25 "along" = true)
    (k25 : PySem.W.keepIn K (.ref f25) = true)
    (a26 : PySem.W.nsIn K mainGlobals "augmented" = some (some (.ref f26)))
    (l26 : K.lookup f26 = some ⟨oc26, od26, .func (PySem.W.fnOf "augmented" "augmented" (defArgs zc4) (defBody zc4) (defScope zc4) .none kV26 dc26 pm26 an26 cd26 ct26), sl26⟩)
    (c26 : PySem.W.codeIn K cd26 "augmented" = true)
    (k26 : PySem.W.keepIn K (.ref f26) = true)
    (a27 : PySem.W.nsIn K mainGlobals "greatest" = some (some (.ref f27)))
    (l27 : K.lookup f27 = some ⟨oc27, od27, .func (PySem.W.fnOf "greatest" "greatest" (defArgs zdi) (defBody zdi) (defScope zdi) .none kV27 dc27 pm27 an27 cd27 ct27), sl27⟩)
    (c27 : PySem.W.codeIn K cd27 "greatest" = true)
    (k27 : PySem.W.keepIn K (.ref f27) = true)
    (a28 : PySem.W.nsIn K mainGlobals "turned_round" = some (some (.ref f28)))
    (l28 : K.lookup f28 = some ⟨oc28, od28, .func (PySem.W.fnOf "turned_round" "turned_round" (defArgs za8) (defBody za8) (defScope za8) .none kV28 dc28 pm28 an28 cd28 ct28), sl28⟩)
    (c28 : PySem.W.codeIn K cd28 "turned_round" = true)
    (k28 : PySem.W.keepIn K (.ref f28) = true)
    (a29 : PySem.W.findIn K (.ref c_Camera) "is_within" = some (some (.ref f29)))
    (i29 : PySem.W.isFn K (.ref f29) = true)
    (l29 : K.lookup f29 = some ⟨oc29, od29, .func (PySem.W.fnOf "is_within" "Camera.is_within" (defArgs zad) (defBody zad) (defScope zad) .none kV29 dc29 pm29 an29 cd29 ct29), sl29⟩)
    (c29 : PySem.W.codeIn K cd29 "Camera.is_within" = true)
    (k29 : PySem.W.keepIn K (.ref f29) = true)
    (a30 : PySem.W.findIn K (.ref c_Camera) "is_sure" = some (some (.ref f30)))
    (i30 : PySem.W.isFn K (.ref f30) = true)
    (l30 : K.lookup f30 = some ⟨oc30, od30, .func (PySem.W.fnOf "is_sure" "Camera.is_sure" (defArgs zas) (defBody zas) (defScope zas) .none kV30 dc30 pm30 an30 cd30 ct30), sl30⟩)
    (c30 : PySem.W.codeIn K cd30 "Camera.is_sure" = true)
    (k30 : PySem.W.keepIn K (.ref f30) = true)
    (a31 : PySem.W.findIn K (.ref c_Sky) "sure_craters" = some (some (.ref f31)))
    (i31 : PySem.W.isFn K (.ref f31) = true)
    (l31 : K.lookup f31 = some ⟨oc31, od31, .func (PySem.W.fnOf "sure_craters" "Sky.sure_craters" (defArgs z6) (defBody z6) (defScope z6) .none kV31 dc31 pm31 an31 cd31 ct31), sl31⟩)
    (c31 : PySem.W.codeIn K cd31 "Sky.sure_craters" = true)
    (k31 : PySem.W.keepIn K (.ref f31) = true)
    (a32 : PySem.W.nsIn K mainGlobals "sure_nexts" = some (some (.ref f32)))
    (l32 : K.lookup f32 = some ⟨oc32, od32, .func (PySem.W.fnOf "sure_nexts" "sure_nexts" (defArgs zb0) (defBody zb0) (defScope zb0) .none kV32 dc32 pm32 an32 cd32 ct32), sl32⟩)
    (c32 : PySem.W.codeIn K cd32 "sure_nexts" = true)
    (k32 : PySem.W.keepIn K (.ref f32) = true)
    (a33 : PySem.W.nsIn K mainGlobals "short_lot" = some (some (.ref f33)))
    (l33 : K.lookup f33 = some ⟨oc33, od33, .func (PySem.W.fnOf "short_lot" "short_lot" (defArgs zca) (defBody zca) (defScope zca) .none kV33 dc33 pm33 an33 cd33 ct33), sl33⟩)
    (c33 : PySem.W.codeIn K cd33 "short_lot" = true)
    (k33 : PySem.W.keepIn K (.ref f33) = true)
    (a34 : PySem.W.nsIn K mainGlobals "against" = some (some (.ref f34)))
    (l34 : K.lookup f34 = some ⟨oc34, od34, .func (PySem.W.fnOf "against" "against" (defArgs zes) (defBody zes) (defScope zes) .none kV34 dc34 pm34 an34 cd34 ct34), sl34⟩)
    (c34 : PySem.W.codeIn K cd34 "against" = true)
    (k34 : PySem.W.keepIn K (.ref f34) = true)
    (a35 : PySem.W.nsIn K mainGlobals "fits" = some (some (.ref f35)))
    (l35 : K.lookup f35 = some ⟨oc35, od35, .func (PySem.W.fnOf "fits" "fits" (defArgs zm6) (defBody zm6) (defScope zm6) .none kV35 dc35 pm35 an35 cd35 ct35), sl35⟩)
    (c35 : PySem.W.codeIn K cd35 "fits" = true)
    (k35 : PySem.W.keepIn K (.ref f35) = true)
    (a36 : PySem.W.nsIn K mainGlobals "_law_blob" = some (some (.ref f36)))
    (l36 : K.lookup f36 = some ⟨oc36, od36, .func (PySem.W.fnOf "_law_blob" "_law_blob" (defArgs zcm) (defBody zcm) (defScope zcm) .none kV36 dc36 pm36 an36 cd36 ct36), sl36⟩)
    (c36 : PySem.W.codeIn K cd36 "_law_blob" = true)
    (k36 : PySem.W.keepIn K (.ref f36) = true)
    (a37 : PySem.W.nsIn K mainGlobals "_law_shares" = some (some (.ref f37)))
    (l37 : K.lookup f37 = some ⟨oc37, od37, .func (PySem.W.fnOf "_law_shares" "_law_shares" (defArgs zbj) (defBody zbj) (defScope zbj) .none kV37 dc37 pm37 an37 cd37 ct37), sl37⟩)
    (c37 : PySem.W.codeIn K cd37 "_law_shares" = true)
    (k37 : PySem.W.keepIn K (.ref f37) = true)
    (a38 : PySem.W.nsIn K mainGlobals "_law_fits" = some (some (.ref f38)))
    (l38 : K.lookup f38 = some ⟨oc38, od38, .func (PySem.W.fnOf "_law_fits" "_law_fits" (defArgs zcn) (defBody zcn) (defScope zcn) .none kV38 dc38 pm38 an38 cd38 ct38), sl38⟩)
    (c38 : PySem.W.codeIn K cd38 "_law_fits" = true)
    (k38 : PySem.W.keepIn K (.ref f38) = true)
    (a39 : PySem.W.nsIn K mainGlobals "_law_blobs_right" = some (some (.ref f39)))
    (l39 : K.lookup f39 = some ⟨oc39, od39, .func (PySem.W.fnOf "_law_blobs_right" "_law_blobs_right" (defArgs zac) (defBody zac) (defScope zac) .none kV39 dc39 pm39 an39 cd39 ct39), sl39⟩)
    (c39 : PySem.W.codeIn K cd39 "_law_blobs_right" = true)
    (k39 : PySem.W.keepIn K (.ref f39) = true)
    (a40 : PySem.W.nsIn K mainGlobals "law" = some (some (.ref f40)))
    (l40 : K.lookup f40 = some ⟨oc40, od40, .func (PySem.W.fnOf "law" "law" (defArgs znb) (defBody znb) (defScope znb) .none kV40 dc40 pm40 an40 cd40 ct40), sl40⟩)
    (c40 : PySem.W.codeIn K cd40 "law" = true)
    (k40 : PySem.W.keepIn K (.ref f40) = true)
    (pg_Ground : PySem.W.plainGet K c_Ground Str.empty = true)
    (hd_Ground : PySem.W.hasDictIn K c_Ground = true)
    (po_Ground : PySem.W.plainOver K c_Ground = true)
    (sa_Ground : PySem.W.findIn K (.ref c_Ground) "__setattr__" = some (some (.builtin "object.__setattr__")))
    (ow_Ground : PySem.W.findIn K (.ref c_Ground) "__class__" = some (some (.builtin "object.__class__")))
    (ob_Ground : PySem.W.mroIn K c_Ground (.type "object") = some true)
    (mks_Ground : PySem.W.makesIn K c_Ground = true)
    (kp_Ground : PySem.W.keepIn K (.ref c_Ground) = true)
    (pg_Camera : PySem.W.plainGet K c_Camera Str.empty = true)
    (hd_Camera : PySem.W.hasDictIn K c_Camera = true)
    (po_Camera : PySem.W.plainOver K c_Camera = true)
    (sa_Camera : PySem.W.findIn K (.ref c_Camera) "__setattr__" = some (some (.builtin "object.__setattr__")))
    (mks_Camera : PySem.W.makesIn K c_Camera = true)
    (kp_Camera : PySem.W.keepIn K (.ref c_Camera) = true)
    (pg_Sky : PySem.W.plainGet K c_Sky Str.empty = true)
    (hd_Sky : PySem.W.hasDictIn K c_Sky = true)
    (po_Sky : PySem.W.plainOver K c_Sky = true)
    (sa_Sky : PySem.W.findIn K (.ref c_Sky) "__setattr__" = some (some (.builtin "object.__setattr__")))
    (mks_Sky : PySem.W.makesIn K c_Sky = true)
    (kp_Sky : PySem.W.keepIn K (.ref c_Sky) = true)
    (gs_ : PySem.W.specialIn K (.builtin "object.__class__") "__get__" = some (some (.builtin "getset_descriptor.__get__")))
    (tk_ : PySem.W.takesIn K (.builtin "object.__class__") = some true)
    (n_Ground_craters : PySem.W.findIn K (.ref c_Ground) "craters" = some none)
    (n_Sky_ground : PySem.W.findIn K (.ref c_Sky) "ground" = some none)
    (n_Sky_camera : PySem.W.findIn K (.ref c_Sky) "camera" = some none)
    (n_Sky_turns : PySem.W.findIn K (.ref c_Sky) "turns" = some none)
    (n_Sky_area : PySem.W.findIn K (.ref c_Sky) "area" = some none)
    (n_Camera_width : PySem.W.findIn K (.ref c_Camera) "width" = some none)
    (n_Camera_height : PySem.W.findIn K (.ref c_Camera) "height" = some none)
    (n_Camera_error : PySem.W.findIn K (.ref c_Camera) "error" = some none)
    (n_Camera_false : PySem.W.findIn K (.ref c_Camera) "false" = some none)
    (n_Camera_lost : PySem.W.findIn K (.ref c_Camera) "lost" = some none)
    (xd_BadPicture : PySem.W.hasDictIn K c_BadPicture = true)
    (xl_BadPicture : PySem.W.subIn K (.ref c_BadPicture) (.type "BaseException") = some true)
    (xn_BadPicture : PySem.W.typeIn K (.ref c_BadPicture) = some (.type "type"))
    (yga_BadPicture : PySem.W.findIn K (.ref c_BadPicture) "__getattribute__" = some (some (.builtin "BaseException.__getattribute__")))
    (ygg_BadPicture : PySem.W.findIn K (.ref c_BadPicture) "__getattr__" = some none)
    (ys_BadPicture : PySem.W.subIn K (.ref c_BadPicture) (.ref c_BadPicture) = some true)
    (zgq : PySem.W.findIn K (.ref c_BadPicture) "number" = some none)
    (xkx_BadPicture : PySem.W.excInitIn K c_BadPicture PySem.ESX.exTail "Exception.__new__" = true)
    (xkxo_BadPicture : PySem.W.excOver K c_BadPicture PySem.ESX.exTail = true)
    (xc_BadPicture : PySem.W.takerIn K c_BadPicture "number" = some none)
    (xe_BadPicture : PySem.W.findIn K (.ref c_BadPicture) "__setattr__" = some (some (.builtin "object.__setattr__")))
    (xg_BadPicture : PySem.W.findIn K (.ref c_BadPicture) "__init__" = some (some (.ref fx_BadPicture)))
    (xh_BadPicture : PySem.W.isFn K (.ref fx_BadPicture) = true)
    (xk_BadPicture : PySem.W.keepIn K (.ref c_BadPicture) = true)
    (xm_BadPicture : PySem.W.subIn K (.ref c_BadPicture) (.type "Exception") = some true)
    (xo_BadPicture : PySem.W.mroIn K c_BadPicture (.ref c_BadPicture) = some true)
    (xks_BadPicture : PySem.W.ks_superIn K c_BadPicture c_BadPicture "__init__" = some (some (.builtin "Exception.__init__")))
    (xlk_BadPicture : K.lookup fx_BadPicture = some ⟨ox_BadPicture, odx_BadPicture, .func (PySem.W.ksFn "__init__" "BadPicture.__init__" (defArgs (inClass (top 6) 0)) (defBody (inClass (top 6) 0)) (defScope (inClass (top 6) 0)) .none kx_BadPicture dx_BadPicture px_BadPicture anx_BadPicture (.ref cda_BadPicture) ctx_BadPicture cc_BadPicture), slx_BadPicture⟩)
    (xcd_BadPicture : PySem.W.codeIn K (.ref cda_BadPicture) "BadPicture.__init__" = true)
    (xcr_BadPicture : K.lookup cda_BadPicture = some ⟨ccl_BadPicture, cdd_BadPicture, .fields vs_BadPicture, ccs_BadPicture⟩)
    (rfl_v_BadPicture : vs_BadPicture[2]? = some (.str file_BadPicture tf_BadPicture))
    (dec_f_BadPicture : ((l.prog.main.file : Str) == file_BadPicture) = true)
    (xcc_BadPicture : K.lookup cc_BadPicture = some ⟨cl_BadPicture, cld_BadPicture, .cell (some (.ref c_BadPicture)), csl_BadPicture⟩)
    (xq_ : PySem.W.nsIn K cStatics "thirdparty.any" = some none)
    (xz_super : PySem.W.nsIn K mainGlobals "super" = some none)
    (dec_top : (l.prog.main.scope.names.lookup ("super" : Str)).isSome = false)
    (z_sorted : PySem.W.nsIn K mainGlobals "sorted" = some none)
    (z_range : PySem.W.nsIn K mainGlobals "range" = some none)
    (z_tuple : PySem.W.nsIn K mainGlobals "tuple" = some none)
    (z_bool : PySem.W.nsIn K mainGlobals "bool" = some none)
    (z_isinstance : PySem.W.nsIn K mainGlobals "isinstance" = some none)
    (z_int : PySem.W.nsIn K mainGlobals "int" = some none)
    (z_len : PySem.W.nsIn K mainGlobals "len" = some none)
    (z_enumerate : PySem.W.nsIn K mainGlobals "enumerate" = some none)
    (z_all : PySem.W.nsIn K mainGlobals "all" = some none)
    (z_zip : PySem.W.nsIn K mainGlobals "zip" = some none)
    (z_min : PySem.W.nsIn K mainGlobals "min" = some none)
    (z_max : PySem.W.nsIn K mainGlobals "max" = some none)
    (z_abs : PySem.W.nsIn K mainGlobals "abs" = some none)
    (z_any : PySem.W.nsIn K mainGlobals "any" = some none)
    (z_list : PySem.W.nsIn K mainGlobals "list" = some none)
    (z_dict : PySem.W.nsIn K mainGlobals "dict" = some none)
    (q_MOST_SIZE : ∃ t, PySem.W.nsIn K mainGlobals "MOST_SIZE" = some (some (.int 99 t)))
    (q_MOST_PLACE : ∃ t, PySem.W.nsIn K mainGlobals "MOST_PLACE" = some (some (.int 1000000 t)))
    (q_MOST_COUNT : ∃ t, PySem.W.nsIn K mainGlobals "MOST_COUNT" = some (some (.int 100 t)))
    (q_MOST_STANDINGS : ∃ t, PySem.W.nsIn K mainGlobals "MOST_STANDINGS" = some (some (.int 40000 t)))
    (q_MOST_SIDE : ∃ t, PySem.W.nsIn K mainGlobals "MOST_SIDE" = some (some (.int 1000 t)))
    : ∃ fd : FuncData, (∀ (s : Shared) (v : Value), BindsTo s fd ⟨[v], []⟩ [("script", v)]) ∧ ∀ base : Heap, K.In base → base.Ns mainGlobals mg → FnD l.prog w K mg base 9 fa fd ["script"] DL.z6s := by
  have e := hfa.symm.trans (PySem.W.mg_of X G a40)
  cases e
  letI : CA := ⟨0, 0, 0, 0, c_BadPicture, 0, c_Ground, c_Camera, c_Sky, 0, 0, 0, 0, 0, 0, 0, 0, 0, 0, 0, 0, 0, 0, 0, 0, 0, 0, 0⟩
  have F0 := fun_mk (st := zbs) l0 c0 k0
  have F1 := fun_mk (st := zck) l1 c1 k1
  have F2 := fun_mk (st := zdy) l2 c2 k2
  have F3 := fun_mk (st := zdw) l3 c3 k3
  have F4 := fun_mk (st := zai) l4 c4 k4
  have F5 := fun_mk (st := zap) l5 c5 k5
  have F6 := fun_mk (st := zaj) l6 c6 k6
  have F7 := fun_mk (st := zdl) l7 c7 k7
  have F8 := fun_mk (st := zig) l8 c8 k8
  have F9 := fun_mk (st := zb2) l9 c9 k9
  have F10 := fun_mk (st := zab) l10 c10 k10
  have F11 := fun_mk (st := za5) l11 c11 k11
  have F12 := fun_mk (st := zen) l12 c12 k12
  have F13 := fun_mk (st := zfu) l13 c13 k13
  have F14 := fun_mk (st := zcj) l14 c14 k14
  have F15 := fun_mk (st := zaf) l15 c15 k15
  have F16 := fun_mk (st := zbr) l16 c16 k16
  have F17 := fun_mk (st := zc2) l17 c17 k17
  have F18 := fun_mk (st := zby) l18 c18 k18
  have F19 := fun_mk (st := za9) l19 c19 k19
  have F20 := fun_mk (st := zg4) l20 c20 k20
  have F21 := fun_mk (st := zc3) l21 c21 k21
  have F22 := fun_mk (st := zbz) l22 c22 k22
  have F23 := fun_mk (st := zdx) l23 c23 k23
  have F24 := fun_mk (st := zdh) l24 c24 k24
  have F25 := fun_mk (st := zii) l25 c25 k25
  have F26 := fun_mk (st := zc4) l26 c26 k26
  have F27 := fun_mk (st := zdi) l27 c27 k27
  have F28 := fun_mk (st := za8) l28 c28 k28
  have F29 := fun_mk (st := zad) l29 c29 k29
  have F30 := fun_mk (st := zas) l30 c30 k30
  have F31 := fun_mk (st := z6) l31 c31 k31
  have F32 := fun_mk (st := zb0) l32 c32 k32
  have F33 := fun_mk (st := zca) l33 c33 k33
  have F34 := fun_mk (st := zes) l34 c34 k34
  have F35 := fun_mk (st := zm6) l35 c35 k35
  have F36 := fun_mk (st := zcm) l36 c36 k36
  have F37 := fun_mk (st := zbj) l37 c37 k37
  have F38 := fun_mk (st := zcn) l38 c38 k38
  have F39 := fun_mk (st := zac) l39 c39 k39
  have F40 := fun_mk (st := znb) l40 c40 k40
  have B0 := F0.binds (ps := ["items"]) fun _ _ _ _ _ _ us hl => match us, hl with | [_], _ => rfl
  have B1 := F1.binds (ps := ["width", "height", "cells"]) fun _ _ _ _ _ _ us hl => match us, hl with | [_, _, _], _ => rfl
  have B2 := F2.binds (ps := ["thing", "low", "high"]) fun _ _ _ _ _ _ us hl => match us, hl with | [_, _, _], _ => rfl
  have B3 := F3.binds (ps := ["thing", "low", "high"]) fun _ _ _ _ _ _ us hl => match us, hl with | [_, _, _], _ => rfl
  have B4 := F4.binds (ps := ["self", "craters"]) fun _ _ _ _ _ _ us hl => match us, hl with | [_, _], _ => rfl
  have B5 := F5.binds (ps := ["self", "ground", "camera", "turns", "area"]) fun _ _ _ _ _ _ us hl => match us, hl with | [_, _, _, _, _], _ => rfl
  have B6 := F6.binds (ps := ["self", "width", "height", "error", "false", "lost"]) fun _ _ _ _ _ _ us hl => match us, hl with | [_, _, _, _, _, _], _ => rfl
  have B7 := F7.binds (ps := ["cell"]) fun _ _ _ _ _ _ us hl => match us, hl with | [_], _ => rfl
  have B8 := F8.binds (ps := ["cells"]) fun _ _ _ _ _ _ us hl => match us, hl with | [_], _ => rfl
  have B9 := F9.binds (ps := ["camera", "rows"]) fun _ _ _ _ _ _ us hl => match us, hl with | [_, _], _ => rfl
  have B10 := F10.binds (ps := ["camera", "rows"]) fun _ _ _ _ _ _ us hl => match us, hl with | [_, _], _ => rfl
  have B11 := F11.binds (ps := ["rows", "level"]) fun _ _ _ _ _ _ us hl => match us, hl with | [_, _], _ => rfl
  have B12 := F12.binds (ps := ["many", "steps"]) fun _ _ _ _ _ _ us hl => match us, hl with | [_, _], _ => rfl
  have B13 := F13.binds (ps := ["blob"]) fun _ _ _ _ _ _ us hl => match us, hl with | [_], _ => rfl
  have B14 := F14.binds (ps := ["camera", "rows", "level", "steps"]) fun _ _ _ _ _ _ us hl => match us, hl with | [_, _, _, _], _ => rfl
  have B15 := F15.binds (ps := ["camera", "rows", "level", "steps"]) fun _ _ _ _ _ _ us hl => match us, hl with | [_, _, _, _], _ => rfl
  have B16 := F16.binds (ps := ["script", "index"]) fun _ _ _ _ _ _ us hl => match us, hl with | [_, _], _ => rfl
  have B17 := F17.binds (ps := ["draw", "many"]) fun _ _ _ _ _ _ us hl => match us, hl with | [_, _], _ => rfl
  have B18 := F18.binds (ps := ["row", "other"]) fun _ _ _ _ _ _ us hl => match us, hl with | [_, _], _ => rfl
  have B19 := F19.binds (ps := ["cells"]) fun _ _ _ _ _ _ us hl => match us, hl with | [_], _ => rfl
  have B20 := F20.binds (ps := ["x", "y", "turn"]) fun _ _ _ _ _ _ us hl => match us, hl with | [_, _, _], _ => rfl
  have B21 := F21.binds (ps := ["self", "crater", "standing"]) fun _ _ _ _ _ _ us hl => match us, hl with | [_, _, _], _ => rfl
  have B22 := F22.binds (ps := ["self", "standing"]) fun _ _ _ _ _ _ us hl => match us, hl with | [_, _], _ => rfl
  have B23 := F23.binds (ps := ["point", "place", "error"]) fun _ _ _ _ _ _ us hl => match us, hl with | [_, _, _], _ => rfl
  have B24 := F24.binds (ps := ["sky", "picture", "standing"]) fun _ _ _ _ _ _ us hl => match us, hl with | [_, _, _], _ => rfl
  have B25 := F25.binds (ps := ["comers", "last", "pairs"]) fun _ _ _ _ _ _ us hl => match us, hl with | [_, _, _], _ => rfl
  have B26 := F26.binds (ps := ["nexts", "one", "pairs"]) fun _ _ _ _ _ _ us hl => match us, hl with | [_, _, _], _ => rfl
  have B27 := F27.binds (ps := ["nexts"]) fun _ _ _ _ _ _ us hl => match us, hl with | [_], _ => rfl
  have B28 := F28.binds (ps := ["nexts", "many"]) fun _ _ _ _ _ _ us hl => match us, hl with | [_, _], _ => rfl
  have B29 := F29.binds (ps := ["self", "x", "y", "more"]) fun _ _ _ _ _ _ us hl => match us, hl with | [_, _, _, _], _ => rfl
  have B30 := F30.binds (ps := ["self", "x", "y"]) fun _ _ _ _ _ _ us hl => match us, hl with | [_, _, _], _ => rfl
  have B31 := F31.binds (ps := ["self", "standing"]) fun _ _ _ _ _ _ us hl => match us, hl with | [_, _], _ => rfl
  have B32 := F32.binds (ps := ["sky", "picture", "standing"]) fun _ _ _ _ _ _ us hl => match us, hl with | [_, _, _], _ => rfl
  have B33 := F33.binds (ps := ["nexts", "matching"]) fun _ _ _ _ _ _ us hl => match us, hl with | [_, _], _ => rfl
  have B34 := F34.binds (ps := ["sky", "picture", "standing"]) fun _ _ _ _ _ _ us hl => match us, hl with | [_, _, _], _ => rfl
  have B35 := F35.binds (ps := ["sky", "picture", "standing"]) fun _ _ _ _ _ _ us hl => match us, hl with | [_, _, _], _ => rfl
  have B36 := F36.binds (ps := ["draw", "x", "y"]) fun _ _ _ _ _ _ us hl => match us, hl with | [_, _, _], _ => rfl
  have B37 := F37.binds (ps := ["points", "places", "error"]) fun _ _ _ _ _ _ us hl => match us, hl with | [_, _, _], _ => rfl
  have B38 := F38.binds (ps := ["sky", "picture", "standing"]) fun _ _ _ _ _ _ us hl => match us, hl with | [_, _, _], _ => rfl
  have B39 := F39.binds (ps := ["draw"]) fun _ _ _ _ _ _ us hl => match us, hl with | [_], _ => rfl
  have B40 := F40.binds (ps := ["script"]) fun _ _ _ _ _ _ us hl => match us, hl with | [_], _ => rfl
  let T : Txt l.prog K mg := ⟨fx_BadPicture,
    _, _, F0, PySem.W.mg_of X G a0, B0,
    _, _, F1, PySem.W.mg_of X G a1, B1,
    _, _, F2, PySem.W.mg_of X G a2, B2,
    _, _, F3, PySem.W.mg_of X G a3, B3,
    _, _, F4, B4,
    _, _, F5, B5,
    _, _, F6, B6,
    _, _, F7, PySem.W.mg_of X G a7, B7,
    _, _, F8, PySem.W.mg_of X G a8, B8,
    _, _, F9, PySem.W.mg_of X G a9, B9,
    _, _, F10, PySem.W.mg_of X G a10, B10,
    _, _, F11, PySem.W.mg_of X G a11, B11,
    _, _, F12, PySem.W.mg_of X G a12, B12,
    _, _, F13, PySem.W.mg_of X G a13, B13,
    _, _, F14, PySem.W.mg_of X G a14, B14,
    _, _, F15, PySem.W.mg_of X G a15, B15,
    _, _, F16, PySem.W.mg_of X G a16, B16,
    _, _, F17, PySem.W.mg_of X G a17, B17,
    _, _, F18, PySem.W.mg_of X G a18, B18,
    _, _, F19, PySem.W.mg_of X G a19, B19,
    _, _, F20, PySem.W.mg_of X G a20, B20,
    _, _, F21, B21,
    _, _, F22, B22,
    _, _, F23, PySem.W.mg_of X G a23, B23,
    _, _, F24, PySem.W.mg_of X G a24, B24,
    _, _, F25, PySem.W.mg_of X G a25, B25,
    _, _, F26, PySem.W.mg_of X G a26, B26,
    _, _, F27, PySem.W.mg_of X G a27, B27,
    _, _, F28, PySem.W.mg_of X G a28, B28,
    _, _, F29, B29,
    _, _, F30, B30,
    _, _, F31, B31,
    _, _, F32, PySem.W.mg_of X G a32, B32,
    _, _, F33, PySem.W.mg_of X G a33, B33,
    _, _, F34, PySem.W.mg_of X G a34, B34,
    _, _, F35, PySem.W.mg_of X G a35, B35,
    _, _, F36, PySem.W.mg_of X G a36, B36,
    _, _, F37, PySem.W.mg_of X G a37, B37,
    _, _, F38, PySem.W.mg_of X G a38, B38,
    _, _, F39, PySem.W.mg_of X G a39, B39,
    _, _, F40, PySem.W.mg_of X G a40, B40,
    PySem.W.mg_none_of X G z_sorted,
    PySem.W.mg_none_of X G z_range,
    PySem.W.mg_none_of X G z_tuple,
    PySem.W.mg_none_of X G z_bool,
    PySem.W.mg_none_of X G z_isinstance,
    PySem.W.mg_none_of X G z_int,
    PySem.W.mg_none_of X G z_len,
    PySem.W.mg_none_of X G z_enumerate,
    PySem.W.mg_none_of X G z_all,
    PySem.W.mg_none_of X G z_zip,
    PySem.W.mg_none_of X G z_min,
    PySem.W.mg_none_of X G z_max,
    PySem.W.mg_none_of X G z_abs,
    PySem.W.mg_none_of X G z_any,
    PySem.W.mg_none_of X G z_list,
    PySem.W.mg_none_of X G z_dict,
    DL.z86 (by intro C hC; simp only [List.mem_cons, List.not_mem_nil, or_false] at hC; rcases hC with rfl; exact ⟨⟨pg_Ground, hd_Ground, po_Ground, sa_Ground⟩, ow_Ground, gs_, tk_, ob_Ground⟩),
    (let ⟨t, e⟩ := q_MOST_SIZE; ⟨t, PySem.W.mg_of X G e⟩),
    (let ⟨t, e⟩ := q_MOST_PLACE; ⟨t, PySem.W.mg_of X G e⟩),
    (let ⟨t, e⟩ := q_MOST_COUNT; ⟨t, PySem.W.mg_of X G e⟩),
    n_Ground_craters,
    ⟨pg_Ground, hd_Ground, po_Ground, sa_Ground⟩,
    (let ⟨t, e⟩ := q_MOST_STANDINGS; ⟨t, PySem.W.mg_of X G e⟩),
    n_Sky_ground,
    ⟨pg_Sky, hd_Sky, po_Sky, sa_Sky⟩,
    n_Sky_camera,
    n_Sky_turns,
    n_Sky_area,
    (let ⟨t, e⟩ := q_MOST_SIDE; ⟨t, PySem.W.mg_of X G e⟩),
    n_Camera_width,
    ⟨pg_Camera, hd_Camera, po_Camera, sa_Camera⟩,
    n_Camera_height,
    n_Camera_error,
    n_Camera_false,
    n_Camera_lost,
    ⟨xkx_BadPicture, xkxo_BadPicture, xc_BadPicture, xd_BadPicture, xe_BadPicture, xg_BadPicture, xh_BadPicture, xk_BadPicture, xl_BadPicture, xm_BadPicture, xn_BadPicture, xo_BadPicture, xks_BadPicture, xq_, PySem.W.mg_none_of X G xz_super, dec_top,
      ⟨_, _, _, _, _, _, _, _, _, _, _, _, _, _, _, _, _, _, _, _, _, _, _, _, _, _, xlk_BadPicture, xcd_BadPicture, rfl, rfl, rfl, rfl, rfl, rfl, rfl, rfl, by decide +kernel, ⟨_, rfl, rfl⟩, by decide, by decide,
      ⟨_, _, _, _, _, _, xcr_BadPicture, rfl_v_BadPicture, dec_f_BadPicture⟩, ⟨_, _, _, xcc_BadPicture⟩, ⟨_, fun _ => rfl⟩, fun _ => ⟨rfl, rfl, rfl, rfl, fun _ _ _ _ _ q => Calls.Constant_str (q _ _ rfl rfl rfl rfl)⟩, fun _ _ _ => .of_eq rfl⟩⟩,
    PySem.W.mg_of X G e_BadPicture,
    ⟨a21, i21, k21⟩,
    ⟨a22, i22, k22⟩,
    ⟨a29, i29, k29⟩,
    ⟨a30, i30, k30⟩,
    ⟨a31, i31, k31⟩,
    PySem.W.mg_of X G e_Camera,
    ⟨mks_Camera, a6, i6, kp_Camera⟩,
    PySem.W.mg_of X G e_Sky,
    ⟨mks_Sky, a5, i5, kp_Sky⟩,
    PySem.W.mg_of X G e_Ground,
    ⟨mks_Ground, a4, i4, kp_Ground⟩,
    PySem.W.exm_ref xl_BadPicture xd_BadPicture xn_BadPicture ys_BadPicture,
    ⟨yga_BadPicture, ygg_BadPicture, xl_BadPicture, xd_BadPicture⟩,
    zgq⟩
  refine ⟨PySem.W.fnOf "law" "law" (defArgs znb) (defBody znb) (defScope znb) .none kV40 dc40 pm40 an40 cd40 ct40, fun s v => .of_eq rfl, fun base _ _ => ?_⟩
  exact zaff T
omit [CA]
theorem zadt {w : World} {K : PySem.W.Frag} {h : Heap} {mg : Str → Option Value} {fa : Addr} (X : K.In h) (G : h.Ns mainGlobals mg) (hfa : mg "law" = some (.ref fa)) (c : HB.zsm fsB fnB K) :
    ∃ fd : FuncData, (∀ (s : Shared) (v : Value), BindsTo s fd ⟨[v], []⟩ [("script", v)]) ∧ ∀ base : Heap, K.In base → base.Ns mainGlobals mg → FnD PySem.Challenge.rw_moonfall_k55_whole_pixels.prog w K mg base 9 fa fd ["script"] DL.z6s := by
  obtain ⟨_, _, _, _, _, _, _, _, l0⟩ := c.f dB0 0
  obtain ⟨_, _, _, _, _, _, _, _, l1⟩ := c.f dB1 1
  obtain ⟨_, _, _, _, _, _, _, _, l2⟩ := c.f dB2 2
  obtain ⟨_, _, _, _, _, _, _, _, l3⟩ := c.f dB3 3
  obtain ⟨_, _, _, _, _, _, _, _, l4⟩ := c.f dB4 4
  obtain ⟨_, _, _, _, _, _, _, _, l5⟩ := c.f dB5 5
  obtain ⟨_, _, _, _, _, _, _, _, l6⟩ := c.f dB6 6
  obtain ⟨_, _, _, _, _, _, _, _, l7⟩ := c.f dB7 7
  obtain ⟨_, _, _, _, _, _, _, _, l8⟩ := c.f dB8 8
  obtain ⟨_, _, _, _, _, _, _, _, l9⟩ := c.f dB9 9
  obtain ⟨_, _, _, _, _, _, _, _, l10⟩ := c.f dB10 10
  obtain ⟨_, _, _, _, _, _, _, _, l11⟩ := c.f dB11 11
  obtain ⟨_, _, _, _, _, _, _, _, l12⟩ := c.f dB12 12
  obtain ⟨_, _, _, _, _, _, _, _, l13⟩ := c.f dB13 13
  obtain ⟨_, _, _, _, _, _, _, _, l14⟩ := c.f dB14 14
  obtain ⟨_, _, _, _, _, _, _, _, l15⟩ := c.f dB15 15
  obtain ⟨_, _, _, _, _, _, _, _, l16⟩ := c.f dB16 16
  obtain ⟨_, _, _, _, _, _, _, _, l17⟩ := c.f dB17 17
  obtain ⟨_, _, _, _, _, _, _, _, l18⟩ := c.f dB18 18
  obtain ⟨_, _, _, _, _, _, _, _, l19⟩ := c.f dB19 19
  obtain ⟨_, _, _, _, _, _, _, _, l20⟩ := c.f dB20 20
  obtain ⟨_, _, _, _, _, _, _, _, l21⟩ := c.f dB21 21
  obtain ⟨_, _, _, _, _, _, _, _, l22⟩ := c.f dB22 22
  obtain ⟨_, _, _, _, _, _, _, _, l23⟩ := c.f dB23 23
  obtain ⟨_, _, _, _, _, _, _, _, l24⟩ := c.f dB24 24
  obtain ⟨_, _, _, _, _, _, _, _, l25⟩ := c.f dB25 25
  obtain ⟨_, _, _, _, _, _, _, _, l26⟩ := c.f dB26 26
  obtain ⟨_, _, _, _, _, _, _, _, l27⟩ := c.f dB27 27
  obtain ⟨_, _, _, _, _, _, _, _, l28⟩ := c.f dB28 28
  obtain ⟨_, _, _, _, _, _, _, _, l29⟩ := c.f dB29 29
  obtain ⟨_, _, _, _, _, _, _, _, l30⟩ := c.f dB30 30
  obtain ⟨_, _, _, _, _, _, _, _, l31⟩ := c.f dB31 31
  obtain ⟨_, _, _, _, _, _, _, _, l32⟩ := c.f dB32 32
  obtain ⟨_, _, _, _, _, _, _, _, l33⟩ := c.f dB33 33
  obtain ⟨_, _, _, _, _, _, _, _, l34⟩ := c.f dB34 34
  obtain ⟨_, _, _, _, _, _, _, _, l35⟩ := c.f dB35 35
  obtain ⟨_, _, _, _, _, _, _, _, l36⟩ := c.f dB36 36
  obtain ⟨_, _, _, _, _, _, _, _, l37⟩ := c.f dB37 37
  obtain ⟨_, _, _, _, _, _, _, _, l38⟩ := c.f dB38 38
  obtain ⟨_, _, _, _, _, _, _, _, l39⟩ := c.f dB39 39
  obtain ⟨_, _, _, _, _, _, _, _, l40⟩ := c.f dB40 40
  obtain ⟨_, _, _, _, _, _, _, _, xlk_BadPicture⟩ := HB.zaep (d := dB41) rfl (c.fn 41 (by kernel_rfl)) (c.fact 0 (f := fun K => PySem.W.codeIn K (HB.cdV K (He.fAd K ("BadPicture", some "__init__"))) "BadPicture.__init__") (by kernel_rfl))
  obtain ⟨_, _, _, _, _, _, xcr_BadPicture, rv_BadPicture, df_BadPicture⟩ := HB.zaar (c.fact 1 (f := fun K => HB.z9x K (HB.cdA K (He.fAd K ("BadPicture", some "__init__"))) (PySem.Challenge.rw_moonfall_k55_whole_pixels.prog.main.file : Str)) (by kernel_rfl))
  obtain ⟨_, _, _, xcc_BadPicture⟩ := HB.zaab (c.fact 2 (f := fun K => HB.z92 K (HB.clA K (He.fAd K ("BadPicture", some "__init__"))) (He.ga K "BadPicture")) (by kernel_rfl))
  exact zaen (l := PySem.Challenge.rw_moonfall_k55_whole_pixels) (f0 := (He.fAd K ("_law_unlike", none))) (f1 := (He.fAd K ("_law_rows", none))) (f2 := (He.fAd K ("is_whole", none))) (f3 := (He.fAd K ("is_point", none))) (f4 := (He.fAd K ("Ground", some "__init__"))) (f5 := (He.fAd K ("Sky", some "__init__"))) (f6 := (He.fAd K ("Camera", some "__init__"))) (f7 := (He.fAd K ("nexts_to", none))) (f8 := (He.fAd K ("blobs", none))) (f9 := (He.fAd K ("check_rows", none))) (f10 := (He.fAd K ("check_rows", none))) (f11 := (He.fAd K ("bright_cells", none))) (f12 := (He.fAd K ("size_by", none))) (f13 := (He.fAd K ("middle", none))) (f14 := (He.fAd K ("picture_of", none))) (f15 := (He.fAd K ("picture_of", none))) (f16 := (He.fAd K ("_law_number", none))) (f17 := (He.fAd K ("_law_take", none))) (f18 := (He.fAd K ("_law_touch", none))) (f19 := (He.fAd K ("_law_group", none))) (f20 := (He.fAd K ("turned", none))) (f21 := (He.fAd K ("Sky", some "place"))) (f22 := (He.fAd K ("Sky", some "places"))) (f23 := (He.fAd K ("are_near", none))) (f24 := (He.fAd K ("nexts_of", none))) (f25 := (He.fAd K ("along", none))) (f26 := (He.fAd K ("augmented", none))) (f27 := (He.fAd K ("greatest", none))) (f28 := (He.fAd K ("turned_round", none))) (f29 := (He.fAd K ("Camera", some "is_within"))) (f30 := (He.fAd K ("Camera", some "is_sure"))) (f31 := (He.fAd K ("Sky", some "sure_craters"))) (f32 := (He.fAd K ("sure_nexts", none))) (f33 := (He.fAd K ("short_lot", none))) (f34 := (He.fAd K ("against", none))) (f35 := (He.fAd K ("fits", none))) (f36 := (He.fAd K ("_law_blob", none))) (f37 := (He.fAd K ("_law_shares", none))) (f38 := (He.fAd K ("_law_fits", none))) (f39 := (He.fAd K ("_law_blobs_right", none))) (f40 := (He.fAd K ("law", none))) (c_BadPicture := (He.ga K "BadPicture")) (c_Ground := (He.ga K "Ground")) (c_Camera := (He.ga K "Camera")) (c_Sky := (He.ga K "Sky")) (fx_BadPicture := (He.fAd K ("BadPicture", some "__init__"))) (cda_BadPicture := (HB.cdA K (He.fAd K ("BadPicture", some "__init__")))) (cc_BadPicture := (HB.clA K (He.fAd K ("BadPicture", some "__init__")))) X G hfa (c.d 3)
    (c.d 4)
    (c.d 5)
    (c.d 6)
    (c.d 7)
    l0
    (c.q 8)
    (c.q 9)
    (c.d 10)
    l1
    (c.q 11)
    (c.q 12)
    (c.d 13)
    l2
    (c.q 14)
    (c.q 15)
    (c.d 16)
    l3
    (c.q 17)
    (c.q 18)
    (c.d 19)
    (c.q 20)
    l4
    (c.q 21)
    (c.q 22)
    (c.d 23)
    (c.q 24)
    l5
    (c.q 25)
    (c.q 26)
    (c.d 27)
    (c.q 28)
    l6
    (c.q 29)
    (c.q 30)
    (c.d 31)
    l7
    (c.q 32)
    (c.q 33)
    (c.d 34)
    l8
    (c.q 35)
    (c.q 36)
    (c.d 37)
    l9
    (c.q 38)
    (c.q 39)
    (c.d 37)
    l10
    (c.q 38)
    (c.q 39)
    (c.d 40)
    l11
    (c.q 41)
    (c.q 42)
    (c.d 43)
    l12
    (c.q 44)
    (c.q 45)
    (c.d 46)
    l13
    (c.q 47)
    (c.q 48)
    (c.d 49)
    l14
    (c.q 50)
    (c.q 51)
    (c.d 49)
    l15
    (c.q 50)
    (c.q 51)
    (c.d 52)
    l16
    (c.q 53)
    (c.q 54)
    (c.d 55)
    l17
    (c.q 56)
    (c.q 57)
    (c.d 58)
    l18
    (c.q 59)
    (c.q 60)
    (c.d 61)
    l19
    (c.q 62)
    (c.q 63)
    (c.d 64)
    l20
    (c.q 65)
    (c.q 66)
    (c.d 67)
    (c.q 68)
    l21
    (c.q 69)
    (c.q 70)
    (c.d 71)
    (c.q 72)
    l22
    (c.q 73)
    (c.q 74)
    (c.d 75)
    l23
    (c.q 76)
    (c.q 77)
    (c.d 78)
    l24
    (c.q 79)
    (c.q 80)
    (c.d 81)
    l25
    (c.q 82)
    (c.q 83)
    (c.d 84)
    l26
    (c.q 85)
    (c.q 86)
    (c.d 87)
    l27
    (c.q 88)
    (c.q 89)
    (c.d 90)
    l28
    (c.q 91)
    (c.q 92)
    (c.d 93)
    (c.q 94)
    l29
    (c.q 95)
    (c.q 96)
    (c.d 97)
    (c.q 98)
    l30
    (c.q 99)
    (c.q 100)
    (c.d 101)
    (c.q 102)
    l31
    (c.q 103)
    (c.q 104)
    (c.d 105)
    l32
    (c.q 106)
    (c.q 107)
    (c.d 108)
    l33
    (c.q 109)
    (c.q 110)
    (c.d 111)
    l34
    (c.q 112)
    (c.q 113)
    (c.d 114)
    l35
    (c.q 115)
    (c.q 116)
    (c.d 117)
    l36
    (c.q 118)
    (c.q 119)
    (c.d 120)
    l37
    (c.q 121)
    (c.q 122)
    (c.d 123)
    l38
    (c.q 124)
    (c.q 125)
    (c.d 126)
    l39
    (c.q 127)
    (c.q 128)
    (c.d 129)
    l40
    (c.q 130)
    (c.q 131)
    (c.q 132)
    (c.q 133)
    (c.q 134)
    (c.d 135)
    (c.d 136)
    (c.d 137)
    (c.q 138)
    (c.q 139)
    (c.q 140)
    (c.q 141)
    (c.q 142)
    (c.d 143)
    (c.q 144)
    (c.q 145)
    (c.q 146)
    (c.q 147)
    (c.q 148)
    (c.d 149)
    (c.q 150)
    (c.q 151)
    (c.d 152)
    (c.d 153)
    (c.d 154)
    (c.d 155)
    (c.d 156)
    (c.d 157)
    (c.d 158)
    (c.d 159)
    (c.d 160)
    (c.d 161)
    (c.d 162)
    (c.d 163)
    (c.q 164)
    (c.d 165)
    (c.d 166)
    (c.d 167)
    (c.d 168)
    (c.d 169)
    (c.d 170)
    (c.q 171)
    (c.q 172)
    (c.d 173)
    (c.d 174)
    (c.d 175)
    (c.q 176)
    (c.q 177)
    (c.d 178)
    (c.d 179)
    (c.d 180)
    xlk_BadPicture
    (c.q 181)
    xcr_BadPicture
    rv_BadPicture
    df_BadPicture
    xcc_BadPicture
    (c.d 182)
    (c.d 183)
    (by decide +kernel)
    (c.d 184)
    (c.d 185)
    (c.d 186)
    (c.d 187)
    (c.d 188)
    (c.d 189)
    (c.d 190)
    (c.d 191)
    (c.d 192)
    (c.d 193)
    (c.d 194)
    (c.d 195)
    (c.d 196)
    (c.d 197)
    (c.d 198)
    (c.d 199)
    (HB.zui (c.fact 200 (f := fun K => HB.intB K "MOST_SIZE" 99) (by kernel_rfl)))
    (HB.zui (c.fact 201 (f := fun K => HB.intB K "MOST_PLACE" 1000000) (by kernel_rfl)))
    (HB.zui (c.fact 202 (f := fun K => HB.intB K "MOST_COUNT" 100) (by kernel_rfl)))
    (HB.zui (c.fact 203 (f := fun K => HB.intB K "MOST_STANDINGS" 40000) (by kernel_rfl)))
    (HB.zui (c.fact 204 (f := fun K => HB.intB K "MOST_SIDE" 1000) (by kernel_rfl)))
end M
open PySem PySem.W PySem.Calls PyProof.Rows in
set_option maxRecDepth 100000 in
set_option maxHeartbeats 0 in
theorem PySem.Challenge.cw_moonfall_k55_whole_pixels_holds : PySem.Challenge.rw_moonfall_k55_whole_pixels.Holds := by
  w_on; o_law
  refine HandSHeadRun.head_any (r := OpenLaw.row PySem.Challenge.rw_moonfall_k55_whole_pixels) (q := view (OpenLaw.row PySem.Challenge.rw_moonfall_k55_whole_pixels).prog [56]) (H := M.hkB) (ob := M.obB) (M := 20000) (loose := M.zwr) (d := HandSHeadRun.topDef (OpenLaw.row PySem.Challenge.rw_moonfall_k55_whole_pixels).prog 56) (kwd := []) M.z8a
    (by kernel_rfl) (fun s => by kernel_rfl) M.runB (by kernel_rfl) (by kernel_rfl) (by kernel_rfl) (by rfl) (by first | assumption | decide +kernel) (by decide +kernel) ⟨rfl, rfl, rfl, rfl, rfl, by decide +kernel⟩ ?hw ?hc
  case hw => w_witness2
  case hc =>
    refine HB.zab1 (l := PySem.Challenge.rw_moonfall_k55_whole_pixels) (k := 9) (x := "script") rfl (by kernel_rfl) ⟨rfl, by decide, by decide⟩ ?F
    intro w mg fa h Y G hmg0
    obtain ⟨K, KX, c⟩ := Y
    have hmg : mg ("law" : PySem.Str) = some (.ref fa) := by
      have e : (HandSHeadRun.topDef (OpenLaw.row PySem.Challenge.rw_moonfall_k55_whole_pixels).prog 56).name = ("law" : PySem.Str) := by kernel_rfl
      rw [← e]
      exact hmg0
    obtain ⟨fd, hb, hF⟩ := M.zadt (w := w) KX G hmg c
    exact ⟨K, fd, KX, hb, hF⟩
